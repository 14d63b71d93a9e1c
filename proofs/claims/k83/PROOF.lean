import PyProof.Rows.All
import Wide.All
import OpenK.AllK
import Wide.FinOn
import HandS.ForMost
import HandS.ForExc
import HandS.Deep
import HandS.TupAny
import HandS.Wide
import HandS.WideBits
import HandS.Walk
import HandS.Style
import KE.GoesNew
import HandS.Zip
import HandS.Conv
import HandS.TupLen
import HandS.IsInst
import HandS.More
import HandS.RaiseMore
import KE.SortData
import PyProof.ReprRoads
import KE.KDictDisplayH
import HandS.Ends
import HandS.ExcInit
import PyProof.ReprLen
import PyProof.FitsInt
import PySem.Challenge.RW_unevenroads_k83_whole_ways_past_closed_r
set_option Elab.async false
set_option linter.all false
set_option maxRecDepth 100000
set_option maxHeartbeats 4000000
/-! D1: data, representation, ownership. -/
namespace DL
open PySem PySem.Spec PyProof.Rows L2

abbrev AS := Addr → Prop
abbrev OF := Addr → Option Nat
abbrev Env := List PyData
def get (ρ : Env) (i : Nat) : PyData := ρ.getD i .none

def keyD : Key → PyData
  | .inl i => .int i
  | .inr x => .str x
theorem keyD_inj {a b : Key} (h : keyD a = keyD b) : a = b := by
  cases a <;> cases b <;> simp [keyD] at h <;> rw [h]

/-! ### what stands for what -/
/-- a written list -/
def WrL (K : PySem.W.Frag) (a : Addr) (xs : List V) : Prop :=
  ∃ (o : Obj) (its : Array Value) (n : Nat), K.lookup a = some o ∧ o.cls = .type "list" ∧ o.dict = none ∧ o.data = .seq its n ∧ its.size ≤ sizeLine ∧ Vals xs its.toList
mutual
inductive R (K : PySem.W.Frag) (F : AS) (H : Hp) : PyData → V → Prop
  | non : R K F H .none .non
  | bl (b : Bool) : R K F H (.bool b) (.bl b)
  | int (i : Int) : R K F H (.int i) (.int i)
  | str (x : Str) : R K F H (.str x) (.str x)
  | lst {a : Addr} {xs : List V} {ds : List PyData} : F a → Rd H a (.lst xs) → RAll K F H ds xs → R K F H (.list ds) (.ref a)
  | lstK {a : Addr} {xs : List V} {ds : List PyData} : WrL K a xs → RAll K F H ds xs → R K F H (.list ds) (.ref a)
  | tup {a : Addr} {xs : List V} {ds : List PyData} : H a = some (.tup xs) → RAll K F H ds xs → R K F H (.tuple ds) (.ref a)
  | dicK {a : Addr} {hs : List (Key × V)} {kvs : List (PyData × PyData)} : F a → Rd H a (.dK hs) → kvs.map (·.1) = hs.map (fun p => keyD p.1) → RAll K F H (kvs.map (·.2)) (hs.map (·.2)) → R K F H (.dict kvs) (.ref a)
  | dicT {a : Addr} {hs : List (List Key × V)} {kvs : List (PyData × PyData)} : F a → Rd H a (.dT hs) → kvs.map (·.1) = hs.map (fun p => .tuple (p.1.map keyD)) → RAll K F H (kvs.map (·.2)) (hs.map (·.2)) → R K F H (.dict kvs) (.ref a)
inductive RAll (K : PySem.W.Frag) (F : AS) (H : Hp) : List PyData → List V → Prop
  | nil : RAll K F H [] []
  | cons {d : PyData} {v : V} {ds : List PyData} {vs : List V} : R K F H d v → RAll K F H ds vs → RAll K F H (d :: ds) (v :: vs)
end

/-- frozen things stay -/
structure Keep (F : AS) (H : Hp) (F' : AS) (H' : Hp) : Prop where
  f : ∀ a, F a → F' a
  h : ∀ a o, F a → H a = some o → H' a = some o
  t : ∀ a xs, H a = some (.tup xs) → H' a = some (.tup xs)
theorem Keep.refl (F : AS) (H : Hp) : Keep F H F H := ⟨fun _ h => h, fun _ _ _ h => h, fun _ _ h => h⟩
theorem Keep.trans {F F1 F2 : AS} {H H1 H2 : Hp} (a : Keep F H F1 H1) (b : Keep F1 H1 F2 H2) : Keep F H F2 H2 :=
  ⟨fun x h => b.f x (a.f x h), fun x o f h => b.h x o (a.f x f) (a.h x o f h), fun x xs h => b.t x xs (a.t x xs h)⟩
theorem Keep.rd {F F' : AS} {H H' : Hp} (k : Keep F H F' H') {a : Addr} {o : HO} (f : F a) (h : Rd H a o) : Rd H' a o := by
  rcases h with h | ⟨q, h⟩
  · exact .inl (k.h a _ f h)
  · exact .inr ⟨q, k.h a _ f h⟩

section
variable {K : PySem.W.Frag} {F F' : AS} {H H' : Hp}
mutual
theorem R.keep (k : Keep F H F' H') : ∀ (d : PyData) (v : V), R K F H d v → R K F' H' d v
  | .none, _, h => by cases h; exact .non
  | .bool _, _, h => by cases h; exact .bl _
  | .int _, _, h => by cases h; exact .int _
  | .str _, _, h => by cases h; exact .str _
  | .list ds, _, h => by
    cases h with
    | lst f r q => exact .lst (k.f _ f) (k.rd f r) (RAll.keep k ds _ q)
    | lstK w q => exact .lstK w (RAll.keep k ds _ q)
  | .tuple ds, _, h => by
    cases h with
    | tup r q => exact .tup (k.t _ _ r) (RAll.keep k ds _ q)
  | .dict kvs, _, h => by
    cases h with
    | dicK f r e q => exact .dicK (k.f _ f) (k.rd f r) e (RAll.keepKv k kvs _ q)
    | dicT f r e q => exact .dicT (k.f _ f) (k.rd f r) e (RAll.keepKv k kvs _ q)
theorem RAll.keep (k : Keep F H F' H') : ∀ (ds : List PyData) (vs : List V), RAll K F H ds vs → RAll K F' H' ds vs
  | [], _, h => by cases h; exact .nil
  | d :: ds, _, h => by
    cases h with
    | cons a b => exact .cons (R.keep k d _ a) (RAll.keep k ds _ b)
theorem RAll.keepKv (k : Keep F H F' H') : ∀ (kvs : List (PyData × PyData)) (vs : List V), RAll K F H (kvs.map (·.2)) vs → RAll K F' H' (kvs.map (·.2)) vs
  | [], _, h => by cases h; exact .nil
  | (c, d) :: r, _, h => by
    cases h with
    | cons a b => exact .cons (R.keep k d _ a) (RAll.keepKv k r _ b)
end
theorem RAll.length : ∀ {ds : List PyData} {vs : List V}, RAll K F H ds vs → ds.length = vs.length
  | _, _, .nil => rfl
  | _, _, .cons _ b => by simp [RAll.length b]
theorem RAll.get : ∀ {ds : List PyData} {vs : List V} {i : Nat} {d : PyData}, RAll K F H ds vs → ds[i]? = some d → ∃ v, vs[i]? = some v ∧ R K F H d v
  | _, _, _, _, .nil, e => by simp at e
  | _, _, 0, _, .cons r _, e => by simp at e; subst e; exact ⟨_, rfl, r⟩
  | _, _, i + 1, _, .cons _ t, e => by
    obtain ⟨v, h1, h2⟩ := RAll.get (i := i) t (by simpa using e)
    exact ⟨v, by simpa using h1, h2⟩
theorem RAll.getV : ∀ {ds : List PyData} {vs : List V} {i : Nat} {v : V}, RAll K F H ds vs → vs[i]? = some v → ∃ d, ds[i]? = some d ∧ R K F H d v
  | _, _, _, _, .nil, e => by simp at e
  | _, _, 0, _, .cons r _, e => by simp at e; subst e; exact ⟨_, rfl, r⟩
  | _, _, i + 1, _, .cons _ t, e => by
    obtain ⟨v, h1, h2⟩ := RAll.getV (i := i) t (by simpa using e)
    exact ⟨v, by simpa using h1, h2⟩
theorem RAll.append : ∀ {ds es : List PyData} {vs us : List V}, RAll K F H ds vs → RAll K F H es us → RAll K F H (ds ++ es) (vs ++ us)
  | _, _, _, _, .nil, q => q
  | _, _, _, _, .cons a b, q => .cons a (RAll.append b q)
theorem RAll.take : ∀ {ds : List PyData} {vs : List V} (n : Nat), RAll K F H ds vs → RAll K F H (ds.take n) (vs.take n)
  | _, _, 0, _ => by simp only [List.take_zero]; exact .nil
  | _, _, _ + 1, .nil => .nil
  | _, _, n + 1, .cons a b => .cons a (RAll.take n b)
theorem RAll.drop : ∀ {ds : List PyData} {vs : List V} (n : Nat), RAll K F H ds vs → RAll K F H (ds.drop n) (vs.drop n)
  | _, _, 0, r => r
  | _, _, _ + 1, .nil => .nil
  | _, _, n + 1, .cons _ b => RAll.drop n b
theorem RAll.set {d : PyData} {v : V} (r : R K F H d v) : ∀ {ds : List PyData} {vs : List V} (i : Nat), RAll K F H ds vs → RAll K F H (ds.set i d) (vs.set i v)
  | _, _, _, .nil => .nil
  | _, _, 0, .cons _ b => .cons r b
  | _, _, i + 1, .cons a b => .cons a (RAll.set r i b)
theorem RAll.eraseIdx : ∀ {ds : List PyData} {vs : List V} (i : Nat), RAll K F H ds vs → RAll K F H (ds.eraseIdx i) (vs.eraseIdx i)
  | _, _, _, .nil => .nil
  | _, _, 0, .cons _ b => b
  | _, _, i + 1, .cons a b => .cons a (RAll.eraseIdx i b)
theorem RAll.reverse : ∀ {ds : List PyData} {vs : List V}, RAll K F H ds vs → RAll K F H ds.reverse vs.reverse
  | _, _, .nil => .nil
  | _, _, .cons a b => by simp only [List.reverse_cons]; exact (RAll.reverse b).append (.cons a .nil)
theorem RAll.replicate {ds : List PyData} {vs : List V} (h : RAll K F H ds vs) : ∀ n, RAll K F H (List.replicate n ds).flatten (List.replicate n vs).flatten
  | 0 => .nil
  | n + 1 => by simp only [List.replicate_succ, List.flatten_cons]; exact h.append (RAll.replicate h n)
theorem RAll.ints : ∀ ns : List Int, RAll K F H (ns.map .int) (ns.map .int)
  | [] => .nil
  | n :: r => .cons (.int n) (RAll.ints r)
theorem RAll.dropLast {ds : List PyData} {vs : List V} (h : RAll K F H ds vs) : RAll K F H ds.dropLast vs.dropLast := by
  rw [List.dropLast_eq_take, List.dropLast_eq_take, h.length]; exact h.take _

/-! what is no dict (at any depth) is data of Dp -/
mutual
def noDict : PyData → Bool
  | .dict _ => false
  | .list ds => noDicts ds
  | .tuple ds => noDicts ds
  | _ => true
def noDicts : List PyData → Bool
  | [] => true
  | d :: ds => noDict d && noDicts ds
end

mutual
theorem R.dp : ∀ (d : PyData) (v : V), noDict d = true → R K F H d v → Dp K H v d
  | .none, _, _, h => by cases h; exact .non
  | .bool _, _, _, h => by cases h; exact .bl _
  | .int _, _, _, h => by cases h; exact .int _
  | .str _, _, _, h => by cases h; exact .str _
  | .list ds, _, n, h => by
    cases h with
    | lst f r q => exact .lst (.inl r) (RAll.dp ds _ (by simpa [noDict] using n) q)
    | lstK w q => exact .lst (.inr w) (RAll.dp ds _ (by simpa [noDict] using n) q)
  | .tuple ds, _, n, h => by
    cases h with
    | tup r q => exact .tup (.of r) (RAll.dp ds _ (by simpa [noDict] using n) q)
  | .dict _, _, n, _ => by simp [noDict] at n
theorem RAll.dp : ∀ (ds : List PyData) (vs : List V), noDicts ds = true → RAll K F H ds vs → DpAll K H vs ds
  | [], _, _, h => by cases h; exact .nil
  | d :: ds, _, n, h => by
    simp only [noDicts, Bool.and_eq_true] at n
    cases h with
    | cons a b => exact .cons (R.dp d _ n.1 a) (RAll.dp ds _ n.2 b)
end
theorem R.tupleS {ds : List PyData} {v : V} (h : R K F H (.tuple ds) v) : ∃ a xs, v = .ref a ∧ SqT K H a xs ∧ RAll K F H ds xs := by
  cases h with
  | tup r q => exact ⟨_, _, rfl, .of r, q⟩
theorem R.tupleH {ds : List PyData} {v : V} (h : R K F H (.tuple ds) v) : ∃ a xs, v = .ref a ∧ H a = some (.tup xs) ∧ RAll K F H ds xs := by
  cases h with
  | tup r q => exact ⟨_, _, rfl, r, q⟩
/-- a frozen list, at its place -/
def FzL (K : PySem.W.Frag) (F : AS) (H : Hp) (a : Addr) (xs : List V) : Prop := (F a ∧ Rd H a (.lst xs)) ∨ WrL K a xs
theorem FzL.sq {K : PySem.W.Frag} {F : AS} {H : Hp} {a : Addr} {xs : List V} (h : FzL K F H a xs) : SqL K H a xs := h.elim (fun z => .inl z.2) .inr
theorem FzL.keep {K : PySem.W.Frag} {F F' : AS} {H H' : Hp} {a : Addr} {xs : List V} (h : FzL K F H a xs) (k : Keep F H F' H') : FzL K F' H' a xs := h.imp (fun z => ⟨k.f _ z.1, k.rd z.1 z.2⟩) id
theorem R.listS {ds : List PyData} {v : V} (h : R K F H (.list ds) v) : ∃ a xs, v = .ref a ∧ FzL K F H a xs ∧ RAll K F H ds xs := by
  cases h with
  | lst f r q => exact ⟨_, _, rfl, .inl ⟨f, r⟩, q⟩
  | lstK w q => exact ⟨_, _, rfl, .inr w, q⟩
theorem R.intS {i : Int} {v : V} (h : R K F H (.int i) v) : v = .int i := by cases h; rfl
theorem R.boolS {i : Bool} {v : V} (h : R K F H (.bool i) v) : v = .bl i := by cases h; rfl
theorem R.strS {i : Str} {v : V} (h : R K F H (.str i) v) : v = .str i := by cases h; rfl
theorem R.noneS {v : V} (h : R K F H .none v) : v = .non := by cases h; rfl
end

/-! ### kinds of owned things -/
/-- an owned thing: what it is, by its own addresses P (no other owned thing's, not frozen) -/
structure Kind where
  rel : PySem.W.Frag → AS → Hp → AS → PyData → V → Prop
  keep : ∀ {K : PySem.W.Frag} {F F' : AS} {H H' : Hp} {P : AS} {d : PyData} {v : V}, rel K F H P d v → Keep F H F' H' → (∀ a o, P a → H a = some o → H' a = some o) → rel K F' H' P d v
  live : ∀ {K : PySem.W.Frag} {F : AS} {H : Hp} {P : AS} {d : PyData} {v : V} {a : Addr}, rel K F H P d v → P a → H a ≠ none

/-- a list of frozen things -/
def OL : Kind where
  rel := fun K F H P d v => ∃ a xs ds, d = .list ds ∧ v = .ref a ∧ H a = some (.lst xs) ∧ RAll K F H ds xs ∧ ∀ b, P b ↔ b = a
  keep := by
    rintro K F F' H H' P d v ⟨a, xs, ds, rfl, rfl, h, r, p⟩ k q
    exact ⟨a, xs, ds, rfl, rfl, q a _ ((p a).mpr rfl) h, RAll.keep k _ _ r, p⟩
  live := by
    rintro K F H P d v b ⟨a, xs, ds, rfl, rfl, h, r, p⟩ q e
    rw [(p b).mp q, h] at e; cases e
/-- a dict of frozen things -/
def OD : Kind where
  rel := fun K F H P d v => ∃ a kvs, d = .dict kvs ∧ v = .ref a ∧ (∀ b, P b ↔ b = a) ∧
    ((∃ hs : List (Key × V), H a = some (.dK hs) ∧ kvs.map (·.1) = hs.map (fun p => keyD p.1) ∧ RAll K F H (kvs.map (·.2)) (hs.map (·.2))) ∨
     (∃ hs : List (List Key × V), H a = some (.dT hs) ∧ kvs.map (·.1) = hs.map (fun p => .tuple (p.1.map keyD)) ∧ RAll K F H (kvs.map (·.2)) (hs.map (·.2))))
  keep := by
    rintro K F F' H H' P d v ⟨a, kvs, rfl, rfl, p, h⟩ k q
    refine ⟨a, kvs, rfl, rfl, p, ?_⟩
    rcases h with ⟨hs, h, e, r⟩ | ⟨hs, h, e, r⟩
    · exact .inl ⟨hs, q a _ ((p a).mpr rfl) h, e, RAll.keep k _ _ r⟩
    · exact .inr ⟨hs, q a _ ((p a).mpr rfl) h, e, RAll.keep k _ _ r⟩
  live := by
    rintro K F H P d v b ⟨a, kvs, rfl, rfl, p, h⟩ q e
    rcases h with ⟨hs, h, _⟩ | ⟨hs, h, _⟩ <;> (rw [(p b).mp q, h] at e; cases e)
/-- a kind that can be frozen -/
def Kind.Frz (κ : Kind) : Prop := ∀ {K : PySem.W.Frag} {F : AS} {H : Hp} {P : AS} {d : PyData} {v : V}, κ.rel K F H P d v → R K (fun a => F a ∨ P a) H d v
theorem OL.frz : OL.Frz := by
  rintro K F H P d v ⟨a, xs, ds, rfl, rfl, h, r, p⟩
  exact .lst (.inr ((p a).mpr rfl)) (.inl h) (RAll.keep ⟨fun _ => .inl, fun _ _ _ e => e, fun _ _ e => e⟩ _ _ r)
theorem OD.frz : OD.Frz := by
  rintro K F H P d v ⟨a, kvs, rfl, rfl, p, h⟩
  rcases h with ⟨hs, h, e, r⟩ | ⟨hs, h, e, r⟩
  · exact .dicK (.inr ((p a).mpr rfl)) (.inl h) e (RAll.keep ⟨fun _ => .inl, fun _ _ _ e => e, fun _ _ e => e⟩ _ _ r)
  · exact .dicT (.inr ((p a).mpr rfl)) (.inl h) e (RAll.keep ⟨fun _ => .inl, fun _ _ _ e => e, fun _ _ e => e⟩ _ _ r)

/-! ### what is read without being held: a list's, a dict's own address may be anyone's -/
def RS (K : PySem.W.Frag) (F : AS) (H : Hp) (d : PyData) (v : V) : Prop := match d with
  | .list ds => ∃ a xs, v = .ref a ∧ SqL K H a xs ∧ RAll K F H ds xs
  | .dict kvs => ∃ a, v = .ref a ∧
    ((∃ hs : List (Key × V), Rd H a (.dK hs) ∧ kvs.map (·.1) = hs.map (fun p => keyD p.1) ∧ RAll K F H (kvs.map (·.2)) (hs.map (·.2))) ∨
     (∃ hs : List (List Key × V), Rd H a (.dT hs) ∧ kvs.map (·.1) = hs.map (fun p => .tuple (p.1.map keyD)) ∧ RAll K F H (kvs.map (·.2)) (hs.map (·.2))))
  | d => R K F H d v
section
variable {K : PySem.W.Frag} {F : AS} {H : Hp}
theorem R.rs {d : PyData} {v : V} (h : R K F H d v) : RS K F H d v := by
  cases h with
  | non => exact .non
  | bl b => exact .bl b
  | int i => exact .int i
  | str x => exact .str x
  | lst f r q => exact ⟨_, _, rfl, .inl r, q⟩
  | lstK w q => exact ⟨_, _, rfl, .inr w, q⟩
  | tup r q => exact .tup r q
  | dicK f r e q => exact ⟨_, rfl, .inl ⟨_, r, e, q⟩⟩
  | dicT f r e q => exact ⟨_, rfl, .inr ⟨_, r, e, q⟩⟩
theorem RS.listS {ds : List PyData} {v : V} (h : RS K F H (.list ds) v) : ∃ a xs, v = .ref a ∧ SqL K H a xs ∧ RAll K F H ds xs := h
theorem RS.tupleR {ds : List PyData} {v : V} (h : RS K F H (.tuple ds) v) : R K F H (.tuple ds) v := h
theorem RS.tupleS {ds : List PyData} {v : V} (h : RS K F H (.tuple ds) v) : ∃ a xs, v = .ref a ∧ SqT K H a xs ∧ RAll K F H ds xs := R.tupleS h
theorem RS.intS {i : Int} {v : V} (h : RS K F H (.int i) v) : v = .int i := R.intS h
theorem RS.boolS {i : Bool} {v : V} (h : RS K F H (.bool i) v) : v = .bl i := R.boolS h
theorem RS.strS {i : Str} {v : V} (h : RS K F H (.str i) v) : v = .str i := R.strS h
theorem RS.noneS {v : V} (h : RS K F H .none v) : v = .non := R.noneS h
theorem RS.dp (d : PyData) (v : V) (n : noDict d = true) (h : RS K F H d v) : Dp K H v d := by
  cases d with
  | list ds =>
    obtain ⟨a, xs, rfl, r, q⟩ := h
    exact .lst r (RAll.dp ds _ (by simpa [noDict] using n) q)
  | dict kvs => simp [noDict] at n
  | none => exact R.dp _ _ n h
  | bool b => exact R.dp _ _ n h
  | int i => exact R.dp _ _ n h
  | str x => exact R.dp _ _ n h
  | tuple ds => exact R.dp _ _ n h
end
/-- a kind that can be read so -/
def Kind.Sh (κ : Kind) : Prop := ∀ {K : PySem.W.Frag} {F : AS} {H : Hp} {P : AS} {d : PyData} {v : V}, κ.rel K F H P d v → RS K F H d v
theorem OL.sh : OL.Sh := by
  rintro K F H P d v ⟨a, xs, ds, rfl, rfl, h, r, p⟩
  exact ⟨a, xs, rfl, .inl (.inl h), r⟩
theorem OD.sh : OD.Sh := by
  rintro K F H P d v ⟨a, kvs, rfl, rfl, p, h⟩
  rcases h with ⟨hs, h, e, r⟩ | ⟨hs, h, e, r⟩
  · exact ⟨a, rfl, .inl ⟨hs, .inl h, e, r⟩⟩
  · exact ⟨a, rfl, .inr ⟨hs, .inl h, e, r⟩⟩

/-- a slot's tag: nothing known; a frozen thing; an owned thing made here; an owned thing lent by the caller -/
inductive Tag where
  | un | fz | ow (κ : Kind) | io (κ : Kind)
/-- d stands at v, with the addresses P of its own -/
def VR (K : PySem.W.Frag) (F : AS) (H : Hp) (P : AS) (d : PyData) (v : V) : Tag → Prop
  | .un => False
  | .fz => R K F H d v ∧ ∀ a, ¬ P a
  | .ow κ => κ.rel K F H P d v
  | .io κ => κ.rel K F H P d v
theorem VR.keep {K : PySem.W.Frag} {F F' : AS} {H H' : Hp} {P : AS} {d : PyData} {v : V} {τ : Tag} (h : VR K F H P d v τ) (k : Keep F H F' H') (q : ∀ a o, P a → H a = some o → H' a = some o) : VR K F' H' P d v τ := by
  cases τ with
  | un => exact h
  | fz => exact ⟨R.keep k _ _ h.1, h.2⟩
  | ow κ => exact κ.keep h k q
  | io κ => exact κ.keep h k q
theorem VR.live {K : PySem.W.Frag} {F : AS} {H : Hp} {P : AS} {d : PyData} {v : V} {τ : Tag} {a : Addr} (h : VR K F H P d v τ) (p : P a) : H a ≠ none := by
  cases τ with
  | un => exact h.elim
  | fz => exact (h.2 a p).elim
  | ow κ => exact κ.live h p
  | io κ => exact κ.live h p

/-! ### states -/
/-- what stood at a def's entry: what was frozen, the heap, what was lent -/
structure Bd where
  F : AS
  H : Hp
  O : OF
  vs : List V
structure St (K : PySem.W.Frag) (B : Bd) (T : List Tag) (ρ : Env) (σ : L2.St) (F : AS) (O : OF) (H : Hp) : Prop where
  sl : ∀ (i : Nat) τ, T[i]? = some τ → (τ = .un) ∨ ∃ v, σ[i]? = some (some v) ∧ VR K F H (fun a => O a = some i) (get ρ i) v τ
  own : ∀ a (i : Nat), O a = some i → (∃ κ, T[i]? = some (Tag.ow κ) ∧ B.H a = none) ∨ (∃ κ, T[i]? = some (Tag.io κ) ∧ (B.H a = none ∨ B.O a = some i))
  fo : ∀ a, F a → O a = none
  fh : ∀ a, F a → H a ≠ none
  oh : ∀ a i, O a = some i → H a ≠ none
  fr : ∀ a o, B.H a = some o → B.O a = none → H a = some o
  al : ∀ a, B.H a ≠ none → H a ≠ none
  tu : ∀ a xs, B.H a = some (.tup xs) → H a = some (.tup xs)
  f0 : ∀ a, B.F a → F a
  f1 : ∀ a, F a → B.F a ∨ B.H a = none
  ios : ∀ (i : Nat) κ, T[i]? = some (Tag.io κ) → ∃ v, B.vs[i]? = some v ∧ σ[i]? = some (some v)
  lenT : T.length = σ.length
  lenR : ρ.length = σ.length
/-- how a state goes on -/
structure Ext (F : AS) (O : OF) (H : Hp) (F' : AS) (O' : OF) (H' : Hp) : Prop where
  f : ∀ a, F a → F' a
  h : ∀ a o, H a = some o → O a = none → H' a = some o
  o : ∀ a, O' a ≠ none → O a ≠ none ∨ H a = none
  fn : ∀ a, F' a → F a ∨ O a ≠ none ∨ H a = none
  al : ∀ a, H a ≠ none → H' a ≠ none
  t : ∀ a xs, H a = some (.tup xs) → H' a = some (.tup xs)
section
variable {F F1 F2 : AS} {O O1 O2 : OF} {H H1 H2 : Hp}
theorem Ext.refl : Ext F O H F O H := ⟨fun _ h => h, fun _ _ h _ => h, fun _ h => .inl h, fun _ h => .inl h, fun _ h => h, fun _ _ h => h⟩
theorem Ext.trans (a : Ext F O H F1 O1 H1) (b : Ext F1 O1 H1 F2 O2 H2) : Ext F O H F2 O2 H2 where
  f := fun x h => b.f x (a.f x h)
  h := fun x o e n => by
    have e1 := a.h x o e n
    refine b.h x o e1 ?_
    cases q : O1 x with
    | none => rfl
    | some i =>
      rcases a.o x (by rw [q]; simp) with z | z
      · exact absurd n z
      · rw [e] at z; cases z
  o := fun x h => by
    rcases b.o x h with z | z
    · exact a.o x z
    · exact .inr (Classical.byContradiction fun e => a.al x e z)
  fn := fun x h => by
    rcases b.fn x h with z | z | z
    · exact a.fn x z
    · rcases a.o x z with y | y
      · exact .inr (.inl y)
      · exact .inr (.inr y)
    · exact .inr (.inr (Classical.byContradiction fun e => a.al x e z))
  al := fun x h => b.al x (a.al x h)
  t := fun x xs h => b.t x xs (a.t x xs h)
theorem Ext.keep (e : Ext F O H F1 O1 H1) (fo : ∀ a, F a → O a = none) : Keep F H F1 H1 := ⟨e.f, fun a o f h => e.h a o h (fo a f), e.t⟩
/-- a free-floating address stays so -/
theorem Ext.float (e : Ext F O H F1 O1 H1) {a : Addr} (h : H a ≠ none) (o : O a = none) (f : ¬ F a) : O1 a = none ∧ ¬ F1 a ∧ H1 a = H a := by
  obtain ⟨x, hx⟩ := Option.ne_none_iff_exists'.mp h
  refine ⟨?_, fun q => ?_, by rw [hx]; exact e.h a x hx o⟩
  · cases q : O1 a with
    | none => rfl
    | some i =>
      rcases e.o a (by rw [q]; simp) with z | z
      · exact absurd o z
      · exact absurd z h
  · rcases e.fn a q with z | z | z
    · exact f z
    · exact z o
    · exact h z
end
/-- an expression's own addresses, free of all -/
def Loose (B : Bd) (F : AS) (O : OF) (H : Hp) (P : AS) : Prop := ∀ a, P a → ¬ F a ∧ O a = none ∧ H a ≠ none ∧ B.H a = none
theorem Loose.none {B : Bd} {F : AS} {O : OF} {H : Hp} : Loose B F O H (fun _ => False) := fun _ h => h.elim
theorem Loose.ext {B : Bd} {F F1 : AS} {O O1 : OF} {H H1 : Hp} {P : AS} (l : Loose B F O H P) (e : Ext F O H F1 O1 H1) : Loose B F1 O1 H1 P := fun a p => by
  obtain ⟨h1, h2, h3, h4⟩ := l a p
  obtain ⟨q1, q2, q3⟩ := e.float h3 h2 h1
  exact ⟨q2, q1, by rw [q3]; exact h3, h4⟩
theorem Loose.same {B : Bd} {F F1 : AS} {O O1 : OF} {H H1 : Hp} {P : AS} (l : Loose B F O H P) (e : Ext F O H F1 O1 H1) : ∀ a o, P a → H a = some o → H1 a = some o := fun a o p h => by
  obtain ⟨h1, h2, h3, h4⟩ := l a p
  rw [(e.float h3 h2 h1).2.2]; exact h
end DL

/-! D2: the mirrors' monad, the judgements. -/
namespace DL
open PySem PySem.Spec PyProof.Rows L2

structure Exn where
  cls : Str
  args : List (Str × PyData)
inductive Res (α : Type) where
  | ok (a : α) (ρ : Env)
  | exc (x : Exn) (ρ : Env)
  | bad
abbrev M (α : Type) := Env → Res α
def Res.bind {α β : Type} (m : Res α) (k : α → M β) : Res β := match m with
  | .ok a ρ => k a ρ
  | .exc x ρ => .exc x ρ
  | .bad => .bad
def M.bind {α β : Type} (m : M α) (k : α → M β) : M β := fun ρ => (m ρ).bind k
def M.pure {α : Type} (a : α) : M α := fun ρ => .ok a ρ
instance : Monad M where
  pure := M.pure
  bind := M.bind
def ofO {α : Type} (o : Option α) : M α := fun ρ => match o with
  | some a => .ok a ρ
  | none => .bad
/-- a statement's end -/
inductive Fl where
  | nx | rt (d : PyData) | ct
/-- a def's mirror -/
inductive FR where
  | ok (d : PyData) (ios : List PyData)
  | exc (x : Exn) (ios : List PyData)
  | bad
abbrev FM := List PyData → FR

/-- the exception x is of the class cls, its dict at dx -/
def RX (K : PySem.W.Frag) (ex : Str → Option Addr) (x : Exn) (cls : Value) (dx : Option Addr) (F : AS) (H : Hp) : Prop :=
  ∃ C, ex x.cls = some C ∧ cls = .ref C ∧ (x.args = [] ∨ ∃ d fs, dx = some d ∧ H d = some (.xd fs) ∧ F d ∧ fs.map (·.1) = x.args.map (·.1) ∧ RAll K F H (x.args.map (·.2)) (fs.map (·.2)))

/-- where a mirror stands: the context, the wish of exceptions, the classes of exceptions, the tags that stand at an exception and at a return -/
structure Jc where
  X : Cx
  W : WX
  ex : Str → Option Addr
  Th : List Tag
  Tr : List Tag
  τr : Tag
  Tc : List Tag

def Post {α : Type} (J : Jc) (B : Bd) (T' : List Tag) (σ : L2.St) (F : AS) (O : OF) (H : Hp) (C : α → AS → OF → Hp → Prop) : Res α → Prop
  | .ok a ρ' => ∀ F' O' H', Ext F O H F' O' H' → St J.X.K B T' ρ' σ F' O' H' → C a F' O' H'
  | .exc x ρ' => ∀ cls dx F' O' H', Ext F O H F' O' H' → St J.X.K B J.Th ρ' σ F' O' H' → RX J.X.K J.ex x cls dx F' H' → J.W cls dx σ H'
  | .bad => False
section
variable {α β : Type} {J : Jc} {B : Bd} {T T' T1 : List Tag} {ρ : Env} {σ : L2.St} {F F1 : AS} {O O1 : OF} {H H1 : Hp} {C : α → AS → OF → Hp → Prop}
theorem Post.ext {r : Res α} (h : Post J B T' σ F O H C r) (e : Ext F O H F1 O1 H1) : Post J B T' σ F1 O1 H1 C r := by
  cases r with
  | ok a ρ' => exact fun F' O' H' e' s => h F' O' H' (e.trans e') s
  | exc x ρ' => exact fun cls dx F' O' H' e' s r => h cls dx F' O' H' (e.trans e') s r
  | bad => exact h
theorem Post.bind {m : Res β} {k : β → M α} {C1 : β → AS → OF → Hp → Prop} (h : Post J B T' σ F O H C (m.bind k))
    (g : ∀ b ρ1 F1 O1 H1, m = .ok b ρ1 → Ext F O H F1 O1 H1 → St J.X.K B T1 ρ1 σ F1 O1 H1 → Post J B T' σ F1 O1 H1 C (k b ρ1) → C1 b F1 O1 H1) : Post J B T1 σ F O H C1 m := by
  cases m with
  | ok b ρ1 => exact fun F' O' H' e s => g b ρ1 F' O' H' rfl e s (Post.ext (r := k b ρ1) h e)
  | exc x ρ1 => exact h
  | bad => exact h
end

/-- an expression's end -/
def CE (J : Jc) (B : Bd) (τ : Tag) (Q : VK) (O0 : OF) (H0 : Hp) : PyData → AS → OF → Hp → Prop := fun d F O H => ∀ v P, VR J.X.K F H P d v τ → Loose B F O H P → (∀ a, P a → O0 a ≠ none ∨ H0 a = none) → Q v H
/-- e: its value is told by f; τ: how it stands; T, T': the slots ahead and behind -/
def SE (J : Jc) (e : Expr) (τ : Tag) (T T' : List Tag) (f : M PyData) : Prop :=
  ∃ t, PE J.X e t ∧ ∀ B ρ σ F O H Q, St J.X.K B T ρ σ F O H → Post J B T' σ F O H (CE J B τ Q O H) (f ρ) → t σ H Q
/-- e: its value is read at once, by nobody held -/
def SEb (J : Jc) (e : Expr) (T T' : List Tag) (f : M PyData) : Prop :=
  ∃ t, PE J.X e t ∧ ∀ B ρ σ F O H Q, St J.X.K B T ρ σ F O H → Post J B T' σ F O H (fun d F1 _ H1 => ∀ v, RS J.X.K F1 H1 d v → Q v H1) (f ρ) → t σ H Q
def ST (J : Jc) (e : Expr) (T T' : List Tag) (f : M Bool) : Prop :=
  ∃ t, PT J.X e t ∧ ∀ B ρ σ F O H Q, St J.X.K B T ρ σ F O H → Post J B T' σ F O H (fun b _ _ H1 => Q b H1) (f ρ) → t σ H Q
/-- a test whatever its whole is -/
def STw (J : Jc) (e : Expr) (T T' : List Tag) (f : M Bool) : Prop :=
  ∃ t, PW J.X e t ∧ ∀ B ρ σ F O H Q, St J.X.K B T ρ σ F O H → Post J B T' σ F O H (fun b _ _ H1 => Q b H1) (f ρ) → t σ H Q
/-- arguments: given, or lent (a slot) -/
inductive Md where
  | val | lend (j : Nat)
inductive ArgsOk (K : PySem.W.Frag) (F : AS) (H : Hp) (σ : L2.St) : List Md → List PyData → List V → Prop
  | nil : ArgsOk K F H σ [] [] []
  | val {d v ms ds vs} : R K F H d v → ArgsOk K F H σ ms ds vs → ArgsOk K F H σ (.val :: ms) (d :: ds) (v :: vs)
  | lend {j d v ms ds vs} : σ[j]? = some (some v) → ArgsOk K F H σ ms ds vs → ArgsOk K F H σ (.lend j :: ms) (d :: ds) (v :: vs)
def SA (J : Jc) (es : List Expr) (ms : List Md) (T T' : List Tag) (f : M (List PyData)) : Prop :=
  ∃ t, PA J.X es t ∧ ∀ B ρ σ F O H Q, St J.X.K B T ρ σ F O H → Post J B T' σ F O H (fun ds F1 _ H1 => ∀ vs, ArgsOk J.X.K F1 H1 σ ms ds vs → Q vs H1) (f ρ) → t σ H Q

/-- a statement's end -/
def PostS (J : Jc) (B : Bd) (T' : List Tag) (F : AS) (H : Hp) (D : Ends) : Res Fl → Prop
  | .ok .nx ρ' => ∀ σ' F' O' H', Keep F H F' H' → St J.X.K B T' ρ' σ' F' O' H' → D.nx σ' H'
  | .ok .ct ρ' => ∀ σ' F' O' H', Keep F H F' H' → St J.X.K B J.Tc ρ' σ' F' O' H' → D.ct σ' H'
  | .ok (.rt d) ρ' => ∀ v σ' F' O' H' P, Keep F H F' H' → St J.X.K B J.Tr ρ' σ' F' O' H' → VR J.X.K F' H' P d v J.τr → Loose B F' O' H' P → D.rt v H'
  | .exc x ρ' => ∀ cls dx σ' F' O' H', Keep F H F' H' → St J.X.K B J.Th ρ' σ' F' O' H' → RX J.X.K J.ex x cls dx F' H' → J.W cls dx σ' H'
  | .bad => False
theorem PostS.ext {J : Jc} {B : Bd} {T' : List Tag} {F F1 : AS} {H H1 : Hp} {D : Ends} {r : Res Fl} (h : PostS J B T' F H D r) (k : Keep F H F1 H1) : PostS J B T' F1 H1 D r := by
  cases r with
  | ok a ρ' =>
    cases a with
    | nx => exact fun σ' F' O' H' k' s => h σ' F' O' H' (k.trans k') s
    | ct => exact fun σ' F' O' H' k' s => h σ' F' O' H' (k.trans k') s
    | rt d => exact fun v σ' F' O' H' P k' s => h v σ' F' O' H' P (k.trans k') s
  | exc x ρ' => exact fun cls dx σ' F' O' H' k' s => h cls dx σ' F' O' H' (k.trans k') s
  | bad => exact h
def SS (J : Jc) (st : Stmt) (T T' : List Tag) (f : M Fl) : Prop :=
  ∃ t, PS J.X st t ∧ ∀ B ρ σ F O H D, St J.X.K B T ρ σ F O H → PostS J B T' F H D (f ρ) → t D σ H
def SSs (J : Jc) (st : List Stmt) (T T' : List Tag) (f : M Fl) : Prop :=
  ∃ t, PSs J.X st t ∧ ∀ B ρ σ F O H D, St J.X.K B T ρ σ F O H → PostS J B T' F H D (f ρ) → t D σ H
/-- an expression's part of a statement -/
theorem PostS.bind {α : Type} {J : Jc} {B : Bd} {T T' T1 : List Tag} {ρ : Env} {σ : L2.St} {F : AS} {O : OF} {H : Hp} {D : Ends} {m : Res α} {k : α → M Fl} {C1 : α → AS → OF → Hp → Prop} (S : St J.X.K B T ρ σ F O H) (h : PostS J B T' F H D (m.bind k))
    (g : ∀ b ρ1 F1 O1 H1, Ext F O H F1 O1 H1 → St J.X.K B T1 ρ1 σ F1 O1 H1 → PostS J B T' F1 H1 D (k b ρ1) → C1 b F1 O1 H1) : Post J B T1 σ F O H C1 m := by
  cases m with
  | ok b ρ1 => exact fun F' O' H' e s => g b ρ1 F' O' H' e s (PostS.ext (r := k b ρ1) h (e.keep S.fo))
  | exc x ρ1 => exact fun cls dx F' O' H' e s r => h cls dx σ F' O' H' (e.keep S.fo) s r
  | bad => exact h
end DL

/-! D3: expressions. -/
namespace DL
open PySem PySem.Spec PyProof.Rows L2

/-- new frozen things -/
structure Grow (F : AS) (H : Hp) (F' : AS) (H' : Hp) : Prop where
  f : ∀ a, F a → F' a
  h : ∀ a o, H a = some o → H' a = some o
  n : ∀ a, F' a → F a ∨ (H a = none ∧ H' a ≠ none)
theorem Grow.refl {F : AS} {H : Hp} : Grow F H F H := ⟨fun _ h => h, fun _ _ h => h, fun _ h => .inl h⟩
theorem Grow.keep {F F' : AS} {H H' : Hp} (g : Grow F H F' H') : Keep F H F' H' := ⟨g.f, fun a o _ h => g.h a o h, fun a _ h => g.h a _ h⟩
theorem Grow.new {F : AS} {H : Hp} {p : Addr} {o : HO} (hp : H p = none) : Grow F H (fun a => F a ∨ a = p) (upd H p o) :=
  ⟨fun _ => .inl, fun a o' h => by rw [upd_ne (ne_of_none h hp)]; exact h, fun a h => h.elim .inl fun e => .inr ⟨e ▸ hp, by rw [e, upd_same]; simp⟩⟩
theorem Grow.newL {F : AS} {H : Hp} {p : Addr} {o : HO} (hp : H p = none) : Grow F H F (upd H p o) :=
  ⟨fun _ h => h, fun a o' h => by rw [upd_ne (ne_of_none h hp)]; exact h, fun a h => .inl h⟩
theorem Grow.trans {F F1 F2 : AS} {H H1 H2 : Hp} (a : Grow F H F1 H1) (b : Grow F1 H1 F2 H2) : Grow F H F2 H2 :=
  ⟨fun x h => b.f x (a.f x h), fun x o h => b.h x o (a.h x o h), fun x h => by
    rcases b.n x h with z | ⟨z, y⟩
    · rcases a.n x z with w | ⟨w, u⟩
      · exact .inl w
      · obtain ⟨o, q⟩ := Option.ne_none_iff_exists'.mp u
        exact .inr ⟨w, by rw [b.h x o q]; simp⟩
    · cases q : H x with
      | none => exact .inr ⟨rfl, y⟩
      | some o => rw [a.h x o q] at z; cases z⟩
section
variable {K : PySem.W.Frag} {B : Bd} {T : List Tag} {ρ : Env} {σ : L2.St} {F F' : AS} {O : OF} {H H' : Hp}
theorem St.ext (S : St K B T ρ σ F O H) (g : Grow F H F' H') : Ext F O H F' O H' :=
  ⟨g.f, fun a o h _ => g.h a o h, fun a h => .inl h, fun a h => (g.n a h).elim .inl fun z => .inr (.inr z.1), fun a h => by
    obtain ⟨o, e⟩ := Option.ne_none_iff_exists'.mp h
    rw [g.h a o e]; simp, fun a _ h => g.h a _ h⟩
theorem St.grow (S : St K B T ρ σ F O H) (g : Grow F H F' H') : St K B T ρ σ F' O H' where
  sl := fun i τ e => (S.sl i τ e).imp id fun ⟨v, e1, r⟩ => ⟨v, e1, r.keep g.keep fun a o _ h => g.h a o h⟩
  own := S.own
  fo := fun a f => by
    rcases g.n a f with z | z
    · exact S.fo a z
    · cases q : O a with
      | none => rfl
      | some i => exact absurd z.1 (S.oh a i q)
  fh := fun a f => by
    rcases g.n a f with z | z
    · obtain ⟨o, q⟩ := Option.ne_none_iff_exists'.mp (S.fh a z)
      rw [g.h a o q]; simp
    · exact z.2
  oh := fun a i e => by
    obtain ⟨o, q⟩ := Option.ne_none_iff_exists'.mp (S.oh a i e)
    rw [g.h a o q]; simp
  fr := fun a o e n => g.h a o (S.fr a o e n)
  al := fun a e => by
    obtain ⟨o, q⟩ := Option.ne_none_iff_exists'.mp (S.al a e)
    rw [g.h a o q]; simp
  tu := fun a xs e => g.h a _ (S.tu a xs e)
  f0 := fun a f => g.f a (S.f0 a f)
  f1 := fun a f => by
    rcases g.n a f with z | z
    · exact S.f1 a z
    · refine .inr ?_
      cases q : B.H a with
      | none => rfl
      | some o => exact absurd z.1 (S.al a (by rw [q]; simp))
  ios := S.ios
  lenT := S.lenT
  lenR := S.lenR
/-- a new address is none of the entry's -/
theorem St.fresh (S : St K B T ρ σ F O H) {p : Addr} (hp : H p = none) : B.H p = none := by
  cases q : B.H p with
  | none => rfl
  | some o => exact absurd hp (S.al p (by rw [q]; simp))
theorem St.freshO (S : St K B T ρ σ F O H) {p : Addr} (hp : H p = none) : O p = none := by
  cases q : O p with
  | none => rfl
  | some i => exact absurd hp (S.oh p i q)
/-- a new object, laid loose -/
theorem St.loose (S : St K B T ρ σ F O H) {p : Addr} {o : HO} (hp : H p = none) : Loose B F O (upd H p o) (fun a => a = p) := fun a e => by
  subst e
  exact ⟨fun f => S.fh _ f hp, S.freshO hp, by rw [upd_same]; simp, S.fresh hp⟩
end

/-! ### values by operators -/
def OpS2 (K : PySem.W.Frag) (r : R2) (f : PyData → PyData → Option PyData) : Prop :=
  ∀ (F : AS) (H : Hp) (d e : PyData) (x y : V) (c : PyData) (Q : VK), RS K F H d x → RS K F H e y → f d e = some c →
    (∀ v F' H', Grow F H F' H' → R K F' H' c v → Q v H') → r x y H Q
def OpS1 (K : PySem.W.Frag) (r : V → Hp → VK → Prop) (f : PyData → Option PyData) : Prop :=
  ∀ (F : AS) (H : Hp) (d : PyData) (x : V) (c : PyData) (Q : VK), RS K F H d x → f d = some c →
    (∀ v F' H', Grow F H F' H' → R K F' H' c v → Q v H') → r x H Q
/-- .. whose value is new and nobody's yet -/
def OpS2O (K : PySem.W.Frag) (κ : Kind) (r : R2) (f : PyData → PyData → Option PyData) : Prop :=
  ∀ (F : AS) (H : Hp) (d e : PyData) (x y : V) (c : PyData) (Q : VK), RS K F H d x → RS K F H e y → f d e = some c →
    (∀ v P H', Grow F H F H' → κ.rel K F H' P c v → (∀ a, P a → H a = none ∧ H' a ≠ none) → Q v H') → r x y H Q
def OpS1O (K : PySem.W.Frag) (κ : Kind) (r : V → Hp → VK → Prop) (f : PyData → Option PyData) : Prop :=
  ∀ (F : AS) (H : Hp) (d : PyData) (x : V) (c : PyData) (Q : VK), RS K F H d x → f d = some c →
    (∀ v P H', Grow F H F H' → κ.rel K F H' P c v → (∀ a, P a → H a = none ∧ H' a ≠ none) → Q v H') → r x H Q
def OpSL (K : PySem.W.Frag) (r : List V → Hp → VK → Prop) (f : List PyData → Option PyData) : Prop :=
  ∀ (F : AS) (H : Hp) (ds : List PyData) (xs : List V) (c : PyData) (Q : VK), RAll K F H ds xs → f ds = some c →
    (∀ v F' H', Grow F H F' H' → R K F' H' c v → Q v H') → r xs H Q
theorem OpS2.or {K r r' f f'} (a : OpS2 K r f) (b : OpS2 K r' f') : OpS2 K (fun x y H Q => r x y H Q ∨ r' x y H Q) (fun d e => (f d e).or (f' d e)) := by
  intro F H d e x y c Q h1 h2 h3 h4
  have h3 : (f d e).or (f' d e) = some c := h3
  cases q : f d e with
  | some c' =>
    rw [q] at h3
    cases h3
    exact .inl (a F H d e x y _ Q h1 h2 q h4)
  | none =>
    rw [q] at h3
    exact .inr (b F H d e x y c Q h1 h2 h3 h4)
theorem OpS1.or {K r r' f f'} (a : OpS1 K r f) (b : OpS1 K r' f') : OpS1 K (fun x H Q => r x H Q ∨ r' x H Q) (fun d => (f d).or (f' d)) := by
  intro F H d x c Q h1 h3 h4
  have h3 : (f d).or (f' d) = some c := h3
  cases q : f d with
  | some c' =>
    rw [q] at h3
    cases h3
    exact .inl (a F H d x _ Q h1 q h4)
  | none =>
    rw [q] at h3
    exact .inr (b F H d x c Q h1 h3 h4)
theorem OpS1O.or {K κ r r' f f'} (a : OpS1O K κ r f) (b : OpS1O K κ r' f') : OpS1O K κ (fun x H Q => r x H Q ∨ r' x H Q) (fun d => (f d).or (f' d)) := by
  intro F H d x c Q h1 h3 h4
  have h3 : (f d).or (f' d) = some c := h3
  cases q : f d with
  | some c' =>
    rw [q] at h3
    cases h3
    exact .inl (a F H d x _ Q h1 q h4)
  | none =>
    rw [q] at h3
    exact .inr (b F H d x c Q h1 h3 h4)
theorem OpSL.or {K r r' f f'} (a : OpSL K r f) (b : OpSL K r' f') : OpSL K (fun xs H Q => r xs H Q ∨ r' xs H Q) (fun ds => (f ds).or (f' ds)) := by
  intro F H d x c Q h1 h3 h4
  have h3 : (f d).or (f' d) = some c := h3
  cases q : f d with
  | some c' =>
    rw [q] at h3
    cases h3
    exact .inl (a F H d x _ Q h1 q h4)
  | none =>
    rw [q] at h3
    exact .inr (b F H d x c Q h1 h3 h4)

/-! ### expressions -/
def eC (d : PyData) : M PyData := M.pure d
def eV (i : Nat) : M PyData := fun ρ => .ok (get ρ i) ρ
def eOp2 (f : PyData → PyData → Option PyData) (a b : M PyData) : M PyData := a.bind fun x => b.bind fun y => ofO (f x y)
def eOp1 (f : PyData → Option PyData) (a : M PyData) : M PyData := a.bind fun x => ofO (f x)
def eOpL (f : List PyData → Option PyData) (a : M (List PyData)) : M PyData := a.bind fun x => ofO (f x)
section
variable {J : Jc} {T T1 T2 T3 : List Tag}
/-- where a frozen value comes at once -/
theorem se_now {e : Expr} {d : PyData} {v : V} (h : PE J.X e (tC v)) (r : ∀ F H, R J.X.K F H d v) : SE J e .fz T T (eC d) :=
  ⟨_, h, fun B ρ σ F O H Q S q => q F O H Ext.refl S v (fun _ => False) ⟨r F H, fun _ z => z⟩ Loose.none fun _ z => z.elim⟩
theorem se_int {i : Int} {j pos} : SE J (.Constant (.int i) j pos) .fz T T (eC (.int i)) := se_now pe_int fun _ _ => .int i
theorem se_bl {b : Bool} {j pos} : SE J (.Constant (.bool b) j pos) .fz T T (eC (.bool b)) := se_now pe_bl fun _ _ => .bl b
theorem se_non {j pos} : SE J (.Constant .none j pos) .fz T T (eC .none) := se_now pe_non fun _ _ => .non
theorem se_str {x : Str} {j pos} : SE J (.Constant (.str x) j pos) .fz T T (eC (.str x)) := se_now pe_str fun _ _ => .str x

/-- what follows a frozen value -/
theorem ce_fz {B : Bd} {Q : VK} {d : PyData} {F : AS} {O : OF} {H : Hp} {O0 : OF} {H0 : Hp} (h : CE J B .fz Q O0 H0 d F O H) {v : V} (r : R J.X.K F H d v) : Q v H :=
  h v (fun _ => False) ⟨r, fun _ z => z⟩ Loose.none fun _ z => z.elim
/-- the end of a value's rule -/
theorem post_some {B : Bd} {Q : VK} {c : PyData} {ρ : Env} {σ : L2.St} {F F' : AS} {O : OF} {H H' : Hp} (S : St J.X.K B T ρ σ F O H) {o : Option PyData} (ho : o = some c)
    {O0 : OF} {H0 : Hp} (h : Post J B T σ F O H (CE J B .fz Q O0 H0) (ofO o ρ)) (g : Grow F H F' H') {v : V} (r : R J.X.K F' H' c v) : Q v H' := by
  subst ho
  exact ce_fz (h F' O H' (S.ext g) (S.grow g)) r
theorem se_var {i : Nat} {x : Str} {pos : Pos} (h : PE J.X (.Name x pos) (tVar i)) (hT : T[i]? = some Tag.fz) : SE J (.Name x pos) .fz T T (eV i) := by
  refine ⟨_, h, fun B ρ σ F O H Q S q => ?_⟩
  rcases S.sl i _ hT with z | ⟨v, e, r⟩
  · cases z
  · exact ⟨v, e, ce_fz (q F O H Ext.refl S) r.1⟩
/-- values read at once -/
theorem seb_fz {e : Expr} {f : M PyData} (h : SE J e .fz T T1 f) : SEb J e T T1 f := by
  obtain ⟨t, p, c⟩ := h
  refine ⟨t, p, fun B ρ σ F O H Q S q => c B ρ σ F O H Q S ?_⟩
  cases z : f ρ with
  | ok d ρ' => rw [z] at q; exact fun F' O' H' e' S' v P vr l _ => q F' O' H' e' S' v vr.1.rs
  | exc x ρ' => rw [z] at q; exact q
  | bad => rw [z] at q; exact q
theorem seb_ow {e : Expr} {κ : Kind} {f : M PyData} (h : SE J e (.ow κ) T T1 f) (hs : κ.Sh) : SEb J e T T1 f := by
  obtain ⟨t, p, c⟩ := h
  refine ⟨t, p, fun B ρ σ F O H Q S q => c B ρ σ F O H Q S ?_⟩
  cases z : f ρ with
  | ok d ρ' => rw [z] at q; exact fun F' O' H' e' S' v P vr l _ => q F' O' H' e' S' v (hs vr)
  | exc x ρ' => rw [z] at q; exact q
  | bad => rw [z] at q; exact q
/-- the slot i may be read at once -/
def Tag.shr : Tag → Prop
  | .un => False
  | .fz => True
  | .ow κ => κ.Sh
  | .io κ => κ.Sh
theorem St.shr {B : Bd} {ρ : Env} {σ : L2.St} {F : AS} {O : OF} {H : Hp} (S : St J.X.K B T ρ σ F O H) {i : Nat} {τ : Tag} (hT : T[i]? = some τ) (hs : τ.shr) : ∃ v, σ[i]? = some (some v) ∧ RS J.X.K F H (get ρ i) v := by
  rcases S.sl i _ hT with z | ⟨v, e, r⟩
  · subst z; exact hs.elim
  · refine ⟨v, e, ?_⟩
    cases τ with
    | un => exact hs.elim
    | fz => exact r.1.rs
    | ow κ => exact hs r
    | io κ => exact hs r
theorem seb_var {i : Nat} {x : Str} {pos : Pos} {τ : Tag} (h : PE J.X (.Name x pos) (tVar i)) (hT : T[i]? = some τ) (hs : τ.shr) : SEb J (.Name x pos) T T (eV i) := by
  refine ⟨_, h, fun B ρ σ F O H Q S q => ?_⟩
  obtain ⟨v, e, r⟩ := S.shr hT hs
  exact ⟨v, e, q F O H Ext.refl S v r⟩
/-- the end of an owned value's rule -/
theorem post_own {B : Bd} {Q : VK} {κ : Kind} {c : PyData} {ρ : Env} {σ : L2.St} {F : AS} {O : OF} {H H' : Hp} (S : St J.X.K B T ρ σ F O H) {o : Option PyData} (ho : o = some c)
    {O0 : OF} {H0 : Hp} (h : Post J B T σ F O H (CE J B (.ow κ) Q O0 H0) (ofO o ρ)) (g : Grow F H F H') {v : V} {P : AS} (r : κ.rel J.X.K F H' P c v) (hn : ∀ a, P a → H a = none ∧ H' a ≠ none) (h0 : ∀ a, H a = none → H0 a = none) : Q v H' := by
  subst ho
  exact h F O H' (S.ext g) (S.grow g) v P r (fun a p => ⟨fun f => S.fh a f (hn a p).1, S.freshO (hn a p).1, (hn a p).2, S.fresh (hn a p).1⟩) fun a p => .inr (h0 a (hn a p).1)
theorem hneE {F F1 : AS} {O O1 : OF} {H H1 : Hp} (e : Ext F O H F1 O1 H1) : ∀ p, H1 p = none → H p = none := fun p hp =>
  Classical.byContradiction fun z => e.al p z hp
/-- the shape of a reading of two parts -/
abbrev tBin (r : R2) (ta tb : TE) : TE := fun σ H Q => ta σ H fun v H1 => tb σ H1 fun w H2 => r v w H2 Q
abbrev tBinT (r : R2) (ta tb : TE) : TT := fun σ H Q => ta σ H fun v H1 => tb σ H1 fun w H2 => r v w H2 fun u H3 => ∃ k, u = .bl k ∧ Q k H3
theorem bin_core {E a b : Expr} {r : R2} {f : PyData → PyData → Option PyData} {fa fb : M PyData} (hE : ∀ ta tb, PE J.X a ta → PE J.X b tb → PE J.X E (tBin r ta tb)) (hf : OpS2 J.X.K r f)
    (ha : SE J a .fz T T1 fa) (hb : SEb J b T1 T2 fb) : SE J E .fz T T2 (eOp2 f fa fb) := by
  obtain ⟨ta, pa, ca⟩ := ha
  obtain ⟨tb, pb, cb⟩ := hb
  refine ⟨_, hE ta tb pa pb, fun B ρ σ F O H Q S q => ?_⟩
  refine ca B ρ σ F O H _ S (Post.bind q fun d ρ1 F1 O1 H1 _ e1 S1 q1 => fun v P vr l _ => ?_)
  refine cb B ρ1 σ F1 O1 H1 _ S1 (Post.bind q1 fun d2 ρ2 F2 O2 H2 _ e2 S2 q2 => fun w rw2 => ?_)
  have r1 := R.keep (e2.keep S1.fo) d v vr.1
  cases z : f d d2 with
  | none => rw [z] at q2; exact q2.elim
  | some c => exact hf F2 H2 d d2 v w c Q r1.rs rw2 z fun u F' H' g r => post_some S2 z q2 g r
theorem bin_coreO {E a b : Expr} {κ : Kind} {r : R2} {f : PyData → PyData → Option PyData} {fa fb : M PyData} (hE : ∀ ta tb, PE J.X a ta → PE J.X b tb → PE J.X E (tBin r ta tb)) (hf : OpS2O J.X.K κ r f)
    (ha : SE J a .fz T T1 fa) (hb : SEb J b T1 T2 fb) : SE J E (.ow κ) T T2 (eOp2 f fa fb) := by
  obtain ⟨ta, pa, ca⟩ := ha
  obtain ⟨tb, pb, cb⟩ := hb
  refine ⟨_, hE ta tb pa pb, fun B ρ σ F O H Q S q => ?_⟩
  refine ca B ρ σ F O H _ S (Post.bind q fun d ρ1 F1 O1 H1 _ e1 S1 q1 => fun v P vr l _ => ?_)
  refine cb B ρ1 σ F1 O1 H1 _ S1 (Post.bind q1 fun d2 ρ2 F2 O2 H2 _ e2 S2 q2 => fun w rw2 => ?_)
  have r1 := R.keep (e2.keep S1.fo) d v vr.1
  cases z : f d d2 with
  | none => rw [z] at q2; exact q2.elim
  | some c => exact hf F2 H2 d d2 v w c Q r1.rs rw2 z fun u P H' g r hn => post_own S2 z q2 g r hn fun p hp => hneE e1 p (hneE e2 p hp)
/-- the left part is a slot's: read behind the right one -/
def eSlot (i : Nat) (f : PyData → PyData → Option PyData) (b : M PyData) : M PyData := b.bind fun y => fun ρ => ofO (f (get ρ i) y) ρ
theorem bin_coreL {E b : Expr} {x : Str} {p : Pos} {i : Nat} {τ : Tag} {r : R2} {f : PyData → PyData → Option PyData} {fb : M PyData} (hE : ∀ ta tb, PE J.X (.Name x p) ta → PE J.X b tb → PE J.X E (tBin r ta tb)) (hf : OpS2 J.X.K r f)
    (ha : PE J.X (.Name x p) (tVar i)) (hT : T[i]? = some τ) (hb : SEb J b T T1 fb) (hT1 : T1[i]? = some τ) (hs : τ.shr) : SE J E .fz T T1 (eSlot i f fb) := by
  obtain ⟨tb, pb, cb⟩ := hb
  refine ⟨_, hE _ tb ha pb, fun B ρ σ F O H Q S q => ?_⟩
  obtain ⟨v, e0, _⟩ := S.shr hT hs
  refine ⟨v, e0, ?_⟩
  refine cb B ρ σ F O H _ S (Post.bind q fun d2 ρ2 F2 O2 H2 _ e2 S2 q2 => fun w rw2 => ?_)
  obtain ⟨v', e1, r1⟩ := S2.shr hT1 hs
  rw [e0] at e1; cases e1
  cases z : f (get ρ2 i) d2 with
  | none => rw [z] at q2; exact q2.elim
  | some c => exact hf F2 H2 _ d2 v w c Q r1 rw2 z fun u F' H' g r => post_some S2 z q2 g r
theorem bin_coreLO {E b : Expr} {κ : Kind} {x : Str} {p : Pos} {i : Nat} {τ : Tag} {r : R2} {f : PyData → PyData → Option PyData} {fb : M PyData} (hE : ∀ ta tb, PE J.X (.Name x p) ta → PE J.X b tb → PE J.X E (tBin r ta tb)) (hf : OpS2O J.X.K κ r f)
    (ha : PE J.X (.Name x p) (tVar i)) (hT : T[i]? = some τ) (hb : SEb J b T T1 fb) (hT1 : T1[i]? = some τ) (hs : τ.shr) : SE J E (.ow κ) T T1 (eSlot i f fb) := by
  obtain ⟨tb, pb, cb⟩ := hb
  refine ⟨_, hE _ tb ha pb, fun B ρ σ F O H Q S q => ?_⟩
  obtain ⟨v, e0, _⟩ := S.shr hT hs
  refine ⟨v, e0, ?_⟩
  refine cb B ρ σ F O H _ S (Post.bind q fun d2 ρ2 F2 O2 H2 _ e2 S2 q2 => fun w rw2 => ?_)
  obtain ⟨v', e1, r1⟩ := S2.shr hT1 hs
  rw [e0] at e1; cases e1
  cases z : f (get ρ2 i) d2 with
  | none => rw [z] at q2; exact q2.elim
  | some c => exact hf F2 H2 _ d2 v w c Q r1 rw2 z fun u P H' g r hn => post_own S2 z q2 g r hn fun p hp => hneE e2 p hp
/-- a value of one part -/
theorem un_core {E a : Expr} {r : V → Hp → VK → Prop} {f : PyData → Option PyData} {fa : M PyData} (hE : ∀ ta, PE J.X a ta → PE J.X E (fun σ H Q => ta σ H fun v H1 => r v H1 Q)) (hf : OpS1 J.X.K r f) (ha : SEb J a T T1 fa) : SE J E .fz T T1 (eOp1 f fa) := by
  obtain ⟨ta, pa, ca⟩ := ha
  refine ⟨_, hE ta pa, fun B ρ σ F O H Q S q => ?_⟩
  refine ca B ρ σ F O H _ S (Post.bind q fun d ρ1 F1 O1 H1 _ e1 S1 q1 => fun v vr => ?_)
  cases z : f d with
  | none => rw [z] at q1; exact q1.elim
  | some c => exact hf F1 H1 d v c Q vr z fun u F' H' g r => post_some S1 z q1 g r
theorem un_coreO {E a : Expr} {κ : Kind} {r : V → Hp → VK → Prop} {f : PyData → Option PyData} {fa : M PyData} (hE : ∀ ta, PE J.X a ta → PE J.X E (fun σ H Q => ta σ H fun v H1 => r v H1 Q)) (hf : OpS1O J.X.K κ r f) (ha : SEb J a T T1 fa) : SE J E (.ow κ) T T1 (eOp1 f fa) := by
  obtain ⟨ta, pa, ca⟩ := ha
  refine ⟨_, hE ta pa, fun B ρ σ F O H Q S q => ?_⟩
  refine ca B ρ σ F O H _ S (Post.bind q fun d ρ1 F1 O1 H1 _ e1 S1 q1 => fun v vr => ?_)
  cases z : f d with
  | none => rw [z] at q1; exact q1.elim
  | some c => exact hf F1 H1 d v c Q vr z fun u P H' g r hn => post_own S1 z q1 g r hn fun p hp => hneE e1 p hp
theorem se_op2 {a b : Expr} {op : Operator} {r : R2} {f : PyData → PyData → Option PyData} {fa fb : M PyData} {pos : Pos} (ho : OpR J.X (binaryOp op) r) (hf : OpS2 J.X.K r f)
    (ha : SE J a .fz T T1 fa) (hb : SEb J b T1 T2 fb) : SE J (.BinOp a op b pos) .fz T T2 (eOp2 f fa fb) := bin_core (fun ta tb pa pb => pe_op ho pa pb) hf ha hb
theorem se_op2O {κ : Kind} {a b : Expr} {op : Operator} {r : R2} {f : PyData → PyData → Option PyData} {fa fb : M PyData} {pos : Pos} (ho : OpR J.X (binaryOp op) r) (hf : OpS2O J.X.K κ r f)
    (ha : SE J a .fz T T1 fa) (hb : SEb J b T1 T2 fb) : SE J (.BinOp a op b pos) (.ow κ) T T2 (eOp2 f fa fb) := bin_coreO (fun ta tb pa pb => pe_op ho pa pb) hf ha hb
theorem se_op2L {b : Expr} {x : Str} {p : Pos} {i : Nat} {τ : Tag} {op : Operator} {r : R2} {f : PyData → PyData → Option PyData} {fb : M PyData} {pos : Pos} (ho : OpR J.X (binaryOp op) r) (hf : OpS2 J.X.K r f)
    (ha : PE J.X (.Name x p) (tVar i)) (hT : T[i]? = some τ) (hb : SEb J b T T1 fb) (hT1 : T1[i]? = some τ) (hs : τ.shr) : SE J (.BinOp (.Name x p) op b pos) .fz T T1 (eSlot i f fb) := bin_coreL (fun ta tb pa pb => pe_op ho pa pb) hf ha hT hb hT1 hs
theorem se_op2LO {κ : Kind} {b : Expr} {x : Str} {p : Pos} {i : Nat} {τ : Tag} {op : Operator} {r : R2} {f : PyData → PyData → Option PyData} {fb : M PyData} {pos : Pos} (ho : OpR J.X (binaryOp op) r) (hf : OpS2O J.X.K κ r f)
    (ha : PE J.X (.Name x p) (tVar i)) (hT : T[i]? = some τ) (hb : SEb J b T T1 fb) (hT1 : T1[i]? = some τ) (hs : τ.shr) : SE J (.BinOp (.Name x p) op b pos) (.ow κ) T T1 (eSlot i f fb) := bin_coreLO (fun ta tb pa pb => pe_op ho pa pb) hf ha hT hb hT1 hs
theorem se_cmp {a b : Expr} {op : CmpOp} {r : R2} {f : PyData → PyData → Option PyData} {fa fb : M PyData} {pos : Pos} (ho : OpR J.X (compareOp op) r) (hf : OpS2 J.X.K r f)
    (ha : SE J a .fz T T1 fa) (hb : SEb J b T1 T2 fb) (hm : behindInMarks op b = false) : SE J (.Compare a [op] [b] pos) .fz T T2 (eOp2 f fa fb) := bin_core (fun ta tb pa pb => pe_cmpR ho pa pb hm) hf ha hb
theorem se_cmpL {b : Expr} {x : Str} {p : Pos} {i : Nat} {τ : Tag} {op : CmpOp} {r : R2} {f : PyData → PyData → Option PyData} {fb : M PyData} {pos : Pos} (ho : OpR J.X (compareOp op) r) (hf : OpS2 J.X.K r f)
    (ha : PE J.X (.Name x p) (tVar i)) (hT : T[i]? = some τ) (hb : SEb J b T T1 fb) (hT1 : T1[i]? = some τ) (hs : τ.shr) (hm : behindInMarks op b = false) : SE J (.Compare (.Name x p) [op] [b] pos) .fz T T1 (eSlot i f fb) := bin_coreL (fun ta tb pa pb => pe_cmpR ho pa pb hm) hf ha hT hb hT1 hs
theorem se_ix {a b : Expr} {r : R2} {f : PyData → PyData → Option PyData} {fa fb : M PyData} {pos : Pos} (ho : IxR J.X r) (hf : OpS2 J.X.K r f)
    (ha : SE J a .fz T T1 fa) (hb : SEb J b T1 T2 fb) (hs : PlainIx b) : SE J (.Subscript a b pos) .fz T T2 (eOp2 f fa fb) := bin_core (fun ta tb pa pb => pe_ix ho pa pb hs) hf ha hb
theorem se_ixL {b : Expr} {x : Str} {p : Pos} {i : Nat} {τ : Tag} {r : R2} {f : PyData → PyData → Option PyData} {fb : M PyData} {pos : Pos} (ho : IxR J.X r) (hf : OpS2 J.X.K r f)
    (ha : PE J.X (.Name x p) (tVar i)) (hT : T[i]? = some τ) (hb : SEb J b T T1 fb) (hT1 : T1[i]? = some τ) (hs : τ.shr) (hx : PlainIx b) : SE J (.Subscript (.Name x p) b pos) .fz T T1 (eSlot i f fb) := bin_coreL (fun ta tb pa pb => pe_ix ho pa pb hx) hf ha hT hb hT1 hs
end
end DL

/-! D4: operations on data. -/
namespace DL
open PySem PySem.Spec PyProof.Rows L2

def ints? : List PyData → Option (List Int)
  | [] => some []
  | .int i :: r => (ints? r).map (i :: ·)
  | _ :: _ => none
def bools? : List PyData → Option (List Bool)
  | [] => some []
  | .bool i :: r => (bools? r).map (i :: ·)
  | _ :: _ => none
theorem ints?_map : ∀ ns : List Int, ints? (ns.map .int) = some ns
  | [] => rfl
  | n :: r => by simp [ints?, ints?_map r]
theorem bools?_map : ∀ ns : List Bool, bools? (ns.map .bool) = some ns
  | [] => rfl
  | n :: r => by simp [bools?, bools?_map r]
section
variable {K : PySem.W.Frag} {F F' : AS} {H H' : Hp}
theorem RAll.ofInts : ∀ {ds : List PyData} {xs : List V} {ns : List Int}, RAll K F H ds xs → ints? ds = some ns → xs = ns.map V.int
  | [], _, ns, h, e => by cases h; simp [ints?] at e; subst e; rfl
  | d :: ds, _, ns, h, e => by
    cases h with
    | cons a b =>
      cases d <;> simp [ints?] at e
      obtain ⟨r, e1, rfl⟩ := e
      rw [a.intS, RAll.ofInts b e1]; rfl
theorem RAll.ofBools : ∀ {ds : List PyData} {xs : List V} {ns : List Bool}, RAll K F H ds xs → bools? ds = some ns → xs = ns.map V.bl
  | [], _, ns, h, e => by cases h; simp [bools?] at e; subst e; rfl
  | d :: ds, _, ns, h, e => by
    cases h with
    | cons a b =>
      cases d <;> simp [bools?] at e
      obtain ⟨r, e1, rfl⟩ := e
      rw [a.boolS, RAll.ofBools b e1]; rfl
theorem Rd.sq {K : PySem.W.Frag} {H : Hp} {a : Addr} {xs : List V} (h : Rd H a (.lst xs)) : SqL K H a xs := .inl h
theorem R.seqS {d : PyData} {v : V} {ds : List PyData} (h : R K F H d v) (e : d = .list ds ∨ d = .tuple ds) : ∃ a xs, v = .ref a ∧ (SqL K H a xs ∨ SqT K H a xs) ∧ RAll K F H ds xs := by
  rcases e with rfl | rfl
  · obtain ⟨a, xs, rfl, r, q⟩ := h.listS
    exact ⟨a, xs, rfl, .inl r.sq, q⟩
  · obtain ⟨a, xs, rfl, r, q⟩ := h.tupleS
    exact ⟨a, xs, rfl, .inr r, q⟩
/-- a new list, a new tuple -/
theorem R.newL {ds : List PyData} {xs : List V} {p : Addr} (h : RAll K F H ds xs) (hp : H p = none) : R K (fun a => F a ∨ a = p) (upd H p (.lst xs)) (.list ds) (.ref p) :=
  .lst (.inr rfl) (.inl upd_same) (RAll.keep (Grow.new hp).keep _ _ h)
theorem R.newT {ds : List PyData} {xs : List V} {p : Addr} (h : RAll K F H ds xs) (hp : H p = none) : R K F (upd H p (.tup xs)) (.tuple ds) (.ref p) :=
  .tup upd_same (RAll.keep (Grow.newL hp).keep _ _ h)

/-! ### list + list, list * int, of any lists that are read -/
end
def rCatR (K : PySem.W.Frag) : R2 := fun x y H Q => ∃ l b xs zs, x = .ref l ∧ y = .ref b ∧ SqL K H l xs ∧ SqL K H b zs ∧ xs.length + zs.length ≤ sizeLine ∧ ∀ p, H p = none → Q (.ref p) (upd H p (.lst (xs ++ zs)))
theorem op_catR {X : Cx} : OpR X (binaryOp .Add) (rCatR X.K) := by
  intro pins s σ H x y v u Q I rx ry h
  obtain ⟨l, b, xs, zs, rfl, rfl, hH, hB, hz, q⟩ := h
  cases rx
  cases ry
  obtain ⟨its, r, e, _⟩ := I.list hH
  obtain ⟨its2, r2, e2, _⟩ := I.list hB
  have hl := r.length
  have hl2 := r2.length
  obtain ⟨o1, n, h1, h2, h3, h4⟩ := e
  obtain ⟨o2, n2, h5, h6, h7, h8⟩ := e2
  have ea : its.toArray ++ its2.toArray = (its ++ its2).toArray := by simp
  cases o1 with
  | mk c1 d1 t1 s1 =>
    cases o2 with
    | mk c2 d2 t2 s2 =>
      simp only at h2 h3 h4 h6 h7 h8
      subst h2 h4 h6 h8
      refine concat_meets ⟨_, h1, rfl⟩ ⟨_, h5, rfl⟩ noFill_list_add seq_list_add PySem.F.slot_list_add PySem.F.entry_list_add (PySem.F.args_list_add_2 _ _) (list_addW l b its.toArray its2.toArray n n2 d1 d2 s1 s2 (by rw [List.size_toArray, List.size_toArray]; omega)) ⟨h1, h5, ?_⟩
      rw [ea]
      exact ⟨.ref _, _, I.lnew (t' := s.toks) (r.append r2) (by rw [List.length_append]; omega), rfl, q _ I.fresh⟩

/-! ### + - * // % ** -/
def lenOk (n : Nat) : Bool := decide (n ≤ 16777216)
theorem lenOk_line {n : Nat} (h : lenOk n = true) : n ≤ sizeLine := by
  have h1 : n ≤ 16777216 := of_decide_eq_true h
  rw [sizeLine_eq]; exact h1
def addI : PyData → PyData → Option PyData
  | .int i, .int j => some (.int (i + j))
  | _, _ => none
def addS : PyData → PyData → Option PyData
  | .str x, .str y => if lenOk (x.length + y.length) then some (.str (x ++ y)) else none
  | _, _ => none
def addT : PyData → PyData → Option PyData
  | .tuple xs, .tuple ys => if lenOk (xs.length + ys.length) then some (.tuple (xs ++ ys)) else none
  | _, _ => none
def addL : PyData → PyData → Option PyData
  | .list xs, .list ys => if lenOk (xs.length + ys.length) then some (.list (xs ++ ys)) else none
  | _, _ => none
def addD (d e : PyData) : Option PyData := (addI d e).or ((addT d e).or ((addL d e).or (addS d e)))
section
variable {K : PySem.W.Frag}
theorem ops_addI : OpS2 K (rI0 fun i j => .int (i + j)) addI := by
  intro F H d e x y c Q r1 r2 h q
  cases d <;> cases e <;> simp [addI] at h
  subst h
  exact ⟨_, _, r1.intS, r2.intS, q _ F H .refl (.int _)⟩
theorem ops_addS : OpS2 K (fun x y H Q => ∃ i j, x = .str i ∧ y = .str j ∧ i.length + j.length ≤ sizeLine ∧ Q (.str (i ++ j)) H) addS := by
  intro F H d e x y c Q r1 r2 h q
  cases d <;> cases e <;> simp [addS] at h
  obtain ⟨z, rfl⟩ := h
  exact ⟨_, _, r1.strS, r2.strS, lenOk_line z, q _ F H .refl (.str _)⟩
theorem ops_addT : OpS2 K (rCatA K) addT := by
  intro F H d e x y c Q r1 r2 h q
  cases d <;> cases e <;> simp [addT] at h
  obtain ⟨z, rfl⟩ := h
  obtain ⟨a, xs, rfl, ha, q1⟩ := r1.tupleS
  obtain ⟨b, ys, rfl, hb, q2⟩ := r2.tupleS
  have l1 := q1.length
  have l2 := q2.length
  refine ⟨a, b, xs, ys, rfl, rfl, ha, hb, by rw [← l1, ← l2]; exact lenOk_line z, fun e => ?_, fun e1 e2 => ?_, fun e1 e2 p hp => ?_⟩
  · subst e
    cases q1
    exact q _ F H .refl (by simpa using r2.tupleR)
  · subst e2
    cases q2
    exact q _ F H .refl (by simpa using r1.tupleR)
  · exact q _ F _ (.newL hp) (R.newT (q1.append q2) hp)
theorem ops_addL : OpS2 K (rCatR K) addL := by
  intro F H d e x y c Q r1 r2 h q
  cases d <;> cases e <;> simp [addL] at h
  obtain ⟨z, rfl⟩ := h
  obtain ⟨a, xs, rfl, ha, q1⟩ := r1.listS
  obtain ⟨b, ys, rfl, hb, q2⟩ := r2.listS
  have l1 := q1.length
  have l2 := q2.length
  exact ⟨a, b, xs, ys, rfl, rfl, ha, hb, by rw [← l1, ← l2]; exact lenOk_line z, fun p hp => q _ _ _ (.new hp) (R.newL (q1.append q2) hp)⟩
def rAdd (K : PySem.W.Frag) : R2 := fun x y H Q => rI0 (fun i j => .int (i + j)) x y H Q ∨ rCatA K x y H Q ∨ rCatR K x y H Q ∨ ∃ i j, x = .str i ∧ y = .str j ∧ i.length + j.length ≤ sizeLine ∧ Q (.str (i ++ j)) H
theorem op_addD {X : Cx} : OpR X (binaryOp .Add) (rAdd X.K) := op_add.or (op_catA.or (op_catR.or op_add_str))
theorem ops_addD : OpS2 K (rAdd K) addD := ops_addI.or (ops_addT.or (ops_addL.or ops_addS))

def subD : PyData → PyData → Option PyData
  | .int i, .int j => some (.int (i - j))
  | _, _ => none
theorem ops_sub : OpS2 K (rI0 fun i j => .int (i - j)) subD := by
  intro F H d e x y c Q r1 r2 h q
  cases d <;> cases e <;> simp [subD] at h
  subst h
  exact ⟨_, _, r1.intS, r2.intS, q _ F H .refl (.int _)⟩
def mulOk (i j : Int) : Bool := (decide (-18446744073709551616 < i) && decide (i < 18446744073709551616)) || (decide (-18446744073709551616 < j) && decide (j < 18446744073709551616))
theorem mulOk_c {i j : Int} (h : mulOk i j = true) : CMul i j := by
  simp only [mulOk, Bool.or_eq_true, Bool.and_eq_true, decide_eq_true_eq] at h
  rcases h with ⟨h1, h2⟩ | ⟨h1, h2⟩
  · exact .inl ⟨h1, h2⟩
  · exact .inr ⟨h1, h2⟩
def mulI : PyData → PyData → Option PyData
  | .int i, .int j => if mulOk i j then some (.int (i * j)) else none
  | _, _ => none
theorem ops_mulI : OpS2 K (rI CMul fun i j => .int (i * j)) mulI := by
  intro F H d e x y c Q r1 r2 h q
  cases d <;> cases e <;> simp [mulI] at h
  obtain ⟨z, rfl⟩ := h
  exact ⟨_, _, r1.intS, r2.intS, mulOk_c z, q _ F H .refl (.int _)⟩
def divOk (j : Int) : Bool := decide (j ≠ 0) && decide (j.natAbs < 1073741824)
def fdivD : PyData → PyData → Option PyData
  | .int i, .int j => if divOk j then some (.int (i.fdiv j)) else none
  | _, _ => none
theorem ops_fdiv : OpS2 K (rI CDivN fun i j => .int (i.fdiv j)) fdivD := by
  intro F H d e x y c Q r1 r2 h q
  cases d <;> cases e <;> simp [fdivD] at h
  obtain ⟨z, rfl⟩ := h
  simp only [divOk, Bool.and_eq_true, decide_eq_true_eq] at z
  exact ⟨_, _, r1.intS, r2.intS, z, q _ F H .refl (.int _)⟩
def modD : PyData → PyData → Option PyData
  | .int i, .int j => if j = 0 then none else some (.int (i.fmod j))
  | _, _ => none
theorem ops_mod : OpS2 K (rI (fun _ j => j ≠ 0) fun i j => .int (i.fmod j)) modD := by
  intro F H d e x y c Q r1 r2 h q
  cases d <;> cases e <;> simp [modD] at h
  obtain ⟨z, rfl⟩ := h
  exact ⟨_, _, r1.intS, r2.intS, z, q _ F H .refl (.int _)⟩
def powD : PyData → PyData → Option PyData
  | .int i, .int j => if 0 ≤ j ∧ j ≤ 1000000 ∧ i.natAbs < 18446744073709551616 then some (.int (i ^ j.toNat)) else none
  | _, _ => none
theorem ops_pow : OpS2 K (rI CPow fun i j => .int (i ^ j.toNat)) powD := by
  intro F H d e x y c Q r1 r2 h q
  cases d <;> cases e <;> simp [powD] at h
  obtain ⟨z, rfl⟩ := h
  exact ⟨_, _, r1.intS, r2.intS, z, q _ F H .refl (.int _)⟩

/-! ### comparisons -/
def cmpI (p : Int → Int → Bool) : PyData → PyData → Option PyData
  | .int i, .int j => some (.bool (p i j))
  | _, _ => none
theorem ops_cmpI (p : Int → Int → Bool) : OpS2 K (rI0 fun i j => .bl (p i j)) (cmpI p) := by
  intro F H d e x y c Q r1 r2 h q
  cases d <;> cases e <;> simp [cmpI] at h
  subst h
  exact ⟨_, _, r1.intS, r2.intS, q _ F H .refl (.bl _)⟩
def ltT : PyData → PyData → Option PyData
  | .tuple xs, .tuple ys => (ints? xs).bind fun ns => (ints? ys).bind fun ms => some (.bool (HT.lexLt ns ms))
  | _, _ => none
theorem ops_ltT : OpS2 K (rLtT K) ltT := by
  intro F H d e x y c Q r1 r2 h q
  cases d <;> cases e <;> simp [ltT, Option.bind_eq_some_iff] at h
  obtain ⟨ns, e1, ms, e2, rfl⟩ := h
  obtain ⟨a, xs, rfl, ha, q1⟩ := r1.tupleS
  obtain ⟨b, ys, rfl, hb, q2⟩ := r2.tupleS
  have z1 := q1.ofInts e1
  have z2 := q2.ofInts e2
  subst z1; subst z2
  exact ⟨a, b, ns, ms, rfl, rfl, ha, hb, q _ F H .refl (.bl _)⟩
def ltI := cmpI fun i j => decide (i < j)
def leI := cmpI fun i j => decide (i ≤ j)
def gtI := cmpI fun i j => decide (j < i)
def geI := cmpI fun i j => decide (j ≤ i)

mutual
theorem noDict_of : ∀ d : PyData, d.canLay0 = true → noDict d = true
  | .none, _ => rfl
  | .bool _, _ => rfl
  | .int _, _ => rfl
  | .str _, _ => rfl
  | .list xs, h => by simp only [PyData.canLay0] at h; simp only [noDict]; exact noDicts_of xs h
  | .tuple xs, h => by simp only [PyData.canLay0] at h; simp only [noDict]; exact noDicts_of xs h
  | .dict _, h => by simp [PyData.canLay0] at h
theorem noDicts_of : ∀ ds : List PyData, PyData.canLayAll0 ds = true → noDicts ds = true
  | [], _ => rfl
  | d :: ds, h => by simp only [PyData.canLayAll0, Bool.and_eq_true] at h; simp only [noDicts, Bool.and_eq_true]; exact ⟨noDict_of d h.1, noDicts_of ds h.2⟩
end
theorem noDict_sh {d : PyData} (h : SeqAt.shaped d = true) : noDict d = true := noDict_of d (SeqAt.canLay_of_shaped h)
def eqD (d e : PyData) : Option PyData := if SeqAt.shaped d && SeqAt.shaped e then some (.bool (PyData.eqv d e)) else none
def neD (d e : PyData) : Option PyData := if SeqAt.shaped d && SeqAt.shaped e then some (.bool (!PyData.eqv d e)) else none
theorem ops_eq : OpS2 K (rEqD K) eqD := by
  intro F H d e x y c Q r1 r2 h q
  simp only [eqD, Bool.and_eq_true, Option.ite_none_right_eq_some, Option.some.injEq] at h
  obtain ⟨⟨z1, z2⟩, rfl⟩ := h
  exact ⟨d, e, RS.dp d x (noDict_sh z1) r1, RS.dp e y (noDict_sh z2) r2, z1, z2, q _ F H .refl (.bl _)⟩
theorem ops_ne : OpS2 K (rNeD K) neD := by
  intro F H d e x y c Q r1 r2 h q
  simp only [neD, Bool.and_eq_true, Option.ite_none_right_eq_some, Option.some.injEq] at h
  obtain ⟨⟨z1, z2⟩, rfl⟩ := h
  exact ⟨d, e, RS.dp d x (noDict_sh z1) r1, RS.dp e y (noDict_sh z2) r2, z1, z2, q _ F H .refl (.bl _)⟩
def isNone : PyData → Bool
  | .none => true
  | _ => false
def isD : PyData → PyData → Option PyData
  | d, .none => some (.bool (isNone d))
  | _, _ => none
def isNotD : PyData → PyData → Option PyData
  | d, .none => some (.bool (!isNone d))
  | _, _ => none
theorem isNone_V {F : AS} {H : Hp} {d : PyData} {v : V} (r : RS K F H d v) : decide (v = .non) = isNone d := by
  cases d with
  | list ds => obtain ⟨a, xs, rfl, _⟩ := r; simp [isNone]
  | dict kvs => obtain ⟨a, rfl, _⟩ := r; simp [isNone]
  | none => rw [r.noneS]; simp [isNone]
  | bool b => rw [r.boolS]; simp [isNone]
  | int b => rw [r.intS]; simp [isNone]
  | str b => rw [r.strS]; simp [isNone]
  | tuple ds => obtain ⟨a, xs, rfl, _⟩ := r.tupleS; simp [isNone]
theorem ops_is : OpS2 K (fun x y H Q => y = .non ∧ Q (.bl (decide (x = .non))) H) isD := by
  intro F H d e x y c Q r1 r2 h q
  cases e <;> simp [isD] at h
  subst h
  refine ⟨r2.noneS, ?_⟩
  rw [isNone_V r1]
  exact q _ F H .refl (.bl _)
theorem ops_isNot : OpS2 K (fun x y H Q => y = .non ∧ Q (.bl (!decide (x = .non))) H) isNotD := by
  intro F H d e x y c Q r1 r2 h q
  cases e <;> simp [isNotD] at h
  subst h
  refine ⟨r2.noneS, ?_⟩
  rw [isNone_V r1]
  exact q _ F H .refl (.bl _)
/-- in, not in: over a list -/
def inL : PyData → PyData → Option PyData
  | d, .list ds => if SeqAt.shaped d && SeqAt.shaped (.list ds) then some (.bool (ds.any fun z => PyData.eqv z d)) else none
  | _, _ => none
def notInL : PyData → PyData → Option PyData
  | d, .list ds => if SeqAt.shaped d && SeqAt.shaped (.list ds) then some (.bool (!ds.any fun z => PyData.eqv z d)) else none
  | _, _ => none
theorem ops_inL : OpS2 K (rInD K) inL := by
  intro F H d e x y c Q r1 r2 h q
  cases e <;> simp only [inL, Bool.and_eq_true, Option.ite_none_right_eq_some, Option.some.injEq, reduceCtorEq] at h
  obtain ⟨⟨z1, z2⟩, rfl⟩ := h
  exact ⟨d, _, RS.dp d x (noDict_sh z1) r1, RS.dp _ y (noDict_sh z2) r2, z1, z2, q _ F H .refl (.bl _)⟩
theorem ops_notInL : OpS2 K (rNotInD K) notInL := by
  intro F H d e x y c Q r1 r2 h q
  cases e <;> simp only [notInL, Bool.and_eq_true, Option.ite_none_right_eq_some, Option.some.injEq, reduceCtorEq] at h
  obtain ⟨⟨z1, z2⟩, rfl⟩ := h
  exact ⟨d, _, RS.dp d x (noDict_sh z1) r1, RS.dp _ y (noDict_sh z2) r2, z1, z2, q _ F H .refl (.bl _)⟩

/-! ### items, slices -/
def ixD : PyData → PyData → Option PyData
  | .list ds, .int i => atI ds i
  | .tuple ds, .int i => atI ds i
  | .str z, .int i => if lenOk z.length then (atI z.cps.toList i).map fun c => .str ⟨#[c]⟩ else none
  | _, _ => none
theorem RAll.at {F : AS} {H : Hp} {ds : List PyData} {xs : List V} {i : Int} {d : PyData} (r : RAll K F H ds xs) (h : atI ds i = some d) : ∃ v, atI xs i = some v ∧ R K F H d v := by
  unfold atI at h ⊢
  rw [← r.length]
  cases q : ixN ds.length i with
  | none => rw [q] at h; cases h
  | some j => rw [q] at h; exact r.get h
theorem ops_ix : OpS2 K (rIx K) ixD := by
  intro F H d e x y c Q r1 r2 h q
  cases d <;> cases e <;> simp only [ixD, reduceCtorEq, Option.ite_none_right_eq_some, Option.map_eq_some_iff] at h
  · obtain ⟨z, k, e1, rfl⟩ := h
    exact .inr (.inr ⟨_, _, k, r1.strS, r2.intS, lenOk_line z, e1, q _ F H .refl (.str _)⟩)
  · obtain ⟨a, xs, rfl, ha, q1⟩ := r1.listS
    obtain ⟨v, e1, rv⟩ := q1.at h
    exact .inl ⟨a, xs, _, v, rfl, r2.intS, ha, e1, q _ F H .refl rv⟩
  · obtain ⟨a, xs, rfl, ha, q1⟩ := r1.tupleS
    obtain ⟨v, e1, rv⟩ := q1.at h
    exact .inr (.inl ⟨a, xs, _, v, rfl, r2.intS, ha, e1, q _ F H .refl rv⟩)
end
end DL

/-! D5: the context, names, tests, displays. -/
namespace DL
open PySem PySem.Spec PyProof.Rows L2

/-- what is fixed through the program -/
structure GC where
  P : Program
  w : World
  K : PySem.W.Frag
  mg : Str → Option Value
  base : Heap
structure XOk (g : GC) (X : Cx) (N : List Str) (sc : Scope) (fc : Str → Bool) (k : Nat) : Prop where
  pr : X.prog = g.P
  w : X.w = g.w
  kk : X.K = g.K
  mg : X.mg = g.mg
  bs : X.base = g.base
  n : X.N = N
  s : X.env.scope = sc
  fn : ∀ x, fc x = true → X.fn x = true
  c : X.calm = true
  nd : N.Nodup
  hr : Room k X.A
  gd : X.A.guards = some []
/-- a name that may be read, stored, a global one -/
def ldOk (sc : Scope) (x : Str) : Bool := (sc.names.lookup x == some .local || sc.names.lookup x == some .cell || sc.names.lookup x == some .free) && !(x == ("__debug__" : Str)) && !(x == ("__classdict__" : Str))
def stOk (sc : Scope) (fc : Str → Bool) (x : Str) : Bool := (sc.names.lookup x == some .local || (sc.names.lookup x == some .cell && fc x))
def glOk (sc : Scope) (x : Str) : Bool := (sc.names.lookup x == some .globalImplicit) && !(x == ("__debug__" : Str)) && !(x == ("__name__" : Str))
/-- the places that may be read, those that may be stored, those that are plain locals, the globals -/
structure Tab where
  ld : List Nat
  st : List Nat
  pl : List Nat
  gl : List Str
def Tab.ok (t : Tab) (N : List Str) (sc : Scope) (fc : Str → Bool) : Bool :=
  (t.ld.all fun i => match N[i]? with | some x => ldOk sc x | none => false) && (t.st.all fun i => match N[i]? with | some x => stOk sc fc x | none => false) &&
  (t.pl.all fun i => match N[i]? with | some x => sc.names.lookup x == some .local | none => false) && (t.gl.all fun x => glOk sc x)
section
variable {g : GC} {X : Cx} {N : List Str} {sc : Scope} {fc : Str → Bool} {k : Nat} {t : Tab}
theorem Tab.ld_at (h : t.ok N sc fc = true) {i : Nat} {x : Str} (hi : t.ld.contains i = true) (hN : N[i]? = some x) : ldOk sc x = true := by
  simp only [Tab.ok, Bool.and_eq_true, List.all_eq_true] at h
  have q := h.1.1.1 i (by simpa using hi)
  rw [hN] at q; exact q
theorem Tab.st_at (h : t.ok N sc fc = true) {i : Nat} {x : Str} (hi : t.st.contains i = true) (hN : N[i]? = some x) : stOk sc fc x = true := by
  simp only [Tab.ok, Bool.and_eq_true, List.all_eq_true] at h
  have q := h.1.1.2 i (by simpa using hi)
  rw [hN] at q; exact q
theorem Tab.pl_at (h : t.ok N sc fc = true) {i : Nat} {x : Str} (hi : t.pl.contains i = true) (hN : N[i]? = some x) : sc.names.lookup x = some .local := by
  simp only [Tab.ok, Bool.and_eq_true, List.all_eq_true] at h
  have q := h.1.2 i (by simpa using hi)
  rw [hN] at q; simpa using q
theorem Tab.gl_at (h : t.ok N sc fc = true) {j : Nat} {x : Str} (hj : t.gl[j]? = some x) : glOk sc x = true := by
  simp only [Tab.ok, Bool.and_eq_true, List.all_eq_true] at h
  exact h.2 x (List.mem_of_getElem? hj)
theorem XOk.pv (hX : XOk g X N sc fc k) (ht : t.ok N sc fc = true) (i : Nat) {x : Str} {pos : Pos} (hi : t.ld.contains i = true) (hN : N[i]? = some x) : PE X (.Name x pos) (tVar i) := by
  have q := Tab.ld_at ht hi hN
  simp only [ldOk, Bool.and_eq_true, Bool.not_eq_true', Bool.or_eq_true, beq_iff_eq] at q
  refine pe_var (by rw [hX.n]; exact hN) ?_ q.1.2 q.2
  unfold Vis
  rw [hX.s]
  rcases q.1.1 with (z | z) | z
  · exact .inl z
  · exact .inr (.inl z)
  · exact .inr (.inr z)
theorem XOk.loc (hX : XOk g X N sc fc k) (ht : t.ok N sc fc = true) {i : Nat} {x : Str} (hi : t.st.contains i = true) (hN : N[i]? = some x) : L2.Loc X.env.scope x ∧ (X.fn x = true ∨ X.env.scope.names.lookup x = some .local) := by
  have q := Tab.st_at ht hi hN
  simp only [stOk, Bool.and_eq_true, Bool.or_eq_true, beq_iff_eq] at q
  unfold L2.Loc
  rw [hX.s]
  rcases q with z | ⟨z, y⟩
  · exact ⟨.inl z, .inr z⟩
  · exact ⟨.inr z, .inl (hX.fn x y)⟩
theorem XOk.pg (hX : XOk g X N sc fc k) (ht : t.ok N sc fc = true) (i : Nat) {x : Str} {pos : Pos} (hi : t.st.contains i = true) (hN : N[i]? = some x) : PG X (.Name x pos) (gName i) := by
  obtain ⟨h1, h2⟩ := hX.loc ht hi hN
  exact pg_name (by rw [hX.n]; exact hX.nd) (by rw [hX.n]; exact hN) h1 h2
theorem XOk.gl (hX : XOk g X N sc fc k) (ht : t.ok N sc fc = true) {j : Nat} {x : Str} (hj : t.gl[j]? = some x) : Gl X x ∧ (x == ("__debug__" : Str)) = false ∧ x ≠ "__name__" := by
  have q := Tab.gl_at ht hj
  simp only [glOk, Bool.and_eq_true, Bool.not_eq_true', beq_iff_eq] at q
  refine ⟨?_, q.1.2, fun e => ?_⟩
  · show X.env.scope.names.lookup x = some .globalImplicit
    rw [hX.s]; exact q.1.1
  · have z := q.2
    rw [e] at z
    simp at z
end

/-! ### tests -/
def tTru (f : M PyData) : M Bool := f.bind fun d => match d with
  | .bool b => M.pure b
  | _ => fun _ => .bad
def tAndM (a b : M Bool) : M Bool := a.bind fun x => if x then b else M.pure false
def tOrM (a b : M Bool) : M Bool := a.bind fun x => if x then M.pure true else b
def tNotM (a : M Bool) : M Bool := a.bind fun x => M.pure (!x)
def eIf (t : M Bool) (a b : M PyData) : M PyData := t.bind fun x => if x then a else b
def eTst (t : M Bool) : M PyData := t.bind fun x => M.pure (.bool x)
def eAndV (a b : M PyData) : M PyData := a.bind fun d => match d with
  | .bool true => b
  | .bool false => M.pure (.bool false)
  | _ => fun _ => .bad
def eOrV (a b : M PyData) : M PyData := a.bind fun d => match d with
  | .bool true => M.pure (.bool true)
  | .bool false => b
  | _ => fun _ => .bad
def eNotV (a : M PyData) : M PyData := a.bind fun d => match d with
  | .bool b => M.pure (.bool (!b))
  | _ => fun _ => .bad
section
variable {J : Jc} {T T1 T2 T3 : List Tag}
theorem ct_ok {α : Type} {B : Bd} {F : AS} {O : OF} {H : Hp} {ρ : Env} {σ : L2.St} {C : α → AS → OF → Hp → Prop} {a : α} (S : St J.X.K B T ρ σ F O H) (h : Post J B T σ F O H C (M.pure a ρ)) : C a F O H := h F O H Ext.refl S
theorem Post.rebase {B : Bd} {τ : Tag} {Q : VK} {σ : L2.St} {F F1 : AS} {O O1 : OF} {H H1 : Hp} {r : Res PyData} (h : Post J B T σ F1 O1 H1 (CE J B τ Q O H) r) (e : Ext F O H F1 O1 H1) : Post J B T σ F1 O1 H1 (CE J B τ Q O1 H1) r := by
  cases r with
  | ok d ρ =>
    intro F' O' H' e' s v P vr l b
    refine h F' O' H' e' s v P vr l fun a p => ?_
    rcases b a p with z | z
    · exact e.o a z
    · exact .inr (Classical.byContradiction fun y => e.al a y z)
  | exc x ρ => exact h
  | bad => exact h
/-- an owned value is frozen -/
theorem se_freeze {e : Expr} {κ : Kind} {f : M PyData} (h : SE J e (.ow κ) T T1 f) (hf : κ.Frz) : SE J e .fz T T1 f := by
  obtain ⟨t, p, c⟩ := h
  refine ⟨t, p, fun B ρ σ F O H Q S q => c B ρ σ F O H Q S ?_⟩
  cases z : f ρ with
  | exc x ρ' => rw [z] at q; exact q
  | bad => rw [z] at q; exact q
  | ok d ρ' =>
    rw [z] at q
    intro F' O' H' e S' v P vr l b
    have g : Keep F' H' (fun a => F' a ∨ P a) H' := ⟨fun _ => .inl, fun _ _ _ h => h, fun _ _ h => h⟩
    refine ce_fz (q (fun a => F' a ∨ P a) O' H' ⟨fun a f => .inl (e.f a f), e.h, e.o, fun a f => ?_, e.al, e.t⟩ ?_) (hf vr)
    · rcases f with f | f
      · exact e.fn a f
      · exact .inr (b a f)
    · exact ⟨fun i τ h => (S'.sl i τ h).imp id fun ⟨w, e1, r⟩ => ⟨w, e1, r.keep g fun _ _ _ h => h⟩, S'.own, fun a f => f.elim (S'.fo a) fun p => (l a p).2.1, fun a f => f.elim (S'.fh a) fun p => (l a p).2.2.1, S'.oh, S'.fr, S'.al, S'.tu,
        fun a f => .inl (S'.f0 a f), fun a f => f.elim (S'.f1 a) fun p => .inr (l a p).2.2.2, S'.ios, S'.lenT, S'.lenR⟩
theorem st_val {e : Expr} {f : M PyData} (h : SE J e .fz T T1 f) (he : ∀ whole, isTrue e J.X.env whole = (do let v ← whole; standAt e.pos; holding [v] (truthy v))) : ST J e T T1 (tTru f) := by
  obtain ⟨t, p, c⟩ := h
  refine ⟨_, pt_val p he, fun B ρ σ F O H Q S q => ?_⟩
  refine c B ρ σ F O H _ S (Post.bind q fun d ρ1 F1 O1 H1 _ e1 S1 q1 => fun v P vr l _ => ?_)
  cases d <;> try exact q1.elim
  exact ⟨_, vr.1.boolS, ct_ok S1 q1⟩
theorem tst_core {E a b : Expr} {r : R2} {f : PyData → PyData → Option PyData} {fa fb : M PyData} (hE : ∀ ta tb, PE J.X a ta → PE J.X b tb → PT J.X E (tBinT r ta tb)) (hf : OpS2 J.X.K r f)
    (ha : SE J a .fz T T1 fa) (hb : SEb J b T1 T2 fb) : ST J E T T2 (tTru (eOp2 f fa fb)) := by
  obtain ⟨ta, pa, ca⟩ := ha
  obtain ⟨tb, pb, cb⟩ := hb
  refine ⟨_, hE ta tb pa pb, fun B ρ σ F O H Q S q => ?_⟩
  have q : Post J B T2 σ F O H (fun b _ _ H1 => Q b H1) ((fa ρ).bind fun x => ((fb.bind fun y => ofO (f x y)).bind fun d => match d with | .bool b => M.pure b | _ => fun _ => .bad)) := by
    have z : (tTru (eOp2 f fa fb)) ρ = (fa ρ).bind fun x => ((fb.bind fun y => ofO (f x y)).bind fun d => match d with | .bool b => M.pure b | _ => fun _ => .bad) := by
      unfold tTru eOp2 M.bind
      cases fa ρ <;> rfl
    rw [z] at q; exact q
  refine ca B ρ σ F O H _ S (Post.bind q fun d ρ1 F1 O1 H1 _ e1 S1 q1 => fun v P vr l _ => ?_)
  have q1 : Post J B T2 σ F1 O1 H1 (fun b _ _ H1 => Q b H1) ((fb ρ1).bind fun y => (ofO (f d y)).bind fun d => match d with | .bool b => M.pure b | _ => fun _ => .bad) := by
    have z : ((fb.bind fun y => ofO (f d y)).bind fun d => match d with | .bool b => M.pure b | _ => fun _ => .bad) ρ1 = (fb ρ1).bind fun y => (ofO (f d y)).bind fun d => match d with | .bool b => M.pure b | _ => fun _ => .bad := by
      unfold M.bind
      cases fb ρ1 <;> rfl
    rw [z] at q1; exact q1
  refine cb B ρ1 σ F1 O1 H1 _ S1 (Post.bind q1 fun d2 ρ2 F2 O2 H2 _ e2 S2 q2 => fun w rw2 => ?_)
  have r1 := R.keep (e2.keep S1.fo) d v vr.1
  cases z : f d d2 with
  | none =>
    unfold M.bind ofO at q2
    rw [z] at q2
    exact q2.elim
  | some c =>
    unfold M.bind ofO at q2
    rw [z] at q2
    refine hf F2 H2 d d2 v w c _ r1.rs rw2 z fun u F' H' g r => ?_
    cases c <;> try exact q2.elim
    exact ⟨_, r.boolS, q2 F' O2 H' (S2.ext g) (S2.grow g)⟩
theorem tst_coreL {E b : Expr} {x : Str} {p : Pos} {i : Nat} {τ : Tag} {r : R2} {f : PyData → PyData → Option PyData} {fb : M PyData} (hE : ∀ ta tb, PE J.X (.Name x p) ta → PE J.X b tb → PT J.X E (tBinT r ta tb)) (hf : OpS2 J.X.K r f)
    (ha : PE J.X (.Name x p) (tVar i)) (hT : T[i]? = some τ) (hb : SEb J b T T1 fb) (hT1 : T1[i]? = some τ) (hs : τ.shr) : ST J E T T1 (tTru (eSlot i f fb)) := by
  obtain ⟨tb, pb, cb⟩ := hb
  refine ⟨_, hE _ tb ha pb, fun B ρ σ F O H Q S q => ?_⟩
  obtain ⟨v, e0, _⟩ := S.shr hT hs
  refine ⟨v, e0, ?_⟩
  have q : Post J B T1 σ F O H (fun b _ _ H1 => Q b H1) ((fb ρ).bind fun y => fun ρ => (ofO (f (get ρ i) y) ρ).bind fun d => match d with | .bool b => M.pure b | _ => fun _ => .bad) := by
    have z : (tTru (eSlot i f fb)) ρ = ((fb ρ).bind fun y => fun ρ => (ofO (f (get ρ i) y) ρ).bind fun d => match d with | .bool b => M.pure b | _ => fun _ => .bad) := by
      unfold tTru eSlot M.bind
      cases fb ρ <;> rfl
    rw [z] at q; exact q
  refine cb B ρ σ F O H _ S (Post.bind q fun d2 ρ2 F2 O2 H2 _ e2 S2 q2 => fun w rw2 => ?_)
  obtain ⟨v', e1, r1⟩ := S2.shr hT1 hs
  rw [e0] at e1; cases e1
  cases z : f (get ρ2 i) d2 with
  | none =>
    unfold ofO at q2
    rw [z] at q2
    exact q2.elim
  | some c =>
    unfold ofO at q2
    rw [z] at q2
    refine hf F2 H2 _ d2 v w c _ r1 rw2 z fun u F' H' g r => ?_
    cases c <;> try exact q2.elim
    exact ⟨_, r.boolS, q2 F' O2 H' (S2.ext g) (S2.grow g)⟩
theorem st_cmp {a b : Expr} {op : CmpOp} {r : R2} {f : PyData → PyData → Option PyData} {fa fb : M PyData} {pos : Pos} (ho : OpR J.X (compareOp op) r) (hf : OpS2 J.X.K r f)
    (ha : SE J a .fz T T1 fa) (hb : SEb J b T1 T2 fb) (hm : behindInMarks op b = false) : ST J (.Compare a [op] [b] pos) T T2 (tTru (eOp2 f fa fb)) := tst_core (fun ta tb pa pb => pt_cmpR ho pa pb hm) hf ha hb
theorem st_cmpL {b : Expr} {x : Str} {p : Pos} {i : Nat} {τ : Tag} {op : CmpOp} {r : R2} {f : PyData → PyData → Option PyData} {fb : M PyData} {pos : Pos} (ho : OpR J.X (compareOp op) r) (hf : OpS2 J.X.K r f)
    (ha : PE J.X (.Name x p) (tVar i)) (hT : T[i]? = some τ) (hb : SEb J b T T1 fb) (hT1 : T1[i]? = some τ) (hs : τ.shr) (hm : behindInMarks op b = false) : ST J (.Compare (.Name x p) [op] [b] pos) T T1 (tTru (eSlot i f fb)) := tst_coreL (fun ta tb pa pb => pt_cmpR ho pa pb hm) hf ha hT hb hT1 hs
theorem stw {e : Expr} {f : M Bool} (h : STw J e T T1 f) : ST J e T T1 f := by
  obtain ⟨t, p, c⟩ := h
  exact ⟨t, p.pt, c⟩
theorem st_and1 {a : Expr} {f : M Bool} {pos : Pos} (h : ST J a T T1 f) : STw J (.BoolOp .And [a] pos) T T1 f := by
  obtain ⟨t, p, c⟩ := h
  exact ⟨t, pw_and1 p, c⟩
theorem st_or1 {a : Expr} {f : M Bool} {pos : Pos} (h : ST J a T T1 f) : STw J (.BoolOp .Or [a] pos) T T1 f := by
  obtain ⟨t, p, c⟩ := h
  exact ⟨t, pw_or1 p, c⟩
theorem st_and {a b : Expr} {rest : List Expr} {fa fb : M Bool} {pos : Pos} (ha : ST J a T T fa) (hb : STw J (.BoolOp .And (b :: rest) pos) T T fb) : STw J (.BoolOp .And (a :: b :: rest) pos) T T (tAndM fa fb) := by
  obtain ⟨ta, pa, ca⟩ := ha
  obtain ⟨tb, pb, cb⟩ := hb
  refine ⟨_, pw_and pa pb, fun B ρ σ F O H Q S q => ?_⟩
  refine ca B ρ σ F O H _ S (Post.bind q fun d ρ1 F1 O1 H1 _ e1 S1 q1 => ?_)
  cases d with
  | true => exact cb B ρ1 σ F1 O1 H1 _ S1 q1
  | false => exact ct_ok S1 q1
theorem st_or {a b : Expr} {rest : List Expr} {fa fb : M Bool} {pos : Pos} (ha : ST J a T T fa) (hb : STw J (.BoolOp .Or (b :: rest) pos) T T fb) : STw J (.BoolOp .Or (a :: b :: rest) pos) T T (tOrM fa fb) := by
  obtain ⟨ta, pa, ca⟩ := ha
  obtain ⟨tb, pb, cb⟩ := hb
  refine ⟨_, pw_or pa pb, fun B ρ σ F O H Q S q => ?_⟩
  refine ca B ρ σ F O H _ S (Post.bind q fun d ρ1 F1 O1 H1 _ e1 S1 q1 => ?_)
  cases d with
  | false => exact cb B ρ1 σ F1 O1 H1 _ S1 q1
  | true => exact ct_ok S1 q1
theorem st_not {a : Expr} {f : M Bool} {pos : Pos} (h : ST J a T T1 f) : ST J (.UnaryOp .Not a pos) T T1 (tNotM f) := by
  obtain ⟨t, p, c⟩ := h
  refine ⟨_, pt_not p, fun B ρ σ F O H Q S q => ?_⟩
  exact c B ρ σ F O H _ S (Post.bind q fun d ρ1 F1 O1 H1 _ e1 S1 q1 => ct_ok S1 q1)
theorem se_if {c a b : Expr} {τ : Tag} {t : M Bool} {fa fb : M PyData} {pos : Pos} (hc : ST J c T T1 t) (ha : SE J a τ T1 T2 fa) (hb : SE J b τ T1 T2 fb) : SE J (.IfExp c a b pos) τ T T2 (eIf t fa fb) := by
  obtain ⟨tc, pc, cc⟩ := hc
  obtain ⟨ta, pa, ca⟩ := ha
  obtain ⟨tb, pb, cb⟩ := hb
  refine ⟨_, pe_ifExp pc pa pb, fun B ρ σ F O H Q S q => ?_⟩
  refine cc B ρ σ F O H _ S (Post.bind q fun d ρ1 F1 O1 H1 _ e1 S1 q1 => ?_)
  cases d with
  | true => exact ca B ρ1 σ F1 O1 H1 _ S1 (q1.rebase e1)
  | false => exact cb B ρ1 σ F1 O1 H1 _ S1 (q1.rebase e1)
theorem se_one {op a pos} {τ : Tag} {f : M PyData} (h : SE J a τ T T1 f) : SE J (.BoolOp op [a] pos) τ T T1 f := by
  obtain ⟨t, p, c⟩ := h
  exact ⟨t, pe_one p, c⟩
theorem se_and {a b : Expr} {rest : List Expr} {fa fb : M PyData} {pos : Pos} (ha : SE J a .fz T T fa) (hb : SE J (.BoolOp .And (b :: rest) pos) .fz T T fb) : SE J (.BoolOp .And (a :: b :: rest) pos) .fz T T (eAndV fa fb) := by
  obtain ⟨ta, pa, ca⟩ := ha
  obtain ⟨tb, pb, cb⟩ := hb
  refine ⟨_, pe_and pa pb, fun B ρ σ F O H Q S q => ?_⟩
  refine ca B ρ σ F O H _ S (Post.bind q fun d ρ1 F1 O1 H1 _ e1 S1 q1 => fun v P vr l _ => ?_)
  cases d <;> try exact q1.elim
  rename_i b _
  refine ⟨b, vr.1.boolS, ?_⟩
  cases b with
  | true => exact cb B ρ1 σ F1 O1 H1 _ S1 (q1.rebase e1)
  | false => exact ce_fz (ct_ok S1 q1) (.bl _)
theorem se_or {a b : Expr} {rest : List Expr} {fa fb : M PyData} {pos : Pos} (ha : SE J a .fz T T fa) (hb : SE J (.BoolOp .Or (b :: rest) pos) .fz T T fb) : SE J (.BoolOp .Or (a :: b :: rest) pos) .fz T T (eOrV fa fb) := by
  obtain ⟨ta, pa, ca⟩ := ha
  obtain ⟨tb, pb, cb⟩ := hb
  refine ⟨_, pe_or pa pb, fun B ρ σ F O H Q S q => ?_⟩
  refine ca B ρ σ F O H _ S (Post.bind q fun d ρ1 F1 O1 H1 _ e1 S1 q1 => fun v P vr l _ => ?_)
  cases d <;> try exact q1.elim
  rename_i b _
  refine ⟨b, vr.1.boolS, ?_⟩
  cases b with
  | false => exact cb B ρ1 σ F1 O1 H1 _ S1 (q1.rebase e1)
  | true => exact ce_fz (ct_ok S1 q1) (.bl _)
theorem se_not {a : Expr} {fa : M PyData} {pos : Pos} (ha : SE J a .fz T T1 fa) : SE J (.UnaryOp .Not a pos) .fz T T1 (eNotV fa) := by
  obtain ⟨ta, pa, ca⟩ := ha
  refine ⟨_, pe_not pa, fun B ρ σ F O H Q S q => ?_⟩
  refine ca B ρ σ F O H _ S (Post.bind q fun d ρ1 F1 O1 H1 _ e1 S1 q1 => fun v P vr l _ => ?_)
  cases d <;> try exact q1.elim
  exact ⟨_, vr.1.boolS, ce_fz (ct_ok S1 q1) (.bl _)⟩
def negD : PyData → Option PyData
  | .int i => some (.int (-i))
  | _ => none
theorem se_neg {a : Expr} {fa : M PyData} {pos : Pos} (ha : SE J a .fz T T1 fa) : SE J (.UnaryOp .USub a pos) .fz T T1 (eOp1 negD fa) := by
  obtain ⟨ta, pa, ca⟩ := ha
  refine ⟨_, pe_un un_neg pa, fun B ρ σ F O H Q S q => ?_⟩
  refine ca B ρ σ F O H _ S (Post.bind q fun d ρ1 F1 O1 H1 _ e1 S1 q1 => fun v P vr l _ => ?_)
  cases d <;> try exact q1.elim
  exact ⟨_, vr.1.intS, post_some S1 rfl q1 .refl (.int _)⟩
/-- a < b < c -/
def eChain (f f' : PyData → PyData → Option PyData) (a b c : M PyData) : M PyData := a.bind fun x => b.bind fun y => (ofO (f x y)).bind fun r => match r with
  | .bool true => c.bind fun z => ofO (f' y z)
  | .bool false => M.pure (.bool false)
  | _ => fun _ => .bad
theorem se_chain {a b c : Expr} {op op' : CmpOp} {r r' : R2} {f f' : PyData → PyData → Option PyData} {fa fb fc : M PyData} {pos : Pos} (ho : OpR J.X (compareOp op) r) (hf : OpS2 J.X.K r f) (ho' : OpR J.X (compareOp op') r') (hf' : OpS2 J.X.K r' f')
    (ha : SE J a .fz T T fa) (hb : SE J b .fz T T fb) (hc : SE J c .fz T T fc) (hm : lastMarks [op, op'] [b, c] = false) : SE J (.Compare a [op, op'] [b, c] pos) .fz T T (eChain f f' fa fb fc) := by
  obtain ⟨ta, pa, ca⟩ := ha
  obtain ⟨tb, pb, cb⟩ := hb
  obtain ⟨tc, pc, cc⟩ := hc
  refine ⟨_, pe_chain ho ho' pa pb pc hm, fun B ρ σ F O H Q S q => ?_⟩
  refine ca B ρ σ F O H _ S (Post.bind q fun d ρ1 F1 O1 H1 _ e1 S1 q1 => fun v P vr l _ => ?_)
  refine cb B ρ1 σ F1 O1 H1 _ S1 (Post.bind q1 fun d2 ρ2 F2 O2 H2 _ e2 S2 q2 => fun w P2 vr2 l2 _ => ?_)
  have r1 := R.keep (e2.keep S1.fo) d v vr.1
  cases z : f d d2 with
  | none =>
    unfold M.bind ofO at q2
    rw [z] at q2
    exact q2.elim
  | some b =>
    unfold M.bind ofO at q2
    rw [z] at q2
    refine hf F2 H2 d d2 v w b _ r1.rs vr2.1.rs z fun u F' H' g r => ?_
    have S3 := S2.grow g
    have q3 := Post.ext q2 (S2.ext g)
    have r2 := R.keep g.keep d2 w vr2.1
    cases b <;> try exact q2.elim
    rename_i b
    refine ⟨b, r.boolS, ?_⟩
    cases b with
    | false => exact ce_fz (ct_ok S3 q3) (.bl _)
    | true =>
      refine cc B ρ2 σ F' O2 H' _ S3 (Post.bind q3 fun d3 ρ4 F4 O4 H4 _ e4 S4 q4 => fun x P4 vr4 l4 _ => ?_)
      have r3 := R.keep (e4.keep S3.fo) d2 w r2
      cases z4 : f' d2 d3 with
      | none => rw [z4] at q4; exact q4.elim
      | some c => exact hf' F4 H4 d2 d3 w x c Q r3.rs vr4.1.rs z4 fun u F' H' g r => post_some S4 z4 q4 g r
theorem st_chain {a b c : Expr} {op op' : CmpOp} {r r' : R2} {f f' : PyData → PyData → Option PyData} {fa fb fc : M PyData} {pos : Pos} (ho : OpR J.X (compareOp op) r) (hf : OpS2 J.X.K r f) (ho' : OpR J.X (compareOp op') r') (hf' : OpS2 J.X.K r' f')
    (ha : SE J a .fz T T fa) (hb : SE J b .fz T T fb) (hc : SE J c .fz T T fc) (hm : lastMarks [op, op'] [b, c] = false) : ST J (.Compare a [op, op'] [b, c] pos) T T (tTru (eChain f f' fa fb fc)) := by
  obtain ⟨t, p, c'⟩ := se_chain (pos := pos) ho hf ho' hf' ha hb hc hm
  obtain ⟨ta, pa, ca⟩ := ha
  obtain ⟨tb, pb, cb⟩ := hb
  obtain ⟨tc, pc, cc⟩ := hc
  -- by values again
  refine ⟨_, pt_chain ho ho' pa pb pc hm, fun B ρ σ F O H Q S q => ?_⟩
  have key : ∀ Q' : VK, Post J B T σ F O H (CE J B .fz Q' O H) (eChain f f' fa fb fc ρ) → tChain r r' ta tb tc σ H Q' := by
    intro Q' q
    refine ca B ρ σ F O H _ S (Post.bind q fun d ρ1 F1 O1 H1 _ e1 S1 q1 => fun v P vr l _ => ?_)
    refine cb B ρ1 σ F1 O1 H1 _ S1 (Post.bind q1 fun d2 ρ2 F2 O2 H2 _ e2 S2 q2 => fun w P2 vr2 l2 _ => ?_)
    have r1 := R.keep (e2.keep S1.fo) d v vr.1
    cases z : f d d2 with
    | none =>
      unfold M.bind ofO at q2
      rw [z] at q2
      exact q2.elim
    | some b =>
      unfold M.bind ofO at q2
      rw [z] at q2
      refine hf F2 H2 d d2 v w b _ r1.rs vr2.1.rs z fun u F' H' g r => ?_
      have S3 := S2.grow g
      have q3 := Post.ext q2 (S2.ext g)
      have r2 := R.keep g.keep d2 w vr2.1
      cases b <;> try exact q2.elim
      rename_i b
      refine ⟨b, r.boolS, ?_⟩
      cases b with
      | false => exact ce_fz (ct_ok S3 q3) (.bl _)
      | true =>
        refine cc B ρ2 σ F' O2 H' _ S3 (Post.bind q3 fun d3 ρ4 F4 O4 H4 _ e4 S4 q4 => fun x P4 vr4 l4 _ => ?_)
        have r3 := R.keep (e4.keep S3.fo) d2 w r2
        cases z4 : f' d2 d3 with
        | none => rw [z4] at q4; exact q4.elim
        | some c => exact hf' F4 H4 d2 d3 w x c Q' r3.rs vr4.1.rs z4 fun u F' H' g r => post_some S4 z4 q4 g r
  refine key _ ?_
  unfold tTru M.bind at q
  cases z : eChain f f' fa fb fc ρ with
  | ok d ρ' =>
    rw [z] at q
    intro F' O' H' e' S' v P vr l _
    have q : Post J B T σ F O H (fun b _ _ H1 => Q b H1) ((match d with | .bool b => M.pure b | _ => fun _ => .bad) ρ') := q
    cases d <;> try exact q.elim
    exact ⟨_, vr.1.boolS, q F' O' H' e' S'⟩
  | exc x ρ' => rw [z] at q; exact q
  | bad => rw [z] at q; exact q.elim

/-! ### arguments, displays -/
def aNil : M (List PyData) := M.pure []
def aCons (a : M PyData) (b : M (List PyData)) : M (List PyData) := a.bind fun d => b.bind fun ds => M.pure (d :: ds)
def aLend (b : M (List PyData)) : M (List PyData) := b.bind fun ds => M.pure (.none :: ds)
def isStar : Expr → Bool
  | .Starred .. => true
  | _ => false
theorem starEach_cons {e : Expr} {es : List Expr} {env : PySem.Env} (h : isStar e = false) : starEach (e :: es) env = (false, eval e env) :: starEach es env := by
  cases e <;> first | rfl | (simp [isStar] at h)
theorem sa_nil : SA J [] [] T T aNil := ⟨_, pa_nil, fun B ρ σ F O H Q S q => ct_ok S q [] .nil⟩
theorem ArgsOk.keep {K : PySem.W.Frag} {F F' : AS} {H H' : Hp} {σ : L2.St} (k : Keep F H F' H') : ∀ {ms ds vs}, ArgsOk K F H σ ms ds vs → ArgsOk K F' H' σ ms ds vs
  | _, _, _, .nil => .nil
  | _, _, _, .val r q => .val (R.keep k _ _ r) (ArgsOk.keep k q)
  | _, _, _, .lend e q => .lend e (ArgsOk.keep k q)
theorem sa_cons {e : Expr} {es : List Expr} {ms : List Md} {fa : M PyData} {fb : M (List PyData)} (ha : SE J e .fz T T1 fa) (hb : SA J es ms T1 T2 fb) (hs : isStar e = false) : SA J (e :: es) (.val :: ms) T T2 (aCons fa fb) := by
  obtain ⟨ta, pa, ca⟩ := ha
  obtain ⟨tb, pb, cb⟩ := hb
  refine ⟨_, pa_cons pa pb (starEach_cons hs), fun B ρ σ F O H Q S q => ?_⟩
  refine ca B ρ σ F O H _ S (Post.bind q fun d ρ1 F1 O1 H1 _ e1 S1 q1 => fun v P vr l _ => ?_)
  refine cb B ρ1 σ F1 O1 H1 _ S1 (Post.bind q1 fun ds ρ2 F2 O2 H2 _ e2 S2 q2 => fun vs ok => ?_)
  exact ct_ok S2 q2 (v :: vs) (.val (R.keep (e2.keep S1.fo) d v vr.1) ok)
theorem sa_lend {i : Nat} {x : Str} {pos : Pos} {κ : Kind} {es : List Expr} {ms : List Md} {fb : M (List PyData)} (h : PE J.X (.Name x pos) (tVar i)) (hT : T[i]? = some (.ow κ) ∨ T[i]? = some (.io κ)) (hb : SA J es ms T T2 fb) :
    SA J (.Name x pos :: es) (.lend i :: ms) T T2 (aLend fb) := by
  obtain ⟨tb, pb, cb⟩ := hb
  refine ⟨_, pa_cons h pb (starEach_cons rfl), fun B ρ σ F O H Q S q => ?_⟩
  obtain ⟨v, hv⟩ : ∃ v, σ[i]? = some (some v) := by
    rcases hT with hT | hT <;> (rcases S.sl i _ hT with z | ⟨v, e, r⟩; cases z; exact ⟨v, e⟩)
  refine ⟨v, hv, ?_⟩
  refine cb B ρ σ F O H _ S (Post.bind q fun ds ρ2 F2 O2 H2 _ e2 S2 q2 => fun vs ok => ?_)
  exact ct_ok S2 q2 (v :: vs) (.lend hv ok)
theorem ArgsOk.all {K : PySem.W.Frag} {F : AS} {H : Hp} {σ : L2.St} : ∀ {n : Nat} {ds vs}, ArgsOk K F H σ (List.replicate n .val) ds vs → RAll K F H ds vs
  | 0, _, _, .nil => .nil
  | n + 1, _, _, .val r q => .cons r (ArgsOk.all (n := n) q)
/-- a new address is new from the start on -/
theorem hne {F F1 : AS} {O O1 : OF} {H H1 : Hp} (e : Ext F O H F1 O1 H1) {p : Addr} (hp : H1 p = none) : H p = none :=
  Classical.byContradiction fun z => e.al p z hp
/-- a display -/
def eTup (f : M (List PyData)) : M PyData := f.bind fun ds => if lenOk ds.length then M.pure (.tuple ds) else fun _ => .bad
def eLst (f : M (List PyData)) : M PyData := f.bind fun ds => if lenOk ds.length then M.pure (.list ds) else fun _ => .bad
theorem se_tup {es : List Expr} {n : Nat} {f : M (List PyData)} {x1 pos} (h : SA J es (List.replicate n .val) T T1 f) : SE J (.Tuple es x1 pos) .fz T T1 (eTup f) := by
  obtain ⟨t, p, c⟩ := h
  refine ⟨_, pe_tup p, fun B ρ σ F O H Q S q => ?_⟩
  refine c B ρ σ F O H _ S (Post.bind q fun ds ρ1 F1 O1 H1 _ e1 S1 q1 => fun vs ok => ?_)
  have r := ok.all
  by_cases z : lenOk ds.length = true
  · simp only [z, if_true] at q1
    refine ⟨by rw [← r.length]; exact lenOk_line z, fun p hp => ?_⟩
    exact ce_fz (q1 _ _ _ (S1.ext (.newL hp)) (S1.grow (.newL hp))) (R.newT r hp)
  · simp only [z] at q1
    exact q1.elim
theorem se_lst {es : List Expr} {n : Nat} {f : M (List PyData)} {pos} (h : SA J es (List.replicate n .val) T T1 f) : SE J (.List es pos) .fz T T1 (eLst f) := by
  obtain ⟨t, p, c⟩ := h
  refine ⟨_, pe_lst p, fun B ρ σ F O H Q S q => ?_⟩
  refine c B ρ σ F O H _ S (Post.bind q fun ds ρ1 F1 O1 H1 _ e1 S1 q1 => fun vs ok => ?_)
  have r := ok.all
  by_cases z : lenOk ds.length = true
  · simp only [z, if_true] at q1
    refine ⟨by rw [← r.length]; exact lenOk_line z, fun p hp => ?_⟩
    exact ce_fz (q1 _ _ _ (S1.ext (.new hp)) (S1.grow (.new hp))) (R.newL r hp)
  · simp only [z] at q1
    exact q1.elim
/-- a display that its name alone will hold -/
theorem se_lstO {es : List Expr} {n : Nat} {f : M (List PyData)} {pos} (h : SA J es (List.replicate n .val) T T1 f) : SE J (.List es pos) (.ow OL) T T1 (eLst f) := by
  obtain ⟨t, p, c⟩ := h
  refine ⟨_, pe_lst p, fun B ρ σ F O H Q S q => ?_⟩
  refine c B ρ σ F O H _ S (Post.bind q fun ds ρ1 F1 O1 H1 _ e1 S1 q1 => fun vs ok => ?_)
  have r := ok.all
  by_cases z : lenOk ds.length = true
  · simp only [z, if_true] at q1
    refine ⟨by rw [← r.length]; exact lenOk_line z, fun p hp => ?_⟩
    exact q1 _ _ _ (S1.ext (.newL hp)) (S1.grow (.newL hp)) (.ref p) (fun a => a = p) ⟨p, vs, ds, rfl, rfl, upd_same, RAll.keep (Grow.newL hp).keep _ _ r, fun b => Iff.rfl⟩ (S1.loose hp) fun a e => .inr (by subst e; exact hne e1 hp)
  · simp only [z] at q1
    exact q1.elim
end
end DL

/-! D6: statements. -/
namespace DL
open PySem PySem.Spec PyProof.Rows L2

def Tag.isIo : Tag → Bool
  | .io _ => true
  | _ => false
theorem get_set_self {ρ : Env} {i : Nat} {d : PyData} (h : i < ρ.length) : get (ρ.set i d) i = d := by
  unfold get; simp [List.getD, List.getElem?_set_self h]
theorem get_set_ne {ρ : Env} {i j : Nat} {d : PyData} (h : i ≠ j) : get (ρ.set i d) j = get ρ j := by
  unfold get; simp [List.getD, List.getElem?_set_ne h]
section
variable {K : PySem.W.Frag} {B : Bd} {T : List Tag} {ρ : Env} {σ : L2.St} {F F' : AS} {O : OF} {H H' : Hp}
theorem VR.congr {P P' : AS} {d : PyData} {v : V} {τ : Tag} (h : VR K F H P d v τ) (e : ∀ a, P a ↔ P' a) : VR K F H P' d v τ := by
  have z : P = P' := funext fun a => propext (e a)
  rw [← z]; exact h
/-- a slot is stored -/
noncomputable def ownS (O : OF) (P : AS) (i : Nat) : OF := fun a => open Classical in if P a then some i else if O a = some i then none else O a
theorem ownS_self {P : AS} {i : Nat} (h : ∀ a, P a → O a = none) : ∀ a, ownS O P i a = some i ↔ P a := fun a => by
  unfold ownS
  by_cases p : P a
  · simp [p]
  · by_cases q : O a = some i
    · simp [p, q]
    · simp [p, q]
theorem ownS_ne {P : AS} {i j : Nat} (hij : i ≠ j) (h : ∀ a, P a → O a = none) : ∀ a, ownS O P i a = some j ↔ O a = some j := fun a => by
  unfold ownS
  by_cases p : P a
  · simp only [if_pos p]
    exact ⟨fun e => absurd (Option.some.inj e) hij, fun e => by rw [h a p] at e; cases e⟩
  · by_cases q : O a = some i
    · simp only [if_neg p, if_pos q]
      exact ⟨fun e => (by cases e), fun e => by rw [q] at e; exact absurd (Option.some.inj e) hij⟩
    · simp [p, q]
theorem St.store (S : St K B T ρ σ F O H) {i : Nat} {τ τ0 : Tag} {d : PyData} {v : V} {P : AS} (hi : T[i]? = some τ0) (h0 : τ0.isIo = false) (h1 : τ.isIo = false) (r : VR K F H P d v τ) (l : Loose B F O H P) :
    St K B (T.set i τ) (ρ.set i d) (σ.set i (some v)) F (ownS O P i) H := by
  have lP : ∀ a, P a → O a = none := fun a p => (l a p).2.1
  have iT : i < T.length := (List.getElem?_eq_some_iff.mp hi).1
  have iσ : i < σ.length := by rw [← S.lenT]; exact iT
  have iρ : i < ρ.length := by rw [S.lenR]; exact iσ
  refine ⟨fun j τj e => ?_, fun a j e => ?_, fun a f => ?_, fun a => S.fh a, fun a j e => ?_, S.fr, S.al, S.tu, S.f0, S.f1, fun j κ e => ?_, by simp [S.lenT], by simp [S.lenR]⟩
  · by_cases hij : i = j
    · subst hij
      rw [List.getElem?_set_self iT] at e
      cases e
      refine .inr ⟨v, List.getElem?_set_self iσ, ?_⟩
      rw [get_set_self iρ]
      exact r.congr fun a => (ownS_self lP a).symm
    · rw [List.getElem?_set_ne hij] at e
      refine (S.sl j τj e).imp id fun ⟨w, e1, r1⟩ => ⟨w, by rw [List.getElem?_set_ne hij]; exact e1, ?_⟩
      rw [get_set_ne hij]
      exact r1.congr fun a => (ownS_ne hij lP a).symm
  · by_cases hij : i = j
    · subst hij
      have p := (ownS_self lP a).mp e
      cases τ with
      | un => exact r.elim
      | fz => exact (r.2 a p).elim
      | ow κ => exact .inl ⟨κ, List.getElem?_set_self iT, (l a p).2.2.2⟩
      | io κ => simp [Tag.isIo] at h1
    · rw [List.getElem?_set_ne hij]
      exact S.own a j ((ownS_ne hij lP a).mp e)
  · have np : ¬ P a := fun p => (l a p).1 f
    unfold ownS
    simp [np, S.fo a f]
  · by_cases hij : i = j
    · subst hij
      exact (l a ((ownS_self lP a).mp e)).2.2.1
    · exact S.oh a j ((ownS_ne hij lP a).mp e)
  · by_cases hij : i = j
    · subst hij
      rw [List.getElem?_set_self iT] at e
      cases e
      simp [Tag.isIo] at h1
    · rw [List.getElem?_set_ne hij] at e
      rw [List.getElem?_set_ne hij]
      exact S.ios j κ e
/-- some slots are forgotten -/
def mask (m : List Bool) (T : List Tag) : List Tag := List.zipWith (fun b τ => if b then τ else .un) m T
theorem mask_get {m : List Bool} {T : List Tag} {i : Nat} {τ : Tag} (h : (mask m T)[i]? = some τ) : ∃ b τ', m[i]? = some b ∧ T[i]? = some τ' ∧ τ = if b then τ' else .un := by
  unfold mask at h
  rw [List.getElem?_zipWith] at h
  cases h1 : m[i]? <;> cases h2 : T[i]? <;> simp [h1, h2] at h
  exact ⟨_, _, rfl, rfl, h.symm⟩
theorem St.mask (S : St K B T ρ σ F O H) {m : List Bool} (hm : m.length = T.length) : St K B (mask m T) ρ σ F (fun a => match O a with | some i => if m[i]? = some true then some i else none | none => none) H := by
  have ho : ∀ a j, (match O a with | some i => if m[i]? = some true then some i else none | none => none) = some j ↔ O a = some j ∧ m[j]? = some true := fun a j => by
    cases q : O a with
    | none => simp
    | some i =>
      by_cases z : m[i]? = some true
      · simp only [z, if_true, Option.some.injEq]
        exact ⟨fun e => ⟨e, e ▸ z⟩, fun e => e.1⟩
      · simp only [z, if_false, Option.some.injEq]
        exact ⟨fun e => (by cases e), fun e => absurd (e.1 ▸ e.2) z⟩
  refine ⟨fun i τ e => ?_, fun a i e => ?_, fun a f => ?_, S.fh, fun a i e => ?_, S.fr, S.al, S.tu, S.f0, S.f1, fun i κ e => ?_, ?_, S.lenR⟩
  · obtain ⟨b, τ', h1, h2, rfl⟩ := mask_get e
    cases b with
    | false => exact .inl rfl
    | true =>
      refine (S.sl i τ' h2).imp (fun z => by simpa using z) fun ⟨v, e1, r⟩ => ⟨v, e1, ?_⟩
      refine VR.congr (by simpa using r) fun a => ?_
      rw [ho a i]
      exact ⟨fun e => ⟨e, h1⟩, fun e => e.1⟩
  · obtain ⟨e1, e2⟩ := (ho a i).mp e
    have q : ∀ τ, T[i]? = some τ → (DL.mask m T)[i]? = some τ := fun τ h => by
      unfold DL.mask
      rw [List.getElem?_zipWith, e2, h]; rfl
    rcases S.own a i e1 with ⟨κ, h, z⟩ | ⟨κ, h, z⟩
    · exact .inl ⟨κ, q _ h, z⟩
    · exact .inr ⟨κ, q _ h, z⟩
  · simp only [S.fo a f]
  · exact S.oh a i ((ho a i).mp e).1
  · obtain ⟨b, τ', h1, h2, h3⟩ := mask_get e
    cases b with
    | false => simp at h3
    | true => simp at h3; subst h3; exact S.ios i κ h2
  · unfold DL.mask
    rw [List.length_zipWith, hm, Nat.min_self]; exact S.lenT
/-- an owned thing is frozen -/
noncomputable def dropO (O : OF) (i : Nat) : OF := fun a => open Classical in if O a = some i then none else O a
theorem dropO_ne {i j : Nat} (hij : i ≠ j) (a : Addr) : dropO O i a = some j ↔ O a = some j := by
  unfold dropO
  by_cases q : O a = some i
  · simp only [if_pos q, q, Option.some.injEq]
    exact ⟨fun e => (by cases e), fun e => absurd e hij⟩
  · simp [q]
theorem dropO_self {i : Nat} (a : Addr) : dropO O i a ≠ some i := by
  unfold dropO
  by_cases q : O a = some i
  · simp [q]
  · simp [q]
theorem St.freeze (S : St K B T ρ σ F O H) {i : Nat} {κ : Kind} (hi : T[i]? = some (.ow κ)) (hf : κ.Frz) : St K B (T.set i .fz) ρ σ (fun a => F a ∨ O a = some i) (dropO O i) H ∧ Ext F O H (fun a => F a ∨ O a = some i) (dropO O i) H ∧
    ∃ v, σ[i]? = some (some v) ∧ R K (fun a => F a ∨ O a = some i) H (get ρ i) v := by
  have iT : i < T.length := (List.getElem?_eq_some_iff.mp hi).1
  have hv : ∃ v, σ[i]? = some (some v) ∧ R K (fun a => F a ∨ O a = some i) H (get ρ i) v := by
    rcases S.sl i _ hi with z | ⟨v, e, r⟩
    · cases z
    · exact ⟨v, e, hf r⟩
  have kp : Keep F H (fun a => F a ∨ O a = some i) H := ⟨fun _ => .inl, fun _ _ _ h => h, fun _ _ h => h⟩
  refine ⟨⟨fun j τj e => ?_, fun a j e => ?_, fun a f => ?_, fun a f => ?_, fun a j e => ?_, S.fr, S.al, S.tu, fun a f => .inl (S.f0 a f), fun a f => ?_, fun j κ' e => ?_, by simp [S.lenT], S.lenR⟩, ⟨fun a f => .inl f, fun _ _ h _ => h, fun a e => ?_, fun a f => ?_, fun _ h => h, fun _ _ h => h⟩, hv⟩
  · by_cases hij : i = j
    · subst hij
      rw [List.getElem?_set_self iT] at e
      cases e
      obtain ⟨v, e1, r⟩ := hv
      exact .inr ⟨v, e1, r, fun a => dropO_self a⟩
    · rw [List.getElem?_set_ne hij] at e
      refine (S.sl j τj e).imp id fun ⟨w, e1, r1⟩ => ⟨w, e1, ?_⟩
      exact (r1.keep kp fun _ _ _ h => h).congr fun a => (dropO_ne hij a).symm
  · by_cases hij : i = j
    · subst hij
      exact absurd e (dropO_self a)
    · rw [List.getElem?_set_ne hij]
      exact S.own a j ((dropO_ne hij a).mp e)
  · unfold dropO
    rcases f with f | f
    · simp [S.fo a f]
    · simp [f]
  · rcases f with f | f
    · exact S.fh a f
    · exact S.oh a i f
  · by_cases hij : i = j
    · subst hij
      exact absurd e (dropO_self a)
    · exact S.oh a j ((dropO_ne hij a).mp e)
  · rcases f with f | f
    · exact S.f1 a f
    · rcases S.own a i f with ⟨_, _, z⟩ | ⟨κ', h, _⟩
      · exact .inr z
      · rw [hi] at h; cases h
  · by_cases hij : i = j
    · subst hij
      rw [List.getElem?_set_self iT] at e
      cases e
    · rw [List.getElem?_set_ne hij] at e
      exact S.ios j κ' e
  · refine .inl fun z => ?_
    unfold dropO at e
    rw [z] at e; simp at e
  · rcases f with f | f
    · exact .inl f
    · exact .inr (.inl (by rw [f]; simp))
end

/-! ### statements -/
def sNil : M Fl := M.pure .nx
def sCons (a b : M Fl) : M Fl := a.bind fun r => match r with
  | .nx => b
  | r => M.pure r
def sSet (i : Nat) (f : M PyData) : M Fl := f.bind fun d => fun ρ => .ok .nx (ρ.set i d)
def sExp (f : M PyData) : M Fl := f.bind fun _ => M.pure .nx
def sRet (f : M PyData) : M Fl := f.bind fun d => M.pure (.rt d)
def sIf (t : M Bool) (a b : M Fl) : M Fl := t.bind fun x => if x then a else b
def sCt : M Fl := M.pure .ct
section
variable {J : Jc} {T T1 T2 T3 : List Tag}
theorem sss_nil : SSs J [] T T sNil := ⟨_, pss_nil, fun B ρ σ F O H D S q => q σ F O H (.refl F H) S⟩
theorem sss_cons {st : Stmt} {rest : List Stmt} {fa fb : M Fl} (ha : SS J st T T1 fa) (hb : SSs J rest T1 T2 fb) : SSs J (st :: rest) T T2 (sCons fa fb) := by
  obtain ⟨ta, pa, ca⟩ := ha
  obtain ⟨tb, pb, cb⟩ := hb
  refine ⟨_, pss_cons pa pb, fun B ρ σ F O H D S q => ?_⟩
  refine ca B ρ σ F O H _ S ?_
  have q : PostS J B T2 F H D ((fa ρ).bind fun r => match r with | .nx => fb | r => M.pure r) := q
  cases z : fa ρ with
  | ok r ρ1 =>
    rw [z] at q
    cases r with
    | nx => exact fun σ' F' O' H' k S' => cb B ρ1 σ' F' O' H' D S' (PostS.ext (r := fb ρ1) q k)
    | ct => exact q
    | rt d => exact q
  | exc x ρ1 => rw [z] at q; exact q
  | bad => rw [z] at q; exact q
theorem sss_one {st : Stmt} {fa : M Fl} (ha : SS J st T T1 fa) : SSs J [st] T T1 fa := by
  obtain ⟨ta, pa, ca⟩ := ha
  exact ⟨_, pss_one pa, ca⟩
/-- ghosts: an owned slot is frozen, slots are forgotten; ahead, or at the end -/
theorem sss_frz {st : List Stmt} {f : M Fl} (i : Nat) {κ : Kind} (hi : T[i]? = some (.ow κ)) (hf : κ.Frz) {T0 : List Tag} (e : T.set i .fz = T0) (h : SSs J st T0 T1 f) : SSs J st T T1 f := by
  subst e
  obtain ⟨t, p, c⟩ := h
  refine ⟨t, p, fun B ρ σ F O H D S q => ?_⟩
  obtain ⟨S', E, _⟩ := S.freeze hi hf
  exact c B ρ σ _ _ H D S' (q.ext (E.keep S.fo))
theorem sss_mask {st : List Stmt} {f : M Fl} (m : List Bool) (hm : m.length = T.length) {T0 : List Tag} (e : mask m T = T0) (h : SSs J st T0 T1 f) : SSs J st T T1 f := by
  subst e
  obtain ⟨t, p, c⟩ := h
  exact ⟨t, p, fun B ρ σ F O H D S q => c B ρ σ _ _ H D (S.mask hm) q⟩
theorem ss_frz {st : Stmt} {f : M Fl} (i : Nat) {κ : Kind} (hi : T[i]? = some (.ow κ)) (hf : κ.Frz) {T0 : List Tag} (e : T.set i .fz = T0) (h : SS J st T0 T1 f) : SS J st T T1 f := by
  subst e
  obtain ⟨t, p, c⟩ := h
  refine ⟨t, p, fun B ρ σ F O H D S q => ?_⟩
  obtain ⟨S', E, _⟩ := S.freeze hi hf
  exact c B ρ σ _ _ H D S' (q.ext (E.keep S.fo))
theorem ss_mask {st : Stmt} {f : M Fl} (m : List Bool) (hm : m.length = T.length) {T0 : List Tag} (e : mask m T = T0) (h : SS J st T0 T1 f) : SS J st T T1 f := by
  subst e
  obtain ⟨t, p, c⟩ := h
  exact ⟨t, p, fun B ρ σ F O H D S q => c B ρ σ _ _ H D (S.mask hm) q⟩
theorem PostS.conv {B : Bd} {F : AS} {H : Hp} {D : Ends} {r : Res Fl} (h : PostS J B T2 F H D r) (g : ∀ ρ σ F' O' H', St J.X.K B T1 ρ σ F' O' H' → ∃ F2 O2, Keep F' H' F2 H' ∧ St J.X.K B T2 ρ σ F2 O2 H') : PostS J B T1 F H D r := by
  cases r with
  | ok a ρ' =>
    cases a with
    | nx => exact fun σ' F' O' H' k s => let ⟨F2, O2, k2, s2⟩ := g ρ' σ' F' O' H' s; h σ' F2 O2 H' (k.trans k2) s2
    | ct => exact h
    | rt d => exact h
  | exc x ρ' => exact h
  | bad => exact h
theorem sss_mask_end {st : List Stmt} {f : M Fl} (m : List Bool) (hm : m.length = T1.length) {T2 : List Tag} (e : mask m T1 = T2) (h : SSs J st T T1 f) : SSs J st T T2 f := by
  subst e
  obtain ⟨t, p, c⟩ := h
  exact ⟨t, p, fun B ρ σ F O H D S q => c B ρ σ F O H D S (q.conv fun ρ σ F' O' H' s => ⟨_, _, .refl _ _, s.mask hm⟩)⟩
theorem sss_frz_end {st : List Stmt} {f : M Fl} (i : Nat) {κ : Kind} (hi : T1[i]? = some (.ow κ)) (hf : κ.Frz) {T2 : List Tag} (e : T1.set i .fz = T2) (h : SSs J st T T1 f) : SSs J st T T2 f := by
  subst e
  obtain ⟨t, p, c⟩ := h
  exact ⟨t, p, fun B ρ σ F O H D S q => c B ρ σ F O H D S (q.conv fun ρ σ F' O' H' s => let ⟨S', E, _⟩ := s.freeze hi hf; ⟨_, _, E.keep s.fo, S'⟩)⟩
theorem ss_set {g : GC} {N : List Str} {sc : Scope} {fc : Str → Bool} {k : Nat} {t : Tab} (hX : XOk g J.X N sc fc k) (ht : t.ok N sc fc = true) (i : Nat) {x : Str} {e : Expr} {f : M PyData} {τ τ0 : Tag} {pos pos' : Pos}
    (hi : t.st.contains i = true) (hN : N[i]? = some x) (he : SE J e τ T T1 f) (h0 : T1[i]? = some τ0) (h1 : τ0.isIo = false) (h2 : τ.isIo = false) (e2 : T1.set i τ = T2)
    (hs : swapsWith e (some (.Name x pos')) pos.line J.X.env = pure false) : SS J (.Assign [.Name x pos'] e pos) T T2 (sSet i f) := by
  subst e2
  obtain ⟨te, pe, ce⟩ := he
  obtain ⟨l1, l2⟩ := hX.loc ht hi hN
  refine ⟨_, ps_set (by rw [hX.n]; exact hX.nd) (by rw [hX.n]; exact hN) l1 pe hs l2, fun B ρ σ F O H D S q => ?_⟩
  refine ce B ρ σ F O H _ S (PostS.bind S q fun d ρ1 F1 O1 H1 e1 S1 q1 => fun v P vr l _ => ?_)
  exact q1 _ F1 _ H1 (.refl F1 H1) (S1.store h0 h1 h2 vr l)
theorem ss_exp {e : Expr} {f : M PyData} {τ : Tag} {pos : Pos} (he : SE J e τ T T1 f) (hs : swapsWith e none pos.line J.X.env = pure false) : SS J (.Expr e pos) T T1 (sExp f) := by
  obtain ⟨te, pe, ce⟩ := he
  refine ⟨_, ps_expr pe hs, fun B ρ σ F O H D S q => ?_⟩
  exact ce B ρ σ F O H _ S (PostS.bind S q fun d ρ1 F1 O1 H1 e1 S1 q1 => fun v P vr l _ => q1 σ F1 O1 H1 (.refl F1 H1) S1)
theorem ss_ret {e : Expr} {f : M PyData} {pos : Pos} (m : List Bool) (he : SE J e J.τr T T1 f) (hm : m.length = T1.length) (ht : mask m T1 = J.Tr) : SS J (.Return (some e) pos) T T2 (sRet f) := by
  obtain ⟨te, pe, ce⟩ := he
  refine ⟨_, ps_ret pe, fun B ρ σ F O H D S q => ?_⟩
  refine ce B ρ σ F O H _ S (PostS.bind S q fun d ρ1 F1 O1 H1 e1 S1 q1 => fun v P vr l _ => ?_)
  have S2 := S1.mask hm
  rw [ht] at S2
  refine q1 v σ F1 _ H1 P (.refl F1 H1) S2 vr fun a p => ?_
  obtain ⟨l1, l2, l3, l4⟩ := l a p
  exact ⟨l1, by simp only [l2], l3, l4⟩
theorem ss_if {c : Expr} {a b : List Stmt} {t : M Bool} {fa fb : M Fl} {pos : Pos} (hc : ST J c T T1 t) (ha : SSs J a T1 T2 fa) (hb : SSs J b T1 T2 fb) : SS J (.If c a b pos) T T2 (sIf t fa fb) := by
  obtain ⟨tc, pc, cc⟩ := hc
  obtain ⟨ta, pa, ca⟩ := ha
  obtain ⟨tb, pb, cb⟩ := hb
  refine ⟨_, ps_if pc pa pb, fun B ρ σ F O H D S q => ?_⟩
  refine cc B ρ σ F O H _ S (PostS.bind S q fun d ρ1 F1 O1 H1 e1 S1 q1 => ?_)
  cases d with
  | true => exact ca B ρ1 σ F1 O1 H1 D S1 q1
  | false => exact cb B ρ1 σ F1 O1 H1 D S1 q1
theorem ss_pass {pos : Pos} : SS J (.Pass pos) T T sNil := ⟨_, ps_pass, fun B ρ σ F O H D S q => q σ F O H (.refl F H) S⟩
theorem ss_continue {pos : Pos} (h : T = J.Tc) : SS J (.Continue pos) T T1 sCt := ⟨_, ps_continue, fun B ρ σ F O H D S q => q σ F O H (.refl F H) (h ▸ S)⟩
/-- what is never come to -/
def sBad : M Fl := fun _ => .bad
theorem ss_never {st : Stmt} : SS J st T T1 sBad := ⟨_, ps_never, fun B ρ σ F O H D S q => q⟩
theorem sss_never {st : List Stmt} : SSs J st T T1 sBad := ⟨_, pss_never, fun B ρ σ F O H D S q => q⟩
/-- reading an owned slot as a value freezes it -/
theorem se_varO {i : Nat} {x : Str} {pos : Pos} {κ : Kind} (h : PE J.X (.Name x pos) (tVar i)) (hT : T[i]? = some (Tag.ow κ)) (hf : κ.Frz) (e : T.set i .fz = T1) : SE J (.Name x pos) .fz T T1 (eV i) := by
  subst e
  refine ⟨_, h, fun B ρ σ F O H Q S q => ?_⟩
  obtain ⟨S', E, v, hv, r⟩ := S.freeze hT hf
  exact ⟨v, hv, ce_fz (q _ _ H E S') r⟩
/-- an owned slot is given away -/
theorem se_move {i : Nat} {x : Str} {pos : Pos} {κ : Kind} (h : PE J.X (.Name x pos) (tVar i)) (hT : T[i]? = some (Tag.ow κ)) (e : T.set i .un = T1) : SE J (.Name x pos) (.ow κ) T T1 (eV i) := by
  subst e
  refine ⟨_, h, fun B ρ σ F O H Q S q => ?_⟩
  have iT : i < T.length := (List.getElem?_eq_some_iff.mp hT).1
  rcases S.sl i _ hT with z | ⟨v, e, r⟩
  · cases z
  refine ⟨v, e, ?_⟩
  have S' : St J.X.K B (T.set i .un) ρ σ F (dropO O i) H := by
    refine ⟨fun j τj e => ?_, fun a j e => ?_, fun a f => ?_, S.fh, fun a j e => ?_, S.fr, S.al, S.tu, S.f0, S.f1, fun j κ' e => ?_, by simp [S.lenT], S.lenR⟩
    · by_cases hij : i = j
      · subst hij
        rw [List.getElem?_set_self iT] at e
        cases e
        exact .inl rfl
      · rw [List.getElem?_set_ne hij] at e
        exact (S.sl j τj e).imp id fun ⟨w, e1, r1⟩ => ⟨w, e1, r1.congr fun a => (dropO_ne hij a).symm⟩
    · by_cases hij : i = j
      · subst hij
        exact absurd e (dropO_self a)
      · rw [List.getElem?_set_ne hij]
        exact S.own a j ((dropO_ne hij a).mp e)
    · unfold dropO
      simp [S.fo a f]
    · by_cases hij : i = j
      · subst hij
        exact absurd e (dropO_self a)
      · exact S.oh a j ((dropO_ne hij a).mp e)
    · by_cases hij : i = j
      · subst hij
        rw [List.getElem?_set_self iT] at e
        cases e
      · rw [List.getElem?_set_ne hij] at e
        exact S.ios j κ' e
  have E : Ext F O H F (dropO O i) H := ⟨fun _ h => h, fun _ _ h _ => h, fun a e => .inl fun z => by unfold dropO at e; rw [z] at e; simp at e, fun _ h => .inl h, fun _ h => h, fun _ _ h => h⟩
  refine q F (dropO O i) H E S' v (fun a => O a = some i) r (fun a p => ⟨fun f => ?_, ?_, S.oh a i p, ?_⟩) fun a p => .inl (by rw [show O a = some i from p]; simp)
  · have p : O a = some i := p
    rw [S.fo a f] at p; cases p
  · have p : O a = some i := p
    unfold dropO; simp [p]
  · rcases S.own a i p with ⟨_, _, z⟩ | ⟨κ', h, _⟩
    · exact z
    · rw [hT] at h; cases h
end
end DL

/-! D7: targets, loops. -/
namespace DL
open PySem PySem.Spec PyProof.Rows L2

/-! ### targets -/
abbrev MG := PyData → Env → Option Env
abbrev MGs := List PyData → Env → Option Env
def PostG (J : Jc) (B : Bd) (ts : List Nat) (T' : List Tag) (σ : L2.St) (F : AS) (O : OF) (H : Hp) (Q : L2.St → Hp → Prop) : Option Env → Prop
  | some ρ' => ∀ σ' O', St J.X.K B T' ρ' σ' F O' H → (∀ j : Nat, j ∉ ts → σ'[j]? = σ[j]?) → (∀ a j, O' a = some j → O a = some j) → Q σ' H
  | none => False
/-- a target that a frozen value is stored to -/
def SG (J : Jc) (tg : Expr) (ts : List Nat) (T T' : List Tag) (h : MG) : Prop :=
  ∃ t, PG J.X tg t ∧ ∀ B d v ρ σ F O H Q, St J.X.K B T ρ σ F O H → R J.X.K F H d v → PostG J B ts T' σ F O H Q (h d ρ) → t v σ H Q
def SGs (J : Jc) (tgs : List Expr) (ts : List Nat) (T T' : List Tag) (h : MGs) : Prop :=
  ∃ t, PGs J.X tgs t ∧ ∀ B ds vs ρ σ F O H Q, St J.X.K B T ρ σ F O H → RAll J.X.K F H ds vs → PostG J B ts T' σ F O H Q (h ds ρ) → t vs σ H Q
def gSet (i : Nat) : MG := fun d ρ => some (ρ.set i d)
def gsNil : MGs := fun ds ρ => match ds with
  | [] => some ρ
  | _ => none
def gsCons (a : MG) (b : MGs) : MGs := fun ds ρ => match ds with
  | [] => none
  | d :: r => (a d ρ).bind (b r)
def gTupM (n : Nat) (a : MGs) : MG := fun d ρ => match d with
  | .tuple ds => if ds.length = n then a ds ρ else none
  | _ => none
section
variable {J : Jc} {T T1 T2 T3 : List Tag}
theorem sg_name {g : GC} {N : List Str} {sc : Scope} {fc : Str → Bool} {k : Nat} {t : Tab} (hX : XOk g J.X N sc fc k) (ht : t.ok N sc fc = true) (i : Nat) {x : Str} {τ0 : Tag} {pos : Pos}
    (hi : t.st.contains i = true) (hN : N[i]? = some x) (h0 : T[i]? = some τ0) (h1 : τ0.isIo = false) (e : T.set i .fz = T1) : SG J (.Name x pos) [i] T T1 (gSet i) := by
  subst e
  exact ⟨_, hX.pg ht i hi hN, fun B d v ρ σ F O H Q S r q => q _ _ (S.store (P := fun _ => False) h0 h1 rfl ⟨r, fun _ z => z⟩ Loose.none) (fun j hj => List.getElem?_set_ne (by simpa using Ne.symm (by simpa using hj))) fun a j e => by
    unfold ownS at e
    simp only [if_false] at e
    split at e
    · cases e
    · exact e⟩
theorem sgs_nil : SGs J [] [] T T gsNil := ⟨_, pgs_nil, fun B ds vs ρ σ F O H Q S r q => by
  cases r with
  | nil => exact ⟨rfl, q σ O S (fun _ _ => rfl) fun _ _ e => e⟩
  | cons a b => exact q.elim⟩
theorem sgs_cons {e : Expr} {es : List Expr} {ts us : List Nat} {a : MG} {b : MGs} (ha : SG J e ts T T1 a) (hb : SGs J es us T1 T2 b)
    (hs : (assignEach (e :: es) J.X.env).map (·.2) = assign e J.X.env :: (assignEach es J.X.env).map (·.2)) : SGs J (e :: es) (ts ++ us) T T2 (gsCons a b) := by
  obtain ⟨ta, pa, ca⟩ := ha
  obtain ⟨tb, pb, cb⟩ := hb
  refine ⟨_, pgs_cons pa pb hs, fun B ds vs ρ σ F O H Q S r q => ?_⟩
  cases r with
  | nil => exact q.elim
  | @cons d v ds vs r1 r2 =>
    refine ⟨v, vs, rfl, ca B d v ρ σ F O H _ S r1 ?_⟩
    have q : PostG J B (ts ++ us) T2 σ F O H Q ((a d ρ).bind (b ds)) := q
    cases z : a d ρ with
    | some ρ1 => rw [z] at q; exact fun σ' O' S' e1 o1 => cb B ds vs ρ1 σ' F O' H Q S' r2 (by
          cases zb : b ds ρ1 with
          | none => rw [show (some ρ1).bind (b ds) = b ds ρ1 from rfl, zb] at q; exact q
          | some ρ2 =>
            rw [show (some ρ1).bind (b ds) = b ds ρ1 from rfl, zb] at q
            exact fun σ2 O2 S2 e2 o2 => q σ2 O2 S2 (fun j hj => by
              simp only [List.mem_append, not_or] at hj
              rw [e2 j hj.2, e1 j hj.1]) fun a j e => o1 a j (o2 a j e))
    | none => rw [z] at q; exact q
theorem sg_tup {es : List Expr} {k n : Nat} {ts : List Nat} {pos : Pos} {a : MGs} (hc : J.X.calm = true) (h : SGs J es ts T T1 a) (hn : (assignEach es J.X.env).length = n) (hst : (assignEach es J.X.env).findIdx? (·.1) = none) : SG J (.Tuple es k pos) ts T T1 (gTupM n a) := by
  obtain ⟨t, p, c⟩ := h
  refine ⟨_, pg_tup hc p hn hst, fun B d v ρ σ F O H Q S r q => ?_⟩
  cases d <;> try exact q.elim
  rename_i ds
  obtain ⟨ad, xs, rfl, hs, ra⟩ := r.tupleS
  unfold gTupM at q
  by_cases z : ds.length = n
  · simp only [z, if_true] at q
    exact ⟨ad, xs, rfl, hs, by rw [← ra.length]; exact z, c B ds xs ρ σ F O H Q S ra q⟩
  · simp only [z, if_false] at q
    exact q.elim

/-! ### what is walked -/
structure WalkD (K : PySem.W.Frag) (It : L2.It) (ds : List PyData) (F : AS) (H : Hp) : Prop where
  go : ∀ i F' H', i < ds.length → Keep F H F' H' → It.go i H'
  yld : ∀ i F' H' x H'', i < ds.length → Keep F H F' H' → It.yld i H' x H'' → ∃ F'', Grow F' H' F'' H'' ∧ ∃ d, ds[i]? = some d ∧ R K F'' H'' d x
  stop : ∀ F' H', Keep F H F' H' → It.stop ds.length H'
theorem WalkD.keep {K : PySem.W.Frag} {It : L2.It} {ds : List PyData} {F F1 : AS} {H H1 : Hp} (w : WalkD K It ds F H) (k : Keep F H F1 H1) : WalkD K It ds F1 H1 :=
  ⟨fun i F' H' h k' => w.go i F' H' h (k.trans k'), fun i F' H' x H'' h k' => w.yld i F' H' x H'' h (k.trans k'), fun F' H' k' => w.stop F' H' (k.trans k')⟩
def SI (J : Jc) (tg iter : Expr) (T T' : List Tag) (f : M (List PyData)) : Prop :=
  ∃ wi, PI J.X tg iter wi ∧ ∀ B ρ σ F O H Q, St J.X.K B T ρ σ F O H → Post J B T' σ F O H (fun ds F1 _ H1 => ∀ It, WalkD J.X.K It ds F1 H1 → Q It H1) (f ρ) → wi σ H Q

def forL (tg : MG) (body : M Fl) : List PyData → M Fl
  | [] => M.pure .nx
  | d :: ds => fun ρ => match tg d ρ with
    | none => .bad
    | some ρ1 => (body ρ1).bind fun r => match r with
      | .rt x => M.pure (.rt x)
      | _ => forL tg body ds
def sFor (f : M (List PyData)) (tg : MG) (body : M Fl) : M Fl := f.bind fun ds => forL tg body ds
def whileN (c : M Bool) (b : M Fl) : Nat → M Fl
  | 0 => fun _ => .bad
  | n + 1 => c.bind fun t => if t then b.bind fun r => match r with
    | .rt x => M.pure (.rt x)
    | _ => whileN c b n
    else M.pure .nx
/-- how many turns a while may take in a mirror -/
@[irreducible] def fuel : Nat := 1000000000
def sWhile (c : M Bool) (b : M Fl) : M Fl := whileN c b fuel
theorem ss_for {g : GC} {N : List Str} {sc : Scope} {fc : Str → Bool} {k : Nat} (hX : XOk g J.X N sc fc k) (hp : PassesOwn (model J.X.prog J.X.w) J.X.A J.X.env J.X.xe) {tg iter : Expr} {body : List Stmt} {f : M (List PyData)} {h : MG} {b : M Fl} {ts : List Nat} {pos : Pos} (hi : SI J tg iter T T1 f)
    (hg : SG J tg ts T1 T2 h) (hb : SSs { J with Tc := T1 } body T2 T1 b) (hs : ∀ x, foldedSetIterable iter J.X.env x = pure x) : SS J (.For tg iter body [] pos) T T1 (sFor f h b) := by
  obtain ⟨wi, pi, ci⟩ := hi
  obtain ⟨tg', pg, cg⟩ := hg
  obtain ⟨tb, pb, cb⟩ := hb
  refine ⟨_, ps_for hp hX.c pi pg pb hs, fun B ρ σ F O H D S q => ?_⟩
  refine ci B ρ σ F O H _ S (PostS.bind S q fun ds ρ1 F1 O1 H1 e1 S1 q1 => fun It w => ?_)
  refine ⟨fun i m σ' H' => ∃ ρ' F' O', Keep F1 H1 F' H' ∧ St J.X.K B T1 ρ' σ' F' O' H' ∧ i ≤ ds.length ∧ m = ds.length - i ∧ PostS J B T1 F' H' D (forL h b (ds.drop i) ρ'),
    ⟨ds.length, ρ1, F1, O1, .refl F1 H1, S1, Nat.zero_le _, rfl, q1⟩, fun i m σ' H' hW => ?_⟩
  obtain ⟨ρ', F', O', k', S', hi, rfl, q'⟩ := hW
  by_cases hlt : i < ds.length
  · refine .inr ⟨w.go i F' H' hlt k', fun σ'' H'' => ∃ ρ'' F'' O'', Keep F1 H1 F'' H'' ∧ St J.X.K B T1 ρ'' σ'' F'' O'' H'' ∧ PostS J B T1 F'' H'' D (forL h b (ds.drop (i + 1)) ρ''), fun σ'' H'' hN => ?_, fun x H'' hy => ?_⟩
    · obtain ⟨ρ'', F'', O'', k'', S'', q''⟩ := hN
      exact ⟨ds.length - (i + 1), by omega, ρ'', F'', O'', k'', S'', hlt, rfl, q''⟩
    · obtain ⟨F2, gr, d, hd, r⟩ := w.yld i F' H' x H'' hlt k' hy
      have S2 := S'.grow gr
      have hdr : ds.drop i = d :: ds.drop (i + 1) := by
        rw [List.drop_eq_getElem_cons hlt]
        have : ds[i] = d := by rw [List.getElem?_eq_getElem hlt] at hd; exact Option.some.inj hd
        rw [this]
      rw [hdr] at q'
      have q2 : PostS J B T1 F2 H'' D (match h d ρ' with | none => .bad | some ρ1 => (b ρ1).bind fun r => match r with | .rt x => M.pure (.rt x) | _ => forL h b (ds.drop (i + 1))) := q'.ext gr.keep
      refine cg B d x ρ' σ' F2 O' H'' _ S2 r ?_
      cases z : h d ρ' with
      | none => rw [z] at q2; exact q2
      | some ρ2 =>
        rw [z] at q2
        refine fun σ3 O3 S3 _ _ => ?_
        refine cb B ρ2 σ3 F2 O3 H'' _ S3 ?_
        have q3 : PostS J B T1 F2 H'' D ((b ρ2).bind fun r => match r with | .rt x => M.pure (.rt x) | _ => forL h b (ds.drop (i + 1))) := q2
        have kk := k'.trans gr.keep
        cases zb : b ρ2 with
        | ok r ρ3 =>
          rw [zb] at q3
          cases r with
          | nx => exact fun σ4 F4 O4 H4 k4 S4 => ⟨ρ3, F4, O4, kk.trans k4, S4, PostS.ext (r := forL h b (ds.drop (i + 1)) ρ3) q3 k4⟩
          | ct => exact fun σ4 F4 O4 H4 k4 S4 => ⟨ρ3, F4, O4, kk.trans k4, S4, PostS.ext (r := forL h b (ds.drop (i + 1)) ρ3) q3 k4⟩
          | rt d => exact q3
        | exc x ρ3 => rw [zb] at q3; exact q3
        | bad => rw [zb] at q3; exact q3
  · have e : i = ds.length := by omega
    subst e
    rw [List.drop_length] at q'
    exact .inl ⟨w.stop F' H' k', q' σ' F' O' H' (.refl F' H') S'⟩
theorem ss_while {g : GC} {N : List Str} {sc : Scope} {fc : Str → Bool} {k : Nat} (hX : XOk g J.X N sc fc k) (hp : PassesOwn (model J.X.prog J.X.w) J.X.A J.X.env J.X.xe) {c : Expr} {body : List Stmt} {t : M Bool} {b : M Fl} {pos : Pos}
    (hc : ST J c T T t) (hb : SSs { J with Tc := T } body T T b) : SS J (.While c body [] pos) T T (sWhile t b) := by
  obtain ⟨tc, pc, cc⟩ := hc
  obtain ⟨tb, pb, cb⟩ := hb
  refine ⟨_, ps_while hp pc pb, fun B ρ σ F O H D S q => ?_⟩
  refine ⟨fun m σ' H' => ∃ ρ' F' O', Keep F H F' H' ∧ St J.X.K B T ρ' σ' F' O' H' ∧ PostS J B T F' H' D (whileN t b m ρ'), ⟨fuel, ρ, F, O, .refl F H, S, q⟩, fun m σ' H' hW => ?_⟩
  obtain ⟨ρ', F', O', k', S', q'⟩ := hW
  cases m with
  | zero => exact q'.elim
  | succ n =>
    refine cc B ρ' σ' F' O' H' _ S' (PostS.bind S' q' fun d ρ1 F1 O1 H1 e1 S1 q1 => ?_)
    have k1 := k'.trans (e1.keep S'.fo)
    cases d with
    | false => exact q1 σ' F1 O1 H1 (.refl F1 H1) S1
    | true =>
      simp only [if_true] at q1 ⊢
      refine ⟨fun σ'' H'' => ∃ ρ'' F'' O'', Keep F H F'' H'' ∧ St J.X.K B T ρ'' σ'' F'' O'' H'' ∧ PostS J B T F'' H'' D (whileN t b n ρ''), fun σ'' H'' h => ⟨n, Nat.lt_succ_self n, h⟩, cb B ρ1 σ' F1 O1 H1 _ S1 ?_⟩
      have q3 : PostS J B T F1 H1 D ((b ρ1).bind fun r => match r with | .rt x => M.pure (.rt x) | _ => whileN t b n) := q1
      cases zb : b ρ1 with
      | ok r ρ3 =>
        rw [zb] at q3
        cases r with
        | nx => exact fun σ4 F4 O4 H4 k4 S4 => ⟨ρ3, F4, O4, k1.trans k4, S4, PostS.ext (r := whileN t b n ρ3) q3 k4⟩
        | ct => exact fun σ4 F4 O4 H4 k4 S4 => ⟨ρ3, F4, O4, k1.trans k4, S4, PostS.ext (r := whileN t b n ρ3) q3 k4⟩
        | rt d => exact q3
      | exc x ρ3 => rw [zb] at q3; exact q3
      | bad => rw [zb] at q3; exact q3

/-! ### walks of lists, tuples, ranges -/
def asSeq : PyData → Option (List PyData)
  | .list ds => some ds
  | .tuple ds => some ds
  | _ => none
def asL : PyData → Option (List PyData)
  | .list ds => some ds
  | _ => none
def asT : PyData → Option (List PyData)
  | .tuple ds => some ds
  | _ => none
def iL (f : M PyData) : M (List PyData) := f.bind fun d => ofO (asL d)
def iT (f : M PyData) : M (List PyData) := f.bind fun d => ofO (asT d)
theorem walk_L {K : PySem.W.Frag} {a : Addr} {xs : List V} {ds : List PyData} {F : AS} {H : Hp} (h : FzL K F H a xs) (r : RAll K F H ds xs) : WalkD K (Itl K a) ds F H where
  go := fun i F' H' hi k => ⟨xs, xs[i]'(by rw [← r.length]; exact hi), (h.keep k).sq, by simp⟩
  yld := fun i F' H' x H'' hi k y => by
    obtain ⟨rfl, y⟩ := y
    obtain ⟨d, e1, e2⟩ := (RAll.keep k ds xs r).getV (y xs ((h.keep k).sq))
    exact ⟨F', .refl, d, e1, e2⟩
  stop := fun F' H' k => ⟨xs, (h.keep k).sq, by rw [← r.length]; exact Nat.le_refl _⟩
theorem Keep.sqT {F F' : AS} {H H' : Hp} (k : Keep F H F' H') {a : Addr} {xs : List V} {K : PySem.W.Frag} {ds : List PyData} (h : R K F H (.tuple ds) (.ref a)) : ∃ xs, SqT K H' a xs ∧ RAll K F' H' ds xs := by
  obtain ⟨b, xs, e, h1, h2⟩ := (R.keep k _ _ h).tupleS
  cases e
  exact ⟨xs, h1, h2⟩
theorem walk_T {K : PySem.W.Frag} {a : Addr} {ds : List PyData} {F : AS} {H : Hp} (r : R K F H (.tuple ds) (.ref a)) : WalkD K (Itt K a) ds F H where
  go := fun i F' H' hi k => by
    obtain ⟨xs, h1, h2⟩ := k.sqT (xs := []) r
    exact ⟨xs, xs[i]'(by rw [← h2.length]; exact hi), h1, by simp⟩
  yld := fun i F' H' x H'' hi k y => by
    obtain ⟨xs, h1, h2⟩ := k.sqT (xs := []) r
    obtain ⟨rfl, y⟩ := y
    obtain ⟨d, e1, e2⟩ := h2.getV (y xs h1)
    exact ⟨F', .refl, d, e1, e2⟩
  stop := fun F' H' k => by
    obtain ⟨xs, h1, h2⟩ := k.sqT (xs := []) r
    exact ⟨xs, h1, by rw [← h2.length]; exact Nat.le_refl _⟩
theorem si_list {tg e : Expr} {f : M PyData} (h : SE J e .fz T T1 f) : SI J tg e T T1 (iL f) := by
  obtain ⟨t, p, c⟩ := h
  refine ⟨_, pi_list p, fun B ρ σ F O H Q S q => ?_⟩
  refine c B ρ σ F O H _ S (Post.bind q fun d ρ1 F1 O1 H1 _ e1 S1 q1 => fun v P vr l _ => ?_)
  cases d <;> try exact q1.elim
  obtain ⟨a, xs, rfl, ha, ra⟩ := vr.1.listS
  exact ⟨a, rfl, ⟨xs, ha.sq⟩, ct_ok S1 q1 _ (walk_L ha ra)⟩
theorem si_tup {tg e : Expr} {f : M PyData} (h : SE J e .fz T T1 f) : SI J tg e T T1 (iT f) := by
  obtain ⟨t, p, c⟩ := h
  refine ⟨_, pi_tup p, fun B ρ σ F O H Q S q => ?_⟩
  refine c B ρ σ F O H _ S (Post.bind q fun d ρ1 F1 O1 H1 _ e1 S1 q1 => fun v P vr l _ => ?_)
  cases d <;> try exact q1.elim
  obtain ⟨a, xs, rfl, ha, ra⟩ := vr.1.tupleS
  exact ⟨a, rfl, ⟨xs, ha⟩, ct_ok S1 q1 _ (walk_T vr.1)⟩
/-- the ints lo, lo + 1, .. below hi -/
def rangeD (lo hi : Int) : List PyData := (List.range (hi - lo).toNat).map fun i => .int (lo + (i : Nat))
def smallI (i : Int) : Bool := decide (-4611686018427387904 ≤ i) && decide (i < 4611686018427387904)
def iR (f : M (List PyData)) : M (List PyData) := f.bind fun ds => match ds with
  | [.int n] => if smallI n then M.pure (rangeD 0 n) else fun _ => .bad
  | [.int lo, .int hi] => if smallI lo && smallI hi then M.pure (rangeD lo hi) else fun _ => .bad
  | _ => fun _ => .bad
theorem walk_R {K : PySem.W.Frag} {lo : Int} {n : Nat} {ds : List PyData} {F : AS} {H : Hp} (e : ds = (List.range n).map fun i => .int (lo + (i : Nat))) : WalkD K (Itr lo n) ds F H where
  go := fun i F' H' hi k => by subst e; show i < n; simpa using hi
  yld := fun i F' H' x H'' hi k y => by
    subst e
    have hi : i < n := by simpa using hi
    obtain ⟨rfl, rfl⟩ := y
    exact ⟨F', .refl, .int (lo + (i : Nat)), by simp [hi], .int _⟩
  stop := fun F' H' k => by subst e; show n ≤ _; simp
end
end DL

/-! D8: enumerate of tuples, zip, ranges walked. -/
namespace DL
open PySem PySem.Spec PyProof.Rows L2

/-- the tuple at a as it stands at each turn, each item in a new pair -/
def IteT (K : PySem.W.Frag) (a : Addr) : L2.It :=
  ⟨fun i H => ∃ (xs : List V) (x : V), SqT K H a xs ∧ xs[i]? = some x, fun i H v H' => ∃ T x, v = .ref T ∧ H T = none ∧ H' = upd H T (.tup [.int (i : Nat), x]) ∧ ∀ xs, SqT K H a xs → xs[i]? = some x, fun i H => ∃ xs : List V, SqT K H a xs ∧ xs.length = i⟩
theorem turn_enumT {P : Program} {w : World} {K : PySem.W.Frag} {elts : List Expr} {kk : Nat} {tpos : Pos} (a e it : Addr) :
    L2.Turn P w K (.Tuple elts kk tpos) (IteT K a) [e, it] e (fun i h => (∃ old, IsEnum h e it (0 + (i : Int)) old) ∧ h.IsTupleIter it a i ∧ e ≠ it) where
  mem := by simp
  obj := fun i h st b hb => by
    obtain ⟨⟨old, he⟩, ⟨o, ho, hc, hd⟩, _⟩ := st
    have e' : b = e ∨ b = it := by simpa using hb
    rcases e' with z | z
    · rw [z]; exact ⟨_, he, fun v q => nomatch q⟩
    · rw [z]; exact ⟨o, ho, fun v q => by rw [hd] at q; cases q⟩
  keep := fun i h h' st k => let ⟨⟨old, he⟩, hi, hne⟩ := st; ⟨⟨old, k e (by simp) _ he⟩, hi.at fun o q => k it (by simp) o q, hne⟩
  item := by
    intro X hP hw hK hc i pins s σ H E I hf st hg
    subst hP hw hK
    obtain ⟨⟨old, he⟩, hit, hne⟩ := st
    obtain ⟨xs, x, hq, hx⟩ := hg
    obtain ⟨its, rv, p, hz⟩ := I.tuple hq
    have pt : s.heap.IsTuple a its.toArray := p
    have nat : a ≠ it := fun z => by
      obtain ⟨o1, e1, c1, _⟩ := hit
      obtain ⟨o2, e2, c2, _⟩ := p
      rw [z, e1] at e2; cases e2
      rw [c1] at c2; injection c2 with z2; exact absurd z2 (by decide)
    have nae : a ≠ e := fun z => by
      obtain ⟨o2, e2, c2, _⟩ := p
      have he' : s.heap.get? e = some _ := he
      rw [z, he'] at e2; cases e2
      injection c2 with z2; exact absurd z2 (by decide)
    have G := GoesN.enumFrom (prog := X.prog) (w := X.w) (A := X.A) (elts := elts) (x1 := kk) (pos := tpos) 0 (Draws.tuple (prog := X.prog) (w := X.w) (A := X.A.in1) (I.ok.hd hc) it a nat its.toArray) e hne (by simp [hne, Ne.symm nae]) (by simp)
    have hlt : i < its.toArray.size := by
      have h1 := (List.getElem?_eq_some_iff.mp hx).1
      have h2 := rv.length
      simp; omega
    refine G.goes i s (fun v s' => ∃ x H', Inv X pins σ H' s' ∧ RelV x v ∧ (IteT X.K a).yld i H x H' ∧ ((∃ old, IsEnum s'.heap e it (0 + ((i + 1 : Nat) : Int)) old) ∧ s'.heap.IsTupleIter it a (i + 1) ∧ e ≠ it) ∧ ∀ b ∈ [e, it], H' b = none) E hlt ⟨⟨old, he⟩, hit, pt⟩ fun v h' tk hY st' hk htk => ?_
    obtain ⟨T, t, u, rfl, hT, hPu, hTt⟩ := hY
    obtain ⟨x', hx', ru⟩ : ∃ x', xs[i]? = some x' ∧ RelV x' u := by
      obtain ⟨u', hu', ru⟩ := rv.get hx
      have : its.toArray[i]? = some u := hPu
      rw [List.getElem?_toArray, hu'] at this
      cases this
      exact ⟨x, hx, ru⟩
    rw [hx] at hx'
    cases hx'
    have hn : H T = none := I.hok.fresh hT
    have new : ObjOk X.prog X.w (upd H T (.tup [.int (i : Nat), x])) h' T (.tup [.int (i : Nat), x]) := by
      refine ⟨by show 2 ≤ sizeLine; decide, [.int (0 + (i : Int)) t, u], .cons ⟨t, by rw [Int.zero_add]⟩ (.cons ru .nil), ?_⟩
      obtain ⟨o, ho, hc, n, hd⟩ := hTt
      exact ⟨o, ho, hc, n, hd⟩
    have I1 := I.turnedNew (t' := tk) (ch := [e, it]) (fun b ob hb q => hk b ob (fun z => hb (by simpa using z)) q) hf hT new
    refine ⟨.ref T, _, I1, rfl, ⟨T, x, rfl, hn, rfl, fun ys hy => by rw [I.tuple_inj hy hq]; exact hx⟩, ⟨st'.1, st'.2.1, hne⟩, fun b hb => ?_⟩
    have hb' : b < s.heap.objs.size := by
      have e' : b = e ∨ b = it := by simpa using hb
      rcases e' with z | z
      · rw [z]; exact Heap.lt_size he
      · rw [z]; obtain ⟨_, q, _⟩ := hit; exact Heap.lt_size q
    rw [upd_ne (Nat.ne_of_lt (Nat.lt_of_lt_of_le hb' hT))]
    exact (hf b hb).1
  done := by
    intro X hP hw hK hc i pins s σ H E I hf st hg
    subst hP hw hK
    obtain ⟨⟨old, he⟩, hit, hne⟩ := st
    obtain ⟨xs, hq, hx⟩ := hg
    obtain ⟨its, rv, p, hz⟩ := I.tuple hq
    have pt : s.heap.IsTuple a its.toArray := p
    have nat : a ≠ it := fun z => by
      obtain ⟨o1, e1, c1, _⟩ := hit
      obtain ⟨o2, e2, c2, _⟩ := p
      rw [z, e1] at e2; cases e2
      rw [c1] at c2; injection c2 with z2; exact absurd z2 (by decide)
    have nae : a ≠ e := fun z => by
      obtain ⟨o2, e2, c2, _⟩ := p
      have he' : s.heap.get? e = some _ := he
      rw [z, he'] at e2; cases e2
      injection c2 with z2; exact absurd z2 (by decide)
    have G := GoesN.enumFrom (prog := X.prog) (w := X.w) (A := X.A) (elts := elts) (x1 := kk) (pos := tpos) 0 (Draws.tuple (prog := X.prog) (w := X.w) (A := X.A.in1) (I.ok.hd hc) it a nat its.toArray) e hne (by simp [hne, Ne.symm nae]) (by simp)
    have hl := rv.length
    have hi : its.toArray.size = i := by simp; omega
    rw [hi] at G
    exact G.stops s (fun s1 => Inv X pins σ H s1) E ⟨⟨old, he⟩, hit, pt⟩ fun h' tk hk htk => I.turnedL (t' := tk) (ch := [e, it]) (fun b o hb q => hk b o (fun z => hb (by simpa using z)) q) hf
  self := fun A i s Q E st h => let ⟨⟨_, he⟩, _⟩ := st; wpAny_pyIter_enum he h
end DL
namespace PySem
open Sem (wp)
open AutoSeq1 (wpAny_loadPart')
theorem dl_meets_enum1 {v : Value} {o : Obj} {H : Heap → Prop} (B : Begins v o H) :
    Meets (Builtin.«enumerate.__new__» ⟨[.type "enumerate", v], []⟩) (fun _ R s => H s.heap ∧
      R (.ok (.ret (.ref (s.heap.push o).objs.size))) { s with heap := (s.heap.push o).push { cls := .type "enumerate", data := .fields #[.none, .bool false, .ref s.heap.objs.size, rawInt 0, .none, .none] } }) :=
  .of_wp fun prog w A R s h => by
    obtain ⟨hp, g, d, tk, os⟩ := s; obtain ⟨h1, h⟩ := h
    have hsub := sub_enumerate
    have q1 : ∀ {A' : Around} {E : Value → Shared → Prop} {Q : Value → Shared → Prop}, Q (.ref hp.objs.size) ⟨hp.push o, g, d, tk, os⟩ → wpAny (model prog w) A' (pyIter v) Q E ⟨hp, g, d, tk, os⟩ :=
      fun q => B.iter prog w _ _ ⟨hp, g, d, tk, os⟩ _ h1 q
    wp_walk using q1
    refine wpAny_stack_any fun st => wpAny_pure ?_
    split
    · rename_i c _ _ _ _ _
      cases (c == Value.type "enumerate")
      · wp_walk using q1
        exact ⟨_, rfl, h⟩
      · wp_walk using q1
        exact ⟨_, rfl, h⟩
    · wp_walk using q1
      exact ⟨_, rfl, h⟩
section
variable {prog : Program} {w : World} {A : Around} {E : Value → Shared → Prop} {s : Shared}
theorem dl_enum_begins1 {v : Value} {o : Obj} {H : Heap → Prop} {Q : Value → Shared → Prop} (B : Begins v o H) (h1 : H s.heap)
    (h : ∀ h', IsEnum h' (s.heap.objs.size + 1) s.heap.objs.size 0 .none → h'.get? s.heap.objs.size = some o → h'.objs.size = s.heap.objs.size + 2 →
      (∀ b o, s.heap.get? b = some o → h'.get? b = some o) → Q (.ref (s.heap.objs.size + 1)) { s with heap := h' }) :
    wpAny (model prog w) A (call (.type "enumerate") [v]) Q E s := by
  refine callType_new F.called_enumerate (by decide) (F.typeCall_enumerate_1 _) (F.newCall_enumerate_1 _) (fun obj => F.args_object_init_2 obj _) F.entry_enumerate_new
    (dl_meets_enum1 B) ⟨h1, ?_⟩
  have hz : (s.heap.push o).objs.size = s.heap.objs.size + 1 := Heap.size_push ..
  show _ ∧ _
  rw [hz]
  have he : IsEnum ((s.heap.push o).push { cls := .type "enumerate", data := .fields #[.none, .bool false, .ref s.heap.objs.size, rawInt 0, .none, .none] }) (s.heap.objs.size + 1) s.heap.objs.size 0 .none := by
    have := Heap.get?_push_size (s.heap.push o) (o := { cls := .type "enumerate", data := .fields #[.none, .bool false, .ref s.heap.objs.size, rawInt 0, .none, .none] }) rfl
    rw [hz] at this; exact this
  refine ⟨⟨_, he, rfl⟩, h _ he (Heap.get?_push_of_some _ (Heap.get?_push_size _ B.free)) (by rw [Heap.size_push, hz]) fun b o x => Heap.get?_push_of_some _ (Heap.get?_push_of_some _ x)⟩
end
end PySem
namespace DL
open PySem PySem.Spec PyProof.Rows L2
def iEnumS (K : PySem.W.Frag) (ta : TA) : TI := fun σ H R => ta σ H fun vs H1 => ∃ a xs, vs = [.ref a] ∧ ((SqL K H1 a xs ∧ R (Ite K a) H1) ∨ (SqT K H1 a xs ∧ R (IteT K a) H1))
theorem pi_enumS {X : Cx} {e : Expr} {ta : TA} {p pos tpos : Pos} {elts : List Expr} {kk : Nat} (hg : Gl X "enumerate") (hm : X.mg "enumerate" = none) (ha : PA X [e] ta) (hs : starEach [e] X.env = [(false, eval e X.env)]) :
    PI X (.Tuple elts kk tpos) (.Call (.Name "enumerate" p) [e] [] pos) (iEnumS X.K ta) := by
  refine ⟨fun pins s σ H R I h => ?_⟩
  refine Call_ (ld_blt I hg hm boot_enumerate (PyProof.Rows.callWith_type1 (thn (ha.run pos pins s σ H _ I h) fun us s1 ⟨vs, H1, I1, r1, q1⟩ => ?_) hs rfl))
  obtain ⟨a, xs, ex, q1⟩ := q1
  subst ex
  cases r1 with
  | cons r rr =>
    cases rr
    cases r
    have fr : ∀ b ∈ [s1.heap.objs.size + 1, s1.heap.objs.size], FpOk X pins H1 b := fun b hb => by
      have e' : b = s1.heap.objs.size + 1 ∨ b = s1.heap.objs.size := by simpa using hb
      have hle : s1.heap.objs.size ≤ b := by
        rcases e' with z | z
        · rw [z]; exact Nat.le_add_right _ _
        · rw [z]; exact Nat.le_refl _
      exact I1.fpOk hle (I1.hok.fresh hle)
    rcases q1 with ⟨hq, q⟩ | ⟨hq, q⟩
    · obtain ⟨its, rv, p', hz⟩ := I1.list hq
      refine call_enumerate_list p'.isList fun h' he hit hsz hk => wpAny_pyIter_enum he ?_
      have I2 : Inv X pins σ H1 { s1 with heap := h' } := I1.kept (t' := s1.toks) hk
      exact ⟨s1.heap.objs.size + 1, [s1.heap.objs.size + 1, s1.heap.objs.size], _, _, H1, rfl, I2, turn_enum a (s1.heap.objs.size + 1) s1.heap.objs.size, ⟨⟨.none, he⟩, hit, Nat.succ_ne_self _⟩, fr, q⟩
    · obtain ⟨its, rv, p', hz⟩ := I1.tuple hq
      refine dl_enum_begins1 (begins_tuple a its.toArray) (show Heap.IsTuple s1.heap a its.toArray from p') fun h' he hit hsz hk => wpAny_pyIter_enum he ?_
      have I2 : Inv X pins σ H1 { s1 with heap := h' } := I1.kept (t' := s1.toks) hk
      exact ⟨s1.heap.objs.size + 1, [s1.heap.objs.size + 1, s1.heap.objs.size], _, _, H1, rfl, I2, turn_enumT a (s1.heap.objs.size + 1) s1.heap.objs.size, ⟨⟨.none, by simpa using he⟩, ⟨_, hit, rfl, rfl⟩, Nat.succ_ne_self _⟩, fr, q⟩
/-- the pairs (i, item) -/
def enumL : Nat → List PyData → List PyData
  | _, [] => []
  | n, d :: ds => .tuple [.int (n : Nat), d] :: enumL (n + 1) ds
theorem enumL_length : ∀ (n : Nat) (ds : List PyData), (enumL n ds).length = ds.length
  | _, [] => rfl
  | n, d :: ds => by simp [enumL, enumL_length (n + 1) ds]
theorem enumL_get : ∀ {n i : Nat} {ds : List PyData} {d : PyData}, ds[i]? = some d → (enumL n ds)[i]? = some (.tuple [.int ((n + i : Nat) : Int), d])
  | n, 0, d :: ds, e, h => by simp at h; subst h; simp [enumL]
  | n, i + 1, d :: ds, e, h => by
    have := enumL_get (n := n + 1) (i := i) (ds := ds) (d := e) (by simpa using h)
    simp only [enumL, List.getElem?_cons_succ]
    rw [this, show n + 1 + i = n + (i + 1) by omega]
  | _, _, [], _, h => by simp at h
def iEn (f : M (List PyData)) : M (List PyData) := f.bind fun ds => match ds with
  | [.list xs] => M.pure (enumL 0 xs)
  | [.tuple xs] => M.pure (enumL 0 xs)
  | _ => fun _ => .bad
def zipL (xs ys : List PyData) : List PyData := List.zipWith (fun a b => .tuple [a, b]) xs ys
def iZp (f : M (List PyData)) : M (List PyData) := f.bind fun ds => match ds with
  | [.list xs, .list ys] => M.pure (zipL xs ys)
  | [.tuple xs, .tuple ys] => M.pure (zipL xs ys)
  | _ => fun _ => .bad
section
variable {K : PySem.W.Frag} {F : AS} {H : Hp}
theorem pairR {F : AS} {H : Hp} {d e : PyData} {x y : V} {T : Addr} (hT : H T = none) (r1 : R K F H d x) (r2 : R K F H e y) : R K F (upd H T (.tup [x, y])) (.tuple [d, e]) (.ref T) :=
  R.newT (.cons r1 (.cons r2 .nil)) hT
theorem walk_enumL {a : Addr} {xs : List V} {ds : List PyData} (h : FzL K F H a xs) (r : RAll K F H ds xs) : WalkD K (Ite K a) (enumL 0 ds) F H where
  go := fun i F' H' hi k => by
    rw [enumL_length] at hi
    exact ⟨xs, xs[i]'(by rw [← r.length]; exact hi), (h.keep k).sq, by simp⟩
  yld := fun i F' H' x H'' hi k y => by
    obtain ⟨T, v, rfl, hT, rfl, y⟩ := y
    obtain ⟨d, e1, e2⟩ := (RAll.keep k ds xs r).getV (y xs ((h.keep k).sq))
    refine ⟨F', .newL hT, _, enumL_get e1, ?_⟩
    rw [Nat.zero_add]
    exact pairR hT (.int _) e2
  stop := fun F' H' k => ⟨xs, (h.keep k).sq, by rw [enumL_length, ← r.length]; exact Nat.le_refl _⟩
theorem walk_enumT {a : Addr} {ds : List PyData} (r : R K F H (.tuple ds) (.ref a)) : WalkD K (IteT K a) (enumL 0 ds) F H where
  go := fun i F' H' hi k => by
    obtain ⟨xs, h1, h2⟩ := k.sqT (xs := []) r
    rw [enumL_length] at hi
    exact ⟨xs, xs[i]'(by rw [← h2.length]; exact hi), h1, by simp⟩
  yld := fun i F' H' x H'' hi k y => by
    obtain ⟨xs, h1, h2⟩ := k.sqT (xs := []) r
    obtain ⟨T, v, rfl, hT, rfl, y⟩ := y
    obtain ⟨d, e1, e2⟩ := h2.getV (y xs h1)
    refine ⟨F', .newL hT, _, enumL_get e1, ?_⟩
    rw [Nat.zero_add]
    exact pairR hT (.int _) e2
  stop := fun F' H' k => by
    obtain ⟨xs, h1, h2⟩ := k.sqT (xs := []) r
    exact ⟨xs, h1, by rw [enumL_length, ← h2.length]⟩
theorem zipL_get {xs ys : List PyData} {i : Nat} {d e : PyData} (h1 : xs[i]? = some d) (h2 : ys[i]? = some e) : (zipL xs ys)[i]? = some (.tuple [d, e]) := by
  unfold zipL
  rw [List.getElem?_zipWith, h1, h2]
theorem zipL_length (xs ys : List PyData) : (zipL xs ys).length = min xs.length ys.length := by unfold zipL; simp
theorem walk_zipL {a b : Addr} {xs ys : List V} {ds es : List PyData} (ha : FzL K F H a xs) (ra : RAll K F H ds xs) (hb : FzL K F H b ys) (rb : RAll K F H es ys) : WalkD K (Itz K a b) (zipL ds es) F H where
  go := fun i F' H' hi k => by
    rw [zipL_length, ra.length, rb.length] at hi
    exact ⟨xs, ys, xs[i]'(by omega), ys[i]'(by omega), (ha.keep k).sq, (hb.keep k).sq, by simp, by simp⟩
  yld := fun i F' H' x H'' hi k y => by
    obtain ⟨T, u, v, rfl, hT, rfl, y1, y2⟩ := y
    obtain ⟨d, e1, e2⟩ := (RAll.keep k ds xs ra).getV (y1 xs ((ha.keep k).sq))
    obtain ⟨e, e3, e4⟩ := (RAll.keep k es ys rb).getV (y2 ys ((hb.keep k).sq))
    exact ⟨F', .newL hT, _, zipL_get e1 e3, pairR hT e2 e4⟩
  stop := fun F' H' k => ⟨xs, ys, (ha.keep k).sq, (hb.keep k).sq, by rw [zipL_length, ra.length, rb.length]; omega⟩
theorem walk_zipT {a b : Addr} {ds es : List PyData} (ra : R K F H (.tuple ds) (.ref a)) (rb : R K F H (.tuple es) (.ref b)) : WalkD K (RZ.ItzT K a b) (zipL ds es) F H where
  go := fun i F' H' hi k => by
    obtain ⟨xs, h1, h2⟩ := k.sqT (xs := []) ra
    obtain ⟨ys, h3, h4⟩ := k.sqT (xs := []) rb
    rw [zipL_length, h2.length, h4.length] at hi
    exact ⟨xs, ys, xs[i]'(by omega), ys[i]'(by omega), h1, h3, by simp, by simp⟩
  yld := fun i F' H' x H'' hi k y => by
    obtain ⟨xs, h1, h2⟩ := k.sqT (xs := []) ra
    obtain ⟨ys, h3, h4⟩ := k.sqT (xs := []) rb
    obtain ⟨T, u, v, rfl, hT, rfl, y1, y2⟩ := y
    obtain ⟨d, e1, e2⟩ := h2.getV (y1 xs h1)
    obtain ⟨e, e3, e4⟩ := h4.getV (y2 ys h3)
    exact ⟨F', .newL hT, _, zipL_get e1 e3, pairR hT e2 e4⟩
  stop := fun F' H' k => by
    obtain ⟨xs, h1, h2⟩ := k.sqT (xs := []) ra
    obtain ⟨ys, h3, h4⟩ := k.sqT (xs := []) rb
    exact ⟨xs, ys, h1, h3, by rw [zipL_length, h2.length, h4.length]; omega⟩
end
section
variable {g : GC} {N : List Str} {sc : Scope} {fc : Str → Bool} {k : Nat} {t : Tab} {J : Jc} {T T1 : List Tag}
theorem starEach_one {e : Expr} {env : PySem.Env} (h : isStar e = false) : starEach [e] env = [(false, eval e env)] := by rw [starEach_cons h]; rfl
theorem si_enum (hX : XOk g J.X N sc fc k) (ht : t.ok N sc fc = true) {j : Nat} (hj : t.gl[j]? = some ("enumerate" : Str)) (hm : g.mg "enumerate" = none) {e : Expr} {elts : List Expr} {kk : Nat} {tpos p pos : Pos} {f : M (List PyData)}
    (ha : SA J [e] [.val] T T1 f) (hs : isStar e = false) : SI J (.Tuple elts kk tpos) (.Call (.Name "enumerate" p) [e] [] pos) T T1 (iEn f) := by
  obtain ⟨ta, pa, ca⟩ := ha
  refine ⟨_, pi_enumS (hX.gl ht hj).1 (by rw [hX.mg]; exact hm) pa (starEach_one hs), fun B ρ σ F O H Q S q => ?_⟩
  refine ca B ρ σ F O H _ S (Post.bind q fun ds ρ1 F1 O1 H1 _ e1 S1 q1 => fun vs ok => ?_)
  cases ok with
  | @val d v ms ds vs r ok =>
    cases ok
    cases d <;> try exact q1.elim
    · obtain ⟨a, xs, rfl, h1, h2⟩ := r.listS
      exact ⟨a, xs, rfl, .inl ⟨h1.sq, ct_ok S1 q1 _ (walk_enumL h1 h2)⟩⟩
    · obtain ⟨a, xs, rfl, h1, h2⟩ := r.tupleS
      exact ⟨a, xs, rfl, .inr ⟨h1, ct_ok S1 q1 _ (walk_enumT r)⟩⟩
theorem si_zip (hX : XOk g J.X N sc fc k) (ht : t.ok N sc fc = true) {j : Nat} (hj : t.gl[j]? = some ("zip" : Str)) (hm : g.mg "zip" = none) {e e2 : Expr} {elts : List Expr} {kk : Nat} {tpos p pos : Pos} {f : M (List PyData)}
    (ha : SA J [e, e2] [.val, .val] T T1 f) (hs : isStar e = false) (hs2 : isStar e2 = false) : SI J (.Tuple elts kk tpos) (.Call (.Name "zip" p) [e, e2] [] pos) T T1 (iZp f) := by
  obtain ⟨ta, pa, ca⟩ := ha
  refine ⟨_, RZ.pi_zipA (hX.gl ht hj).1 (by rw [hX.mg]; exact hm) pa (starEach_cons hs) (by rw [starEach_one hs2]; rfl), fun B ρ σ F O H Q S q => ?_⟩
  refine ca B ρ σ F O H _ S (Post.bind q fun ds ρ1 F1 O1 H1 _ e1 S1 q1 => fun vs ok => ?_)
  cases ok with
  | @val d v ms ds vs r ok =>
    cases ok with
    | @val d2 v2 ms ds vs r2 ok =>
      cases ok
      cases d <;> cases d2 <;> try exact q1.elim
      · obtain ⟨a, xs, rfl, h1, h2⟩ := r.listS
        obtain ⟨b, ys, rfl, h3, h4⟩ := r2.listS
        exact ⟨a, b, xs, ys, rfl, .inl ⟨h1.sq, h3.sq, ct_ok S1 q1 _ (walk_zipL h1 h2 h3 h4)⟩⟩
      · obtain ⟨a, xs, rfl, h1, h2⟩ := r.tupleS
        obtain ⟨b, ys, rfl, h3, h4⟩ := r2.tupleS
        exact ⟨a, b, xs, ys, rfl, .inr ⟨h1, h3, ct_ok S1 q1 _ (walk_zipT r r2)⟩⟩
theorem smallI_ok {i : Int} (h : smallI i = true) : -(2 ^ 62) ≤ i ∧ i < 2 ^ 62 := by
  simp only [smallI, Bool.and_eq_true, decide_eq_true_eq] at h
  exact h
theorem si_range1 (hX : XOk g J.X N sc fc k) (ht : t.ok N sc fc = true) {j : Nat} (hj : t.gl[j]? = some ("range" : Str)) (hm : g.mg "range" = none) {tg e : Expr} {p pos : Pos} {f : M (List PyData)}
    (ha : SA J [e] [.val] T T1 f) (hs : isStar e = false) : SI J tg (.Call (.Name "range" p) [e] [] pos) T T1 (iR f) := by
  obtain ⟨ta, pa, ca⟩ := ha
  refine ⟨_, pi_range1 (hX.gl ht hj).1 (by rw [hX.mg]; exact hm) pa (starEach_one hs), fun B ρ σ F O H Q S q => ?_⟩
  refine ca B ρ σ F O H _ S (Post.bind q fun ds ρ1 F1 O1 H1 _ e1 S1 q1 => fun vs ok => ?_)
  cases ok with
  | @val d v ms ds vs r ok =>
    cases ok
    cases d <;> try exact q1.elim
    rename_i i _
    by_cases z : smallI i = true
    · simp only [z, if_true] at q1
      obtain ⟨z1, z2⟩ := smallI_ok z
      exact ⟨i, by rw [r.intS], z1, z2, ct_ok S1 q1 _ (walk_R (by simp [rangeD]))⟩
    · simp only [z] at q1
      exact q1.elim
theorem si_range2 (hX : XOk g J.X N sc fc k) (ht : t.ok N sc fc = true) {j : Nat} (hj : t.gl[j]? = some ("range" : Str)) (hm : g.mg "range" = none) {tg e e2 : Expr} {p pos : Pos} {f : M (List PyData)}
    (ha : SA J [e, e2] [.val, .val] T T1 f) (hs : isStar e = false) (hs2 : isStar e2 = false) : SI J tg (.Call (.Name "range" p) [e, e2] [] pos) T T1 (iR f) := by
  obtain ⟨ta, pa, ca⟩ := ha
  refine ⟨_, pi_range2 (hX.gl ht hj).1 (by rw [hX.mg]; exact hm) pa (by rw [starEach_cons hs, starEach_one hs2]) (starEach_one hs2), fun B ρ σ F O H Q S q => ?_⟩
  refine ca B ρ σ F O H _ S (Post.bind q fun ds ρ1 F1 O1 H1 _ e1 S1 q1 => fun vs ok => ?_)
  cases ok with
  | @val d v ms ds vs r ok =>
    cases ok with
    | @val d2 v2 ms ds vs r2 ok =>
      cases ok
      cases d <;> cases d2 <;> try exact q1.elim
      rename_i i i2 _
      by_cases z : (smallI i && smallI i2) = true
      · simp only [z, if_true] at q1
        rw [Bool.and_eq_true] at z
        obtain ⟨z1, z2⟩ := smallI_ok z.1
        obtain ⟨z3, z4⟩ := smallI_ok z.2
        exact ⟨i, i2, by rw [r.intS, r2.intS], ⟨z1, z2, z3, z4⟩, ct_ok S1 q1 _ (walk_R (by simp [rangeD]))⟩
      · simp only [z] at q1
        exact q1.elim
end
end DL

/-! D9: comprehensions. -/
namespace DL
open PySem PySem.Spec PyProof.Rows L2

/-- the context of a comprehension's block -/
abbrev JB (J : Jc) (Y : Cx) : Jc := { J with X := Y, W := fun _ _ _ _ => False }
abbrev blkX (X : Cx) (s : Shared) (H : Hp) (scope : Scope) (C : Addr) (cl : List (Str × Addr)) (fp : List Addr) : Cx := X.blk s H scope (compEnvC scope cl C X.env) fp
theorem XOk.blk {g : GC} {X : Cx} {N : List Str} {sc : Scope} {fc : Str → Bool} {k : Nat} (hX : XOk g X N sc fc k) (s : Shared) (H : Hp) (scope : Scope) (C : Addr) (cl : List (Str × Addr)) (fp : List Addr) :
    XOk g (blkX X s H scope C cl fp) N (relS scope sc) (fun x => scope.names.lookup x == some .cell) k where
  pr := hX.pr
  w := hX.w
  kk := hX.kk
  mg := hX.mg
  bs := hX.bs
  n := hX.n
  s := by
    show relS scope X.env.scope = relS scope sc
    rw [hX.s]
  fn := fun x h => h
  c := hX.c
  nd := hX.nd
  hr := hX.hr
  gd := hX.gd

/-- the tests of a comprehension -/
def STs (J : Jc) (ifs : List Expr) (T T' : List Tag) (f : M Bool) : Prop :=
  ∃ t, PTs J.X ifs t ∧ ∀ B ρ σ F O H Q, St J.X.K B T ρ σ F O H → Post J B T' σ F O H (fun b _ _ H1 => Q b H1) (f ρ) → t σ H Q
def tYesM : M Bool := M.pure true
theorem sts_nil {J : Jc} {T : List Tag} : STs J [] T T tYesM := ⟨_, pts_nil, fun B ρ σ F O H Q S q => ct_ok S q⟩
theorem sts_one {J : Jc} {T T1 : List Tag} {c : Expr} {f : M Bool} (h : ST J c T T1 f) : STs J [c] T T1 f := by
  obtain ⟨t, p, c⟩ := h
  exact ⟨t, pts_one p, c⟩

def lcL (tg : MG) (test : M Bool) (elt : M PyData) : List PyData → Env → Res (List PyData)
  | [], ρ => .ok [] ρ
  | d :: ds, ρ => match tg d ρ with
    | none => .bad
    | some ρ1 => match test ρ1 with
      | .ok true ρ2 => match elt ρ2 with
        | .ok y ρ3 => match lcL tg test elt ds ρ3 with
          | .ok ys ρ4 => .ok (y :: ys) ρ4
          | _ => .bad
        | _ => .bad
      | .ok false ρ2 => lcL tg test elt ds ρ2
      | _ => .bad
def restore (own : List Nat) (ρ1 ρ2 : Env) : Env := own.foldr (fun i ρ => ρ.set i (get ρ1 i)) ρ2
def eLc (f : M (List PyData)) (own : List Nat) (tg : MG) (test : M Bool) (elt : M PyData) : M PyData := f.bind fun ds ρ1 =>
  if lenOk ds.length then match lcL tg test elt ds ρ1 with
    | .ok ys ρ2 => .ok (.list ys) (restore own ρ1 ρ2)
    | _ => .bad
  else .bad
def unOrFz : Tag → Bool
  | .un => true
  | .fz => true
  | _ => false

theorem restore_length (own : List Nat) (ρ1 ρ2 : Env) : (restore own ρ1 ρ2).length = ρ2.length := by
  unfold restore
  induction own with
  | nil => rfl
  | cons i r ih => simp [ih]
theorem restore_get {own : List Nat} {ρ1 ρ2 : Env} (h : ∀ i ∈ own, i < ρ2.length) (j : Nat) : get (restore own ρ1 ρ2) j = if j ∈ own then get ρ1 j else get ρ2 j := by
  induction own with
  | nil => simp [restore]
  | cons i r ih =>
    have ih := ih fun i hi => h i (by simp [hi])
    have e : restore (i :: r) ρ1 ρ2 = (restore r ρ1 ρ2).set i (get ρ1 i) := rfl
    rw [e]
    by_cases hij : i = j
    · subst hij
      rw [get_set_self (by rw [restore_length]; exact h i (by simp))]
      simp
    · rw [get_set_ne hij, ih]
      by_cases hj : j ∈ r
      · simp [hj]
      · simp [hj, Ne.symm hij]
theorem wipe_eq : ∀ {vs : List Nat} {σ σ' : L2.St}, σ.length = σ'.length → (∀ j : Nat, j ∉ vs → σ'[j]? = σ[j]?) → wipe σ' vs = wipe σ vs := by
  intro vs σ σ' hl h
  apply List.ext_getElem?
  intro j
  by_cases hj : j ∈ vs
  · have q : ∀ (τ : L2.St) (us : List Nat), j ∈ us → (wipe τ us)[j]? = if j < τ.length then some none else none := by
      intro τ us
      induction us with
      | nil => intro z; simp at z
      | cons u us ih =>
        intro z
        have e : wipe τ (u :: us) = (wipe τ us).set u none := rfl
        rw [e]
        by_cases hu : u = j
        · subst hu
          rw [List.getElem?_set_self']
          by_cases hl : u < τ.length
          · have : u < (wipe τ us).length := by rw [wipe_length]; exact hl
            simp [List.getElem?_eq_getElem this, hl]
          · have : (wipe τ us).length ≤ u := by rw [wipe_length]; omega
            simp [List.getElem?_eq_none this, hl]
        · rw [List.getElem?_set_ne hu]
          rcases List.mem_cons.mp z with y | y
          · exact absurd y.symm hu
          · exact ih y
    rw [q σ' vs hj, q σ vs hj, hl]
  · rw [wipe_out hj, wipe_out hj]; exact h j hj
section
variable {K : PySem.W.Frag} {B : Bd} {T : List Tag} {ρ : Env} {σ : L2.St} {F F' : AS} {O : OF} {H H' : Hp}
/-- own slots forgotten, in the tags and in the slots -/
theorem St.wiped (S : St K B T ρ σ F O H) {own : List Nat} {T0 : List Tag} (h : ∀ i ∈ own, ∃ τ, T[i]? = some τ ∧ unOrFz τ = true) (e : T0 = own.foldr (fun i t => t.set i .un) T) : St K B T0 ρ (wipe σ own) F O H := by
  have tl : T0.length = T.length := by
    rw [e]
    clear e h
    induction own with
    | nil => rfl
    | cons i r ih => simp [ih]
  have tg : ∀ j τ, T0[j]? = some τ → (j ∈ own ∧ τ = .un) ∨ (j ∉ own ∧ T[j]? = some τ) := by
    rw [e]
    clear e tl h
    induction own with
    | nil => intro j τ h; exact .inr ⟨by simp, h⟩
    | cons i r ih =>
      intro j τ h
      have h : ((r.foldr (fun i t => t.set i .un) T).set i .un)[j]? = some τ := h
      by_cases hij : i = j
      · subst hij
        rw [List.getElem?_set_self'] at h
        cases q : (r.foldr (fun i t => t.set i Tag.un) T)[i]? with
        | none => rw [q] at h; cases h
        | some x => rw [q] at h; cases h; exact .inl ⟨by simp, rfl⟩
      · rw [List.getElem?_set_ne hij] at h
        rcases ih j τ h with ⟨a, b⟩ | ⟨a, b⟩
        · exact .inl ⟨by simp [a], b⟩
        · exact .inr ⟨by simp [a, Ne.symm hij], b⟩
  have no : ∀ a i, i ∈ own → O a ≠ some i := fun a i hi z => by
    obtain ⟨τ, h1, h2⟩ := h i hi
    rcases S.own a i z with ⟨κ, e1, _⟩ | ⟨κ, e1, _⟩ <;> (rw [h1] at e1; cases e1; simp [unOrFz] at h2)
  have T0T : ∀ j τ, j ∉ own → T[j]? = some τ → T0[j]? = some τ := fun j τ hj e1 => by
    have jl : j < T0.length := by rw [tl]; exact (List.getElem?_eq_some_iff.mp e1).1
    rcases tg j T0[j] (List.getElem?_eq_getElem jl) with ⟨a, _⟩ | ⟨_, b⟩
    · exact absurd a hj
    · rw [List.getElem?_eq_getElem jl, ← b]; exact e1
  refine ⟨fun j τ e1 => ?_, fun a j e1 => ?_, S.fo, S.fh, S.oh, S.fr, S.al, S.tu, S.f0, S.f1, fun j κ e1 => ?_, by rw [tl, S.lenT, wipe_length], by rw [S.lenR, wipe_length]⟩
  · rcases tg j τ e1 with ⟨_, b⟩ | ⟨a, b⟩
    · exact .inl b
    · exact (S.sl j τ b).imp id fun ⟨v, e2, r⟩ => ⟨v, by rw [wipe_out a]; exact e2, r⟩
  · have nj : j ∉ own := fun z => no a j z e1
    rcases S.own a j e1 with ⟨κ, e2, z⟩ | ⟨κ, e2, z⟩
    · exact .inl ⟨κ, T0T j _ nj e2, z⟩
    · exact .inr ⟨κ, T0T j _ nj e2, z⟩
  · rcases tg j _ e1 with ⟨_, b⟩ | ⟨a, b⟩
    · cases b
    · obtain ⟨v, h1, h2⟩ := S.ios j κ b
      exact ⟨v, h1, by rw [wipe_out a]; exact h2⟩
/-- an object that is nobody's grows -/
theorem St.other (S : St K B T ρ σ F O H) {D : Addr} {o : HO} (h1 : ¬ F D) (h2 : O D = none) (h3 : B.H D = none) (h4 : ∀ xs, H D ≠ some (.tup xs)) : St K B T ρ σ F O (upd H D o) := by
  have kf : ∀ a u, F a → H a = some u → upd H D o a = some u := fun a u f h => by
    rw [upd_ne (fun z : a = D => h1 (by rw [← z]; exact f))]; exact h
  have ko : ∀ a u i, O a = some i → H a = some u → upd H D o a = some u := fun a u i p h => by
    rw [upd_ne (fun z : a = D => by rw [z, h2] at p; cases p)]; exact h
  have kb : ∀ a, B.H a ≠ none → upd H D o a = H a := fun a e => upd_ne fun z : a = D => by rw [z] at e; exact e h3
  have kt : ∀ a xs, H a = some (.tup xs) → upd H D o a = some (.tup xs) := fun a xs h => by
    rw [upd_ne (fun z : a = D => h4 xs (by rw [← z]; exact h))]; exact h
  have kp : Keep F H F (upd H D o) := ⟨fun _ h => h, kf, kt⟩
  refine ⟨fun i τ e => (S.sl i τ e).imp id fun ⟨v, e1, r⟩ => ⟨v, e1, r.keep kp fun a u p h => ko a u i p h⟩, S.own, S.fo, fun a f => ?_, fun a i e => ?_, fun a u e n => ?_, fun a e => ?_, fun a xs e => ?_, S.f0, S.f1, S.ios, S.lenT, S.lenR⟩
  · obtain ⟨u, q⟩ := Option.ne_none_iff_exists'.mp (S.fh a f)
    rw [kf a u f q]; simp
  · obtain ⟨u, q⟩ := Option.ne_none_iff_exists'.mp (S.oh a i e)
    rw [ko a u i e q]; simp
  · rw [kb a (by rw [e]; simp)]; exact S.fr a u e n
  · rw [kb a e]; exact S.al a e
  · rw [kb a (by rw [e]; simp)]; exact S.tu a xs e
theorem foldr_set_len (own : List Nat) (x : Tag) (T : List Tag) : (own.foldr (fun i t => t.set i x) T).length = T.length := by
  induction own with
  | nil => rfl
  | cons i r ih => simp [ih]
theorem foldr_set_get {own : List Nat} {T : List Tag} {j : Nat} {τ : Tag} (h : (own.foldr (fun i t => t.set i Tag.un) T)[j]? = some τ) : (j ∈ own ∧ τ = .un) ∨ (j ∉ own ∧ T[j]? = some τ) := by
  induction own generalizing τ with
  | nil => exact .inr ⟨by simp, h⟩
  | cons i r ih =>
    have h : ((r.foldr (fun i t => t.set i .un) T).set i .un)[j]? = some τ := h
    by_cases hij : i = j
    · subst hij
      rw [List.getElem?_set_self'] at h
      cases q : (r.foldr (fun i t => t.set i Tag.un) T)[i]? with
      | none => rw [q] at h; cases h
      | some x => rw [q] at h; cases h; exact .inl ⟨by simp, rfl⟩
    · rw [List.getElem?_set_ne hij] at h
      rcases ih h with ⟨a, b⟩ | ⟨a, b⟩
      · exact .inl ⟨by simp [a], b⟩
      · exact .inr ⟨by simp [a, Ne.symm hij], b⟩
theorem foldr_set_out {own : List Nat} {T : List Tag} {j : Nat} (h : j ∉ own) : (own.foldr (fun i t => t.set i Tag.un) T)[j]? = T[j]? := by
  induction own with
  | nil => rfl
  | cons i r ih =>
    simp only [List.mem_cons, not_or] at h
    show ((r.foldr (fun i t => t.set i .un) T).set i .un)[j]? = _
    rw [List.getElem?_set_ne (Ne.symm h.1)]
    exact ih h.2
/-- behind the block: the own slots are as they were -/
theorem St.unwipe {T1 : List Tag} {ρ1 ρ' : Env} {F1 F' : AS} {O1 O' : OF} {H1 H' : Hp} {own : List Nat} (S1 : St K B T1 ρ1 σ F1 O1 H1) (h : ∀ i ∈ own, ∃ τ, T1[i]? = some τ ∧ unOrFz τ = true) (S' : St K B (own.foldr (fun i t => t.set i .un) T1) ρ' (wipe σ own) F' O' H') (k : Keep F1 H1 F' H') :
    St K B T1 (restore own ρ1 ρ') σ F' O' H' := by
  have ol : ∀ i ∈ own, i < ρ'.length := fun i hi => by
    obtain ⟨τ, e, _⟩ := h i hi
    rw [S'.lenR, wipe_length, ← S1.lenT]; exact (List.getElem?_eq_some_iff.mp e).1
  have no : ∀ a j, O' a = some j → j ∉ own := fun a j e z => by
    rcases S'.own a j e with ⟨κ, e1, _⟩ | ⟨κ, e1, _⟩ <;> (rcases foldr_set_get e1 with ⟨_, y⟩ | ⟨y, _⟩; cases y; exact y z)
  refine ⟨fun j τ e => ?_, fun a j e => ?_, S'.fo, S'.fh, S'.oh, S'.fr, S'.al, S'.tu, S'.f0, S'.f1, fun j κ e => ?_, S1.lenT, by rw [restore_length, S'.lenR, wipe_length]⟩
  · rw [restore_get ol]
    by_cases hj : j ∈ own
    · rw [if_pos hj]
      obtain ⟨τ', e1, e2⟩ := h j hj
      rw [e] at e1; cases e1
      cases τ with
      | un => exact .inl rfl
      | fz =>
        rcases S1.sl j _ e with z | ⟨v, e3, r⟩
        · cases z
        · exact .inr ⟨v, e3, R.keep k _ _ r.1, fun a z => no a j z hj⟩
      | ow κ => simp [unOrFz] at e2
      | io κ => simp [unOrFz] at e2
    · rw [if_neg hj]
      exact (S'.sl j τ (by rw [foldr_set_out hj]; exact e)).imp id fun ⟨v, e3, r⟩ => ⟨v, by rw [wipe_out hj] at e3; exact e3, r⟩
  · have hj := no a j e
    have q := S'.own a j e
    rw [foldr_set_out hj] at q
    exact q
  · by_cases hj : j ∈ own
    · obtain ⟨τ', e1, e2⟩ := h j hj
      rw [e] at e1; cases e1
      simp [unOrFz] at e2
    · obtain ⟨v, h1, h2⟩ := S'.ios j κ (by rw [foldr_set_out hj]; exact e)
      exact ⟨v, h1, by rw [wipe_out hj] at h2; exact h2⟩
theorem Ext.updD {F F' : AS} {O O' : OF} {H H' : Hp} (e : Ext F O H F' O' H') {D : Addr} {o : HO} (h : H D = none) : Ext F O H F' O' (upd H' D o) :=
  ⟨e.f, fun a u h1 h2 => by rw [upd_ne (ne_of_none h1 h)]; exact e.h a u h1 h2, e.o, e.fn, fun a h1 => by
    obtain ⟨u, q⟩ := Option.ne_none_iff_exists'.mp h1
    rw [upd_ne (ne_of_none q h)]; exact e.al a h1, fun a xs h1 => by rw [upd_ne (ne_of_none h1 h)]; exact e.t a xs h1⟩
end
section
variable {g : GC} {N : List Str} {sc : Scope} {fc : Str → Bool} {k : Nat} {t : Tab} {J : Jc} {T T1 T2 T3 : List Tag}
theorem lc_core (hX : XOk g J.X N sc fc k) {elt tg iter : Expr} {ifs : List Expr} {scope : Scope} (own : List (Str × Nat)) {f : M (List PyData)} {h : MG} {b : M Bool} {fe : M PyData} {ts : List Nat}
    (hi : SI J tg iter T T1 f) (ok : blkC N sc scope own = true) (hT : ∀ i ∈ own.map (·.2), ∃ τ, T1[i]? = some τ ∧ unOrFz τ = true) (e2 : (own.map (·.2)).foldr (fun i t => t.set i .un) T1 = T2)
    (hg : ∀ Y : Cx, XOk g Y N (relS scope sc) (fun x => scope.names.lookup x == some .cell) k → SG (JB J Y) tg ts T2 T3 h)
    (ht : ∀ Y : Cx, XOk g Y N (relS scope sc) (fun x => scope.names.lookup x == some .cell) k → STs (JB J Y) ifs T3 T3 b)
    (he : ∀ Y : Cx, XOk g Y N (relS scope sc) (fun x => scope.names.lookup x == some .cell) k → SE (JB J Y) elt .fz T3 T3 fe)
    (hts : ∀ i ∈ ts, i ∈ own.map (·.2)) (e3 : (own.map (·.2)).foldr (fun i t => t.set i .un) T3 = T2) (hT3 : ∀ i ∈ own.map (·.2), ∃ τ, T3[i]? = some τ ∧ unOrFz τ = true)
    : ∃ wi gg tt te, PI J.X tg iter wi ∧ BlkOk J.X.N J.X.env.scope scope own ∧ (∀ s H C cl fp, PG (J.X.blk s H scope (compEnvC scope cl C J.X.env) fp) tg gg) ∧ (∀ s H C cl fp, PTs (J.X.blk s H scope (compEnvC scope cl C J.X.env) fp) ifs tt) ∧
      (∀ s H C cl fp, PE (J.X.blk s H scope (compEnvC scope cl C J.X.env) fp) elt te) ∧ ∀ B ρ σ F O H Q, St J.X.K B T ρ σ F O H → Post J B T1 σ F O H (CE J B (.ow OL) Q O H) (eLc f (own.map (·.2)) h b fe ρ) → tLc wi gg tt te (own.map (·.2)) σ H Q := by
  obtain ⟨wi, pi, ci⟩ := hi
  have okB : BlkOk J.X.N J.X.env.scope scope own := by rw [hX.n, hX.s]; exact blkOk_by ok
  -- one reading for all blocks
  let GGs := fun (s : Shared) (H : Hp) (C : Addr) (cl : List (Str × Addr)) (fp : List Addr) => hg (blkX J.X s H scope C cl fp) (hX.blk s H scope C cl fp)
  let TTs := fun (s : Shared) (H : Hp) (C : Addr) (cl : List (Str × Addr)) (fp : List Addr) => ht (blkX J.X s H scope C cl fp) (hX.blk s H scope C cl fp)
  let EEs := fun (s : Shared) (H : Hp) (C : Addr) (cl : List (Str × Addr)) (fp : List Addr) => he (blkX J.X s H scope C cl fp) (hX.blk s H scope C cl fp)
  let gg : TG := fun v σ H Q => ∀ s H0 C cl fp, Classical.choose (GGs s H0 C cl fp) v σ H Q
  let tt : TT := fun σ H Q => ∀ s H0 C cl fp, Classical.choose (TTs s H0 C cl fp) σ H Q
  let te : TE := fun σ H Q => ∀ s H0 C cl fp, Classical.choose (EEs s H0 C cl fp) σ H Q
  have pg : ∀ s H C cl fp, PG (J.X.blk s H scope (compEnvC scope cl C J.X.env) fp) tg gg := fun s H C cl fp =>
    ⟨fun pins s' σ H' v u Q I r q => (Classical.choose_spec (GGs s H C cl fp)).1.run pins s' σ H' v u Q I r (q s H C cl fp)⟩
  have pt : ∀ s H C cl fp, PTs (J.X.blk s H scope (compEnvC scope cl C J.X.env) fp) ifs tt := fun s H C cl fp =>
    ⟨fun pins s' σ H' Q I q => (Classical.choose_spec (TTs s H C cl fp)).1.run pins s' σ H' Q I (q s H C cl fp)⟩
  have pe : ∀ s H C cl fp, PE (J.X.blk s H scope (compEnvC scope cl C J.X.env) fp) elt te := fun s H C cl fp =>
    ⟨fun pins s' σ H' Q I q => (Classical.choose_spec (EEs s H C cl fp)).1.run pins s' σ H' Q I (q s H C cl fp)⟩
  refine ⟨wi, gg, tt, te, pi, okB, pg, pt, pe, fun B ρ σ F O H Q S q => ?_⟩
  refine ci B ρ σ F O H _ S (Post.bind q fun ds ρ1 F1 O1 H1 _ e1 S1 q1 => fun It w D hD => ?_)
  by_cases zl : lenOk ds.length = true
  rotate_left
  · simp only [zl] at q1
    exact q1.elim
  simp only [zl, if_true] at q1
  have oI : ∀ i ∈ own.map (·.2), i < σ.length := fun i hi => by
    obtain ⟨τ, h1, _⟩ := hT i hi
    rw [← S1.lenT]; exact (List.getElem?_eq_some_iff.mp h1).1
  have S1w := S1.wiped (own := own.map (·.2)) hT e2.symm
  have hDB : B.H D = none := S1.fresh hD
  have SD : St J.X.K B T2 ρ1 (wipe σ (own.map (·.2))) F1 O1 (upd H1 D (.lst [])) := S1w.grow (.newL hD)
  refine ⟨fun i m H' => ∃ ρ' F' O' outs vs, Ext F1 O1 H1 F' O' H' ∧ St J.X.K B T2 ρ' (wipe σ (own.map (·.2))) F' O' H' ∧ i ≤ ds.length ∧ m = ds.length - i ∧ H' D = some (.lst vs) ∧ RAll J.X.K F' H' outs vs ∧ outs.length ≤ i ∧
      ¬ F' D ∧ O' D = none ∧ Post J B T1 σ F1 O1 H1 (CE J B (.ow OL) Q O H) (match lcL h b fe (ds.drop i) ρ' with | .ok ys ρ2 => .ok (.list (outs ++ ys)) (restore (own.map (·.2)) ρ1 ρ2) | _ => .bad),
    ⟨ds.length, ρ1, F1, O1, [], [], S1w.ext (.newL hD), SD, Nat.zero_le _, rfl, upd_same, .nil, Nat.le_refl _, fun f => S1.fh D f hD, S1.freshO hD, q1⟩, fun i m H' hW => ?_⟩
  obtain ⟨ρ', F', O', outs, vs, E', S', hi, rfl, hDl, rO, hout, nFD, nOD, q'⟩ := hW
  have k1 : Keep F1 H1 F' H' := E'.keep S1.fo
  by_cases hlt : i < ds.length
  · refine .inr ⟨w.go i F' H' hlt k1, fun H'' => ∃ ρ' F' O' outs vs, Ext F1 O1 H1 F' O' H'' ∧ St J.X.K B T2 ρ' (wipe σ (own.map (·.2))) F' O' H'' ∧ H'' D = some (.lst vs) ∧ RAll J.X.K F' H'' outs vs ∧ outs.length ≤ i + 1 ∧
        ¬ F' D ∧ O' D = none ∧ Post J B T1 σ F1 O1 H1 (CE J B (.ow OL) Q O H) (match lcL h b fe (ds.drop (i + 1)) ρ' with | .ok ys ρ2 => .ok (.list (outs ++ ys)) (restore (own.map (·.2)) ρ1 ρ2) | _ => .bad),
      fun H'' hN => ?_, fun x H'' hy => ?_⟩
    · obtain ⟨ρ'', F'', O'', outs', vs', a1, a2, a3, a4, a5, a6, a7, a8⟩ := hN
      exact ⟨ds.length - (i + 1), by omega, ρ'', F'', O'', outs', vs', a1, a2, hlt, rfl, a3, a4, a5, a6, a7, a8⟩
    · obtain ⟨F2, gr, d, hd, r⟩ := w.yld i F' H' x H'' hlt k1 hy
      have S2 := S'.grow gr
      have E2 : Ext F1 O1 H1 F2 O' H'' := E'.trans (S'.ext gr)
      have hdr : ds.drop i = d :: ds.drop (i + 1) := by
        rw [List.drop_eq_getElem_cons hlt]
        have : ds[i] = d := by rw [List.getElem?_eq_getElem hlt] at hd; exact Option.some.inj hd
        rw [this]
      rw [hdr] at q'
      have hD2 : H'' D = some (.lst vs) := gr.h D _ hDl
      have nFD2 : ¬ F2 D := fun z => by
        rcases gr.n D z with y | ⟨y, _⟩
        · exact nFD y
        · rw [hDl] at y; cases y
      have rO2 := RAll.keep gr.keep outs vs rO
      intro s0 H0 C0 cl0 fp0
      refine (Classical.choose_spec (GGs s0 H0 C0 cl0 fp0)).2 B d x ρ' _ F2 O' H'' _ S2 r ?_
      cases zg : h d ρ' with
      | none => simp only [lcL, zg] at q'; exact q'.elim
      | some ρ3 =>
        intro σ3 O3 S3 hσ3 hO3
        have S3 : St J.X.K B T3 ρ3 σ3 F2 O3 H'' := S3
        have hlen3 : (wipe σ (own.map (·.2))).length = σ3.length := by rw [← S2.lenT, ← S3.lenT, ← e3]; exact foldr_set_len _ _ _
        have hw3 : wipe σ3 (own.map (·.2)) = wipe σ (own.map (·.2)) := by
          rw [wipe_eq (vs := own.map (·.2)) hlen3 fun j hj => hσ3 j fun z => hj (hts j z)]
          exact wipe_eq (by rw [wipe_length]) fun j hj => wipe_out hj
        have E3 : Ext F1 O1 H1 F2 O3 H'' := ⟨E2.f, E2.h, fun a z => by
          obtain ⟨j, q⟩ := Option.ne_none_iff_exists'.mp z
          exact E2.o a (by rw [hO3 a j q]; simp), E2.fn, E2.al, E2.t⟩
        have nOD3 : O3 D = none := by
          cases q : O3 D with
          | none => rfl
          | some j => rw [hO3 D j q] at nOD; cases nOD
        refine ⟨hw3, ?_⟩
        intro s0 H0 C0 cl0 fp0
        refine (Classical.choose_spec (TTs s0 H0 C0 cl0 fp0)).2 B ρ3 σ3 F2 O3 H'' _ S3 ?_
        simp only [lcL, zg] at q'
        cases zb : b ρ3 with
        | exc x ρ4 => rw [zb] at q'; exact q'.elim
        | bad => rw [zb] at q'; exact q'.elim
        | ok bv ρ4 =>
          intro F4 O4 H4 e4 S4
          have S4 : St J.X.K B T3 ρ4 σ3 F4 O4 H4 := S4
          have E4 := E3.trans e4
          obtain ⟨nOD4, nFD4, hD4⟩ := e4.float (by rw [hD2]; simp) nOD3 nFD2
          rw [hD2] at hD4
          have k4 : Keep F2 H'' F4 H4 := e4.keep S3.fo
          have rO4 := RAll.keep k4 outs vs rO2
          rw [zb] at q'
          cases bv with
          | false =>
            refine ⟨ρ4, F4, O4, outs, vs, E4, ?_, hD4, rO4, Nat.le_succ_of_le hout, nFD4, nOD4, q'⟩
            have := S4.wiped (own := own.map (·.2)) hT3 e3.symm
            rw [hw3] at this
            exact this
          | true =>
            intro s0 H0 C0 cl0 fp0
            refine (Classical.choose_spec (EEs s0 H0 C0 cl0 fp0)).2 B ρ4 σ3 F4 O4 H4 _ S4 ?_
            cases ze : fe ρ4 with
            | exc x ρ5 => simp only [ze] at q'; exact q'.elim
            | bad => simp only [ze] at q'; exact q'.elim
            | ok y ρ5 =>
              intro F5 O5 H5 e5 S5 v P vr l _
              have S5 : St J.X.K B T3 ρ5 σ3 F5 O5 H5 := S5
              have E5 := E4.trans e5
              obtain ⟨nOD5, nFD5, hD5⟩ := e5.float (by rw [hD4]; simp) nOD4 nFD4
              rw [hD4] at hD5
              have k5 : Keep F4 H4 F5 H5 := e5.keep S4.fo
              have rO5 := RAll.keep k5 outs vs rO4
              have kD : Keep F5 H5 F5 (upd H5 D (.lst (vs ++ [v]))) := ⟨fun _ h => h, fun a u f h => by rw [upd_ne (fun z : a = D => nFD5 (by rw [← z]; exact f))]; exact h, fun a xs h => by rw [upd_ne (fun z : a = D => by rw [z, hD5] at h; cases h)]; exact h⟩
              refine ⟨vs, hD5, ?_, ρ5, F5, O5, outs ++ [y], vs ++ [v], E5.updD hD, ?_, upd_same, ?_, by simp; omega, nFD5, nOD5, ?_⟩
              · have h1 := rO5.length
                have h2 := lenOk_line zl
                omega
              · have := S5.wiped (own := own.map (·.2)) hT3 e3.symm
                rw [hw3] at this
                exact this.other nFD5 nOD5 hDB fun xs z => by rw [hD5] at z; cases z
              · exact (RAll.keep kD outs vs rO5).append (.cons (R.keep kD y v vr.1) .nil)
              · simp only [ze] at q'
                cases zr : lcL h b fe (ds.drop (i + 1)) ρ5 with
                | ok ys ρ6 => simp only [zr] at q' ⊢; rw [List.append_assoc]; exact q'
                | exc x ρ6 => simp only [zr] at q'; exact q'.elim
                | bad => simp only [zr] at q'; exact q'.elim
  · have e : i = ds.length := by omega
    subst e
    refine .inl ⟨w.stop F' H' k1, ?_⟩
    rw [List.drop_length] at q'
    simp only [lcL, List.append_nil] at q'
    rw [← e2] at S'
    exact q' F' O' H' E' (S1.unwipe hT S' k1) (.ref D) (fun a => a = D) ⟨D, vs, outs, rfl, rfl, hDl, rO, fun b => Iff.rfl⟩ (fun a z => by
      have z : a = D := z
      subst z
      exact ⟨nFD, nOD, by rw [hDl]; simp, hDB⟩) fun a z => .inr (by
      have z : a = D := z
      subst z
      exact hne e1 hD)
theorem se_lcO (hX : XOk g J.X N sc fc k) {elt tg iter : Expr} {ifs : List Expr} {scope : Scope} (own : List (Str × Nat)) {pos : Pos} {f : M (List PyData)} {h : MG} {b : M Bool} {fe : M PyData} {ts : List Nat}
    (hi : SI J tg iter T T1 f) (ok : blkC N sc scope own = true) (hT : ∀ i ∈ own.map (·.2), ∃ τ, T1[i]? = some τ ∧ unOrFz τ = true) (e2 : (own.map (·.2)).foldr (fun i t => t.set i .un) T1 = T2)
    (hg : ∀ Y : Cx, XOk g Y N (relS scope sc) (fun x => scope.names.lookup x == some .cell) k → SG (JB J Y) tg ts T2 T3 h)
    (ht : ∀ Y : Cx, XOk g Y N (relS scope sc) (fun x => scope.names.lookup x == some .cell) k → STs (JB J Y) ifs T3 T3 b)
    (he : ∀ Y : Cx, XOk g Y N (relS scope sc) (fun x => scope.names.lookup x == some .cell) k → SE (JB J Y) elt .fz T3 T3 fe)
    (hts : ∀ i ∈ ts, i ∈ own.map (·.2)) (e3 : (own.map (·.2)).foldr (fun i t => t.set i .un) T3 = T2) (hT3 : ∀ i ∈ own.map (·.2), ∃ τ, T3[i]? = some τ ∧ unOrFz τ = true)
    (hs : ∀ x, foldedSetIterable iter J.X.env x = pure x) : SE J (.ListComp elt [⟨tg, iter, ifs, 0⟩] scope pos) (.ow OL) T T1 (eLc f (own.map (·.2)) h b fe) := by
  obtain ⟨wi, gg, tt, te, pi, okB, pg, pt, pe, core⟩ := lc_core hX (elt := elt) own hi ok hT e2 hg ht he hts e3 hT3
  exact ⟨_, pe_lc (g := gg) (tt := tt) (te := te) hX.c (by rw [hX.n]; exact hX.nd) pi okB pg pt pe hs, core⟩
end
end DL

/-! D10: defs and their calls. -/
namespace DL
open PySem PySem.Spec PyProof.Rows L2

/-! ### lent arguments -/
def lends : List Md → List Nat
  | [] => []
  | .val :: ms => lends ms
  | .lend j :: ms => j :: lends ms
def paramOf : List Md → Nat → Option Nat
  | [], _ => none
  | .val :: ms, j => (paramOf ms j).map (· + 1)
  | .lend i :: ms, j => if i = j then some 0 else (paramOf ms j).map (· + 1)
theorem paramOf_at : ∀ {ms : List Md} {j p : Nat}, paramOf ms j = some p → ms[p]? = some (.lend j)
  | .val :: ms, j, p, h => by
    simp only [paramOf, Option.map_eq_some_iff] at h
    obtain ⟨q, h1, rfl⟩ := h
    simpa using paramOf_at h1
  | .lend i :: ms, j, p, h => by
    simp only [paramOf] at h
    by_cases e : i = j
    · subst e; simp at h; subst h; rfl
    · rw [if_neg e, Option.map_eq_some_iff] at h
      obtain ⟨q, h1, rfl⟩ := h
      simpa using paramOf_at h1
theorem mem_lends : ∀ {ms : List Md} {p j : Nat}, ms[p]? = some (.lend j) → j ∈ lends ms
  | .val :: ms, 0, j, h => by simp at h
  | .val :: ms, p + 1, j, h => by simpa [lends] using mem_lends (ms := ms) (p := p) (by simpa using h)
  | .lend i :: ms, 0, j, h => by simp at h; subst h; simp [lends]
  | .lend i :: ms, p + 1, j, h => by simp only [lends, List.mem_cons]; exact .inr (mem_lends (ms := ms) (p := p) (by simpa using h))
theorem paramOf_of : ∀ {ms : List Md} {p j : Nat}, (lends ms).Nodup → ms[p]? = some (.lend j) → paramOf ms j = some p
  | .val :: ms, 0, j, _, h => by simp at h
  | .val :: ms, p + 1, j, d, h => by simp only [paramOf]; rw [paramOf_of (ms := ms) (p := p) (by simpa [lends] using d) (by simpa using h)]; rfl
  | .lend i :: ms, 0, j, _, h => by simp at h; subst h; simp [paramOf]
  | .lend i :: ms, p + 1, j, d, h => by
    have h : ms[p]? = some (.lend j) := by simpa using h
    have d : i ∉ lends ms ∧ (lends ms).Nodup := by simpa [lends] using d
    have ne : i ≠ j := fun z => d.1 (z ▸ mem_lends h)
    simp only [paramOf, if_neg ne]
    rw [paramOf_of (ms := ms) d.2 h]; rfl
theorem paramOf_none {ms : List Md} {j : Nat} (h : paramOf ms j = none) (d : (lends ms).Nodup) : ∀ p : Nat, ms[p]? ≠ some (Md.lend j) := fun p z => by rw [paramOf_of d z] at h; cases h
/-- the arguments fit the parameters: what is lent is owned -/
inductive MsOk (T : List Tag) : List Md → List Tag → Prop
  | nil : MsOk T [] []
  | val {ms ps} : MsOk T ms ps → MsOk T (.val :: ms) (.fz :: ps)
  | lendO {j κ ms ps} : T[j]? = some (.ow κ) → MsOk T ms ps → MsOk T (.lend j :: ms) (.io κ :: ps)
  | lendI {j κ ms ps} : T[j]? = some (.io κ) → MsOk T ms ps → MsOk T (.lend j :: ms) (.io κ :: ps)
theorem MsOk.len {T : List Tag} : ∀ {ms ps}, MsOk T ms ps → ms.length = ps.length
  | _, _, .nil => rfl
  | _, _, .val h => by simp [h.len]
  | _, _, .lendO _ h => by simp [h.len]
  | _, _, .lendI _ h => by simp [h.len]
theorem MsOk.at {T : List Tag} : ∀ {ms ps} {p : Nat} {j : Nat}, MsOk T ms ps → ms[p]? = some (.lend j) → ∃ κ, ps[p]? = some (.io κ) ∧ (T[j]? = some (.ow κ) ∨ T[j]? = some (.io κ))
  | _, _, 0, _, .val h, e => by simp at e
  | _, _, p + 1, _, .val h, e => by simpa using MsOk.at (p := p) h (by simpa using e)
  | _, _, 0, _, .lendO t h, e => by simp at e; subst e; exact ⟨_, rfl, .inl t⟩
  | _, _, p + 1, _, .lendO t h, e => by simpa using MsOk.at (p := p) h (by simpa using e)
  | _, _, 0, _, .lendI t h, e => by simp at e; subst e; exact ⟨_, rfl, .inr t⟩
  | _, _, p + 1, _, .lendI t h, e => by simpa using MsOk.at (p := p) h (by simpa using e)
theorem MsOk.atP {T : List Tag} : ∀ {ms ps} {p : Nat} {τ : Tag}, MsOk T ms ps → ps[p]? = some τ → (τ = .fz ∧ ms[p]? = some .val) ∨ ∃ j κ, τ = .io κ ∧ ms[p]? = some (.lend j) ∧ (T[j]? = some (.ow κ) ∨ T[j]? = some (.io κ))
  | _, _, 0, _, .val h, e => by simp at e; subst e; exact .inl ⟨rfl, rfl⟩
  | _, _, p + 1, _, .val h, e => by simpa using MsOk.atP (p := p) h (by simpa using e)
  | _, _, 0, _, .lendO t h, e => by simp at e; subst e; exact .inr ⟨_, _, rfl, rfl, .inl t⟩
  | _, _, p + 1, _, .lendO t h, e => by simpa using MsOk.atP (p := p) h (by simpa using e)
  | _, _, 0, _, .lendI t h, e => by simp at e; subst e; exact .inr ⟨_, _, rfl, rfl, .inr t⟩
  | _, _, p + 1, _, .lendI t h, e => by simpa using MsOk.atP (p := p) h (by simpa using e)
/-- the lent ones' data are filled in, and put back -/
def fill : List Md → List PyData → Env → List PyData
  | .val :: ms, d :: ds, ρ => d :: fill ms ds ρ
  | .lend j :: ms, _ :: ds, ρ => get ρ j :: fill ms ds ρ
  | _, _, _ => []
def putB : List Md → List PyData → Env → Env
  | .val :: ms, ios, ρ => putB ms ios ρ
  | .lend j :: ms, x :: ios, ρ => putB ms ios (ρ.set j x)
  | _, _, ρ => ρ
/-- the places of the lent parameters -/
def ioFrom : Nat → List Tag → List Nat
  | _, [] => []
  | n, τ :: ps => if τ.isIo then n :: ioFrom (n + 1) ps else ioFrom (n + 1) ps
theorem putB_length : ∀ (ms : List Md) (ios : List PyData) (ρ : Env), (putB ms ios ρ).length = ρ.length
  | [], ios, ρ => rfl
  | .val :: ms, ios, ρ => by simp only [putB]; exact putB_length ms ios ρ
  | .lend j :: ms, [], ρ => rfl
  | .lend j :: ms, x :: ios, ρ => by simp only [putB]; rw [putB_length]; simp
theorem putB_get {T : List Tag} : ∀ {ms : List Md} {ps : List Tag} (n : Nat) (ρ ρ' : Env), MsOk T ms ps → (lends ms).Nodup → (∀ j ∈ lends ms, j < ρ.length) → ∀ j, get (putB ms ((ioFrom n ps).map (get ρ')) ρ) j = match paramOf ms j with | some p => get ρ' (n + p) | none => get ρ j
  | [], _, n, ρ, ρ', .nil, _, _, j => rfl
  | .val :: ms, _, n, ρ, ρ', .val h, d, l, j => by
    simp only [ioFrom, Tag.isIo, putB, paramOf, Bool.false_eq_true, if_false]
    rw [putB_get (n + 1) ρ ρ' h d l j]
    cases paramOf ms j with
    | none => rfl
    | some p => simp only [Option.map_some]; rw [show n + 1 + p = n + (p + 1) by omega]
  | .lend i :: ms, _ :: ps, n, ρ, ρ', h, d, l, j => by
    have d : i ∉ lends ms ∧ (lends ms).Nodup := by simpa [lends] using d
    have hl : i < ρ.length := l i (by simp [lends])
    have h' : MsOk T ms ps ∧ ∃ κ, ‹Tag› = .io κ := by
      cases h with
      | lendO t h => exact ⟨h, _, rfl⟩
      | lendI t h => exact ⟨h, _, rfl⟩
    obtain ⟨h', κ, rfl⟩ := h'
    simp only [ioFrom, Tag.isIo, if_true, List.map_cons, putB, paramOf]
    rw [putB_get (n + 1) (ρ.set i (get ρ' n)) ρ' h' d.2 (fun k hk => by rw [List.length_set]; exact l k (by simp [lends, hk])) j]
    by_cases e : i = j
    · subst e
      have np : paramOf ms i = none := by
        cases q : paramOf ms i with
        | none => rfl
        | some p => exact absurd (mem_lends (paramOf_at q)) d.1
      rw [np, if_pos rfl]
      simp [get_set_self hl]
    · rw [if_neg e]
      cases paramOf ms j with
      | none => simp [get_set_ne e]
      | some p => simp only [Option.map_some]; rw [show n + 1 + p = n + (p + 1) by omega]

/-! ### promises -/
/-- what holds behind a call -/
structure FB (K : PySem.W.Frag) (ps : List Tag) (F : AS) (O : OF) (H : Hp) (vs : List V) (F' : AS) (O' : OF) (H' : Hp) (ρ' : Env) : Prop where
  io : ∀ (i : Nat) κ, ps[i]? = some (Tag.io κ) → ∃ v, vs[i]? = some v ∧ κ.rel K F' H' (fun a => O' a = some i) (get ρ' i) v
  own : ∀ a (i : Nat), O' a = some i → (∃ κ, ps[i]? = some (Tag.io κ)) ∧ (H a = none ∨ O a = some i)
  fo : ∀ a, F' a → O' a = none
  fh : ∀ a, F' a → H' a ≠ none
  oh : ∀ a i, O' a = some i → H' a ≠ none
  fr : ∀ a o, H a = some o → O a = none → H' a = some o
  al : ∀ a, H a ≠ none → H' a ≠ none
  tu : ∀ a xs, H a = some (.tup xs) → H' a = some (.tup xs)
  f0 : ∀ a, F a → F' a
  f1 : ∀ a, F' a → F a ∨ H a = none
def spF (K : PySem.W.Frag) (ex : Str → Option Addr) (ps : List Tag) (τ : Tag) (m : FM) : Sp := fun vs H Q E => vs.length = ps.length ∧ ∃ (ds : List PyData) (F : AS) (O : OF), ds.length = ps.length ∧
  (∀ (i : Nat) τi, ps[i]? = some τi → ∃ v, vs[i]? = some v ∧ VR K F H (fun a => O a = some i) (get ds i) v τi) ∧
  (∀ a (i : Nat), O a = some i → ∃ κ, ps[i]? = some (Tag.io κ)) ∧ (∀ a, F a → O a = none) ∧ (∀ a, F a → H a ≠ none) ∧
  match m ds with
  | .ok d ios => ∀ v F' O' H' P ρ', FB K ps F O H vs F' O' H' ρ' → ios = (ioFrom 0 ps).map (get ρ') → VR K F' H' P d v τ → (∀ a, P a → ¬ F' a ∧ O' a = none ∧ H' a ≠ none ∧ H a = none) → Q v H'
  | .exc x ios => ∀ cls dx F' O' H' ρ', FB K ps F O H vs F' O' H' ρ' → ios = (ioFrom 0 ps).map (get ρ') → RX K ex x cls dx F' H' → E cls dx H'
  | .bad => False
/-- a def's mirror by its body's -/
def defM (n : Nat) (ps : List Tag) (body : M Fl) : FM := fun ds => match body (ds ++ List.replicate (n - ds.length) .none) with
  | .ok (.rt d) ρ => .ok d ((ioFrom 0 ps).map (get ρ))
  | .ok .nx ρ => .ok .none ((ioFrom 0 ps).map (get ρ))
  | .ok .ct _ => .bad
  | .exc x ρ => .exc x ((ioFrom 0 ps).map (get ρ))
  | .bad => .bad
/-- the tags at a def's entry, at its ends -/
def tag0 (n : Nat) (ps : List Tag) : List Tag := ps ++ List.replicate (n - ps.length) .un
def tagE (n : Nat) (ps : List Tag) : List Tag := (ps.map fun τ => if τ.isIo then τ else .un) ++ List.replicate (n - ps.length) .un
def isParam : Tag → Bool
  | .fz => true
  | .io _ => true
  | _ => false
section
variable {K : PySem.W.Frag}
theorem fb_of {ps : List Tag} {n : Nat} {F : AS} {O : OF} {H : Hp} {vs : List V} {ρ' : Env} {σ' : L2.St} {F' : AS} {O' : OF} {H' : Hp} (S : St K ⟨F, H, O, vs⟩ (tagE n ps) ρ' σ' F' O' H') : FB K ps F O H vs F' O' H' ρ' where
  io := fun i κ e => by
    have e1 : (tagE n ps)[i]? = some (.io κ) := by
      unfold tagE
      have hl : i < ps.length := (List.getElem?_eq_some_iff.mp e).1
      rw [List.getElem?_append_left (by simpa using hl), List.getElem?_map, e]
      rfl
    obtain ⟨v, h1, h2⟩ := S.ios i κ e1
    rcases S.sl i _ e1 with z | ⟨w, h3, r⟩
    · cases z
    · rw [h2] at h3; cases h3
      exact ⟨v, h1, r⟩
  own := fun a i e => by
    have key : ∀ κ, (tagE n ps)[i]? = some (.ow κ) → False := fun κ h => by
      unfold tagE at h
      rw [List.getElem?_append] at h
      split at h
      · rw [List.getElem?_map, Option.map_eq_some_iff] at h
        obtain ⟨τ, _, h2⟩ := h
        split at h2
        · rename_i z; subst h2; simp [Tag.isIo] at z
        · cases h2
      · rw [List.getElem?_replicate] at h
        split at h <;> cases h
    have keyI : ∀ κ, (tagE n ps)[i]? = some (.io κ) → ps[i]? = some (.io κ) := fun κ h => by
      unfold tagE at h
      rw [List.getElem?_append] at h
      split at h
      · rw [List.getElem?_map, Option.map_eq_some_iff] at h
        obtain ⟨τ, h1, h2⟩ := h
        split at h2
        · subst h2; exact h1
        · cases h2
      · rw [List.getElem?_replicate] at h
        split at h <;> cases h
    rcases S.own a i e with ⟨κ, h, _⟩ | ⟨κ, h, z⟩
    · exact (key κ h).elim
    · exact ⟨⟨κ, keyI κ h⟩, z⟩
  fo := S.fo
  fh := S.fh
  oh := S.oh
  fr := fun a o h1 h2 => S.fr a o h1 h2
  al := S.al
  tu := S.tu
  f0 := S.f0
  f1 := S.f1
end
/-! ### a def's promise where no repr runs -/
theorem e0K {g : GC} {A : Around} {outer : List PySem.Env} {s : Shared} {H : Hp} (h : Env0 g.P g.w g.K g.mg g.base A outer s H) : g.K.In s.heap := h.mod.kin.keeps fun b o z => (h.bs b o z).1
theorem e0L {g : GC} {A : Around} {outer : List PySem.Env} {s : Shared} {H : Hp} (h : Env0 g.P g.w g.K g.mg g.base A outer s H) : s.heap.NoLimit := h.mod.nolimit.keeps fun b o z => (h.bs b o z).1
structure FnG (g : GC) (cx : CXT) (k : Nat) (f : Addr) (fd : FuncData) (pn : List Str) (sp : Sp) : Prop where
  len : ∀ vs H Q E, sp vs H Q E → vs.length = pn.length
  run : ∀ (A : Around) (outer : List PySem.Env) (s : Shared) (H : Hp) (args : Args) (us : List Value) (vs : List V) (Q : VK) (E : XK), Room k A → A.guards = some [] → Env0 g.P g.w g.K g.mg g.base A outer s H →
    BindsTo s fd args (pn.zip us) → Vals vs us → sp vs H Q E → codeAny (model g.P g.w) A (.call (.ref f) args) (CR cx outer g.P g.w H s Q E) s
theorem FnG.mono {g : GC} {cx : CXT} {j k : Nat} {f : Addr} {fd : FuncData} {pn : List Str} {sp : Sp} (F : FnG g cx j f fd pn sp) (h : j ≤ k) : FnG g cx k f fd pn sp :=
  ⟨F.len, fun A outer s H args us vs Q E hr hg => F.run A outer s H args us vs Q E (hr.mono h) hg⟩
/-- by the body -/
theorem fnG_of {g : GC} {x qual : Str} {st : Stmt} {f : Addr} {fd : FuncData} {N pn : List Str} {k : Nat} {sp : Sp} (Fu : L2.Fun g.K x qual st f fd) (S : FnScope N pn (defScope st)) (len : ∀ vs H Q E, sp vs H Q E → vs.length = pn.length)
    (hbody : ∀ (cdv : Value) (A : Around) (outer : List PySem.Env) (s : Shared) (H : Hp) (vs : List V) (Q : VK) (E : XK), A.guards = some [] → Room k (A.deeper (envOfC qual (defScope st) s.heap.objs.size f cdv)) → sp vs H Q E →
      ∃ t, PSs (cxOf (L2.CX g.P g.w) g.P g.w g.K g.mg g.base N qual (defScope st) f cdv A outer s H E) (defBody st) t ∧ t { nx := fun _ H' => Q .non H', rt := Q } (L2.start N vs) H) :
    FnG g (L2.CX g.P g.w) (k + 1) f fd pn sp := by
  obtain ⟨oc, od, kV, doc, pm, an, cdv, ct, osl, rfl, hlook, hcode⟩ := Fu.ex
  refine ⟨len, fun A outer s H args us vs Q E hr hg hE hbd rel hs => ?_⟩
  have hlen : vs.length = pn.length := len vs H Q E hs
  have hIn : g.K.In s.heap := e0K hE
  obtain ⟨t, pt, qt⟩ := hbody cdv A outer s H vs Q E hg (hr.deeper _) hs
  refine codeAny_call_function hr.depth (hIn f _ hlook) rfl S.co S.gen rfl (PySem.W.codeRec_of hIn hcode) (hbd _ _ _ _ ?_)
  refine wpAny_newFunctionEnv_cells S.kind (fun y hy => ?_) fun env henv s1 hc => ?_
  · rcases S.par y.1 (List.of_mem_zip (show (y.1, y.2) ∈ pn.zip us from hy)).1 with z | z
    · exact .inl z
    · exact .inr ⟨z, PySem.W.cellsFrom_some _ _ _ (.inl z)⟩
  · subst henv
    refine ⟨(e0L hE).keeps hc.toInCall.keep, codeAny_func ?_⟩
    have hI := inv_start (CX := L2.CX g.P g.w) (E := E) S hr.hd hE hlen rel hc
    refine wpAny_mono (pt.run [] s1 (L2.start N vs) H _ hI qt) (fun fl s2 h2 => ?_) fun _ _ h2 => h2
    cases fl with
    | next =>
      obtain ⟨σ2, H2, I2, q2⟩ := h2
      exact ⟨.non, H2, I2.os, I2.bare, I2.base, I2.hok, rfl, q2⟩
    | ret u =>
      obtain ⟨v, σ2, H2, I2, r2, q2⟩ := h2
      exact ⟨v, H2, I2.os, I2.bare, I2.base, I2.hok, r2, q2⟩
    | brk => exact (h2.elim fun _ z => z.elim fun _ y => y.2.elim)
    | cont => exact (h2.elim fun _ z => z.elim fun _ y => y.2.elim)
/-- THE RULE for a def: its mirror, by its body's derivation -/
theorem fn_ok {g : GC} {x qual : Str} {st : Stmt} {f : Addr} {fd : FuncData} {N pn : List Str} {k : Nat} {ex : Str → Option Addr} {ps : List Tag} {τ : Tag} {T' : List Tag} {mb : M Fl}
    (Fu : L2.Fun g.K x qual st f fd) (S : FnScope N pn (defScope st)) (hl : ps.length = pn.length) (hp : ps.all isParam = true) (hb : ∀ J : Jc, XOk g J.X N (defScope st) (fun _ => true) k → (∀ σ, PassesAt (L2.CX g.P g.w) J.X σ (WE J.W σ)) → L2.Takes J.X J.W →
      PassesOwn (model J.X.prog J.X.w) J.X.A J.X.env J.X.xe → (J.X.stack = J.X.env :: J.X.outer ∧ J.X.env.frame = some J.X.env.locals) → J.ex = ex → J.Th = tagE N.length ps → J.Tr = tagE N.length ps → J.τr = τ → SSs J (defBody st) (tag0 N.length ps) T' mb)
    (hτ : τ = .fz ∨ ∃ κ, τ = .ow κ) (hnx : ∃ m : List Bool, m.length = T'.length ∧ mask m T' = tagE N.length ps) (hnone : τ = .fz ∨ ∀ ρ ρ', mb ρ ≠ .ok .nx ρ') :
    FnG g (L2.CX g.P g.w) (k + 1) f fd pn (spF g.K ex ps τ (defM N.length ps mb)) := by
  refine fnG_of Fu S (fun vs H Q E h => by rw [← hl]; exact h.1) fun cdv A outer s H vs Q E hgd hr h => ?_
  obtain ⟨hv, ds, F, O, hd, hsl, hown, hfo, hfh, hm⟩ := h
  let X := cxOf (L2.CX g.P g.w) g.P g.w g.K g.mg g.base N qual (defScope st) f cdv A outer s H E
  let J : Jc := ⟨X, fun cls d _ H => E cls d H, ex, tagE N.length ps, tagE N.length ps, τ, []⟩
  have hX : XOk g J.X N (defScope st) (fun _ => true) k := ⟨rfl, rfl, rfl, rfl, rfl, rfl, rfl, fun _ _ => rfl, rfl, S.nd, hr, hgd⟩
  have tk : L2.Takes J.X J.W := takes_of (X := X) (E := E) rfl rfl rfl rfl
  obtain ⟨t, pt, ct⟩ := hb J hX (fun σ => passAt tk σ) tk (passes_of (X := X) rfl) ⟨rfl, rfl⟩ rfl rfl rfl rfl
  refine ⟨t, pt, ?_⟩
  have hpl : pn.length ≤ N.length := by have := congrArg List.length S.pre; rw [List.length_take] at this; omega
  have hSt : L2.start N vs = vs.map some ++ List.replicate (N.length - vs.length) none := rfl
  have S0 : St g.K ⟨F, H, O, vs⟩ (tag0 N.length ps) (ds ++ List.replicate (N.length - ds.length) .none) (L2.start N vs) F O H := by
    have tg : ∀ {i : Nat} {τ : Tag}, (tag0 N.length ps)[i]? = some τ → ps[i]? = some τ ∨ τ = .un := fun {i τ} h => by
      unfold tag0 at h
      rw [List.getElem?_append] at h
      split at h
      · exact .inl h
      · rw [List.getElem?_replicate] at h
        split at h
        · cases h; exact .inr rfl
        · cases h
    have gt : ∀ {i : Nat} {τ : Tag}, ps[i]? = some τ → (tag0 N.length ps)[i]? = some τ := fun {i τ} h => by
      unfold tag0
      rw [List.getElem?_append_left (List.getElem?_eq_some_iff.mp h).1]; exact h
    have sv : ∀ {i : Nat} {v : V}, vs[i]? = some v → (L2.start N vs)[i]? = some (some v) := fun {i v} h => by
      rw [hSt, List.getElem?_append_left (by simpa using (List.getElem?_eq_some_iff.mp h).1), List.getElem?_map, h]; rfl
    refine ⟨fun i τi e => ?_, fun a i e => ?_, hfo, hfh, fun a i e => ?_, fun a o h _ => h, fun _ h => h, fun _ _ h => h, fun _ h => h, fun _ h => .inl h, fun i κ e => ?_, ?_, ?_⟩
    · rcases tg e with h | h
      · obtain ⟨v, h1, h2⟩ := hsl i τi h
        refine .inr ⟨v, sv h1, ?_⟩
        have : get (ds ++ List.replicate (N.length - ds.length) PyData.none) i = get ds i := by
          unfold DL.get
          have hi : i < ds.length := by rw [hd]; exact (List.getElem?_eq_some_iff.mp h).1
          rw [List.getD_eq_getElem?_getD, List.getD_eq_getElem?_getD, List.getElem?_append_left hi]
        rw [this]; exact h2
      · exact .inl h
    · obtain ⟨κ, h⟩ := hown a i e
      exact .inr ⟨κ, gt h, .inr e⟩
    · obtain ⟨κ, h⟩ := hown a i e
      obtain ⟨v, h1, h2⟩ := hsl i _ h
      exact h2.live e
    · rcases tg e with h | h
      · obtain ⟨v, h1, h2⟩ := hsl i _ h
        exact ⟨v, h1, sv h1⟩
      · cases h
    · unfold tag0; rw [hSt]; simp; omega
    · rw [hSt]; simp; omega
  refine ct _ _ _ _ _ _ _ S0 ?_
  unfold defM at hm
  cases zb : mb (ds ++ List.replicate (N.length - ds.length) .none) with
  | bad => simp only [zb] at hm
  | exc x ρ =>
    simp only [zb] at hm
    intro cls dx σ' F' O' H' k' S' rx
    exact hm cls dx F' O' H' ρ (fb_of S') rfl rx
  | ok fl ρ =>
    cases fl with
    | ct => simp only [zb] at hm
    | rt d =>
      simp only [zb] at hm
      intro v σ' F' O' H' Pp k' S' vr l
      exact hm v F' O' H' Pp ρ (fb_of S') rfl vr l
    | nx =>
      simp only [zb] at hm
      intro σ' F' O' H' k' S'
      rcases hnone with rfl | hn
      · obtain ⟨m, hm1, hm2⟩ := hnx
        have S2 := St.mask S' hm1
        rw [hm2] at S2
        exact hm .non F' _ H' (fun _ => False) ρ (fb_of S2) rfl ⟨.non, fun _ z => z⟩ fun _ z => z.elim
      · exact absurd zb (hn _ _)
end DL

/-! D11: calls of defs. -/
namespace DL
open PySem PySem.Spec PyProof.Rows L2

def callR (m : FM) (ms : List Md) (ds : List PyData) : M PyData := fun ρ => match m (fill ms ds ρ) with
  | .ok d ios => .ok d (putB ms ios ρ)
  | .exc x ios => .exc x (putB ms ios ρ)
  | .bad => .bad
def eCall (m : FM) (ms : List Md) (a : M (List PyData)) : M PyData := a.bind fun ds => callR m ms ds
theorem fill_get {K : PySem.W.Frag} {F : AS} {H : Hp} {σ : L2.St} {ρ : Env} : ∀ {ms : List Md} {ds : List PyData} {vs : List V}, ArgsOk K F H σ ms ds vs →
    (fill ms ds ρ).length = ms.length ∧ vs.length = ms.length ∧ (∀ p : Nat, ms[p]? = some Md.val → ∃ v, vs[p]? = some v ∧ R K F H (get (fill ms ds ρ) p) v) ∧ (∀ p j : Nat, ms[p]? = some (Md.lend j) → ∃ v, vs[p]? = some v ∧ σ[j]? = some (some v) ∧ get (fill ms ds ρ) p = get ρ j)
  | _, _, _, .nil => ⟨rfl, rfl, fun p h => by simp at h, fun p j h => by simp at h⟩
  | _, _, _, .val r q => by
    obtain ⟨h1, h2, h3, h4⟩ := fill_get (ρ := ρ) q
    refine ⟨by simp [fill, h1], by simp [h2], fun p h => ?_, fun p j h => ?_⟩
    · cases p with
      | zero => exact ⟨_, rfl, by simpa [fill, DL.get] using r⟩
      | succ p =>
        obtain ⟨v, e1, e2⟩ := h3 p (by simpa using h)
        exact ⟨v, by simpa using e1, by simpa [fill, DL.get] using e2⟩
    · cases p with
      | zero => simp at h
      | succ p =>
        obtain ⟨v, e1, e2, e3⟩ := h4 p j (by simpa using h)
        exact ⟨v, by simpa using e1, e2, by simpa [fill, DL.get] using e3⟩
  | _, _, _, .lend e q => by
    obtain ⟨h1, h2, h3, h4⟩ := fill_get (ρ := ρ) q
    refine ⟨by simp [fill, h1], by simp [h2], fun p h => ?_, fun p j h => ?_⟩
    · cases p with
      | zero => simp at h
      | succ p =>
        obtain ⟨v, e1, e2⟩ := h3 p (by simpa using h)
        exact ⟨v, by simpa using e1, by simpa [fill, DL.get] using e2⟩
    · cases p with
      | zero =>
        simp at h; subst h
        exact ⟨_, rfl, e, by simp [fill, DL.get]⟩
      | succ p =>
        obtain ⟨v, e1, e2, e3⟩ := h4 p j (by simpa using h)
        exact ⟨v, by simpa using e1, e2, by simpa [fill, DL.get] using e3⟩
section
variable {J : Jc} {T : List Tag} {B : Bd} {ρ : Env} {σ : L2.St} {F : AS} {O : OF} {H : Hp}
/-- the owners behind a call -/
noncomputable def ownC (ms : List Md) (O O' : OF) : OF := fun a => match O' a with
  | some p => (match ms[p]? with | some (.lend j) => some j | _ => none)
  | none => match O a with
    | some j => if (paramOf ms j).isSome then none else some j
    | none => none
theorem call_core {ps : List Tag} {τ : Tag} {m : FM} {ms : List Md} {ds : List PyData} {vs : List V} {Q : VK} {O0 : OF} {H0 : Hp} (S : St J.X.K B T ρ σ F O H) (ha : ArgsOk J.X.K F H σ ms ds vs) (hm : MsOk T ms ps) (hn : (lends ms).Nodup)
    (q : Post J B T σ F O H (CE J B τ Q O0 H0) (callR m ms ds ρ)) (hTh : ∃ b : List Bool, b.length = T.length ∧ mask b T = J.Th) (hE : ∀ a, H a = none → H0 a = none) : spF J.X.K J.ex ps τ m vs H Q (WE J.W σ) := by
  obtain ⟨l1, l2, gv, gl⟩ := fill_get (ρ := ρ) ha
  have lm := hm.len
  have Olt : ∀ j κ, (T[j]? = some (.ow κ) ∨ T[j]? = some (Tag.io κ)) → j < ρ.length := fun j κ h => by
    rw [S.lenR, ← S.lenT]
    rcases h with h | h <;> exact (List.getElem?_eq_some_iff.mp h).1
  have hlj : ∀ j ∈ lends ms, j < ρ.length := fun j hj => by
    have : ∃ p : Nat, ms[p]? = some (Md.lend j) := by
      clear q ha hm hn gv gl l1 l2 lm
      induction ms with
      | nil => simp [lends] at hj
      | cons x ms ih =>
        cases x with
        | val => obtain ⟨p, e⟩ := ih (by simpa [lends] using hj); exact ⟨p + 1, by simpa using e⟩
        | lend i =>
          simp only [lends, List.mem_cons] at hj
          rcases hj with rfl | hj
          · exact ⟨0, rfl⟩
          · obtain ⟨p, e⟩ := ih hj; exact ⟨p + 1, by simpa using e⟩
    obtain ⟨p, e⟩ := this
    obtain ⟨κ, _, h⟩ := hm.at e
    exact Olt j κ h
  let Oc : OF := fun a => (O a).bind fun j => paramOf ms j
  have Oc_iff : ∀ a p, Oc a = some p ↔ ∃ j, O a = some j ∧ paramOf ms j = some p := fun a p => by
    show (O a).bind _ = some p ↔ _
    cases O a <;> simp
  refine ⟨by rw [l2, lm], fill ms ds ρ, F, Oc, by rw [l1, lm], fun i τi e => ?_, fun a i e => ?_, fun a f => ?_, S.fh, ?_⟩
  · rcases hm.atP e with ⟨rfl, h⟩ | ⟨j, κ, rfl, h, ht⟩
    · obtain ⟨v, h1, h2⟩ := gv i h
      refine ⟨v, h1, h2, fun a z => ?_⟩
      obtain ⟨j, _, h4⟩ := (Oc_iff a i).mp z
      have := paramOf_at h4
      rw [h] at this; cases this
    · obtain ⟨v, h1, h2, h3⟩ := gl i j h
      refine ⟨v, h1, ?_⟩
      rw [h3]
      have hp : paramOf ms j = some i := paramOf_of hn h
      have eqP : ∀ a, O a = some j ↔ Oc a = some i := fun a => by
        rw [Oc_iff]
        refine ⟨fun z => ⟨j, z, hp⟩, fun ⟨j', z, y⟩ => ?_⟩
        have e1 := paramOf_at y
        rw [h] at e1; cases e1; exact z
      rcases ht with ht | ht
      · rcases S.sl j _ ht with z | ⟨w, e1, r⟩
        · cases z
        · rw [h2] at e1; cases e1
          exact VR.congr (τ := .io κ) (show κ.rel J.X.K F H (fun a => O a = some j) (get ρ j) v from r) eqP
      · rcases S.sl j _ ht with z | ⟨w, e1, r⟩
        · cases z
        · rw [h2] at e1; cases e1
          exact VR.congr (τ := .io κ) (show κ.rel J.X.K F H (fun a => O a = some j) (get ρ j) v from r) eqP
  · obtain ⟨j, h1, h2⟩ := (Oc_iff a i).mp e
    obtain ⟨κ, h3, _⟩ := hm.at (paramOf_at h2)
    exact ⟨κ, h3⟩
  · show (O a).bind _ = none
    rw [S.fo a f]; rfl
  · -- behind the call
    have key : ∀ {F' : AS} {O' : OF} {H' : Hp} {ρ' : Env}, FB J.X.K ps F Oc H vs F' O' H' ρ' →
        Ext F O H F' (ownC ms O O') H' ∧ St J.X.K B T (putB ms ((ioFrom 0 ps).map (get ρ')) ρ) σ F' (ownC ms O O') H' := fun {F' O' H' ρ'} b => by
      have slotO : ∀ a p, O' a = some p → ∃ j, ms[p]? = some (Md.lend j) := fun a p e => by
        obtain ⟨⟨κ, h⟩, _⟩ := b.own a p e
        rcases hm.atP h with ⟨z, _⟩ | ⟨j, κ', _, h2, _⟩
        · cases z
        · exact ⟨j, h2⟩
      have own_some : ∀ a j, ownC ms O O' a = some j ↔ (∃ p, O' a = some p ∧ ms[p]? = some (Md.lend j)) ∨ (O' a = none ∧ O a = some j ∧ paramOf ms j = none) := fun a j => by
        unfold ownC
        cases e : O' a with
        | some p =>
          obtain ⟨j', h⟩ := slotO a p e
          simp only [h, Option.some.injEq]
          refine ⟨fun z => .inl ⟨p, rfl, by rw [← z]; exact h⟩, fun z => ?_⟩
          rcases z with ⟨p', e1, e2⟩ | ⟨z, _⟩
          · cases e1; rw [h] at e2; cases e2; rfl
          · cases z
        | none =>
          cases e2 : O a with
          | none => simp
          | some i =>
            cases e3 : paramOf ms i with
            | some p =>
              simp only [e3, Option.isSome_some, if_true]
              refine ⟨fun z => (by cases z), fun z => ?_⟩
              rcases z with ⟨p', z, _⟩ | ⟨_, z, y⟩
              · cases z
              · cases z; rw [e3] at y; cases y
            | none =>
              simp only [e3, Option.isSome_none, Bool.false_eq_true, if_false, Option.some.injEq]
              refine ⟨fun z => .inr ⟨trivial, z, by rw [← z]; exact e3⟩, fun z => ?_⟩
              rcases z with ⟨p', z, _⟩ | ⟨_, z, _⟩
              · cases z
              · exact z
      have notlent : ∀ a, O a = none → Oc a = none := fun a h => by show (O a).bind _ = none; rw [h]; rfl
      have notlent2 : ∀ a j, O a = some j → paramOf ms j = none → Oc a = none := fun a j h h2 => by show (O a).bind _ = none; rw [h]; exact h2
      have live : ∀ a j, O a = some j → paramOf ms j = none → ∃ o, H a = some o ∧ H' a = some o ∧ O' a = none := fun a j h h2 => by
        obtain ⟨o, q⟩ := Option.ne_none_iff_exists'.mp (S.oh a j h)
        refine ⟨o, q, b.fr a o q (notlent2 a j h h2), ?_⟩
        cases e : O' a with
        | none => rfl
        | some p =>
          rcases (b.own a p e).2 with z | z
          · rw [q] at z; cases z
          · rw [notlent2 a j h h2] at z; cases z
      have K1 : Keep F H F' H' := ⟨b.f0, fun a o f h => b.fr a o h (notlent a (S.fo a f)), b.tu⟩
      have E1 : Ext F O H F' (ownC ms O O') H' := by
        refine ⟨b.f0, fun a o h n => b.fr a o h (notlent a n), fun a z => ?_, fun a f => (b.f1 a f).imp id .inr, b.al, b.tu⟩
        obtain ⟨j, e⟩ := Option.ne_none_iff_exists'.mp z
        rcases (own_some a j).mp e with ⟨p, e1, _⟩ | ⟨_, e1, _⟩
        · rcases (b.own a p e1).2 with y | y
          · exact .inr y
          · obtain ⟨i, z1, _⟩ := (Oc_iff a p).mp y
            exact .inl (by rw [z1]; simp)
        · exact .inl (by rw [e1]; simp)
      refine ⟨E1, ⟨fun j τ e => ?_, fun a j e => ?_, fun a f => ?_, b.fh, fun a j e => ?_, fun a o h1 h2 => ?_, fun a h => b.al a (S.al a h), fun a xs h => b.tu a xs (S.tu a xs h), fun a f => b.f0 a (S.f0 a f), fun a f => ?_, S.ios, S.lenT, by rw [putB_length]; exact S.lenR⟩⟩
      · rw [putB_get (T := T) 0 ρ ρ' hm hn hlj j]
        cases e3 : paramOf ms j with
        | some p =>
          have h2 := paramOf_at e3
          obtain ⟨κ, h3, h4⟩ := hm.at h2
          obtain ⟨v, h5, h6⟩ := b.io p κ h3
          obtain ⟨w, h7, h8, _⟩ := gl p j h2
          rw [h5] at h7; cases h7
          have eqP : ∀ a, O' a = some p ↔ ownC ms O O' a = some j := fun a => by
            rw [own_some]
            refine ⟨fun z => .inl ⟨p, z, h2⟩, fun z => ?_⟩
            rcases z with ⟨p', z, y⟩ | ⟨_, _, z⟩
            · have := paramOf_of hn y
              rw [e3] at this; cases this; exact z
            · rw [e3] at z; cases z
          refine .inr ⟨v, h8, ?_⟩
          simp only [Nat.zero_add]
          rcases h4 with h4 | h4
          · rw [e] at h4; cases h4
            exact VR.congr (τ := .ow κ) (show κ.rel J.X.K F' H' _ (get ρ' p) v from h6) eqP
          · rw [e] at h4; cases h4
            exact VR.congr (τ := .io κ) (show κ.rel J.X.K F' H' _ (get ρ' p) v from h6) eqP
        | none =>
          refine (S.sl j τ e).imp id fun ⟨v, e1, r⟩ => ⟨v, e1, ?_⟩
          have eqP : ∀ a, O a = some j ↔ ownC ms O O' a = some j := fun a => by
            rw [own_some]
            refine ⟨fun z => ?_, fun z => ?_⟩
            · obtain ⟨o, _, _, h3⟩ := live a j z e3
              exact .inr ⟨h3, z, e3⟩
            · rcases z with ⟨p', z, y⟩ | ⟨_, z, _⟩
              · have := paramOf_of hn y
                rw [e3] at this; cases this
              · exact z
          refine VR.congr (r.keep K1 fun a o p h => ?_) eqP
          obtain ⟨o', h1, h2, _⟩ := live a j p e3
          rw [h] at h1; cases h1; exact h2
      · rcases (own_some a j).mp e with ⟨p, e1, e2⟩ | ⟨_, e1, _⟩
        · obtain ⟨κ, h3, h4⟩ := hm.at e2
          rcases (b.own a p e1).2 with y | y
          · rcases h4 with h4 | h4
            · exact .inl ⟨κ, h4, S.fresh y⟩
            · exact .inr ⟨κ, h4, .inl (S.fresh y)⟩
          · obtain ⟨i, z1, z2⟩ := (Oc_iff a p).mp y
            have z3 := paramOf_at z2
            rw [e2] at z3; cases z3
            exact S.own a j z1
        · exact S.own a j e1
      · unfold ownC
        rw [b.fo a f]
        cases e : O a with
        | none => rfl
        | some j =>
          cases e3 : paramOf ms j with
          | some p => simp [e3]
          | none =>
            obtain ⟨o, h1, h2, _⟩ := live a j e e3
            rcases b.f1 a f with z | z
            · rw [S.fo a z] at e; cases e
            · rw [h1] at z; cases z
      · rcases (own_some a j).mp e with ⟨p, e1, _⟩ | ⟨_, e1, e3⟩
        · exact b.oh a p e1
        · obtain ⟨o, _, h2, _⟩ := live a j e1 e3
          rw [h2]; simp
      · have h3 := S.fr a o h1 h2
        cases e : O a with
        | none => exact b.fr a o h3 (notlent a e)
        | some j =>
          rcases S.own a j e with ⟨_, _, z⟩ | ⟨_, _, z⟩
          · rw [h1] at z; cases z
          · rcases z with z | z
            · rw [h1] at z; cases z
            · rw [h2] at z; cases z
      · rcases b.f1 a f with z | z
        · exact S.f1 a z
        · exact .inr (S.fresh z)
    unfold callR at q
    cases zm : m (fill ms ds ρ) with
    | bad => simp only [zm] at q; exact q
    | exc x ios =>
      simp only [zm] at q
      intro cls dx F' O' H' ρ' b hi rx
      obtain ⟨E1, S1⟩ := key b
      obtain ⟨bm, hb1, hb2⟩ := hTh
      have S2 := S1.mask hb1
      rw [hb2] at S2
      subst hi
      refine q cls dx F' _ H' ⟨E1.f, E1.h, fun a z => ?_, E1.fn, E1.al, E1.t⟩ S2 rx
      refine E1.o a fun y => ?_
      rw [y] at z; simp at z
    | ok d ios =>
      simp only [zm] at q
      intro v F' O' H' P ρ' b hi vr l
      obtain ⟨E1, S1⟩ := key b
      subst hi
      refine q F' _ H' E1 S1 v P vr (fun a p => ?_) fun a p => ?_
      · obtain ⟨h1, h2, h3, h4⟩ := l a p
        refine ⟨h1, ?_, h3, S.fresh h4⟩
        unfold ownC
        rw [h2, S.freshO h4]
      · exact .inr (hE a (l a p).2.2.2)
end
def noStar (es : List Expr) : Bool := es.all fun e => !isStar e
theorem backTo_plain {pos : Pos} {env : PySem.Env} : ∀ {es : List Expr}, noStar es = true → (backTo pos (starEach es env)).any (·.1) = false
  | [], _ => rfl
  | e :: es, h => by
    simp only [noStar, List.all_cons, Bool.and_eq_true, Bool.not_eq_true'] at h
    rw [starEach_cons h.1]
    simp only [backTo, List.map_cons, List.any_cons, Bool.false_or]
    exact backTo_plain (es := es) h.2
theorem XOk.env0 {g : GC} {X : Cx} {N : List Str} {sc : Scope} {fc : Str → Bool} {k : Nat} (hX : XOk g X N sc fc k) {pins : List (Addr × Obj)} {σ : L2.St} {H : Hp} {s : Shared} (I : Inv X pins σ H s) : Env0 g.P g.w g.K g.mg g.base X.A X.stack s H := by
  have h := I.env0
  rw [hX.pr, hX.w, hX.kk, hX.mg, hX.bs] at h; exact h
/-- a def's run within a context -/
theorem run_G {g : GC} {X : Cx} {N : List Str} {sc : Scope} {fc : Str → Bool} {k kf : Nat} (hX : XOk g X N sc fc k) {cx : CXT} {f : Addr} {fd : FuncData} {pn : List Str} {sp : Sp} {E : L2.St → XK} (F : FnG g cx kf f fd pn sp) (hk : kf ≤ k)
    {pins : List (Addr × Obj)} {σ : L2.St} {H : Hp} {s : Shared} {Q : VK} {args : Args} {us : List Value} {vs : List V} (hx : PassesAt cx X σ (E σ)) (I : Inv X pins σ H s) (hb : BindsTo s fd args (pn.zip us)) (r : Vals vs us) (h : sp vs H Q (E σ)) :
    wpAny (model X.prog X.w) X.A (PySem.call (.ref f) args.pos args.kw) (EP X pins σ Q) X.xe s := by
  have h0 := F.run X.A X.stack s H args us vs Q (E σ) (hX.hr.mono hk) hX.gd (hX.env0 I) hb r h
  rw [← hX.pr, ← hX.w] at h0
  refine wpAny_call (codeAny_mono h0 fun r' s' hq => ?_)
  cases r' with
  | error e => exact hx pins H s e s' I hq
  | ok fl =>
    cases fl with
    | ret u => exact I.after hq
    | next => exact False.elim hq
    | brk => exact False.elim hq
    | cont => exact False.elim hq
theorem run_G1 {g : GC} {X : Cx} {N : List Str} {sc : Scope} {fc : Str → Bool} {k kf : Nat} (hX : XOk g X N sc fc k) {cx : CXT} {f : Addr} {fd : FuncData} {pn : List Str} {sp : Sp} {E : L2.St → XK} (F : FnG g cx kf f fd pn sp) (hk : kf ≤ k) (hbd : Binds g.K fd pn [])
    {pins : List (Addr × Obj)} {σ : L2.St} {H : Hp} {s : Shared} {Q : VK} {us : List Value} {vs : List V} (hx : PassesAt cx X σ (E σ)) (I : Inv X pins σ H s) (r : Vals vs us) (h : sp vs H Q (E σ)) :
    wpAny (model X.prog X.w) X.A (PySem.call (.ref f) us) (EP X pins σ Q) X.xe s := by
  have hl : us.length = pn.length := by rw [← r.length]; exact F.len _ _ _ _ h
  have b := hbd s us (by rw [← hX.kk]; exact I.kIn) (by simpa using hl)
  rw [List.append_nil] at b
  exact run_G (args := ⟨us, []⟩) hX F hk hx I b r h
section
variable {g : GC} {J : Jc} {N : List Str} {sc : Scope} {fc : Str → Bool} {k : Nat} {t : Tab} {T T1 : List Tag}
/-- a def that is called: where it stands, its mirror -/
structure Cal (g : GC) (cx : CXT) (ex : Str → Option Addr) (x : Str) (st : Stmt) (kf : Nat) (pn : List Str) (ps : List Tag) (τ : Tag) (m : FM) : Prop where
  ok : ∃ (f : Addr) (fd : FuncData), FnG g cx kf f fd pn (spF g.K ex ps τ m) ∧ g.mg x = some (.ref f) ∧ PySem.W.keepIn g.K (.ref f) = true ∧ Binds g.K fd pn [] ∧
    ∃ (kV doc pm : Value) (an : Option Addr) (cdv ct : Value), fd = PySem.W.fnOf x x (defArgs st) (defBody st) (defScope st) .none kV doc pm an cdv ct
theorem se_call (hX : XOk g J.X N sc fc k) (ht : t.ok N sc fc = true) {cx : CXT} (hp : ∀ σ, PassesAt cx J.X σ (WE J.W σ)) {x : Str} {st : Stmt} {kf : Nat} {pn : List Str} {ps : List Tag} {τ : Tag} {m : FM} (C : Cal g cx J.ex x st kf pn ps τ m) (hk : kf ≤ k) {j : Nat} (hj : t.gl[j]? = some x)
    {e : Expr} {es : List Expr} {ms : List Md} {fa : M (List PyData)} {p pos : Pos} (ha : SA J (e :: es) ms T T1 fa) (hms : MsOk T1 ms ps) (hn : (lends ms).Nodup) (b : List Bool) (hb : b.length = T1.length) (hTh : mask b T1 = J.Th) (hs : isStar e = false) (hs2 : noStar es = true) :
    SE J (.Call (.Name x p) (e :: es) [] pos) τ T T1 (eCall m ms fa) := by
  obtain ⟨f, fd, F, hm, hkp, hbd, _⟩ := C.ok
  obtain ⟨ta, pa, ca⟩ := ha
  obtain ⟨g1, g2, _⟩ := hX.gl ht hj
  have F : FnG g cx kf f fd pn (spF J.X.K J.ex ps τ m) := by rw [hX.kk]; exact F
  have hkp : PySem.W.keepIn J.X.K (.ref f) = true := by rw [hX.kk]; exact hkp
  have pe : PE J.X (.Call (.Name x p) (e :: es) [] pos) (fun σ H Q => ta σ H fun vs H1 => spF J.X.K J.ex ps τ m vs H1 Q (WE J.W σ)) := ⟨fun pins s σ H Q I h => by
    refine wpAny_Call_Name_kw (ld_glob I g1 (by rw [hX.mg]; exact hm) ?_ g2)
    refine PySem.W.callWith_K (h₀ := J.X.base) I.ok.mod.kin hkp (thn (pa.run pos pins s σ H _ I h) fun us s1 ⟨vs, H1, I1, r, q⟩ => ⟨I1.kIn, ?_⟩) (starEach_cons hs) (backTo_plain hs2)
    exact run_G1 hX F hk hbd (hp σ) I1 r q⟩
  refine ⟨_, pe, fun B ρ σ F O H Q S q => ?_⟩
  refine ca B ρ σ F O H _ S (Post.bind q fun ds ρ1 F1 O1 H1 _ e1 S1 q1 => fun vs ok => ?_)
  exact call_core S1 ok hms hn q1 ⟨b, hb, hTh⟩ fun a h => hne e1 h
theorem se_call0 (hX : XOk g J.X N sc fc k) (ht : t.ok N sc fc = true) {cx : CXT} (hp : ∀ σ, PassesAt cx J.X σ (WE J.W σ)) {x : Str} {st : Stmt} {kf : Nat} {τ : Tag} {m : FM} (C : Cal g cx J.ex x st kf [] [] τ m) (hk : kf ≤ k) {j : Nat} (hj : t.gl[j]? = some x) {p pos : Pos}
    (b : List Bool) (hb : b.length = T.length) (hTh : mask b T = J.Th) : SE J (.Call (.Name x p) [] [] pos) τ T T (eCall m [] aNil) := by
  obtain ⟨f, fd, F, hm, hkp, hbd, _⟩ := C.ok
  obtain ⟨g1, g2, _⟩ := hX.gl ht hj
  have F : FnG g cx kf f fd [] (spF J.X.K J.ex [] τ m) := by rw [hX.kk]; exact F
  have hkp : PySem.W.keepIn J.X.K (.ref f) = true := by rw [hX.kk]; exact hkp
  have pe : PE J.X (.Call (.Name x p) [] [] pos) (fun σ H Q => spF J.X.K J.ex [] τ m [] H Q (WE J.W σ)) := ⟨fun pins s σ H Q I h => by
    refine wpAny_Call_Name_kw (ld_glob I g1 (by rw [hX.mg]; exact hm) ?_ g2)
    exact PySem.W.callWith_K0 I.kIn hkp (run_G1 (us := []) hX F hk hbd (hp σ) I .nil h)⟩
  refine ⟨_, pe, fun B ρ σ F O H Q S q => ?_⟩
  exact call_core (ms := []) (ds := []) S .nil .nil (by simp [lends]) q ⟨b, hb, hTh⟩ fun a h => h

/-! ### keywords alone -/
def SK (J : Jc) (kws : List Keyword) (n : Nat) (T T' : List Tag) (f : M (List PyData)) : Prop :=
  ∃ t, PK J.X kws t ∧ ∀ B ρ σ F O H Q, St J.X.K B T ρ σ F O H → Post J B T' σ F O H (fun ds F1 _ H1 => ∀ vs, RAll J.X.K F1 H1 ds vs → ds.length = n → Q vs H1) (f ρ) → t σ H Q
theorem sk_nil : SK J [] 0 T T aNil := ⟨_, pk_nil, fun B ρ σ F O H Q S q => ct_ok S q [] .nil rfl⟩
theorem sk_cons {T2 : List Tag} {nm : Option Str} {e : Expr} {kpos : Pos} {kws : List Keyword} {n : Nat} {fa : M PyData} {fb : M (List PyData)} (ha : SE J e .fz T T1 fa) (hb : SK J kws n T1 T2 fb) : SK J (⟨nm, e, kpos⟩ :: kws) (n + 1) T T2 (aCons fa fb) := by
  obtain ⟨ta, pa, ca⟩ := ha
  obtain ⟨tb, pb, cb⟩ := hb
  refine ⟨_, pk_cons pa pb, fun B ρ σ F O H Q S q => ?_⟩
  refine ca B ρ σ F O H _ S (Post.bind q fun d ρ1 F1 O1 H1 _ e1 S1 q1 => fun v P vr l _ => ?_)
  refine cb B ρ1 σ F1 O1 H1 _ S1 (Post.bind q1 fun ds ρ2 F2 O2 H2 _ e2 S2 q2 => fun vs ok hl => ?_)
  exact ct_ok S2 q2 (v :: vs) (.cons (R.keep (e2.keep S1.fo) d v vr.1) ok) (by simp [hl])
/-- the arguments in the parameters' order -/
def eCallK (m : FM) (perm : List Nat) (a : M (List PyData)) : M PyData := a.bind fun ds => callR m (List.replicate perm.length .val) (perm.map fun i => get ds i)
theorem argsOk_perm {K : PySem.W.Frag} {F : AS} {H : Hp} {σ : L2.St} {ds : List PyData} {vs : List V} (h : RAll K F H ds vs) : ∀ {perm : List Nat}, (∀ i ∈ perm, i < ds.length) → ArgsOk K F H σ (List.replicate perm.length .val) (perm.map fun i => get ds i) (perm.map fun i => vs.getD i .non)
  | [], _ => .nil
  | i :: r, hl => by
    have hi := hl i (by simp)
    obtain ⟨v, e1, e2⟩ := h.get (List.getElem?_eq_getElem hi)
    refine .val ?_ (argsOk_perm h fun j hj => hl j (by simp [hj]))
    have e3 : DL.get ds i = ds[i] := by unfold DL.get; simp [List.getD, List.getElem?_eq_getElem hi]
    show R K F H (DL.get ds i) (vs.getD i V.non)
    rw [e3, show vs.getD i V.non = v by simp [List.getD, e1]]
    exact e2
theorem vals_perm {vs : List V} {us : List Value} (r : Vals vs us) : ∀ {perm : List Nat}, (∀ i ∈ perm, i < vs.length) → Vals (perm.map fun i => vs.getD i .non) (perm.map fun i => us.getD i .none)
  | [], _ => .nil
  | i :: p, hl => by
    have hi := hl i (by simp)
    obtain ⟨u, e1, e2⟩ := r.get (List.getElem?_eq_getElem hi)
    refine .cons ?_ (vals_perm r fun j hj => hl j (by simp [hj]))
    show RelV (vs.getD i V.non) (us.getD i Value.none)
    rw [show vs.getD i V.non = vs[i] by simp [List.getD, List.getElem?_eq_getElem hi], show us.getD i Value.none = u by simp [List.getD, e1]]
    exact e2
theorem msOk_val {T : List Tag} : ∀ n, MsOk T (List.replicate n .val) (List.replicate n .fz)
  | 0 => .nil
  | n + 1 => .val (msOk_val n)
theorem lends_val : ∀ n, lends (List.replicate n .val) = []
  | 0 => rfl
  | n + 1 => by simp only [List.replicate_succ, lends]; exact lends_val n
theorem se_callK (hX : XOk g J.X N sc fc k) (ht : t.ok N sc fc = true) {cx : CXT} (hp : ∀ σ, PassesAt cx J.X σ (WE J.W σ)) {x : Str} {st : Stmt} {kf : Nat} {pn : List Str} {n : Nat} {τ : Tag} {m : FM} (C : Cal g cx J.ex x st kf pn (List.replicate n .fz) τ m) (hk : kf ≤ k) {j : Nat} (hj : t.gl[j]? = some x)
    {kws : List Keyword} (ks : List Str) (perm : List Nat) (h1 : perm.length = n) (h3 : ∀ i ∈ perm, i < n) (h4 : ks.length = n) {fa : M (List PyData)} {p pos : Pos} (ha : SK J kws n T T1 fa) (b : List Bool) (hb : b.length = T1.length) (hTh : mask b T1 = J.Th)
    (hbd : ∀ (kV doc pm : Value) (an : Option Addr) (cdv ct : Value) (ws : List Value), ws.length = ks.length → bindArgs (PySem.W.fnOf x x (defArgs st) (defBody st) (defScope st) .none kV doc pm an cdv ct) ⟨[], ks.zip ws⟩ = pure (pn.zip (perm.map fun i => ws.getD i .none)))
    (hall : (backToKw pos (keywordEach kws J.X.env)).all (·.1.isSome) = true) (hks : (backToKw pos (keywordEach kws J.X.env)).filterMap (·.1) = ks)
    (hpl : ((backTo pos (starEach [] J.X.env)).any (·.1) || (backToKw pos (keywordEach kws J.X.env)).any (·.1.isNone)) = false) :
    SE J (.Call (.Name x p) [] kws pos) τ T T1 (eCallK m perm fa) := by
  obtain ⟨f, fd, F, hm, hkp, _, kV, doc, pm, an, cdv, ct, rfl⟩ := C.ok
  obtain ⟨ta, pa, ca⟩ := ha
  obtain ⟨g1, g2, _⟩ := hX.gl ht hj
  rw [← hX.kk] at F
  have hkp : PySem.W.keepIn J.X.K (.ref f) = true := by rw [hX.kk]; exact hkp
  have pe : PE J.X (.Call (.Name x p) [] kws pos) (fun σ H Q => ta σ H fun vs H1 => vs.length = n ∧ spF J.X.K J.ex (List.replicate n .fz) τ m (perm.map fun i => vs.getD i .non) H1 Q (WE J.W σ)) := ⟨fun pins s σ H Q I h => by
    refine wpAny_Call_Name_kw (ld_glob I g1 (by rw [hX.mg]; exact hm) ?_ g2)
    refine PySem.W.callWith_KW0 (h₀ := J.X.base) I.ok.mod.kin hkp hall ?_ hpl
    refine thn (pa.run pos pins s σ H _ I h) fun ws s2 ⟨zs, H2, I2, rz, hz, q2⟩ => ⟨I2.kIn, ?_⟩
    rw [hks]
    have lw : ws.length = ks.length := by rw [← rz.length, hz, h4]
    have vp := vals_perm (perm := perm) rz fun i hi => by rw [hz]; exact h3 i hi
    exact run_G (args := ⟨[], ks.zip ws⟩) hX F hk (hp σ) I2 (.of_eq (hbd kV doc pm an cdv ct ws lw)) vp q2⟩
  refine ⟨_, pe, fun B ρ σ F O H Q S q => ?_⟩
  refine ca B ρ σ F O H _ S (Post.bind q fun ds ρ1 F1 O1 H1 _ e1 S1 q1 => fun vs ok hl => ⟨by rw [← ok.length]; exact hl, ?_⟩)
  refine call_core S1 (argsOk_perm ok fun i hi => by rw [hl]; exact h3 i hi) (by rw [h1]; exact msOk_val n) (by rw [lends_val]; simp) q1 ⟨b, hb, hTh⟩ fun a h => hne e1 h
end
end DL

/-! D12: built-ins. -/
namespace DL
open PySem PySem.Spec PyProof.Rows L2

theorem callR_or {X : Cx} {u : Value} {r r' : List V → Hp → VK → Prop} (a : CallR X u r) (b : CallR X u r') : CallR X u (fun xs H Q => r xs H Q ∨ r' xs H Q) :=
  fun pins s σ H xs us Q I rl h => h.elim (a pins s σ H xs us Q I rl) (b pins s σ H xs us Q I rl)
section
variable {g : GC} {N : List Str} {sc : Scope} {fc : Str → Bool} {k : Nat} {t : Tab} {J : Jc} {T T1 T2 : List Tag}
theorem se_b1 (hX : XOk g J.X N sc fc k) (ht : t.ok N sc fc = true) {j : Nat} {x : Str} (hj : t.gl[j]? = some x) (hm : g.mg x = none) {id : String} (hv : bootBuiltins x = some (.builtin id)) {r : List V → Hp → VK → Prop} {f : PyData → Option PyData} (hc : CallR J.X (.builtin id) r)
    (hf : OpS1 J.X.K (fun v H Q => r [v] H Q) f) {e : Expr} {fa : M PyData} {p pos : Pos} (ha : SEb J e T T1 fa) (hs : isStar e = false) : SE J (.Call (.Name x p) [e] [] pos) .fz T T1 (eOp1 f fa) :=
  un_core (fun ta pa => pe_callB hc (hX.gl ht hj).1 (by rw [hX.mg]; exact hm) hv (pa_cons pa pa_nil (starEach_cons hs)) (hX.gl ht hj).2.2 (hX.gl ht hj).2.1 (starEach_cons hs) rfl) hf ha
theorem se_b1O (hX : XOk g J.X N sc fc k) (ht : t.ok N sc fc = true) {j : Nat} {x : Str} (hj : t.gl[j]? = some x) (hm : g.mg x = none) {id : String} (hv : bootBuiltins x = some (.builtin id)) {κ : Kind} {r : List V → Hp → VK → Prop} {f : PyData → Option PyData} (hc : CallR J.X (.builtin id) r)
    (hf : OpS1O J.X.K κ (fun v H Q => r [v] H Q) f) {e : Expr} {fa : M PyData} {p pos : Pos} (ha : SEb J e T T1 fa) (hs : isStar e = false) : SE J (.Call (.Name x p) [e] [] pos) (.ow κ) T T1 (eOp1 f fa) :=
  un_coreO (fun ta pa => pe_callB hc (hX.gl ht hj).1 (by rw [hX.mg]; exact hm) hv (pa_cons pa pa_nil (starEach_cons hs)) (hX.gl ht hj).2.2 (hX.gl ht hj).2.1 (starEach_cons hs) rfl) hf ha
theorem se_t1 (hX : XOk g J.X N sc fc k) (ht : t.ok N sc fc = true) {j : Nat} {x : Str} (hj : t.gl[j]? = some x) (hm : g.mg x = none) {id : String} (hv : bootBuiltins x = some (.type id)) {r : List V → Hp → VK → Prop} {f : PyData → Option PyData} (hc : CallR J.X (.type id) r)
    (hf : OpS1 J.X.K (fun v H Q => r [v] H Q) f) {e : Expr} {fa : M PyData} {p pos : Pos} (ha : SEb J e T T1 fa) (hs : isStar e = false) : SE J (.Call (.Name x p) [e] [] pos) .fz T T1 (eOp1 f fa) :=
  un_core (fun ta pa => pe_callTy hc (hX.gl ht hj).1 (by rw [hX.mg]; exact hm) hv (pa_cons pa pa_nil (starEach_cons hs)) (hX.gl ht hj).2.2 (hX.gl ht hj).2.1 (starEach_cons hs) rfl) hf ha
theorem se_t1O (hX : XOk g J.X N sc fc k) (ht : t.ok N sc fc = true) {j : Nat} {x : Str} (hj : t.gl[j]? = some x) (hm : g.mg x = none) {id : String} (hv : bootBuiltins x = some (.type id)) {κ : Kind} {r : List V → Hp → VK → Prop} {f : PyData → Option PyData} (hc : CallR J.X (.type id) r)
    (hf : OpS1O J.X.K κ (fun v H Q => r [v] H Q) f) {e : Expr} {fa : M PyData} {p pos : Pos} (ha : SEb J e T T1 fa) (hs : isStar e = false) : SE J (.Call (.Name x p) [e] [] pos) (.ow κ) T T1 (eOp1 f fa) :=
  un_coreO (fun ta pa => pe_callTy hc (hX.gl ht hj).1 (by rw [hX.mg]; exact hm) hv (pa_cons pa pa_nil (starEach_cons hs)) (hX.gl ht hj).2.2 (hX.gl ht hj).2.1 (starEach_cons hs) rfl) hf ha
/-- two parts -/
theorem se_b2 (hX : XOk g J.X N sc fc k) (ht : t.ok N sc fc = true) {j : Nat} {x : Str} (hj : t.gl[j]? = some x) (hm : g.mg x = none) {id : String} (hv : bootBuiltins x = some (.builtin id)) {r : List V → Hp → VK → Prop} {f : PyData → PyData → Option PyData} (hc : CallR J.X (.builtin id) r)
    (hf : OpS2 J.X.K (fun v w H Q => r [v, w] H Q) f) {e e2 : Expr} {fa fb : M PyData} {p pos : Pos} (ha : SE J e .fz T T1 fa) (hb : SEb J e2 T1 T2 fb) (hs : isStar e = false) (hs2 : isStar e2 = false) : SE J (.Call (.Name x p) [e, e2] [] pos) .fz T T2 (eOp2 f fa fb) :=
  bin_core (fun ta tb pa pb => pe_callB hc (hX.gl ht hj).1 (by rw [hX.mg]; exact hm) hv (pa_cons pa (pa_cons pb pa_nil (starEach_cons hs2)) (starEach_cons hs)) (hX.gl ht hj).2.2 (hX.gl ht hj).2.1 (starEach_cons hs) (backTo_plain (by simp [noStar, hs2]))) hf ha hb
/-- a type's name as a value -/
theorem pe_tyName (hX : XOk g J.X N sc fc k) (ht : t.ok N sc fc = true) {j : Nat} {x : Str} (hj : t.gl[j]? = some x) (hm : g.mg x = none) {id : String} (hv : bootBuiltins x = some (.type id)) {p : Pos} : PE J.X (.Name x p) (tC (.ty id)) :=
  pe_bltn (hX.gl ht hj).1 (by rw [hX.mg]; exact hm) hv rfl (hX.gl ht hj).2.2 (hX.gl ht hj).2.1
theorem se_b1T (hX : XOk g J.X N sc fc k) (ht : t.ok N sc fc = true) {j : Nat} {x : Str} (hj : t.gl[j]? = some x) (hm : g.mg x = none) {id : String} (hv : bootBuiltins x = some (.builtin id)) {r : List V → Hp → VK → Prop} {f : PyData → Option PyData} {j2 : Nat} {x2 : Str} (hj2 : t.gl[j2]? = some x2) (hm2 : g.mg x2 = none) {id2 : String} (hv2 : bootBuiltins x2 = some (.type id2))
    (hc : CallR J.X (.builtin id) r) (hf : OpS1 J.X.K (fun v H Q => r [v, .ty id2] H Q) f) {e : Expr} {fa : M PyData} {p p2 pos : Pos} (ha : SEb J e T T1 fa) (hs : isStar e = false) : SE J (.Call (.Name x p) [e, .Name x2 p2] [] pos) .fz T T1 (eOp1 f fa) :=
  un_core (fun ta pa => pe_callB hc (hX.gl ht hj).1 (by rw [hX.mg]; exact hm) hv (pa_cons pa (pa_cons (pe_tyName hX ht hj2 hm2 hv2) pa_nil rfl) (starEach_cons hs)) (hX.gl ht hj).2.2 (hX.gl ht hj).2.1 (starEach_cons hs) rfl) hf ha
end

/-! ### len, int, abs, min, max -/
def lenD : PyData → Option PyData
  | .list ds => some (.int ds.length)
  | .tuple ds => some (.int ds.length)
  | .dict kvs => some (.int kvs.length)
  | .str z => if lenOk z.length then some (.int z.length) else none
  | _ => none
def rLenD : List V → Hp → VK → Prop := fun xs H Q => ∃ p, xs = [.ref p] ∧ ((∃ hs : List (Key × V), Rd H p (.dK hs) ∧ Q (.int (hs.length : Nat)) H) ∨ ∃ hs : List (List Key × V), Rd H p (.dT hs) ∧ Q (.int (hs.length : Nat)) H)
theorem call_lenDD {X : Cx} : CallR X (.builtin "len") rLenD := by
  intro pins s σ H xs us Q I r h
  obtain ⟨p, rfl, h⟩ := h
  obtain ⟨u, rfl, rx⟩ := vals1 r
  cases rx
  rcases h with ⟨hs, hd, q⟩ | ⟨hs, hd, q⟩
  · exact d_len I hd fun tk s2 I2 => ⟨.int (hs.length : Nat), H, I2, ⟨tk, rfl⟩, q⟩
  · obtain ⟨z, ne, ys, rel, dd⟩ := dt_rd I.hok hd
    have hl := Paired.length rel
    refine call_len_dictH ne dd (by rw [← hl]; rw [sizeLine_eq] at z; omega) ?_
    rw [← hl]
    exact ⟨.int (hs.length : Nat), H, I.tok _, ⟨_, rfl⟩, q⟩
def rLenA (K : PySem.W.Frag) : List V → Hp → VK → Prop := fun xs H Q => (∃ p ys, xs = [V.ref p] ∧ (SqL K H p ys ∨ SqT K H p ys) ∧ Q (V.int ↑(List.length ys)) H) ∨ rLenD xs H Q ∨ (∃ z, xs = [V.str z] ∧ Str.length z ≤ sizeLine ∧ Q (V.int ↑(Str.length z)) H)
theorem call_lenA {X : Cx} : CallR X (.builtin "len") (rLenA X.K) := callR_or call_len_seq (callR_or call_lenDD call_len_str)
section
variable {K : PySem.W.Frag}
theorem kvs_len {H : Hp} {F : AS} {kvs : List (PyData × PyData)} {α : Type} {hs : List (α × V)} (q : RAll K F H (kvs.map (·.2)) (hs.map (·.2))) : kvs.length = hs.length := by
  have := q.length
  simpa using this
theorem ops_len : OpS1 K (fun v H Q => rLenA K [v] H Q) lenD := by
  intro F H d x c Q r h q
  cases d <;> simp [lenD] at h
  · obtain ⟨z, rfl⟩ := h
    exact .inr (.inr ⟨_, by rw [r.strS], lenOk_line z, q _ F H .refl (.int _)⟩)
  · obtain ⟨a, xs, rfl, ha, ra⟩ := r.listS
    subst h
    exact .inl ⟨a, xs, rfl, .inl ha, by rw [← ra.length]; exact q _ F H .refl (.int _)⟩
  · obtain ⟨a, xs, rfl, ha, ra⟩ := r.tupleS
    subst h
    exact .inl ⟨a, xs, rfl, .inr ha, by rw [← ra.length]; exact q _ F H .refl (.int _)⟩
  · obtain ⟨a, rfl, h1⟩ := r
    subst h
    rcases h1 with ⟨hs, hd, _, ra⟩ | ⟨hs, hd, _, ra⟩
    · exact .inr (.inl ⟨a, rfl, .inl ⟨hs, hd, by rw [← kvs_len ra]; exact q _ F H .refl (.int _)⟩⟩)
    · exact .inr (.inl ⟨a, rfl, .inr ⟨hs, hd, by rw [← kvs_len ra]; exact q _ F H .refl (.int _)⟩⟩)
def intD : PyData → Option PyData
  | .int i => some (.int i)
  | .bool b => some (.int (if b = true then 1 else 0))
  | _ => none
theorem ops_int : OpS1 K (fun v H Q => (∃ i, [v] = [V.int i] ∧ Q (V.int i) H) ∨ ∃ k, [v] = [V.bl k] ∧ Q (V.int (if k = true then 1 else 0)) H) intD := by
  intro F H d x c Q r h q
  cases d <;> simp [intD] at h
  · subst h
    exact .inr ⟨_, by rw [r.boolS], q _ F H .refl (.int _)⟩
  · subst h
    exact .inl ⟨_, by rw [r.intS], q _ F H .refl (.int _)⟩
def absD : PyData → Option PyData
  | .int i => some (.int (if i < 0 then -i else i))
  | _ => none
theorem ops_abs : OpS1 K (fun v H Q => ∃ i, [v] = [V.int i] ∧ Q (V.int (if i < 0 then -i else i)) H) absD := by
  intro F H d x c Q r h q
  cases d <;> simp [absD] at h
  subst h
  exact ⟨_, by rw [r.intS], q _ F H .refl (.int _)⟩
def max2D : PyData → PyData → Option PyData
  | .int i, .int j => some (.int (if j > i then j else i))
  | _, _ => none
def min2D : PyData → PyData → Option PyData
  | .int i, .int j => some (.int (if j < i then j else i))
  | _, _ => none
theorem ops_max2 : OpS2 K (fun v w H Q => ∃ i j, [v, w] = [V.int i, V.int j] ∧ Q (V.int (if j > i then j else i)) H) max2D := by
  intro F H d e x y c Q r1 r2 h q
  cases d <;> cases e <;> simp [max2D] at h
  subst h
  exact ⟨_, _, by rw [r1.intS, r2.intS], q _ F H .refl (.int _)⟩
theorem ops_min2 : OpS2 K (fun v w H Q => ∃ i j, [v, w] = [V.int i, V.int j] ∧ Q (V.int (if j < i then j else i)) H) min2D := by
  intro F H d e x y c Q r1 r2 h q
  cases d <;> cases e <;> simp [min2D] at h
  subst h
  exact ⟨_, _, by rw [r1.intS, r2.intS], q _ F H .refl (.int _)⟩
def maxF (i : Int) (ns : List Int) : Int := ns.foldl (fun a b => if b > a then b else a) i
def minF (i : Int) (ns : List Int) : Int := ns.foldl (fun a b => if b < a then b else a) i
theorem minF_spec : ∀ (ns : List Int) (i : Int), minF i ns ∈ i :: ns ∧ ∀ y ∈ i :: ns, minF i ns ≤ y
  | [], i => by simp [minF]
  | n :: r, i => by
    obtain ⟨h1, h2⟩ := minF_spec r (if n < i then n else i)
    have e : minF i (n :: r) = minF (if n < i then n else i) r := rfl
    rw [e]
    have h3 := h2 _ (List.mem_cons_self)
    constructor
    · rcases List.mem_cons.mp h1 with z | z
      · rw [z]; split <;> simp
      · simp [z]
    · generalize hm : minF (if n < i then n else i) r = m at h1 h2 h3 ⊢
      intro y hy
      simp only [List.mem_cons] at hy
      rcases hy with hy | hy | hy
      · subst hy; split at h3 <;> omega
      · subst hy; split at h3 <;> omega
      · exact h2 y (by simp [hy])
theorem maxF_spec : ∀ (ns : List Int) (i : Int), maxF i ns ∈ i :: ns ∧ ∀ y ∈ i :: ns, y ≤ maxF i ns
  | [], i => by simp [maxF]
  | n :: r, i => by
    obtain ⟨h1, h2⟩ := maxF_spec r (if n > i then n else i)
    have e : maxF i (n :: r) = maxF (if n > i then n else i) r := rfl
    rw [e]
    have h3 := h2 _ (List.mem_cons_self)
    constructor
    · rcases List.mem_cons.mp h1 with z | z
      · rw [z]; split <;> simp
      · simp [z]
    · generalize hm : maxF (if n > i then n else i) r = m at h1 h2 h3 ⊢
      intro y hy
      simp only [List.mem_cons] at hy
      rcases hy with hy | hy | hy
      · subst hy; split at h3 <;> omega
      · subst hy; split at h3 <;> omega
      · exact h2 y (by simp [hy])
def minL : PyData → Option PyData
  | .list ds => (ints? ds).bind fun ns => match ns with
    | [] => none
    | n :: r => some (.int (minF n r))
  | _ => none
def maxL : PyData → Option PyData
  | .list ds => (ints? ds).bind fun ns => match ns with
    | [] => none
    | n :: r => some (.int (maxF n r))
  | _ => none
def sumL : PyData → Option PyData
  | .list ds => (ints? ds).bind fun ns => some (.int ns.sum)
  | _ => none
def allL : PyData → Option PyData
  | .list ds => (bools? ds).bind fun ns => some (.bool (ns.all id))
  | _ => none
def anyL : PyData → Option PyData
  | .list ds => (bools? ds).bind fun ns => some (.bool (ns.any id))
  | _ => none
theorem ops_minL : OpS1 K (fun v H Q => rMin K [v] H Q) minL := by
  intro F H d x c Q r h q
  cases d <;> simp only [minL, reduceCtorEq, Option.bind_eq_some_iff] at h
  obtain ⟨ns, e1, h⟩ := h
  obtain ⟨a, xs, rfl, ha, ra⟩ := r.listS
  have z := ra.ofInts e1
  subst z
  cases ns with
  | nil => cases h
  | cons n r =>
    cases h
    refine ⟨a, n :: r, rfl, ha, by simp, fun m hm hl => ?_⟩
    obtain ⟨h1, h2⟩ := minF_spec r n
    have : m = minF n r := Int.le_antisymm (hl _ h1) (h2 _ hm)
    subst this
    exact q _ F H .refl (.int _)
theorem ops_sumL : OpS1 K (fun v H Q => rSum K [v] H Q) sumL := by
  intro F H d x c Q r h q
  cases d <;> simp only [sumL, reduceCtorEq, Option.bind_eq_some_iff, Option.some.injEq] at h
  obtain ⟨ns, e1, rfl⟩ := h
  obtain ⟨a, xs, rfl, ha, ra⟩ := r.listS
  have z := ra.ofInts e1
  subst z
  exact ⟨a, ns, rfl, ha, q _ F H .refl (.int _)⟩
theorem ops_allL : OpS1 K (fun v H Q => rAll K [v] H Q) allL := by
  intro F H d x c Q r h q
  cases d <;> simp only [allL, reduceCtorEq, Option.bind_eq_some_iff, Option.some.injEq] at h
  obtain ⟨ns, e1, rfl⟩ := h
  obtain ⟨a, xs, rfl, ha, ra⟩ := r.listS
  have z := ra.ofBools e1
  subst z
  exact ⟨a, ns, rfl, ha, q _ F H .refl (.bl _)⟩

/-! ### tuple, list -/
def tupD : PyData → Option PyData
  | .list ds => some (.tuple ds)
  | .tuple ds => some (.tuple ds)
  | _ => none
theorem ops_tup : OpS1 K (fun v H Q => ∃ p ys, [v] = [V.ref p] ∧ ((SqL K H p ys ∧ ∀ (l : Addr), H l = none → Q (V.ref l) (upd H l (HO.tup ys))) ∨ SqT K H p ys ∧ Q (V.ref p) H)) tupD := by
  intro F H d x c Q r h q
  cases d <;> simp [tupD] at h
  · subst h
    obtain ⟨a, xs, rfl, ha, ra⟩ := r.listS
    exact ⟨a, xs, rfl, .inl ⟨ha, fun l hl => q _ F _ (.newL hl) (R.newT ra hl)⟩⟩
  · subst h
    have r' := r.tupleR
    obtain ⟨a, xs, rfl, ha, ra⟩ := r.tupleS
    exact ⟨a, xs, rfl, .inr ⟨ha, q _ F H .refl r'⟩⟩
theorem OL.new {F : AS} {H : Hp} {ds : List PyData} {xs : List V} {p : Addr} (h : RAll K F H ds xs) (hp : H p = none) : OL.rel K F (upd H p (.lst xs)) (fun a => a = p) (.list ds) (.ref p) :=
  ⟨p, xs, ds, rfl, rfl, upd_same, RAll.keep (Grow.newL hp).keep _ _ h, fun b => Iff.rfl⟩
theorem new_at {H : Hp} {p : Addr} {o : HO} (hp : H p = none) : ∀ a, a = p → H a = none ∧ upd H p o a ≠ none := fun a e => by subst e; exact ⟨hp, by rw [upd_same]; simp⟩
def listD : PyData → Option PyData
  | .list ds => some (.list ds)
  | .tuple ds => some (.list ds)
  | .dict kvs => some (.list (kvs.map (·.1)))
  | _ => none
def rListA (K : PySem.W.Frag) : List V → Hp → VK → Prop := fun xs H Q => (∃ p ys, xs = [.ref p] ∧ (SqL K H p ys ∨ SqT K H p ys) ∧ ∀ l, H l = none → Q (.ref l) (upd H l (.lst ys))) ∨
  (∃ (a : Addr) (kvs : List (Key × V)), xs = [.ref a] ∧ Rd H a (.dK kvs) ∧ ∀ p, H p = none → Q (.ref p) (upd H p (.lst (kvs.map fun kv => kV kv.1)))) ∨
  (∃ (d : Addr) (kvs : List (List Key × V)), xs = [V.ref d] ∧ Rd H d (.dT kvs) ∧ ∀ p bs, H p = none → IsKeys H kvs bs → Q (.ref p) (upd H p (.lst (bs.map V.ref))))
theorem call_listA {X : Cx} (hc : X.calm = true) : CallR X (.type "list") (rListA X.K) := callR_or call_list_of (callR_or (call_listD hc) (by
  intro pins s σ H xs us Q I r h
  obtain ⟨d, kvs, h1, h2, h3⟩ := h
  exact call_list_dT hc pins s σ H xs us Q I r ⟨d, kvs, h1, h2, h3⟩))
theorem key_R {F : AS} {H : Hp} (c : Key) : R K F H (keyD c) (kV c) := by
  cases c with
  | inl i => exact .int i
  | inr x => exact .str x
theorem keys_RAll {F : AS} {H : Hp} : ∀ cs : List Key, RAll K F H (cs.map keyD) (cs.map kV)
  | [] => .nil
  | c :: r => .cons (key_R c) (keys_RAll r)
theorem keysT_RAll {F : AS} {H : Hp} {hs : List (List Key × V)} : ∀ {bs : List Addr}, IsKeys H hs bs → RAll K F H (hs.map fun p => .tuple (p.1.map keyD)) (bs.map V.ref) := by
  induction hs with
  | nil => intro bs h; cases h; exact .nil
  | cons p r ih =>
    intro bs h
    cases h with
    | cons a b => exact .cons (.tup a (keys_RAll _)) (ih b)
theorem ops_listO : OpS1O K OL (fun v H Q => rListA K [v] H Q) listD := by
  intro F H d x c Q r h q
  cases d <;> simp [listD] at h
  · subst h
    obtain ⟨a, xs, rfl, ha, ra⟩ := r.listS
    exact .inl ⟨a, xs, rfl, .inl ha, fun l hl => q _ _ _ (.newL hl) (OL.new ra hl) (new_at hl)⟩
  · subst h
    obtain ⟨a, xs, rfl, ha, ra⟩ := r.tupleS
    exact .inl ⟨a, xs, rfl, .inr ha, fun l hl => q _ _ _ (.newL hl) (OL.new ra hl) (new_at hl)⟩
  · subst h
    obtain ⟨a, rfl, h1⟩ := r
    rcases h1 with ⟨hs, hd, e, ra⟩ | ⟨hs, hd, e, ra⟩
    · refine .inr (.inl ⟨a, hs, rfl, hd, fun l hl => q _ _ _ (.newL hl) (OL.new ?_ hl) (new_at hl)⟩)
      rw [e]
      have := keys_RAll (K := K) (F := F) (H := H) (hs.map (·.1))
      rw [List.map_map, List.map_map] at this
      exact this
    · refine .inr (.inr ⟨a, hs, rfl, hd, fun l bs hl hk => q _ _ _ (.newL hl) (OL.new ?_ hl) (new_at hl)⟩)
      rw [e]
      exact keysT_RAll hk
end
end DL

/-! D13: sorted, isinstance, repr, slices, dicts read. -/
namespace DL
open PySem PySem.Spec PyProof.Rows L2

/-! ### sorted -/
def ordLe (a b : PyData) : Bool := PySem.W.dataLe false (fun d : PyData => d) a b
def nonEmptyT : PyData → Bool
  | .tuple (_ :: _) => true
  | _ => false
def plainS : PyData → Bool
  | .none => false
  | .tuple _ => false
  | _ => true
def sortOk (ds : List PyData) : Bool := noDicts ds && (ds.all fun d => ds.all fun e => PySem.W.alike d e) && (ds.all nonEmptyT || ds.all plainS) && ds.all fun d => decide (d.depth ≤ 40)
def sortD : PyData → Option PyData
  | .list ds => if sortOk ds then some (.list (ds.mergeSort ordLe)) else none
  | _ => none
def rSortG (K : PySem.W.Frag) : List V → Hp → VK → Prop := fun vs H Q => ∃ (a : Addr) (zs : List (V × PyData)), vs = [.ref a] ∧ SqL K H a (zs.map (·.1)) ∧ DpAll K H (zs.map (·.1)) (zs.map (·.2)) ∧ sortOk (zs.map (·.2)) = true ∧
  ∀ p, H p = none → Q (.ref p) (upd H p (.lst ((zs.mergeSort fun a b => ordLe a.2 b.2).map (·.1))))
theorem vals_each : ∀ {zs : List (V × PyData)} {us : List Value}, Vals (zs.map (·.1)) us → PySem.W.EachIs (fun (v : Value) (b : V × PyData) => RelV b.1 v) us zs
  | [], _, h => by cases h; exact .nil
  | z :: r, _, h => by
    cases h with
    | cons a b => exact .cons a (vals_each b)
theorem each_vals : ∀ {zs : List (V × PyData)} {us : List Value}, PySem.W.EachIs (fun (v : Value) (b : V × PyData) => RelV b.1 v) us zs → Vals (zs.map (·.1)) us
  | _, _, .nil => .nil
  | _, _, .cons a b => .cons a (each_vals b)
theorem readsAll_zs {h : Heap} : ∀ {zs : List (V × PyData)} {us : List Value} {as : List Addr}, ReadsAll h us (zs.map (·.2)) as → PySem.W.EachIs (fun (v : Value) (b : V × PyData) => ∃ as, Reads h v b.2 as) us zs
  | [], _, _, h => by cases h; exact .nil
  | z :: r, _, _, h => by
    cases h with
    | cons a b => exact .cons ⟨_, a⟩ (readsAll_zs b)
theorem call_sortG {X : Cx} (hu : X.A.units + 64 < cLine) : CallR X (.builtin "sorted") (rSortG X.K) := by
  intro pins s σ H xs us Q I r h
  obtain ⟨a, zs, rfl, ha, hd, ok, q⟩ := h
  obtain ⟨u, rfl, rx⟩ := vals1 r
  cases rx
  obtain ⟨its, rv, pl, hz⟩ := I.list ha
  obtain ⟨as, ra⟩ := Dp.readsAll I _ _ _ hd rv
  simp only [sortOk, Bool.and_eq_true, Bool.or_eq_true, List.all_eq_true, decide_eq_true_eq] at ok
  obtain ⟨⟨⟨_, o1⟩, o2⟩, o3⟩ := ok
  have hm : ∀ z ∈ zs, z.2 ∈ zs.map (·.2) := fun z hz => List.mem_map.mpr ⟨z, hz, rfl⟩
  refine PySem.W.sorted_data (vs := its) (bs := zs) (enc := fun z => z.2) (R := fun v b => RelV b.1 v) pl.isList (vals_each rv) (readsAll_zs ra) (fun d hd d' hd' => o1 d hd d' hd') ?_ (by simpa using hz) (fun b hb => ?_) fun out hl he => ?_
  · rcases o2 with o2 | o2
    · refine .inl fun d hd => ?_
      have := o2 d hd
      cases d <;> simp [nonEmptyT] at this
      rename_i ds
      cases ds with
      | nil => simp [nonEmptyT] at this
      | cons x r => exact ⟨x, r, rfl⟩
    · refine .inr fun d hd => ?_
      have := o2 d hd
      cases d <;> simp [plainS] at this <;> simp
  · have := o3 _ (hm b hb)
    omega
  · obtain ⟨ep, he'⟩ := PyProof.Rows.sortedAll_at s.heap its out.toArray
    have ev := each_vals he
    have el : ((zs.mergeSort (PySem.W.dataLe false fun z => z.2)).map (·.1)).length ≤ sizeLine := by
      rw [List.length_map, List.length_mergeSort]; simpa using hz
    exact ⟨.ref _, upd H (s.heap.objs.size + 1) (.lst ((zs.mergeSort (PySem.W.dataLe false fun z => z.2)).map (·.1))), I.laid (t' := s.toks) (fun _ _ => PyProof.Rows.sortedAll_old) (Nat.le_succ _) ⟨el, out, ep, ev, he'⟩, rfl, q _ (I.hok.fresh (Nat.le_succ _))⟩
section
variable {K : PySem.W.Frag}
theorem RAll.perm {F : AS} {H : Hp} : ∀ {zs ys : List (V × PyData)}, ys.Perm zs → RAll K F H (zs.map (·.2)) (zs.map (·.1)) → RAll K F H (ys.map (·.2)) (ys.map (·.1)) := by
  intro zs ys p h
  have mem : ∀ {l : List (V × PyData)}, RAll K F H (l.map (·.2)) (l.map (·.1)) → ∀ z ∈ l, R K F H z.2 z.1 := by
    intro l
    induction l with
    | nil => intro _ z hz; simp at hz
    | cons x r ih =>
      intro h z hz
      cases h with
      | cons a b =>
        rcases List.mem_cons.mp hz with e | e
        · subst e; exact a
        · exact ih b z e
  have of : ∀ {l : List (V × PyData)}, (∀ z ∈ l, R K F H z.2 z.1) → RAll K F H (l.map (·.2)) (l.map (·.1)) := by
    intro l
    induction l with
    | nil => intro _; exact .nil
    | cons x r ih => exact fun h => .cons (h x (by simp)) (ih fun z hz => h z (by simp [hz]))
  exact of fun z hz => mem h z (p.mem_iff.mp hz)
theorem zip_maps {xs : List V} {ds : List PyData} (h : xs.length = ds.length) : (xs.zip ds).map (·.1) = xs ∧ (xs.zip ds).map (·.2) = ds := by
  constructor
  · exact List.map_fst_zip (by omega)
  · exact List.map_snd_zip (by omega)
theorem ops_sortO : OpS1O K OL (fun v H Q => rSortG K [v] H Q) sortD := by
  intro F H d x c Q r h q
  cases d <;> simp [sortD] at h
  rename_i ds
  obtain ⟨ok, rfl⟩ := h
  obtain ⟨a, xs, rfl, ha, ra⟩ := r.listS
  obtain ⟨e1, e2⟩ := zip_maps (xs := xs) (ds := ds) ra.length.symm
  have nd : noDicts ds = true := by
    simp only [sortOk, Bool.and_eq_true] at ok
    exact ok.1.1.1
  refine ⟨a, xs.zip ds, rfl, by rw [e1]; exact ha, by rw [e1, e2]; exact RAll.dp ds xs nd ra, by rw [e2]; exact ok, fun p hp => ?_⟩
  refine q _ _ _ (.newL hp) (OL.new ?_ hp) (new_at hp)
  have es : ds.mergeSort ordLe = ((xs.zip ds).mergeSort fun a b => ordLe a.2 b.2).map (·.2) := by
    have := PySem.W.sort_maps (r := fun a b : V × PyData => ordLe a.2 b.2) (s := ordLe) (l := xs.zip ds) (fun z => z.2) (fun _ _ _ _ => rfl)
    rw [this, e2]
  rw [es]
  exact RAll.perm (List.mergeSort_perm _ _) (by rw [e1, e2]; exact ra)

/-! ### isinstance -/
def tyD : PyData → Option String
  | .none => some "NoneType"
  | .bool _ => some "bool"
  | .int _ => some "int"
  | .str _ => some "str"
  | .list _ => some "list"
  | .tuple _ => some "tuple"
  | .dict _ => none
def isiD (T : String) (d : PyData) : Option PyData := (tyD d).bind fun n => (kitB n T).map .bool
theorem tyD_x {F : AS} {H : Hp} {d : PyData} {x : V} {n : String} (r : RS K F H d x) (h : tyD d = some n) : TyX K H x (.type n) := by
  cases d with
  | none => cases h; rw [r.noneS]; exact .base .non
  | bool b => cases h; rw [r.boolS]; exact .base (.bl _)
  | int i => cases h; rw [r.intS]; exact .base (.int _)
  | str z => cases h; rw [r.strS]; exact .base (.str _)
  | list ds =>
    cases h
    obtain ⟨a, xs, rfl, ha, _⟩ := r.listS
    rcases ha with (ha | ⟨o, ha⟩) | ⟨o, its, m, hk, hc, _⟩
    · exact .base (.lst ha)
    · exact .base (.frz ha)
    · exact .kList hk hc
  | tuple ds =>
    cases h
    obtain ⟨a, xs, rfl, ha, _⟩ := R.tupleH r.tupleR
    exact .base (.tup ha)
  | dict kvs => cases h
theorem ops_isi (T : String) : OpS1 K (fun v H Q => rIsi K [v, .ty T] H Q) (isiD T) := by
  intro F H d x c Q r h q
  simp only [isiD, Option.bind_eq_some_iff, Option.map_eq_some_iff] at h
  obtain ⟨n, h1, b, h2, rfl⟩ := h
  exact ⟨x, .ty T, .type n, .type T, b, rfl, .ty T, tyD_x r h1, kit_ty h2, q _ F H .refl (.bl b)⟩

/-! ### repr -/
def reprOk (d : PyData) : Bool := noDict d && d.showable && decide (d.depth ≤ 40) && lenOk d.shown.length
def reprD (d : PyData) : Option PyData := if reprOk d then some (.str d.shown) else none
end
mutual
theorem noDict_has : ∀ d : PyData, noDict d = true → d.hasDict = false
  | .none, _ => by simp [PyData.hasDict]
  | .bool _, _ => by simp [PyData.hasDict]
  | .int _, _ => by simp [PyData.hasDict]
  | .str _, _ => by simp [PyData.hasDict]
  | .list ds, h => by simp only [PyData.hasDict]; exact noDicts_has ds (by simpa [noDict] using h)
  | .tuple ds, h => by simp only [PyData.hasDict]; exact noDicts_has ds (by simpa [noDict] using h)
  | .dict _, h => by simp [noDict] at h
theorem noDicts_has : ∀ ds : List PyData, noDicts ds = true → PyData.hasDictAll ds = false
  | [], _ => by simp [PyData.hasDictAll]
  | d :: ds, h => by
    simp only [noDicts, Bool.and_eq_true] at h
    simp only [PyData.hasDictAll, noDict_has d h.1, noDicts_has ds h.2, Bool.or_self]
end
def rReprG (K : PySem.W.Frag) : List V → Hp → VK → Prop := fun vs H Q => ∃ x d, vs = [x] ∧ Dp K H x d ∧ reprOk d = true ∧ Q (.str d.shown) H
theorem call_reprG {X : Cx} (hg : X.A.guards = some []) (hu : X.A.units + 64 < cLine) : CallR X (.builtin "repr") (rReprG X.K) := by
  intro pins s σ H xs us Q I r h
  obtain ⟨x, d, rfl, hd, ok, q⟩ := h
  obtain ⟨u, rfl, rx⟩ := vals1 r
  simp only [reprOk, Bool.and_eq_true, decide_eq_true_eq] at ok
  obtain ⟨⟨⟨o1, o2⟩, o3⟩, o4⟩ := ok
  have oz := lenOk_line o4
  obtain ⟨as, rd⟩ := Dp.reads I d x u hd rx
  have hD := noDict_has d o1
  have fin : ∀ a, u = .ref a → wpAny (model X.prog X.w) X.A (PySem.call (.builtin "repr") [u]) (EP X pins σ Q) X.xe s := fun a e => by
    subst e
    refine repr_of_reads' rd o2 (fun z => by rw [hD] at z; cases z) hg (by omega) (fun _ _ e => e) (fun h' t tk hk => ?_) oz
    exact ⟨.str d.shown, H, I.kept (t' := tk) hk, ⟨_, rfl⟩, q⟩
  cases hd with
  | non =>
    obtain rfl : u = Value.none := rx
    exact PySem.P.repr_of_none ⟨.str _, H, I.tok _, ⟨_, rfl⟩, q⟩
  | bl b =>
    obtain rfl : u = Value.bool b := rx
    exact PySem.P.repr_of_bool ⟨.str _, H, I.tok _, ⟨_, rfl⟩, q⟩
  | int i =>
    obtain ⟨t, rfl⟩ := (show ∃ t, u = Value.int i t from rx)
    exact PySem.P.repr_of_int (by simpa [PyData.showable] using o2) ⟨.str _, H, I.tok _, ⟨_, rfl⟩, q⟩
  | str z =>
    obtain ⟨t, rfl⟩ := (show ∃ t, u = Value.str z t from rx)
    exact PySem.P.repr_of_str ⟨.str _, H, I.tok _, ⟨_, rfl⟩, q⟩ (by simpa [PyData.shown] using oz)
  | lst a b => exact fin _ rx
  | tup a b => exact fin _ rx
section
variable {K : PySem.W.Frag}
theorem ops_repr : OpS1 K (fun v H Q => rReprG K [v] H Q) reprD := by
  intro F H d x c Q r h q
  simp only [reprD, Option.ite_none_right_eq_some, Option.some.injEq] at h
  obtain ⟨ok, rfl⟩ := h
  have nd : noDict d = true := by
    simp only [reprOk, Bool.and_eq_true] at ok
    exact ok.1.1.1
  exact ⟨x, d, rfl, RS.dp d x nd r, ok, q _ F H .refl (.str _)⟩
end
end DL

/-! D14: dicts. -/
namespace DL
open PySem PySem.Spec PyProof.Rows L2

/-! ### an empty dict is of both kinds -/
theorem empty_TK {P : Program} {w : World} {h : Heap} {a : Addr} (d : h.DictOfH (tupleKind (mixKind P w)) a []) : h.DictOf (mixKind P w) a [] := by
  obtain ⟨o, es, ep, h1, h2, h3, h4, _, _⟩ := d
  have e : es = #[] := Array.toList_eq_nil_iff.mp (by simpa using h4)
  subst e
  obtain ⟨o', es', ep', g1, g2, g3, g4, g5, g6⟩ := Heap.DictOf.new (knd := mixKind P w) h
  have e' : o' = { cls := .type "dict", data := .dict #[] } := by
    have := Heap.get?_push_size h (o := { cls := .type "dict", data := .dict #[] }) rfl
    rw [this] at g1; exact (Option.some.inj g1).symm
  subst e'
  cases g3
  exact ⟨o, #[], ep, h1, h2, h3, g4, g5, g6⟩
theorem empty_KT {P : Program} {w : World} {h : Heap} {a : Addr} (d : h.DictOf (mixKind P w) a []) : h.DictOfH (tupleKind (mixKind P w)) a [] := by
  obtain ⟨o, es, ep, h1, h2, h3, _, h5, _⟩ := d
  have e : es = #[] := by
    apply Array.toList_eq_nil_iff.mp
    have := h5
    unfold Pairs at this
    cases q : es.toList with
    | nil => rfl
    | cons x r => rw [q] at this; cases this
  subst e
  exact ⟨o, #[], ep, h1, h2, h3, rfl, fun x hx => by simp at hx, List.nodup_nil⟩
/-- what a dict holds at a key, empty ones of both kinds -/
def DGE (H : Hp) (a : Addr) (y : V) (r : Option V) : Prop :=
  DGet H a y r ∨ (r = none ∧ ((Rd H a (.dT []) ∧ ∃ c : Key, y = kV c) ∨ (Rd H a (.dK []) ∧ ∃ (c : List Key) (b : Addr), y = .ref b ∧ H b = some (.tup (c.map kV)))))
def DPE (H : Hp) (a : Addr) (y v : V) (H' : Hp) : Prop :=
  DPut H a y v H' ∨ (H a = some (.dT []) ∧ ∃ c : Key, y = kV c ∧ H' = upd H a (.dK [(c, v)])) ∨ (H a = some (.dK []) ∧ ∃ (c : List Key) (b : Addr), y = .ref b ∧ H b = some (.tup (c.map kV)) ∧ H' = upd H a (.dT [(c, v)]))
section
variable {X : Cx} {pins : List (Addr × Obj)} {σ : L2.St} {H : Hp} {s : Shared} {a : Addr} {y v : V} {u r : Value} {o : Option V} {A : Around} {E : Value → Shared → Prop}
theorem KV_nil {vs : List (Key × Value)} (h : KV [] vs) : vs = [] := by
  cases vs with
  | nil => rfl
  | cons x r => unfold KV at h; cases h
theorem KT_nil {H : Hp} {vs : List (List Key × Addr × Value)} (h : KT H [] vs) : vs = [] := by
  cases vs with
  | nil => rfl
  | cons x r => cases h
theorem d_inE {Q : Value → Shared → Prop} (hu : A.units + 1 < cLine) (I : Inv X pins σ H s) (g : DGE H a y o) (ry : RelV y u) (h : ∀ s', Inv X pins σ H s' → Q (.bool o.isSome) s') :
    wpAny (model X.prog X.w) A (compareOp .In u (.ref a)) Q E s := by
  rcases g with g | ⟨rfl, ⟨e, c, ey⟩ | ⟨e, c, b, ey, eb⟩⟩
  · exact d_in hu I g ry h
  · obtain ⟨_, hd, ys, rel, dd⟩ := dt_rd I.hok e
    rw [KT_nil rel] at dd
    subst ey
    exact wpAny_in_of (kV_is ry) hd (empty_TK dd).mapOf (h _ (I.tok _))
  · obtain ⟨_, hd, ys, rel, dd⟩ := dk_rd I.hok e
    rw [KV_nil rel] at dd
    subst ey
    cases (show u = Value.ref b from ry)
    exact wpAny_in_heap (tupleKind_room_in1 hu) (key_of I.hok eb) hd (empty_KT dd) (h _ (I.tok _))
theorem d_notInE {Q : Value → Shared → Prop} (hu : A.units + 1 < cLine) (I : Inv X pins σ H s) (g : DGE H a y o) (ry : RelV y u) (h : ∀ s', Inv X pins σ H s' → Q (.bool (!o.isSome)) s') :
    wpAny (model X.prog X.w) A (compareOp .NotIn u (.ref a)) Q E s := by
  rcases g with g | ⟨rfl, ⟨e, c, ey⟩ | ⟨e, c, b, ey, eb⟩⟩
  · exact d_notIn hu I g ry h
  · obtain ⟨_, hd, ys, rel, dd⟩ := dt_rd I.hok e
    rw [KT_nil rel] at dd
    subst ey
    exact wpAny_notIn_of (kV_is ry) hd (empty_TK dd).mapOf (h _ (I.tok _))
  · obtain ⟨_, hd, ys, rel, dd⟩ := dk_rd I.hok e
    rw [KV_nil rel] at dd
    subst ey
    cases (show u = Value.ref b from ry)
    exact wpAny_notIn_heap (tupleKind_room_in1 hu) (key_of I.hok eb) hd (empty_KT dd) (h _ (I.tok _))
theorem d_setE {H' : Hp} {Q : Unit → Shared → Prop} (hu : A.units + 1 < cLine) (I : Inv X pins σ H s) (g : DPE H a y v H') (ry : RelV y u) (rv : RelV v r) (h : ∀ s', Inv X pins σ H' s' → Q () s') :
    wpAny (model X.prog X.w) A (setItem (.ref a) u r) Q E s := by
  rcases g with g | ⟨e, c, ey, eH⟩ | ⟨e, c, b, ey, eb, eH⟩
  · exact d_setItem hu I g ry rv h
  · obtain ⟨_, hd, ys, rel, dd⟩ := dt_of I.hok e
    rw [KT_nil rel] at dd
    subst ey eH
    refine wpAny_setItem_pairs (hsz := Nat.zero_le _) (kV_is ry) (empty_TK dd) fun h' dd' hs => h _ ?_
    have he : ∃ q, h'.get? a = some q := let ⟨q, _, _, hq, _⟩ := dd'; ⟨q, hq⟩
    exact d_write I (by rw [e]; exact True.intro) hs he (dk_new (by rw [sizeLine_eq]; simp) hd (.cons ⟨rfl, rv⟩ .nil) dd')
  · obtain ⟨_, hd, ys, rel, dd⟩ := dk_of I.hok e
    rw [KV_nil rel] at dd
    subst ey eH
    cases (show u = Value.ref b from ry)
    refine wpAny_setItem_heap (hsz := Nat.zero_le _) (tupleKind_room_in1 hu) (key_of I.hok eb) (empty_KT dd) fun h' dd' hs => h _ ?_
    obtain ⟨q, es, ep, hq, h2, h3, h4, _, h5⟩ := dd'
    refine d_write I (by rw [e]; exact True.intro) hs ⟨q, hq⟩ ⟨by rw [sizeLine_eq]; simp, hd, [(c, b, r)], .cons ⟨rfl, ?_, rv⟩ .nil, q, es, ep, hq, h2, h3, h4, h5⟩
    rw [upd_ne (ne_of eb e (fun z => nomatch z))]
    exact eb
/-- the rules by values -/
def rDIn : R2 := fun y x H Q => ∃ a o, x = .ref a ∧ DGE H a y o ∧ Q (.bl o.isSome) H
def rDNotIn : R2 := fun y x H Q => ∃ a o, x = .ref a ∧ DGE H a y o ∧ Q (.bl (!o.isSome)) H
theorem op_dIn (hu : X.A.units + 1 < cLine) : OpR X (compareOp .In) rDIn := by
  intro pins s σ H y x iv u Q I ry rx h
  obtain ⟨a, o, rfl, g, q⟩ := h
  cases rx
  exact d_inE hu I g ry fun s' I' => ⟨.bl o.isSome, H, I', rfl, q⟩
theorem op_dNotIn (hu : X.A.units + 1 < cLine) : OpR X (compareOp .NotIn) rDNotIn := by
  intro pins s σ H y x iv u Q I ry rx h
  obtain ⟨a, o, rfl, g, q⟩ := h
  cases rx
  exact d_notInE hu I g ry fun s' I' => ⟨.bl (!o.isSome), H, I', rfl, q⟩
def rDGet : R2 := fun x y H Q => ∃ a v, x = .ref a ∧ DGet H a y (some v) ∧ Q v H
theorem ix_dict (hu : X.A.units + 1 < cLine) : IxR X rDGet := by
  intro value slice pins s σ H x y v u Q I rx ry h hs
  obtain ⟨a, z, rfl, g, q⟩ := h
  cases rx
  have hT := dict_typeIs I g
  unfold subscriptTail
  refine wpAny_bind ?_
  rw [getitemInPython_of_ne hT.not_modules]
  refine wpAny_bind (wpAny_specialOf hT PySem.F.slot_dict_getitem.lookup ?_)
  have fin : wpAny (model X.prog X.w) X.A (subscripted slice false (.ref a) u) (fun r s₃ => wpAny (model X.prog X.w) X.A (letTemporaryGo value (.ref a) r >>= fun _ => pure r) (EP X pins σ Q) X.xe s₃) X.xe s := by
    rw [hs]
    exact wpAny_operating (d_getItem hu I g ry fun w' s3 I3 rw' => wpAny_bind (wpAny_letTemporaryGo (wpAny_pure ⟨z, H, I3, rw', q⟩)))
  exact wpAny_pure (wpAny_bind fin)
theorem ixR_or {r r' : R2} (h : IxR X r) (h' : IxR X r') : IxR X (fun x y H Q => r x y H Q ∨ r' x y H Q) :=
  fun value slice pins s σ H x y v u Q I rx ry q hs => q.elim (fun q => h value slice pins s σ H x y v u Q I rx ry q hs) fun q => h' value slice pins s σ H x y v u Q I rx ry q hs
end
end DL

/-! D15: dicts as data. -/
namespace DL
open PySem PySem.Spec PyProof.Rows L2

mutual
def keq : PyData → PyData → Bool
  | .int i, .int j => decide (i = j)
  | .str x, .str y => decide (x = y)
  | .tuple xs, .tuple ys => keqs xs ys
  | _, _ => false
def keqs : List PyData → List PyData → Bool
  | [], [] => true
  | x :: xs, y :: ys => keq x y && keqs xs ys
  | _, _ => false
end
def dkey : PyData → Option Key
  | .int i => some (.inl i)
  | .str x => some (.inr x)
  | _ => none
def dkeys : List PyData → Option (List Key)
  | [] => some []
  | d :: ds => (dkey d).bind fun c => (dkeys ds).map (c :: ·)
theorem keq_keyD (a b : Key) : keq (keyD a) (keyD b) = decide (a = b) := by
  cases a <;> cases b <;> simp [keyD, keq]
theorem keqs_keyD : ∀ as bs : List Key, keqs (as.map keyD) (bs.map keyD) = decide (as = bs)
  | [], [] => by simp [keqs]
  | [], _ :: _ => by simp [keqs]
  | _ :: _, [] => by simp [keqs]
  | a :: as, b :: bs => by simp [keqs, keq_keyD, keqs_keyD as bs]
def keyT (cs : List Key) : PyData := .tuple (cs.map keyD)
theorem keq_keyT (a b : List Key) : keq (keyT a) (keyT b) = decide (a = b) := by simp [keyT, keq, keqs_keyD]
theorem dkey_some {d : PyData} {c : Key} (h : dkey d = some c) : d = keyD c := by
  cases d <;> simp [dkey] at h <;> subst h <;> rfl
theorem dkeys_some : ∀ {ds : List PyData} {cs : List Key}, dkeys ds = some cs → ds = cs.map keyD
  | [], cs, h => by simp [dkeys] at h; subst h; rfl
  | d :: ds, cs, h => by
    simp only [dkeys, Option.bind_eq_some_iff, Option.map_eq_some_iff] at h
    obtain ⟨c, h1, r, h2, rfl⟩ := h
    rw [dkey_some h1, dkeys_some h2]; rfl

def dFind : List (PyData × PyData) → PyData → Option PyData
  | [], _ => none
  | (c, v) :: r, d => if keq c d then some v else dFind r d
def dHas (kvs : List (PyData × PyData)) (d : PyData) : Bool := (dFind kvs d).isSome
def dPut (kvs : List (PyData × PyData)) (d v : PyData) : List (PyData × PyData) := if dHas kvs d then kvs.map (fun p => if keq p.1 d then (p.1, v) else p) else kvs ++ [(d, v)]
def dDrop (kvs : List (PyData × PyData)) (d : PyData) : List (PyData × PyData) := kvs.filter fun p => !keq p.1 d
/-- a key of a dict that may be so looked up: of one kind with the others -/
def isKeyT : PyData → Bool
  | .tuple ds => (dkeys ds).isSome
  | _ => false
def isKeyK (d : PyData) : Bool := (dkey d).isSome
def keyFor (kvs : List (PyData × PyData)) (d : PyData) : Bool := (isKeyK d && kvs.all fun p => isKeyK p.1) || (isKeyT d && kvs.all fun p => isKeyT p.1)

section
variable {K : PySem.W.Frag} {F : AS} {H : Hp} {κ : Type} [DecidableEq κ] {kD : κ → PyData}
/-- the entries -/
structure DR (K : PySem.W.Frag) (F : AS) (H : Hp) {κ : Type} (kD : κ → PyData) (kvs : List (PyData × PyData)) (hs : List (κ × V)) : Prop where
  ks : kvs.map (·.1) = hs.map fun p => kD p.1
  vs : RAll K F H (kvs.map (·.2)) (hs.map (·.2))
theorem DR.nil : DR K F H kD [] [] := ⟨rfl, .nil⟩
theorem DR.uncons {p : PyData × PyData} {kvs : List (PyData × PyData)} {hs : List (κ × V)} (h : DR K F H kD (p :: kvs) hs) : ∃ c v r, hs = (c, v) :: r ∧ p.1 = kD c ∧ R K F H p.2 v ∧ DR K F H kD kvs r := by
  cases hs with
  | nil => exact absurd h.ks (by simp)
  | cons q r =>
    obtain ⟨c, v⟩ := q
    have h1 := h.ks
    have h2 := h.vs
    simp only [List.map_cons, List.cons.injEq] at h1
    cases h2 with
    | cons a b => exact ⟨c, v, r, rfl, h1.1, a, h1.2, b⟩
theorem DR.cons {p : PyData × PyData} {kvs : List (PyData × PyData)} {c : κ} {v : V} {r : List (κ × V)} (h1 : p.1 = kD c) (h2 : R K F H p.2 v) (h : DR K F H kD kvs r) : DR K F H kD (p :: kvs) ((c, v) :: r) :=
  ⟨by simp [h1, h.ks], .cons h2 h.vs⟩
theorem DR.len {kvs : List (PyData × PyData)} {hs : List (κ × V)} (h : DR K F H kD kvs hs) : kvs.length = hs.length := by
  have := h.vs.length; simpa using this
theorem DR.keep {F' : AS} {H' : Hp} {kvs : List (PyData × PyData)} {hs : List (κ × V)} (h : DR K F H kD kvs hs) (k : Keep F H F' H') : DR K F' H' kD kvs hs := ⟨h.ks, RAll.keep k _ _ h.vs⟩
theorem DR.find (hk : ∀ a b, keq (kD a) (kD b) = decide (a = b)) (c : κ) : ∀ {kvs : List (PyData × PyData)} {hs : List (κ × V)}, DR K F H kD kvs hs → (dFind kvs (kD c) = none ∧ valV hs c = none) ∨ ∃ d v, dFind kvs (kD c) = some d ∧ valV hs c = some v ∧ R K F H d v
  | [], hs, h => by
    have := h.len
    cases hs with
    | nil => exact .inl ⟨rfl, rfl⟩
    | cons x r => simp at this
  | p :: kvs, hs, h => by
    obtain ⟨c', v, r, rfl, e1, e2, e3⟩ := h.uncons
    obtain ⟨pc, pd⟩ := p
    simp only at e1 e2
    subst e1
    simp only [dFind, hk]
    by_cases z : c' = c
    · exact .inr ⟨pd, v, by simp [z], by rw [valV_pos z], e2⟩
    · rw [valV_neg z]
      simp only [z, decide_false, Bool.false_eq_true, if_false]
      exact DR.find hk c e3
theorem DR.has (hk : ∀ a b, keq (kD a) (kD b) = decide (a = b)) (c : κ) {kvs : List (PyData × PyData)} {hs : List (κ × V)} (h : DR K F H kD kvs hs) : dHas kvs (kD c) = (valV hs c).isSome := by
  unfold dHas
  rcases h.find hk c with ⟨a, b⟩ | ⟨d, v, a, b, _⟩ <;> simp [a, b]
theorem DR.snoc {kvs : List (PyData × PyData)} {hs : List (κ × V)} {c : κ} {d : PyData} {v : V} (h : DR K F H kD kvs hs) (r : R K F H d v) : DR K F H kD (kvs ++ [(kD c, d)]) (hs ++ [(c, v)]) :=
  ⟨by simp [h.ks], by
    rw [List.map_append, List.map_append]
    exact h.vs.append (.cons r .nil)⟩
theorem DR.put (hk : ∀ a b, keq (kD a) (kD b) = decide (a = b)) {kvs : List (PyData × PyData)} {hs : List (κ × V)} {c : κ} {d : PyData} {v : V} (h : DR K F H kD kvs hs) (r : R K F H d v) : DR K F H kD (dPut kvs (kD c) d) (putK hs c v) := by
  have e := h.has hk c
  unfold dPut putK
  rw [valV_any, ← e]
  by_cases z : dHas kvs (kD c) = true
  · simp only [z, if_true]
    clear e z
    have : ∀ {kvs : List (PyData × PyData)} {hs : List (κ × V)}, DR K F H kD kvs hs → DR K F H kD (kvs.map fun p => if keq p.1 (kD c) then (p.1, d) else p) (hs.map fun kv => if kv.1 = c then (kv.1, v) else kv) := by
      intro kvs
      induction kvs with
      | nil =>
        intro hs h
        have := h.len
        cases hs with
        | nil => exact .nil
        | cons x r => simp at this
      | cons p kvs ih =>
        intro hs h
        obtain ⟨c', w, r', rfl, e1, e2, e3⟩ := h.uncons
        obtain ⟨pc, pd⟩ := p
        simp only at e1 e2
        subst e1
        simp only [List.map_cons, hk]
        by_cases z : c' = c
        · simp only [z, decide_true, if_true]
          exact .cons rfl r (ih e3)
        · simp only [z, decide_false, Bool.false_eq_true, if_false]
          exact .cons rfl e2 (ih e3)
    exact this h
  · simp only [z, if_false]
    exact h.snoc r
theorem DR.drop (hk : ∀ a b, keq (kD a) (kD b) = decide (a = b)) {c : κ} : ∀ {kvs : List (PyData × PyData)} {hs : List (κ × V)}, DR K F H kD kvs hs → DR K F H kD (dDrop kvs (kD c)) (dropK hs c)
  | [], hs, h => by
    have := h.len
    cases hs with
    | nil => exact .nil
    | cons x r => simp at this
  | p :: kvs, hs, h => by
    obtain ⟨c', w, r', rfl, e1, e2, e3⟩ := h.uncons
    obtain ⟨pc, pd⟩ := p
    simp only at e1 e2
    subst e1
    have ih := DR.drop hk (c := c) e3
    unfold dDrop dropK at ih ⊢
    simp only [List.filter_cons, hk]
    by_cases z : c' = c
    · simp only [z, decide_true, Bool.not_true, Bool.false_eq_true, if_false, ne_eq, not_true_eq_false, decide_false]
      exact ih
    · simp only [z, decide_false, Bool.not_false, if_true, ne_eq, not_false_eq_true, decide_true]
      exact .cons rfl e2 ih
end
abbrev DRK (K : PySem.W.Frag) (F : AS) (H : Hp) (kvs : List (PyData × PyData)) (hs : List (Key × V)) : Prop := DR K F H keyD kvs hs
abbrev DRT (K : PySem.W.Frag) (F : AS) (H : Hp) (kvs : List (PyData × PyData)) (hs : List (List Key × V)) : Prop := DR K F H keyT kvs hs
section
variable {K : PySem.W.Frag} {F : AS} {H : Hp}
theorem RAll.keys : ∀ {cs : List Key} {xs : List V}, RAll K F H (cs.map keyD) xs → xs = cs.map kV
  | [], _, h => by cases h; rfl
  | c :: r, _, h => by
    cases h with
    | cons a b =>
      rw [RAll.keys b]
      cases c with
      | inl i => rw [R.intS a]; rfl
      | inr x => rw [R.strS a]; rfl
theorem R.keyKS {c : Key} {v : V} (h : R K F H (keyD c) v) : v = kV c := by
  cases c with
  | inl i => rw [R.intS h]; rfl
  | inr x => rw [R.strS h]; rfl
theorem R.keyTS {cs : List Key} {v : V} (h : R K F H (keyT cs) v) : ∃ b, v = .ref b ∧ H b = some (.tup (cs.map kV)) := by
  obtain ⟨a, xs, rfl, h1, h2⟩ := R.tupleH h
  exact ⟨a, rfl, by rw [h1, RAll.keys h2]⟩
theorem isKeyK_some {d : PyData} (h : isKeyK d = true) : ∃ c, d = keyD c := by
  obtain ⟨c, e⟩ := Option.isSome_iff_exists.mp h
  exact ⟨c, dkey_some e⟩
theorem isKeyT_some {d : PyData} (h : isKeyT d = true) : ∃ c, d = keyT c := by
  cases d <;> simp only [isKeyT, Bool.false_eq_true] at h
  obtain ⟨c, e⟩ := Option.isSome_iff_exists.mp h
  exact ⟨c, by rw [dkeys_some e]; rfl⟩
theorem isKeyT_keyD (c : Key) : isKeyT (keyD c) = false := by cases c <;> rfl
theorem isKeyK_keyT (c : List Key) : isKeyK (keyT c) = false := rfl
/-- an RS dict, of both kinds -/
theorem RS.dictS {kvs : List (PyData × PyData)} {v : V} (h : RS K F H (.dict kvs) v) : ∃ a, v = .ref a ∧ ((∃ hs, Rd H a (.dK hs) ∧ DRK K F H kvs hs) ∨ ∃ hs, Rd H a (.dT hs) ∧ DRT K F H kvs hs) := by
  obtain ⟨a, rfl, h⟩ := h
  refine ⟨a, rfl, ?_⟩
  rcases h with ⟨hs, h1, h2, h3⟩ | ⟨hs, h1, h2, h3⟩
  · exact .inl ⟨hs, h1, h2, h3⟩
  · exact .inr ⟨hs, h1, h2, h3⟩
theorem DR.key0 {κ : Type} {kD : κ → PyData} {kvs : List (PyData × PyData)} {hs : List (κ × V)} (h : DR K F H kD kvs hs) {p : PyData → Bool} (hp : kvs.all (fun q => p q.1) = true) (hn : ∀ c, p (kD c) = false) : kvs = [] ∧ hs = [] := by
  have e1 := h.ks
  cases kvs with
  | nil =>
    cases hs with
    | nil => exact ⟨rfl, rfl⟩
    | cons x r => simp at e1
  | cons q r =>
    cases hs with
    | nil => simp at e1
    | cons x t =>
      simp only [List.map_cons, List.cons.injEq] at e1
      simp only [List.all_cons, Bool.and_eq_true] at hp
      rw [e1.1, hn] at hp
      exact absurd hp.1 (by simp)
theorem dge_of {kvs : List (PyData × PyData)} {a : Addr} {d : PyData} {y : V} (h : (∃ hs, Rd H a (.dK hs) ∧ DRK K F H kvs hs) ∨ ∃ hs, Rd H a (.dT hs) ∧ DRT K F H kvs hs) (ry : R K F H d y) (hk : keyFor kvs d = true) :
    ∃ o, DGE H a y o ∧ ((dFind kvs d = none ∧ o = none) ∨ ∃ e v, dFind kvs d = some e ∧ o = some v ∧ R K F H e v ∧ DGet H a y (some v)) := by
  simp only [keyFor, Bool.or_eq_true, Bool.and_eq_true] at hk
  rcases hk with ⟨k1, k2⟩ | ⟨k1, k2⟩
  · obtain ⟨c, rfl⟩ := isKeyK_some k1
    have ey := R.keyKS ry
    rcases h with ⟨hs, h1, h2⟩ | ⟨hs, h1, h2⟩
    · have g : DGet H a y (valV hs c) := .inl ⟨hs, c, h1, ey, rfl⟩
      refine ⟨valV hs c, .inl g, ?_⟩
      rcases h2.find keq_keyD c with ⟨e1, e2⟩ | ⟨e, v, e1, e2, e3⟩
      · exact .inl ⟨e1, e2⟩
      · exact .inr ⟨e, v, e1, e2, e3, by rw [← e2]; exact g⟩
    · obtain ⟨rfl, rfl⟩ := h2.key0 k2 isKeyK_keyT
      exact ⟨none, .inr ⟨rfl, .inl ⟨h1, c, ey⟩⟩, .inl ⟨rfl, rfl⟩⟩
  · obtain ⟨c, rfl⟩ := isKeyT_some k1
    obtain ⟨b, ey, eb⟩ := R.keyTS ry
    rcases h with ⟨hs, h1, h2⟩ | ⟨hs, h1, h2⟩
    · obtain ⟨rfl, rfl⟩ := h2.key0 k2 isKeyT_keyD
      exact ⟨none, .inr ⟨rfl, .inr ⟨h1, c, b, ey, eb⟩⟩, .inl ⟨rfl, rfl⟩⟩
    · have g : DGet H a y (valV hs c) := .inr ⟨hs, c, b, h1, ey, eb, rfl⟩
      refine ⟨valV hs c, .inl g, ?_⟩
      rcases h2.find keq_keyT c with ⟨e1, e2⟩ | ⟨e, v, e1, e2, e3⟩
      · exact .inl ⟨e1, e2⟩
      · exact .inr ⟨e, v, e1, e2, e3, by rw [← e2]; exact g⟩
/-- a key's own reading -/
theorem RS.key {d : PyData} {y : V} {kvs : List (PyData × PyData)} (h : RS K F H d y) (hk : keyFor kvs d = true) : R K F H d y := by
  cases d with
  | list ds => simp [keyFor, isKeyK, isKeyT, dkey] at hk
  | dict ds => simp [keyFor, isKeyK, isKeyT, dkey] at hk
  | none => exact h
  | bool b => exact h
  | int i => exact h
  | str x => exact h
  | tuple ds => exact h
def inDc : PyData → PyData → Option PyData
  | d, .dict kvs => if keyFor kvs d then some (.bool (dHas kvs d)) else none
  | _, _ => none
def notInDc : PyData → PyData → Option PyData
  | d, .dict kvs => if keyFor kvs d then some (.bool (!dHas kvs d)) else none
  | _, _ => none
def getDc : PyData → PyData → Option PyData
  | .dict kvs, d => if keyFor kvs d then dFind kvs d else none
  | _, _ => none
theorem ops_inDc : OpS2 K rDIn inDc := by
  intro F H d e x y c Q r1 r2 h q
  cases e <;> simp only [inDc, reduceCtorEq, Option.ite_none_right_eq_some, Option.some.injEq] at h
  obtain ⟨hk, rfl⟩ := h
  obtain ⟨a, rfl, h⟩ := r2.dictS
  obtain ⟨o, g, z⟩ := dge_of h (r1.key hk) hk
  refine ⟨a, o, rfl, g, ?_⟩
  rcases z with ⟨z1, rfl⟩ | ⟨_, _, z1, rfl, _⟩
  · have := q _ F H .refl (.bl _)
    unfold dHas at this; rw [z1] at this; exact this
  · have := q _ F H .refl (.bl _)
    unfold dHas at this; rw [z1] at this; exact this
theorem ops_notInDc : OpS2 K rDNotIn notInDc := by
  intro F H d e x y c Q r1 r2 h q
  cases e <;> simp only [notInDc, reduceCtorEq, Option.ite_none_right_eq_some, Option.some.injEq] at h
  obtain ⟨hk, rfl⟩ := h
  obtain ⟨a, rfl, h⟩ := r2.dictS
  obtain ⟨o, g, z⟩ := dge_of h (r1.key hk) hk
  refine ⟨a, o, rfl, g, ?_⟩
  rcases z with ⟨z1, rfl⟩ | ⟨_, _, z1, rfl, _⟩
  · have := q _ F H .refl (.bl _)
    unfold dHas at this; rw [z1] at this; exact this
  · have := q _ F H .refl (.bl _)
    unfold dHas at this; rw [z1] at this; exact this
theorem ops_getDc : OpS2 K rDGet getDc := by
  intro F H d e x y c Q r1 r2 h q
  cases d <;> simp only [getDc, reduceCtorEq, Option.ite_none_right_eq_some] at h
  obtain ⟨hk, h⟩ := h
  obtain ⟨a, rfl, hd⟩ := r1.dictS
  obtain ⟨o, g, z⟩ := dge_of hd (r2.key hk) hk
  rcases z with ⟨z1, rfl⟩ | ⟨e', v, z1, rfl, z2, z3⟩
  · rw [z1] at h; cases h
  · rw [z1] at h; cases h
    exact ⟨a, v, rfl, z3, q _ F H .refl z2⟩

/-! ### in, not in, items: of all -/
def inTp : PyData → PyData → Option PyData
  | d, .tuple ds => if SeqAt.shaped d && SeqAt.shaped (.tuple ds) then some (.bool (ds.any fun z => PyData.eqv z d)) else none
  | _, _ => none
def notInTp : PyData → PyData → Option PyData
  | d, .tuple ds => if SeqAt.shaped d && SeqAt.shaped (.tuple ds) then some (.bool (!ds.any fun z => PyData.eqv z d)) else none
  | _, _ => none
def rInT (K : PySem.W.Frag) : R2 := fun x y H Q => ∃ d ds, Dp K H x d ∧ Dp K H y (.tuple ds) ∧ SeqAt.shaped d = true ∧ SeqAt.shaped (.tuple ds) = true ∧ Q (.bl (ds.any fun z => PyData.eqv z d)) H
def rNotInT (K : PySem.W.Frag) : R2 := fun x y H Q => ∃ d ds, Dp K H x d ∧ Dp K H y (.tuple ds) ∧ SeqAt.shaped d = true ∧ SeqAt.shaped (.tuple ds) = true ∧ Q (.bl (!ds.any fun z => PyData.eqv z d)) H
theorem op_inT {X : Cx} (hu : X.A.units + 65 < cLine) : OpR X (compareOp .In) (rInT X.K) := by
  intro pins s σ H x y v u Q I rx ry h
  obtain ⟨d, ds, h1, h2, h3, h4, q⟩ := h
  obtain ⟨as, r1⟩ := Dp.reads I d x v h1 rx
  obtain ⟨bs, r2⟩ := Dp.reads I (.tuple ds) y u h2 ry
  exact SeqAt.in_tuple_reads r2 r1 (SeqAt.canLay_of_shaped h4) (SeqAt.canLay_of_shaped h3) (room_in_shaped h3 hu) ⟨.bl _, H, I, rfl, q⟩
theorem op_notInT {X : Cx} (hu : X.A.units + 65 < cLine) : OpR X (compareOp .NotIn) (rNotInT X.K) := by
  intro pins s σ H x y v u Q I rx ry h
  obtain ⟨d, ds, h1, h2, h3, h4, q⟩ := h
  obtain ⟨as, r1⟩ := Dp.reads I d x v h1 rx
  obtain ⟨bs, r2⟩ := Dp.reads I (.tuple ds) y u h2 ry
  exact SeqAt.notIn_tuple_reads r2 r1 (SeqAt.canLay_of_shaped h4) (SeqAt.canLay_of_shaped h3) (room_in_shaped h3 hu) ⟨.bl _, H, I, rfl, q⟩
theorem ops_inTp : OpS2 K (rInT K) inTp := by
  intro F H d e x y c Q r1 r2 h q
  cases e <;> simp only [inTp, Bool.and_eq_true, Option.ite_none_right_eq_some, Option.some.injEq, reduceCtorEq] at h
  obtain ⟨⟨z1, z2⟩, rfl⟩ := h
  exact ⟨d, _, RS.dp d x (noDict_sh z1) r1, RS.dp _ y (noDict_sh z2) r2, z1, z2, q _ F H .refl (.bl _)⟩
theorem ops_notInTp : OpS2 K (rNotInT K) notInTp := by
  intro F H d e x y c Q r1 r2 h q
  cases e <;> simp only [notInTp, Bool.and_eq_true, Option.ite_none_right_eq_some, Option.some.injEq, reduceCtorEq] at h
  obtain ⟨⟨z1, z2⟩, rfl⟩ := h
  exact ⟨d, _, RS.dp d x (noDict_sh z1) r1, RS.dp _ y (noDict_sh z2) r2, z1, z2, q _ F H .refl (.bl _)⟩
def inA (d e : PyData) : Option PyData := (inL d e).or ((inTp d e).or (inDc d e))
def notInA (d e : PyData) : Option PyData := (notInL d e).or ((notInTp d e).or (notInDc d e))
def ixA (d e : PyData) : Option PyData := (ixD d e).or (getDc d e)
def rInA (K : PySem.W.Frag) : R2 := fun x y H Q => rInD K x y H Q ∨ rInT K x y H Q ∨ rDIn x y H Q
def rNotInA (K : PySem.W.Frag) : R2 := fun x y H Q => rNotInD K x y H Q ∨ rNotInT K x y H Q ∨ rDNotIn x y H Q
def rIxA (K : PySem.W.Frag) : R2 := fun x y H Q => rIx K x y H Q ∨ rDGet x y H Q
theorem ops_inA : OpS2 K (rInA K) inA := ops_inL.or (ops_inTp.or ops_inDc)
theorem ops_notInA : OpS2 K (rNotInA K) notInA := ops_notInL.or (ops_notInTp.or ops_notInDc)
theorem ops_ixA : OpS2 K (rIxA K) ixA := ops_ix.or ops_getDc
end
section
variable {X : Cx}
theorem op_inA (hu : X.A.units + 65 < cLine) : OpR X (compareOp .In) (rInA X.K) := (op_inD hu).or ((op_inT hu).or (op_dIn (by omega)))
theorem op_notInA (hu : X.A.units + 65 < cLine) : OpR X (compareOp .NotIn) (rNotInA X.K) := (op_notInD hu).or ((op_notInT hu).or (op_dNotIn (by omega)))
theorem ix_A (hu : X.A.units + 1 < cLine) : IxR X (rIxA X.K) := ixR_or ix_seq (ix_dict hu)
theorem _root_.DL.XOk.u65 {g : GC} {N : List Str} {sc : Scope} {fc : Str → Bool} {k : Nat} (hX : XOk g X N sc fc k) : X.A.units + 65 < cLine := by have := hX.hr.un; omega
theorem _root_.DL.XOk.u64 {g : GC} {N : List Str} {sc : Scope} {fc : Str → Bool} {k : Nat} (hX : XOk g X N sc fc k) : X.A.units + 64 < cLine := by have := hX.hr.un; omega
theorem _root_.DL.XOk.u1 {g : GC} {N : List Str} {sc : Scope} {fc : Str → Bool} {k : Nat} (hX : XOk g X N sc fc k) : X.A.units + 1 < cLine := by have := hX.hr.un; omega
end
end DL

/-! D16: slices, repeated lists, lists of ranges, dicts made. -/
namespace DL
open PySem PySem.Spec PyProof.Rows L2

/-! ### slices -/
def SPt (J : Jc) (part : Option Expr) (T T' : List Tag) (f : M (Option Int)) : Prop :=
  ∃ t, PO J.X part t ∧ ∀ B ρ σ F O H Q, St J.X.K B T ρ σ F O H → Post J B T' σ F O H (fun o _ _ H1 => Q o H1) (f ρ) → t σ H Q
def oNone : M (Option Int) := M.pure none
def oSome (f : M PyData) : M (Option Int) := f.bind fun d => match d with
  | .int i => M.pure (some i)
  | _ => fun _ => .bad
def cutD {α : Type} (xs : List α) (lo hi : Option Int) : List α := (xs.drop (HT.sIx xs.length 0 lo)).take (HT.sIx xs.length xs.length hi - HT.sIx xs.length 0 lo)
def slL (d : PyData) (lo hi : Option Int) : Option PyData := match d with
  | .list ds => some (.list (cutD ds lo hi))
  | _ => none
def slT (d : PyData) (lo hi : Option Int) : Option PyData := match d with
  | .tuple ds => some (.tuple (cutD ds lo hi))
  | .str z => if lenOk z.length then some (.str (cutS z lo hi)) else none
  | _ => none
def eSl (f : PyData → Option Int → Option Int → Option PyData) (a : M PyData) (l h : M (Option Int)) : M PyData := a.bind fun x => l.bind fun lo => h.bind fun hi => ofO (f x lo hi)
theorem RAll.cut {K : PySem.W.Frag} {F : AS} {H : Hp} {ds : List PyData} {xs : List V} (h : RAll K F H ds xs) (lo hi : Option Int) : RAll K F H (cutD ds lo hi) (cutV xs lo hi) := by
  unfold cutD cutV
  rw [h.length]
  exact (h.drop _).take _
section
variable {J : Jc} {T T1 T2 T3 : List Tag}
theorem sp_none : SPt J none T T oNone := ⟨_, po_none, fun B ρ σ F O H Q S q => ct_ok S q⟩
theorem sp_some {e : Expr} {f : M PyData} (h : SE J e .fz T T1 f) : SPt J (some e) T T1 (oSome f) := by
  obtain ⟨t, p, c⟩ := h
  refine ⟨_, po_some p, fun B ρ σ F O H Q S q => ?_⟩
  refine c B ρ σ F O H _ S (Post.bind q fun d ρ1 F1 O1 H1 hz1 e1 S1 q1 => fun v P vr l _ => ?_)
  cases d <;> try exact q1.elim
  exact ⟨_, vr.1.intS, ct_ok S1 q1⟩
theorem se_sliceT {e : Expr} {lo hi : Option Expr} {p2 pos : Pos} {fa : M PyData} {fl fh : M (Option Int)} (ha : SE J e .fz T T1 fa) (hl : SPt J lo T1 T2 fl) (hh : SPt J hi T2 T3 fh) : SE J (.Subscript e (.Slice lo hi none p2) pos) .fz T T3 (eSl slT fa fl fh) := by
  obtain ⟨ta, pa, ca⟩ := ha
  obtain ⟨tl, pl, cl⟩ := hl
  obtain ⟨th, ph, ch⟩ := hh
  refine ⟨_, pe_slice (sl_tupA.or sl_str) pa pl ph, fun B ρ σ F O H Q S q => ?_⟩
  refine ca B ρ σ F O H _ S (Post.bind q fun d ρ1 F1 O1 H1 hz1 e1 S1 q1 => fun v P vr l _ => ?_)
  refine cl B ρ1 σ F1 O1 H1 _ S1 (Post.bind q1 fun o2 ρ2 F2 O2 H2 hz2 e2 S2 q2 => ?_)
  refine ch B ρ2 σ F2 O2 H2 _ S2 (Post.bind q2 fun o3 ρ3 F3 O3 H3 hz3 e3 S3 q3 => ?_)
  have r1 := R.keep (e3.keep S2.fo) d v (R.keep (e2.keep S1.fo) d v vr.1)
  cases d <;> try exact q3.elim
  · rename_i z
    by_cases hz : lenOk z.length = true
    · have hq : ofO (slT (.str z) o2 o3) ρ3 = .ok (.str (cutS z o2 o3)) ρ3 := by simp [slT, hz, ofO]
      rw [hq] at q3
      exact .inr ⟨z, r1.strS, lenOk_line hz, post_some (o := some _) S3 rfl q3 .refl (.str _)⟩
    · have hq : ofO (slT (.str z) o2 o3) ρ3 = .bad := by simp [slT, hz, ofO]
      rw [hq] at q3
      exact q3.elim
  · rename_i ds
    obtain ⟨a, xs, rfl, hx, rx⟩ := r1.tupleS
    refine .inl ⟨a, xs, rfl, hx, fun hw => ?_, fun hw p hp => ?_⟩
    · have e : cutD ds o2 o3 = ds := by
        unfold cutD
        rw [rx.length, hw.1, hw.2, List.drop_zero, Nat.sub_zero, ← rx.length, List.take_length]
      refine post_some S3 (o := slT (.tuple ds) o2 o3) rfl q3 .refl ?_
      rw [e]; exact r1
    · exact post_some S3 (o := slT (.tuple ds) o2 o3) rfl q3 (.newL hp) (R.newT (rx.cut o2 o3) hp)
theorem se_sliceL {e : Expr} {lo hi : Option Expr} {p2 pos : Pos} {fa : M PyData} {fl fh : M (Option Int)} (ha : SE J e .fz T T1 fa) (hl : SPt J lo T1 T2 fl) (hh : SPt J hi T2 T3 fh) : SE J (.Subscript e (.Slice lo hi none p2) pos) (.ow OL) T T3 (eSl slL fa fl fh) := by
  obtain ⟨ta, pa, ca⟩ := ha
  obtain ⟨tl, pl, cl⟩ := hl
  obtain ⟨th, ph, ch⟩ := hh
  refine ⟨_, pe_slice sl_list pa pl ph, fun B ρ σ F O H Q S q => ?_⟩
  refine ca B ρ σ F O H _ S (Post.bind q fun d ρ1 F1 O1 H1 hz1 e1 S1 q1 => fun v P vr l _ => ?_)
  refine cl B ρ1 σ F1 O1 H1 _ S1 (Post.bind q1 fun o2 ρ2 F2 O2 H2 hz2 e2 S2 q2 => ?_)
  refine ch B ρ2 σ F2 O2 H2 _ S2 (Post.bind q2 fun o3 ρ3 F3 O3 H3 hz3 e3 S3 q3 => ?_)
  have r1 := R.keep (e3.keep S2.fo) d v (R.keep (e2.keep S1.fo) d v vr.1)
  cases d <;> try exact q3.elim
  rename_i ds
  obtain ⟨a, xs, rfl, hx, rx⟩ := r1.listS
  exact ⟨a, xs, rfl, hx.sq, fun p hp => post_own S3 (o := slL (.list ds) o2 o3) rfl q3 (.newL hp) (OL.new (rx.cut o2 o3) hp) (new_at hp) fun z hz => hneE e1 z (hneE e2 z (hneE e3 z hz))⟩
def revL : PyData → Option PyData
  | .list ds => some (.list ds.reverse)
  | _ => none
theorem se_rev {e : Expr} {k : Nat} {p1 p2 p3 pos : Pos} {fa : M PyData} (ha : SEb J e T T1 fa) : SE J (.Subscript e (.Slice none none (some (.UnaryOp .USub (.Constant (.int 1) k p1) p2)) p3) pos) (.ow OL) T T1 (eOp1 revL fa) :=
  un_coreO (fun ta pa => pe_revL pa) (r := fun v H Q => ∃ a xs, v = .ref a ∧ SqL J.X.K H a xs ∧ ∀ p, H p = none → Q (.ref p) (upd H p (.lst xs.reverse))) (by
    intro F H d x c Q r h q
    cases d <;> simp [revL] at h
    subst h
    obtain ⟨a, xs, rfl, ha, ra⟩ := r.listS
    exact ⟨a, xs, rfl, ha, fun p hp => q _ _ _ (.newL hp) (OL.new ra.reverse hp) (new_at hp)⟩) ha

/-! ### [x] * n -/
def repOk (n : Nat) (k : Int) : Bool := decide (-9223372036854775808 ≤ k) && decide (k < 9223372036854775808) && lenOk (n * k.toNat)
def repL : PyData → PyData → Option PyData
  | .list ds, .int k => if repOk ds.length k then some (.list (List.replicate k.toNat ds).flatten) else none
  | _, _ => none
theorem se_repO {a b : Expr} {fa fb : M PyData} {pos : Pos} (ha : SE J a (.ow OL) T T1 fa) (hb : SE J b .fz T1 T2 fb) : SE J (.BinOp a .Mult b pos) (.ow OL) T T2 (eOp2 repL fa fb) := by
  obtain ⟨ta, pa, ca⟩ := ha
  obtain ⟨tb, pb, cb⟩ := hb
  refine ⟨_, pe_op op_rep pa pb, fun B ρ σ F O H Q S q => ?_⟩
  refine ca B ρ σ F O H _ S (Post.bind q fun d ρ1 F1 O1 H1 hz1 e1 S1 q1 => fun v P vr l _ => ?_)
  refine cb B ρ1 σ F1 O1 H1 _ S1 (Post.bind q1 fun d2 ρ2 F2 O2 H2 hz2 e2 S2 q2 => fun w P2 vr2 l2 _ => ?_)
  obtain ⟨p0, xs, ds, rfl, rfl, hH, ra, hP⟩ := vr
  have hH2 := l.same e2 p0 _ ((hP p0).mpr rfl) hH
  have ra2 := RAll.keep (e2.keep S1.fo) _ _ ra
  cases d2 <;> try exact q2.elim
  rename_i k
  by_cases z : repOk ds.length k = true
  · have z' := z
    simp only [repOk, Bool.and_eq_true, decide_eq_true_eq] at z'
    refine ⟨p0, k, xs, rfl, vr2.1.intS, hH2, z'.1.1, z'.1.2, by rw [← ra2.length]; exact lenOk_line z'.2, fun p hp => ?_⟩
    exact post_own S2 (o := repL (.list ds) (.int k)) (by simp [repL, z]) q2 (.newL hp) (OL.new (ra2.replicate _) hp) (new_at hp) fun z hz => hneE e1 z (hneE e2 z hz)
  · have hq : ofO (repL (.list ds) (.int k)) ρ2 = .bad := by simp [repL, z, ofO]
    rw [hq] at q2
    exact q2.elim
end

/-! ### list(range(..)) -/
section
variable {g : GC} {N : List Str} {sc : Scope} {fc : Str → Bool} {k : Nat} {t : Tab} {J : Jc} {T T1 T2 : List Tag}
def rgOk (a b : Int) : Bool := smallI a && smallI b && decide ((b - a).toNat ≤ 16777216)
theorem rgOk_ok {a b : Int} (h : rgOk a b = true) : RgOk a b := by
  simp only [rgOk, Bool.and_eq_true, decide_eq_true_eq] at h
  obtain ⟨h1, h2⟩ := smallI_ok h.1.1
  obtain ⟨h3, h4⟩ := smallI_ok h.1.2
  exact ⟨h1, h2, h3, h4, h.2⟩
def eRg1 (a : M PyData) : M PyData := a.bind fun d => match d with
  | .int n => if rgOk 0 n then M.pure (.list (rangeD 0 n)) else fun _ => .bad
  | _ => fun _ => .bad
def eRg2 (a b : M PyData) : M PyData := a.bind fun d => b.bind fun e => match d, e with
  | .int m, .int n => if rgOk m n then M.pure (.list (rangeD m n)) else fun _ => .bad
  | _, _ => fun _ => .bad
theorem rg_RAll {K : PySem.W.Frag} {F : AS} {H : Hp} (a b : Int) : RAll K F H (rangeD a b) (rgV a b) := by
  unfold rangeD rgV
  have := RAll.ints (K := K) (F := F) (H := H) ((List.range (b - a).toNat).map fun i => a + (i : Nat))
  rw [List.map_map, List.map_map] at this
  exact this
theorem se_lrg1 (hX : XOk g J.X N sc fc k) (ht : t.ok N sc fc = true) {j j2 : Nat} (hj : t.gl[j]? = some ("list" : Str)) (hm : g.mg "list" = none) (hj2 : t.gl[j2]? = some ("range" : Str)) (hm2 : g.mg "range" = none) {e : Expr} {fa : M PyData} {p p2 pos pos2 : Pos} (ha : SE J e .fz T T1 fa) (hs : isStar e = false) :
    SE J (.Call (.Name "list" p) [.Call (.Name "range" p2) [e] [] pos2] [] pos) (.ow OL) T T1 (eRg1 fa) := by
  obtain ⟨ta, pa, ca⟩ := ha
  refine ⟨_, pe_listRg hX.c (hX.gl ht hj).1 (by rw [hX.mg]; exact hm) (prg_1 (hX.gl ht hj2).1 (by rw [hX.mg]; exact hm2) pa (starEach_cons hs)), fun B ρ σ F O H Q S q => ?_⟩
  refine ca B ρ σ F O H _ S (Post.bind q fun d ρ1 F1 O1 H1 hz1 e1 S1 q1 => fun v P vr l _ => ?_)
  cases d <;> try exact q1.elim
  rename_i n
  by_cases z : rgOk 0 n = true
  · simp only [z, if_true] at q1
    exact ⟨n, vr.1.intS, rgOk_ok z, fun p hp => post_own S1 (o := some _) rfl q1 (.newL hp) (OL.new (rg_RAll 0 n) hp) (new_at hp) fun z hz => hneE e1 z hz⟩
  · simp only [z] at q1
    exact q1.elim
theorem se_lrg2 (hX : XOk g J.X N sc fc k) (ht : t.ok N sc fc = true) {j j2 : Nat} (hj : t.gl[j]? = some ("list" : Str)) (hm : g.mg "list" = none) (hj2 : t.gl[j2]? = some ("range" : Str)) (hm2 : g.mg "range" = none) {e e2 : Expr} {fa fb : M PyData} {p p2 pos pos2 : Pos} (ha : SE J e .fz T T1 fa) (hb : SE J e2 .fz T1 T2 fb) (hs : isStar e = false) (hs2 : isStar e2 = false) :
    SE J (.Call (.Name "list" p) [.Call (.Name "range" p2) [e, e2] [] pos2] [] pos) (.ow OL) T T2 (eRg2 fa fb) := by
  obtain ⟨ta, pa, ca⟩ := ha
  obtain ⟨tb, pb, cb⟩ := hb
  refine ⟨_, pe_listRg hX.c (hX.gl ht hj).1 (by rw [hX.mg]; exact hm) (prg_2 (hX.gl ht hj2).1 (by rw [hX.mg]; exact hm2) pa pb (starEach_cons hs) (starEach_cons hs2) (backTo_plain (by simp [noStar, hs2]))), fun B ρ σ F O H Q S q => ?_⟩
  refine ca B ρ σ F O H _ S (Post.bind q fun d ρ1 F1 O1 H1 hz1 e1 S1 q1 => fun v P vr l _ => ?_)
  refine cb B ρ1 σ F1 O1 H1 _ S1 (Post.bind q1 fun d2 ρ2 F2 O2 H2 hz2 e2 S2 q2 => fun w P2 vr2 l2 _ => ?_)
  cases d <;> cases d2 <;> try exact q2.elim
  rename_i m n
  by_cases z : rgOk m n = true
  · simp only [z, if_true] at q2
    exact ⟨m, n, vr.1.intS, vr2.1.intS, rgOk_ok z, fun p hp => post_own S2 (o := some _) rfl q2 (.newL hp) (OL.new (rg_RAll m n) hp) (new_at hp) fun z hz => hneE e1 z (hneE e2 z hz)⟩
  · simp only [z] at q2
    exact q2.elim
end

end DL

/-! D17: dicts made. -/
namespace DL
open PySem PySem.Spec PyProof.Rows L2

/-! ### {}, dict(pairs), {k: v} -/
def dMerge (kvs more : List (PyData × PyData)) : List (PyData × PyData) := more.foldl (fun acc p => dPut acc p.1 p.2) kvs
def pairs? : List PyData → Option (List (PyData × PyData))
  | [] => some []
  | .tuple [c, d] :: r => (pairs? r).map ((c, d) :: ·)
  | _ :: _ => none
def mergeT (kvs more : List (List Key × V)) : List (List Key × V) := more.foldl (fun acc kv => putK acc kv.1 kv.2) kvs
def OD.newK {K : PySem.W.Frag} {F : AS} {H : Hp} {kvs : List (PyData × PyData)} {hs : List (Key × V)} {p : Addr} (h : DRK K F H kvs hs) (hp : H p = none) : OD.rel K F (upd H p (.dK hs)) (fun a => a = p) (.dict kvs) (.ref p) :=
  let h' := h.keep (Grow.newL hp).keep
  ⟨p, kvs, rfl, rfl, fun b => Iff.rfl, .inl ⟨hs, upd_same, h'.ks, h'.vs⟩⟩
def OD.newT {K : PySem.W.Frag} {F : AS} {H : Hp} {kvs : List (PyData × PyData)} {hs : List (List Key × V)} {p : Addr} (h : DRT K F H kvs hs) (hp : H p = none) : OD.rel K F (upd H p (.dT hs)) (fun a => a = p) (.dict kvs) (.ref p) :=
  let h' := h.keep (Grow.newL hp).keep
  ⟨p, kvs, rfl, rfl, fun b => Iff.rfl, .inr ⟨hs, upd_same, h'.ks, h'.vs⟩⟩
section
variable {J : Jc} {T T1 T2 T3 : List Tag}
theorem se_dnew {pos : Pos} : SE J (.Dict [] [] pos) (.ow OD) T T (eC (.dict [])) := by
  refine ⟨_, pe_dnewK, fun B ρ σ F O H Q S q => fun p hp => ?_⟩
  exact post_own S (o := some _) rfl q (.newL hp) (OD.newK .nil hp) (new_at hp) fun z hz => hz
end
section
variable {K : PySem.W.Frag} {F : AS} {H : Hp}
theorem DR.merge {κ : Type} [DecidableEq κ] {kD : κ → PyData} (hk : ∀ a b, keq (kD a) (kD b) = decide (a = b)) : ∀ {more : List (PyData × PyData)} {hm : List (κ × V)} {kvs : List (PyData × PyData)} {hs : List (κ × V)}, DR K F H kD more hm → DR K F H kD kvs hs → DR K F H kD (dMerge kvs more) (hm.foldl (fun acc kv => putK acc kv.1 kv.2) hs)
  | [], hm, kvs, hs, h, q => by
    have := h.len
    cases hm with
    | nil => exact q
    | cons x r => simp at this
  | p :: more, hm, kvs, hs, h, q => by
    obtain ⟨c, v, r, rfl, e1, e2, e3⟩ := h.uncons
    obtain ⟨pc, pd⟩ := p
    simp only at e1 e2
    subst e1
    have ih := DR.merge hk e3 (q.put hk (c := c) e2)
    exact ih
end
def rDictT (K : PySem.W.Frag) : List V → Hp → VK → Prop := fun xs H Q => ∃ (a : Addr) (zs : List (Addr × Addr × List Key × V)), xs = [.ref a] ∧ SqL K H a (zs.map fun z => V.ref z.1) ∧
  (∀ z ∈ zs, SqT K H z.1 [.ref z.2.1, z.2.2.2] ∧ H z.2.1 = some (.tup (z.2.2.1.map kV))) ∧ ∀ p, H p = none → Q (.ref p) (upd H p (.dT (mergeT [] (zs.map fun z => z.2.2))))
theorem KT_storedAll {H : Hp} : ∀ {zs : List (List Key × Addr × V × Value)} {kvs : List (List Key × V)} {xs : List (List Key × Addr × Value)}, (∀ z ∈ zs, H z.2.1 = some (.tup (z.1.map kV)) ∧ RelV z.2.2.1 z.2.2.2) → KT H kvs xs →
    KT H (mergeT kvs (zs.map fun z => (z.1, z.2.2.1))) (storedAllH xs (zs.map fun z => (z.1, z.2.1, z.2.2.2)))
  | [], _, _, _, q => q
  | z :: zs, kvs, xs, h, q => KT_storedAll (zs := zs) (fun y hy => h y (by simp [hy])) (q.put z.1 (h z (by simp)).1 (h z (by simp)).2)
theorem mergeT_len : ∀ (more kvs : List (List Key × V)), (mergeT kvs more).length ≤ kvs.length + more.length
  | [], kvs => by simp [mergeT]
  | p :: more, kvs => by
    have h1 := mergeT_len more (putK kvs p.1 p.2)
    have h2 := length_putK kvs p.1 p.2
    have e : mergeT kvs (p :: more) = mergeT (putK kvs p.1 p.2) more := rfl
    rw [e, List.length_cons]; omega
theorem pairs_vals {X : Cx} {pins : List (Addr × Obj)} {σ : L2.St} {H : Hp} {s : Shared} (I : Inv X pins σ H s) : ∀ {zs : List (Addr × Addr × List Key × V)}, (∀ z ∈ zs, SqT X.K H z.1 [.ref z.2.1, z.2.2.2] ∧ H z.2.1 = some (.tup (z.2.2.1.map kV))) →
    ∃ ys : List (Addr × List Key × Addr × V × Value), zs = ys.map (fun y => (y.1, y.2.2.1, y.2.1, y.2.2.2.1)) ∧ ∀ y ∈ ys, H y.2.2.1 = some (.tup (y.2.1.map kV)) ∧ RelV y.2.2.2.1 y.2.2.2.2 ∧ s.heap.IsTuple y.1 #[.ref y.2.2.1, y.2.2.2.2]
  | [], _ => ⟨[], rfl, fun y h => by simp at h⟩
  | z :: zs, h => by
    obtain ⟨ys, h1, h2⟩ := pairs_vals I (zs := zs) fun y hy => h y (by simp [hy])
    obtain ⟨its, rv, ht, _⟩ := I.tuple (h z (by simp)).1
    obtain ⟨u1, w, e1, r1, r2⟩ := vals2 rv
    subst e1
    obtain rfl : u1 = Value.ref z.2.1 := r1
    refine ⟨(z.1, z.2.2.1, z.2.1, z.2.2.2, w) :: ys, by rw [List.map_cons, ← h1], fun y hy => ?_⟩
    rcases List.mem_cons.mp hy with e | hy
    · subst e
      exact ⟨(h z (by simp)).2, r2, ht⟩
    · exact h2 y hy
theorem call_dictT {X : Cx} (hc : X.calm = true) (hu : X.A.units + 64 < cLine) : CallR X (.type "dict") (rDictT X.K) := by
  intro pins s σ H xs us Q I r h
  obtain ⟨a, zs, rfl, ha, hz, q⟩ := h
  obtain ⟨u, rfl, rx⟩ := vals1 r
  cases rx
  obtain ⟨ys, rfl, hy⟩ := pairs_vals I hz
  clear hz
  rw [List.map_map] at ha q
  obtain ⟨its, rv, pl, hl⟩ := I.list ha
  have ei : its = ys.map fun y => Value.ref y.1 := by
    have r2 : Vals ((ys.map fun y => y.1).map V.ref) its := by rw [List.map_map]; exact rv
    have r3 := refs_at r2
    rw [List.map_map] at r3; exact r3
  subst ei
  have hlen0 : ys.length ≤ sizeLine := by simpa using hl
  obtain ⟨o, n, ho, hcl, hd, hdat⟩ := pl
  have PI : PairItems s.heap (ys.map fun y => Value.ref y.1).toArray (fun j => (ys.map fun y => y.1).getD j 0) (ys.map fun y => (Value.ref y.2.2.1, y.2.2.2.2)) := by
    refine ⟨by simp, fun j kk v hj => ?_⟩
    rw [List.getElem?_map, Option.map_eq_some_iff] at hj
    obtain ⟨y, h1, h2⟩ := hj
    cases h2
    refine ⟨by simp [h1], .inl ?_⟩
    have : (ys.map fun y => y.1).getD j 0 = y.1 := by simp [List.getD, h1]
    show s.heap.IsTuple ((ys.map fun y => y.1).getD j 0) _
    rw [this]
    exact (hy y (List.mem_of_getElem? h1)).2.2
  refine call_dict_pairsH (knd := tupleKind (mixKind X.prog X.w)) (ps := ys.map fun y => (y.2.1, y.2.2.1, y.2.2.2.2)) (PairArg.list a _ _ _) (I.ok.hd hc) (by show X.A.units + 1 + 1 < cLine; omega) ⟨⟨o, n, ho, hcl, hd, hdat⟩, PI⟩ ?_ ?_ (by rw [List.length_map]; exact hlen0) fun h' tk hd' kp => ?_
  · refine ⟨by simp, fun i key v hr => ?_⟩
    have hr : (ys.map fun y => (Value.ref y.2.2.1, y.2.2.2.2))[i]? = some (key, v) := hr
    rw [List.getElem?_map, Option.map_eq_some_iff] at hr
    obtain ⟨y, h1, h2⟩ := hr
    cases h2
    exact ⟨y.2.1, y.2.2.1, by rw [List.getElem?_map, h1]; rfl, rfl⟩
  · intro h' hk x hx
    obtain ⟨y, h1, rfl⟩ := List.mem_map.mp hx
    have hb := (hy y h1).1
    obtain ⟨_, its, rv2, o2, g1, g2, n2, g3⟩ := (show ObjOk X.prog X.w H s.heap y.2.2.1 (.tup (y.2.1.map kV)) from I.hok _ _ hb)
    exact ⟨o2, its.toArray, n2, hk _ _ (Nat.ne_of_lt (Heap.lt_size g1)) (by simp) g1, g2, g3, by simpa using items_are rv2⟩
  · have hm : (s.heap.objs.size == sysModules) = false := beq_eq_false_iff_ne.mpr (Nat.ne_of_gt I.big)
    have hn : H s.heap.objs.size = none := I.hok.fresh (Nat.le_refl _)
    have key := KT_storedAll (H := upd H s.heap.objs.size (.dT (mergeT [] (ys.map fun y => (y.2.1, y.2.2.2.1))))) (zs := ys.map fun y => (y.2.1, y.2.2.1, y.2.2.2.1, y.2.2.2.2)) (kvs := []) (xs := []) (fun z hz' => by
      obtain ⟨y, h1, rfl⟩ := List.mem_map.mp hz'
      obtain ⟨h2, h3, _⟩ := hy y h1
      exact ⟨by rw [upd_ne (ne_of_none h2 hn)]; exact h2, h3⟩) .nil
    rw [List.map_map, List.map_map] at key
    have hlen : (mergeT [] (ys.map fun y => (y.2.1, y.2.2.2.1))).length ≤ sizeLine := by
      have := mergeT_len (ys.map fun y => (y.2.1, y.2.2.2.1)) []
      rw [List.length_nil, List.length_map] at this
      omega
    obtain ⟨o3, es, ep, k1, k2, k3, k4, _, k6⟩ := hd'
    exact ⟨.ref s.heap.objs.size, _, I.laid (t' := tk) (fun b o e => kp b o (by simp) e) (Nat.le_refl _) (show ObjOk X.prog X.w _ _ _ (.dT _) from ⟨hlen, hm, _, key, o3, es, ep, k1, k2, k3, k4, k6⟩), rfl, q _ hn⟩
end DL

/-! D18: dicts made, as data. -/
namespace DL
open PySem PySem.Spec PyProof.Rows L2

def dictD : PyData → Option PyData
  | .list ds => (pairs? ds).bind fun ps => if ps.all (fun p => isKeyK p.1) || ps.all (fun p => isKeyT p.1) then some (.dict (dMerge [] ps)) else none
  | _ => none
section
variable {K : PySem.W.Frag} {F : AS} {H : Hp}
theorem RAll.pairs : ∀ {ds : List PyData} {xs : List V} {ps : List (PyData × PyData)}, RAll K F H ds xs → pairs? ds = some ps →
    ∃ as : List (Addr × V × V), xs = as.map (fun z => V.ref z.1) ∧ ps.length = as.length ∧ (∀ z ∈ as, H z.1 = some (.tup [z.2.1, z.2.2])) ∧ RAll K F H (ps.map (·.1)) (as.map fun z => z.2.1) ∧ RAll K F H (ps.map (·.2)) (as.map fun z => z.2.2)
  | [], _, ps, h, e => by
    cases h
    simp [pairs?] at e
    subst e
    exact ⟨[], rfl, rfl, fun z h => by simp at h, .nil, .nil⟩
  | d :: ds, _, ps, h, e => by
    cases h with
    | cons r q =>
      cases d <;> try (simp [pairs?] at e)
      rename_i es
      match es, e, r with
      | [], e, _ => simp [pairs?] at e
      | [_], e, _ => simp [pairs?] at e
      | _ :: _ :: _ :: _, e, _ => simp [pairs?] at e
      | [c, d], e, r =>
        simp only [pairs?, Option.map_eq_some_iff] at e
        obtain ⟨rest, e1, rfl⟩ := e
        obtain ⟨as, rfl, h2, h3, h4, h5⟩ := RAll.pairs q e1
        obtain ⟨a, ys, rfl, k1, k2⟩ := R.tupleH r
        cases k2 with
        | cons b1 k2 =>
          cases k2 with
          | cons b2 k2 =>
            cases k2
            exact ⟨(a, _, _) :: as, rfl, by simp [h2], fun z hz => by
              rcases List.mem_cons.mp hz with e | hz
              · subst e; exact k1
              · exact h3 z hz, .cons b1 h4, .cons b2 h5⟩
theorem pairsK : ∀ {as : List (Addr × V × V)} {ps : List (PyData × PyData)}, (∀ z ∈ as, H z.1 = some (.tup [z.2.1, z.2.2])) → ps.all (fun p => isKeyK p.1) = true → RAll K F H (ps.map (·.1)) (as.map fun z => z.2.1) → RAll K F H (ps.map (·.2)) (as.map fun z => z.2.2) →
    ∃ hs : List (Key × V), DRK K F H ps hs ∧ Paired (fun p kv => SqT K H p [kV kv.1, kv.2]) (as.map fun z => z.1) hs
  | [], ps, _, _, h1, _ => by
    have := h1.length
    cases ps with
    | nil => exact ⟨[], .nil, .nil⟩
    | cons x r => simp at this
  | z :: as, ps, hz, ha, h1, h2 => by
    cases ps with
    | nil => have := h1.length; simp at this
    | cons p ps =>
      simp only [List.all_cons, Bool.and_eq_true] at ha
      cases h1 with
      | cons a1 b1 =>
        cases h2 with
        | cons a2 b2 =>
          obtain ⟨hs, e1, e2⟩ := pairsK (fun y hy => hz y (by simp [hy])) ha.2 b1 b2
          obtain ⟨c, ec⟩ := isKeyK_some ha.1
          obtain ⟨pc, pd⟩ := p
          simp only at ec
          subst ec
          have ek : z.2.1 = kV c := R.keyKS a1
          refine ⟨(c, z.2.2) :: hs, .cons rfl a2 e1, .cons ?_ e2⟩
          have := hz z (by simp)
          rw [ek] at this
          exact .of this
theorem pairsT : ∀ {as : List (Addr × V × V)} {ps : List (PyData × PyData)}, (∀ z ∈ as, H z.1 = some (.tup [z.2.1, z.2.2])) → ps.all (fun p => isKeyT p.1) = true → RAll K F H (ps.map (·.1)) (as.map fun z => z.2.1) → RAll K F H (ps.map (·.2)) (as.map fun z => z.2.2) →
    ∃ zs : List (Addr × Addr × List Key × V), DRT K F H ps (zs.map fun z => z.2.2) ∧ (as.map fun z => z.1) = zs.map (fun z => z.1) ∧ ∀ z ∈ zs, SqT K H z.1 [.ref z.2.1, z.2.2.2] ∧ H z.2.1 = some (.tup (z.2.2.1.map kV))
  | [], ps, _, _, h1, _ => by
    have := h1.length
    cases ps with
    | nil => exact ⟨[], .nil, rfl, fun z h => by simp at h⟩
    | cons x r => simp at this
  | z :: as, ps, hz, ha, h1, h2 => by
    cases ps with
    | nil => have := h1.length; simp at this
    | cons p ps =>
      simp only [List.all_cons, Bool.and_eq_true] at ha
      cases h1 with
      | cons a1 b1 =>
        cases h2 with
        | cons a2 b2 =>
          obtain ⟨zs, e1, e2, e3⟩ := pairsT (fun y hy => hz y (by simp [hy])) ha.2 b1 b2
          obtain ⟨c, ec⟩ := isKeyT_some ha.1
          obtain ⟨pc, pd⟩ := p
          simp only at ec
          subst ec
          obtain ⟨b, ek, eb⟩ := R.keyTS a1
          have ek : z.2.1 = V.ref b := ek
          refine ⟨(z.1, b, c, z.2.2) :: zs, .cons rfl a2 e1, by simp [e2], fun y hy => ?_⟩
          rcases List.mem_cons.mp hy with e | hy
          · subst e
            have := hz z (by simp)
            rw [ek] at this
            exact ⟨.of this, eb⟩
          · exact e3 y hy
end
section
variable {K : PySem.W.Frag}
def rDictA (K : PySem.W.Frag) : List V → Hp → VK → Prop := fun xs H Q => (∃ (a : Addr) (ps : List Addr) (kvs : List (Key × V)), xs = [.ref a] ∧ SqL K H a (ps.map V.ref) ∧ Paired (fun p kv => SqT K H p [kV kv.1, kv.2]) ps kvs ∧ ∀ p, H p = none → Q (.ref p) (upd H p (.dK (mergeK [] kvs)))) ∨ rDictT K xs H Q
theorem call_dictA {X : Cx} (hc : X.calm = true) (hu : X.A.units + 64 < cLine) : CallR X (.type "dict") (rDictA X.K) := callR_or (call_dictP hc) (call_dictT hc hu)
theorem ops_dictO : OpS1O K OD (fun v H Q => rDictA K [v] H Q) dictD := by
  intro F H d x c Q r h q
  cases d <;> simp only [dictD, reduceCtorEq, Option.bind_eq_some_iff, Option.ite_none_right_eq_some, Bool.or_eq_true, Option.some.injEq] at h
  obtain ⟨ps, e1, hk, rfl⟩ := h
  obtain ⟨a, xs, rfl, ha, ra⟩ := r.listS
  obtain ⟨as, rfl, h2, h3, h4, h5⟩ := ra.pairs e1
  rcases hk with hk | hk
  · obtain ⟨hs, k1, k2⟩ := pairsK h3 hk h4 h5
    refine .inl ⟨a, as.map fun z => z.1, hs, rfl, by rw [List.map_map]; exact ha, k2, fun p hp => ?_⟩
    exact q _ _ _ (.newL hp) (OD.newK (DR.merge keq_keyD k1 .nil) hp) (new_at hp)
  · obtain ⟨zs, k1, k2, k3⟩ := pairsT h3 hk h4 h5
    refine .inr ⟨a, zs, rfl, ?_, k3, fun p hp => ?_⟩
    · have e : as.map (fun z => V.ref z.1) = zs.map fun z => V.ref z.1 := by
        have := congrArg (List.map V.ref) k2
        rw [List.map_map, List.map_map] at this; exact this
      rw [← e]; exact ha
    · exact q _ _ _ (.newL hp) (OD.newT (DR.merge keq_keyT k1 .nil) hp) (new_at hp)
end

/-! ### {k: v} -/
def tDisp1T (tk tv : TE) : TE := fun σ H Q => ∀ p, H p = none → tk σ (upd H p (.dT [])) fun y H1 => tv σ H1 fun z H2 => H2 p = some (.dT []) ∧ ∃ (c : List Key) (b : Addr), y = .ref b ∧ H2 b = some (.tup (c.map kV)) ∧ Q (.ref p) (upd H2 p (.dT [(c, z)]))
theorem pe_disp1T {X : Cx} {ke ve : Expr} {pos : Pos} {tk tv : TE} (hu : X.A.units + 1 < cLine) (hk : PE X ke tk) (hv : PE X ve tv) : PE X (.Dict [some ke] [ve] pos) (tDisp1T tk tv) := by
  refine ⟨fun pins s σ H Q I q => ?_⟩
  have hn := I.hok.fresh (Nat.le_refl s.heap.objs.size)
  have I1 := I.laid (a := s.heap.objs.size) (o := .dT []) (h' := s.heap.push { cls := .type "dict", data := .dict #[] }) (t' := s.toks) (fun _ _ z => Heap.get?_push_of_some _ z) (Nat.le_refl _) (dt_empty s.heap I.big)
  have hw := (pps_cons (pos := pos) hk hv pps_nil).run pins _ σ _ (fun ps H2 => match ps with
    | [(y, z)] => H2 s.heap.objs.size = some (.dT []) ∧ ∃ (c : List Key) (b : Addr), y = .ref b ∧ H2 b = some (.tup (c.map kV)) ∧ Q (.ref s.heap.objs.size) (upd H2 s.heap.objs.size (.dT [(c, z)]))
    | _ => False) I1 (q _ hn)
  rw [arm_eval_Dict, zip_pairTrees [some ke] [ve] X.env pos rfl rfl, dictDisplay_pairs (pairTrees [some ke] [ve] X.env pos) (by simp [pairTrees]) (by simp [pairTrees])]
  refine wpAny_bind (wpAny_standAt (wpAny_bind ?_))
  refine wpAny_subDictH (knd := tupleKind (mixKind X.prog X.w)) (Q := fun d s' => wpAny (model X.prog X.w) X.A (pure (Value.ref d)) (EP X pins σ Q) X.xe s') (show X.A.units < cLine by omega) (by simp [pairTrees]) (thn hw fun ws s2 ⟨ps, H2, I2, rel, qq⟩ => ?_)
  rcases ps with _ | ⟨⟨y, z⟩, _ | ⟨p2, r2⟩⟩
  · exact False.elim qq
  rotate_left
  · exact False.elim qq
  rcases ws with _ | ⟨⟨kw, vw⟩, wr⟩
  · cases rel
  cases rel with
  | cons a r =>
    cases r
    obtain ⟨e, c, b, e1, e2, q2⟩ := qq
    obtain ⟨a1, a2⟩ := a
    simp only at a1 a2
    subst e1
    obtain rfl : kw = Value.ref b := a1
    obtain ⟨z0, hd, vs0, r0, dd⟩ := dt_of I2.hok e
    rw [KT_nil r0] at dd
    have hcar : CarriesH (tupleKind (mixKind X.prog X.w)) s2.heap [(Value.ref b, vw)] [(c, b, vw)] := ⟨rfl, rfl, key_of I2.hok e2, True.intro⟩
    refine ⟨[(c, b, vw)], hcar, dd, fun h' tk' dd' hs => wpAny_pure ⟨.ref s.heap.objs.size, upd H2 s.heap.objs.size (.dT [(c, z)]), ?_, rfl, q2⟩⟩
    have hst : storedAllH ([] : List (List Key × Addr × Value)) [(c, b, vw)] = [(c, b, vw)] := by simp [storedAllH, storedH, atKey]
    rw [hst] at dd'
    obtain ⟨o3, es, ep3, k1, k2, k3, k4, _, k6⟩ := dd'
    refine d_write I2 (by rw [e]; exact True.intro) hs ⟨o3, k1⟩ ⟨by rw [sizeLine_eq]; simp, hd, [(c, b, vw)], .cons ⟨rfl, ?_, a2⟩ .nil, o3, es, ep3, k1, k2, k3, k4, k6⟩
    rw [upd_ne (ne_of e2 e (fun z => nomatch z))]
    exact e2
end DL

/-! D19: owned things changed. -/
namespace DL
open PySem PySem.Spec PyProof.Rows L2

section
variable {K : PySem.W.Frag} {B : Bd} {T : List Tag} {ρ : Env} {σ : L2.St} {F : AS} {O : OF} {H : Hp}
/-- an object of slot i is written -/
theorem St.mut (S : St K B T ρ σ F O H) {i : Nat} {κ : Kind} (hT : T[i]? = some (.ow κ) ∨ T[i]? = some (.io κ)) {a : Addr} (hO : O a = some i) (ht : ∀ xs, H a ≠ some (.tup xs)) {o : HO} {d : PyData} {v : V} (hσ : σ[i]? = some (some v)) (hr : κ.rel K F (upd H a o) (fun b => O b = some i) d v) :
    St K B T (ρ.set i d) σ F O (upd H a o) ∧ Ext F O H F O (upd H a o) := by
  have ni : i < ρ.length := by rw [S.lenR]; exact (List.getElem?_eq_some_iff.mp hσ).1
  have nF : ¬ F a := fun f => by rw [S.fo a f] at hO; cases hO
  have ne : ∀ b, b ≠ a → upd H a o b = H b := fun b h => upd_ne h
  have kp : Keep F H F (upd H a o) := ⟨fun _ h => h, fun b u f h => by rw [ne b fun z => nF (z ▸ f)]; exact h, fun b xs h => by rw [ne b fun z => ht xs (z ▸ h)]; exact h⟩
  have hBa : ∀ u, B.H a = some u → B.O a = some i ∧ ∃ κ, T[i]? = some (Tag.io κ) := fun u h => by
    rcases S.own a i hO with ⟨_, _, z⟩ | ⟨κ, h1, z⟩
    · rw [h] at z; cases z
    · rcases z with z | z
      · rw [h] at z; cases z
      · exact ⟨z, κ, h1⟩
  refine ⟨⟨fun j τ e => ?_, S.own, S.fo, fun b f => ?_, fun b j e => ?_, fun b u h1 h2 => ?_, fun b h => ?_, fun b xs h => ?_, S.f0, S.f1, S.ios, S.lenT, by rw [List.length_set]; exact S.lenR⟩,
    ⟨fun _ h => h, fun b u h1 h2 => by rw [ne b fun z => by rw [z, hO] at h2; cases h2]; exact h1, fun _ h => .inl h, fun _ h => .inl h, fun b h => ?_, fun b xs h => kp.t b xs h⟩⟩
  · by_cases hij : i = j
    · subst hij
      refine .inr ⟨v, hσ, ?_⟩
      rw [get_set_self ni]
      rcases hT with hT | hT
      · rw [e] at hT; cases hT; exact hr
      · rw [e] at hT; cases hT; exact hr
    · rw [get_set_ne hij]
      exact (S.sl j τ e).imp id fun ⟨w, e1, r1⟩ => ⟨w, e1, r1.keep kp fun b u p h => by rw [ne b fun z => by rw [z, hO] at p; exact hij (Option.some.inj p)]; exact h⟩
  · by_cases z : b = a
    · subst z; exact absurd f nF
    · rw [ne b z]; exact S.fh b f
  · by_cases z : b = a
    · subst z; rw [upd_same]; simp
    · rw [ne b z]; exact S.oh b j e
  · by_cases z : b = a
    · subst z
      rw [(hBa u h1).1] at h2; cases h2
    · rw [ne b z]; exact S.fr b u h1 h2
  · by_cases z : b = a
    · subst z; rw [upd_same]; simp
    · rw [ne b z]; exact S.al b h
  · exact kp.t b xs (S.tu b xs h)
  · by_cases z : b = a
    · subst z; rw [upd_same]; simp
    · rw [ne b z]; exact h
end

/-! ### methods that change a list -/
/-- r: the method's rule; g: what it makes of the list's data and what it tells -/
def OpMu (K : PySem.W.Frag) (r : V → List V → Hp → VK → Prop) (g : PyData → List PyData → Option (PyData × PyData)) : Prop :=
  ∀ (F : AS) (H : Hp) (a : Addr) (xs : List V) (ds es : List PyData) (ys : List V) (d' c : PyData) (Q : VK), H a = some (.lst xs) → RAll K F H ds xs → RAll K F H es ys → g (.list ds) es = some (d', c) →
    (∀ ds' xs' v, d' = .list ds' → RAll K F H ds' xs' → R K F H c v → Q v (upd H a (.lst xs'))) → r (.ref a) ys H Q
def eMut (i : Nat) (g : PyData → List PyData → Option (PyData × PyData)) (fa : M (List PyData)) : M PyData := fa.bind fun ys => fun ρ => match g (get ρ i) ys with
  | some (d, c) => .ok c (ρ.set i d)
  | none => .bad
section
variable {J : Jc} {T T1 T2 : List Tag}
theorem mut_list {B : Bd} {ρ : Env} {σ : L2.St} {F : AS} {O : OF} {H : Hp} (S : St J.X.K B T ρ σ F O H) {i : Nat} (hT : T[i]? = some (.ow OL) ∨ T[i]? = some (.io OL)) {r : V → List V → Hp → VK → Prop} {g : PyData → List PyData → Option (PyData × PyData)} (hg : OpMu J.X.K r g) {es : List PyData} {ys : List V} (ra : RAll J.X.K F H es ys) {O0 : OF} {H0 : Hp} {Q : VK}
    (q : Post J B T σ F O H (CE J B .fz Q O0 H0) (match g (get ρ i) es with | some (d, c) => .ok c (ρ.set i d) | none => .bad)) : ∃ a, σ[i]? = some (some (.ref a)) ∧ (∃ xs, SqL J.X.K H a xs) ∧ r (.ref a) ys H Q := by
  have key : ∃ v, σ[i]? = some (some v) ∧ OL.rel J.X.K F H (fun a => O a = some i) (get ρ i) v := by
    rcases hT with hT | hT <;> (rcases S.sl i _ hT with z | ⟨v, e, r⟩; cases z; exact ⟨v, e, r⟩)
  obtain ⟨v, e, a, xs, ds, hd, rfl, hH, rx, hP⟩ := key
  refine ⟨a, e, ⟨xs, .inl (.inl hH)⟩, ?_⟩
  have hO : O a = some i := (hP a).mpr rfl
  have nF : ¬ F a := fun f => by rw [S.fo a f] at hO; cases hO
  rw [hd] at q
  cases z : g (.list ds) es with
  | none => rw [z] at q; exact q.elim
  | some p =>
    obtain ⟨d', c⟩ := p
    rw [z] at q
    refine hg F H a xs ds es ys d' c Q hH rx ra z fun ds' xs' w hd' rx' rc => ?_
    subst hd'
    have kp : Keep F H F (upd H a (.lst xs')) := ⟨fun _ h => h, fun b u f h => by rw [upd_ne (fun z : b = a => nF (by rw [← z]; exact f))]; exact h, fun b us h => by rw [upd_ne (fun z : b = a => by rw [z, hH] at h; cases h)]; exact h⟩
    obtain ⟨S', E'⟩ := S.mut hT hO (fun us z => by rw [hH] at z; cases z) (o := .lst xs') (d := .list ds') e ⟨a, xs', ds', rfl, rfl, upd_same, RAll.keep kp _ _ rx', hP⟩
    exact ce_fz (q F O _ E' S') (R.keep kp _ _ rc)
theorem se_mut {i : Nat} {x : Str} {p : Pos} {e : Expr} {es : List Expr} {n : Nat} {name : Str} {apos cpos : Pos} {id : String} {r : V → List V → Hp → VK → Prop} {g : PyData → List PyData → Option (PyData × PyData)} {fa : M (List PyData)}
    (hv : PE J.X (.Name x p) (tVar i)) (hT0 : ∃ τ, T[i]? = some τ ∧ τ ≠ .un) (hs : Slot "list" name id) (hty : typeOf (.builtin id) = pure (.type "method_descriptor")) (hm : MtR J.X id r) (hg : OpMu J.X.K r g)
    (ha : SA J (e :: es) (List.replicate n .val) T T1 fa) (hT : T1[i]? = some (.ow OL) ∨ T1[i]? = some (.io OL)) (hT00 : T[i]? = T1[i]?) (hst : isStar e = false) (hst2 : noStar es = true)
    (hb : attributeBase (.Name x p) name J.X.env (eval (.Name x p) J.X.env) = eval (.Name x p) J.X.env) (hl : (apos.endLine == cpos.line) = true)
    (hfew : (((backTo cpos (starEach (e :: es) J.X.env)).all (fun x => !x.1) && (backToKw cpos (keywordEach [] J.X.env)).all fun x => x.1.isSome) && decide (((e :: es).length + ([] : List Keyword).length + if ([] : List Keyword).isEmpty = true then 0 else 1) < 30)) = true) :
    SE J (.Call (.Attribute (.Name x p) name apos) (e :: es) [] cpos) .fz T T1 (eMut i g fa) := by
  obtain ⟨ta, pa, ca⟩ := ha
  refine ⟨_, pe_bm PySem.F.plainAttrs_list hs hty hm hv pa hb hfew hl (starEach_cons hst) (backTo_plain hst2), fun B ρ σ F O H Q S q => ?_⟩
  have key : ∃ a xs, σ[i]? = some (some (.ref a)) ∧ SqL J.X.K H a xs := by
    rw [hT00.symm] at hT
    rcases hT with hT | hT <;> (rcases S.sl i _ hT with z | ⟨v, e, r⟩; cases z; obtain ⟨a, xs, ds, _, rfl, h, _⟩ := r; exact ⟨a, xs, e, .inl (.inl h)⟩)
  obtain ⟨a, xs, e1, hq⟩ := key
  refine ⟨.ref a, e1, .inl ⟨rfl, xs, hq⟩, ?_⟩
  refine ca B ρ σ F O H _ S (Post.bind q fun ds ρ1 F1 O1 H1 _ e2 S1 q1 => fun vs ok => ?_)
  obtain ⟨a', e3, _, h3⟩ := mut_list S1 hT hg ok.all q1
  rw [e1] at e3; cases e3
  exact h3
theorem se_mut0 {i : Nat} {x : Str} {p : Pos} {name : Str} {apos cpos : Pos} {id : String} {r : V → List V → Hp → VK → Prop} {g : PyData → List PyData → Option (PyData × PyData)}
    (hv : PE J.X (.Name x p) (tVar i)) (hs : Slot "list" name id) (hty : typeOf (.builtin id) = pure (.type "method_descriptor")) (hm : MtR J.X id r) (hg : OpMu J.X.K r g)
    (hT : T[i]? = some (.ow OL) ∨ T[i]? = some (.io OL)) (hb : attributeBase (.Name x p) name J.X.env (eval (.Name x p) J.X.env) = eval (.Name x p) J.X.env) (hl : (apos.endLine == cpos.line) = true) :
    SE J (.Call (.Attribute (.Name x p) name apos) [] [] cpos) .fz T T (eMut i g aNil) := by
  refine ⟨_, pe_bm0 PySem.F.plainAttrs_list hs hty hm hv hb hl, fun B ρ σ F O H Q S q => ?_⟩
  obtain ⟨a', e3, ⟨xs, hq⟩, h3⟩ := mut_list (es := []) (ys := []) S hT hg .nil q
  exact ⟨.ref a', e3, .inl ⟨rfl, xs, hq⟩, h3⟩
end
def muAppend : PyData → List PyData → Option (PyData × PyData)
  | .list ds, [d] => if lenOk (ds.length + 1) then some (.list (ds ++ [d]), .none) else none
  | _, _ => none
def muPop : PyData → List PyData → Option (PyData × PyData)
  | .list ds, [] => (ds[ds.length - 1]?).map fun c => (.list ds.dropLast, c)
  | _, _ => none
def muPopAt : PyData → List PyData → Option (PyData × PyData)
  | .list ds, [.int i] => if decide (-9223372036854775808 ≤ i) && decide (i < 9223372036854775808) then (seqIndex? i ds.length).bind fun k => (ds[k]?).map fun c => (.list (ds.eraseIdx k), c) else none
  | _, _ => none
def muInsert : PyData → List PyData → Option (PyData × PyData)
  | .list ds, [.int i, d] => if lenOk (ds.length + 1) && decide (0 ≤ i) && decide (i < 9223372036854775808) then some (.list (ds.take i.toNat ++ [d] ++ ds.drop i.toNat), .none) else none
  | _, _ => none
section
variable {K : PySem.W.Frag}
theorem mu_append : OpMu K rAppend muAppend := by
  intro F H a xs ds es ys d' c Q hH rx re h q
  match es, re, h with
  | [], _, h => simp [muAppend] at h
  | _ :: _ :: _, _, h => simp [muAppend] at h
  | [d], .cons r1 .nil, h =>
    simp only [muAppend, Option.ite_none_right_eq_some, Option.some.injEq, Prod.mk.injEq] at h
    obtain ⟨z, rfl, rfl⟩ := h
    have := lenOk_line z
    exact ⟨a, xs, _, rfl, rfl, hH, by rw [← rx.length]; omega, q _ _ _ rfl (rx.append (.cons r1 .nil)) .non⟩
theorem mu_pop : OpMu K rPop muPop := by
  intro F H a xs ds es ys d' c Q hH rx re h q
  match es, re, h with
  | _ :: _, _, h => simp [muPop] at h
  | [], .nil, h =>
    simp only [muPop, Option.map_eq_some_iff, Prod.mk.injEq] at h
    obtain ⟨c', h1, rfl, rfl⟩ := h
    obtain ⟨v, h2, h3⟩ := rx.get h1
    exact ⟨a, xs, v, rfl, rfl, hH, by rw [← rx.length]; exact h2, q _ _ _ rfl rx.dropLast h3⟩
theorem mu_popAt : OpMu K rPopAt muPopAt := by
  intro F H a xs ds es ys d' c Q hH rx re h q
  match es, re, h with
  | [], _, h => simp [muPopAt] at h
  | _ :: _ :: _, _, h => simp [muPopAt] at h
  | [.int i], .cons r1 .nil, h =>
    simp only [muPopAt, Bool.and_eq_true, decide_eq_true_eq, Option.ite_none_right_eq_some, Option.bind_eq_some_iff, Option.map_eq_some_iff, Prod.mk.injEq] at h
    obtain ⟨⟨z1, z2⟩, k, h1, c', h2, rfl, rfl⟩ := h
    obtain ⟨v, h3, h4⟩ := rx.get h2
    exact ⟨a, xs, i, k, v, rfl, by rw [r1.intS], hH, z1, z2, by rw [← rx.length]; exact h1, h3, q _ _ _ rfl (rx.eraseIdx k) h4⟩
theorem mu_insert : OpMu K (fun x vs H Q => ∃ (l : Addr) (xs : List V) (i : Int) (y : V), x = .ref l ∧ vs = [.int i, y] ∧ H l = some (.lst xs) ∧ xs.length < sizeLine ∧ 0 ≤ i ∧ i < 2 ^ 63 ∧
    Q .non (upd H l (.lst (xs.take i.toNat ++ [y] ++ xs.drop i.toNat)))) muInsert := by
  intro F H a xs ds es ys d' c Q hH rx re h q
  match es, re, h with
  | [], _, h => simp [muInsert] at h
  | [_], _, h => simp [muInsert] at h
  | _ :: _ :: _ :: _, _, h => simp [muInsert] at h
  | [.int i, d], .cons r1 (.cons r2 .nil), h =>
    simp only [muInsert, Bool.and_eq_true, decide_eq_true_eq, Option.ite_none_right_eq_some, Option.some.injEq, Prod.mk.injEq] at h
    obtain ⟨⟨⟨z1, z2⟩, z3⟩, rfl, rfl⟩ := h
    have := lenOk_line z1
    exact ⟨a, xs, i, _, rfl, by rw [r1.intS], hH, by rw [← rx.length]; omega, z2, z3, q _ _ _ rfl (((rx.take _).append (.cons r2 .nil)).append (rx.drop _)) .non⟩
end
end DL

/-! D20: x[i] = e, a, b = e1, e2, y = [..]. -/
namespace DL
open PySem PySem.Spec PyProof.Rows L2

/-! ### x[i] = e -/
def rSetDc : TSet := fun o i v H Q => ∃ p H', o = .ref p ∧ DPE H p i v H' ∧ Q H'
def rSetA : TSet := fun o i v H Q => rSetL o i v H Q ∨ rSetDc o i v H Q
theorem set_dictE {X : Cx} (hu : X.A.units + 1 < cLine) : PSet X rSetDc := by
  intro pins s σ H o i v ov iv u Q I ro ri rv h
  obtain ⟨p, H', rfl, g, q⟩ := h
  cases ro
  exact d_setE hu I g ri rv fun s' I' => ⟨H', I', q⟩
theorem set_A {X : Cx} (hu : X.A.units + 1 < cLine) : PSet X rSetA := fun pins s σ H o i v ov iv u Q I ro ri rv h => h.elim (set_list pins s σ H o i v ov iv u Q I ro ri rv) (set_dictE hu pins s σ H o i v ov iv u Q I ro ri rv)
def setD : PyData → PyData → PyData → Option PyData
  | .list ds, .int k, v => (ixN ds.length k).map fun j => .list (ds.set j v)
  | .dict kvs, k, v => if keyFor kvs k && lenOk (kvs.length + 1) then some (.dict (dPut kvs k v)) else none
  | _, _, _ => none
def sPut (i : Nat) (fe fi : M PyData) : M Fl := fe.bind fun v => fi.bind fun k => fun ρ => match setD (get ρ i) k v with
  | some d => .ok .nx (ρ.set i d)
  | none => .bad
/-- a list, a dict, that is owned -/
def Kind.flat (κ : Kind) : Prop := κ = OL ∨ κ = OD
section
variable {K : PySem.W.Frag} {F : AS} {H : Hp}
theorem DRK.of {kvs : List (PyData × PyData)} {hs : List (Key × V)} (h1 : kvs.map (·.1) = hs.map (fun p => keyD p.1)) (h2 : RAll K F H (kvs.map (·.2)) (hs.map (·.2))) : DRK K F H kvs hs := ⟨h1, h2⟩
theorem DRT.of {kvs : List (PyData × PyData)} {hs : List (List Key × V)} (h1 : kvs.map (·.1) = hs.map (fun p => .tuple (p.1.map keyD))) (h2 : RAll K F H (kvs.map (·.2)) (hs.map (·.2))) : DRT K F H kvs hs := ⟨h1, h2⟩
end
section
variable {J : Jc} {T T1 T2 T3 : List Tag}
theorem put_core {B : Bd} {ρ : Env} {σ : L2.St} {F : AS} {O : OF} {H : Hp} (S : St J.X.K B T ρ σ F O H) {i : Nat} {κ : Kind} (hκ : κ.flat) (hT : T[i]? = some (.ow κ) ∨ T[i]? = some (.io κ)) {kd vd : PyData} {y v : V} (rk : RS J.X.K F H kd y) (rv : R J.X.K F H vd v) {D : Ends}
    {d' : PyData} (hd : setD (get ρ i) kd vd = some d') (q : PostS J B T F H D (.ok .nx (ρ.set i d'))) : ∃ x, σ[i]? = some (some x) ∧ rSetA x y v H fun H4 => D.nx σ H4 := by
  have key : ∃ v, σ[i]? = some (some v) ∧ κ.rel J.X.K F H (fun a => O a = some i) (get ρ i) v := by
    rcases hT with hT | hT <;> (rcases S.sl i _ hT with z | ⟨v, e, r⟩; cases z; exact ⟨v, e, r⟩)
  obtain ⟨x, e, hr⟩ := key
  refine ⟨x, e, ?_⟩
  rcases hκ with rfl | rfl
  · obtain ⟨a, xs, ds, h1, rfl, hH, rx, hP⟩ := hr
    have hO : O a = some i := (hP a).mpr rfl
    have nF : ¬ F a := fun f => by rw [S.fo a f] at hO; cases hO
    rw [h1] at hd
    cases kd <;> simp only [setD, reduceCtorEq, Option.map_eq_some_iff] at hd
    obtain ⟨j, hj, rfl⟩ := hd
    have kp : ∀ xs', Keep F H F (upd H a (.lst xs')) := fun xs' => ⟨fun _ h => h, fun b u f h => by rw [upd_ne (fun z : b = a => nF (by rw [← z]; exact f))]; exact h, fun b us h => by rw [upd_ne (fun z : b = a => by rw [z, hH] at h; cases h)]; exact h⟩
    refine .inl ⟨a, xs, _, j, rfl, rk.intS, hH, by rw [← rx.length]; exact hj, ?_⟩
    obtain ⟨S', E'⟩ := S.mut hT hO (fun us z => by rw [hH] at z; cases z) (o := .lst (xs.set j v)) (d := .list (ds.set j vd)) e ⟨a, _, _, rfl, rfl, upd_same, RAll.keep (kp _) _ _ (RAll.set rv j rx), hP⟩
    exact q σ F O _ (E'.keep S.fo) S'
  · obtain ⟨a, kvs, h1, rfl, hP, hH⟩ := hr
    have hO : O a = some i := (hP a).mpr rfl
    have nF : ¬ F a := fun f => by rw [S.fo a f] at hO; cases hO
    rw [h1] at hd
    simp only [setD, Option.ite_none_right_eq_some, Bool.and_eq_true, Option.some.injEq] at hd
    obtain ⟨⟨hk, hl⟩, rfl⟩ := hd
    have hl := lenOk_line hl
    have ry := rk.key hk
    have nt : ∀ us, H a ≠ some (.tup us) := fun us z => by
      rcases hH with ⟨hs, h, _⟩ | ⟨hs, h, _⟩ <;> (rw [z] at h; cases h)
    have kp : ∀ o, Keep F H F (upd H a o) := fun o => ⟨fun _ h => h, fun b u f h => by rw [upd_ne (fun z : b = a => nF (by rw [← z]; exact f))]; exact h, fun b us h => by rw [upd_ne (fun z : b = a => nt us (by rw [← z]; exact h))]; exact h⟩
    have finK : ∀ hs' : List (Key × V), DRK J.X.K F H (dPut kvs kd vd) hs' → D.nx σ (upd H a (.dK hs')) := fun hs' h => by
      have h' := h.keep (kp (.dK hs'))
      obtain ⟨S', E'⟩ := S.mut hT hO nt (o := .dK hs') (d := .dict (dPut kvs kd vd)) e ⟨a, _, rfl, rfl, hP, .inl ⟨hs', upd_same, h'.ks, h'.vs⟩⟩
      exact q σ F O _ (E'.keep S.fo) S'
    have finT : ∀ hs' : List (List Key × V), DRT J.X.K F H (dPut kvs kd vd) hs' → D.nx σ (upd H a (.dT hs')) := fun hs' h => by
      have h' := h.keep (kp (.dT hs'))
      obtain ⟨S', E'⟩ := S.mut hT hO nt (o := .dT hs') (d := .dict (dPut kvs kd vd)) e ⟨a, _, rfl, rfl, hP, .inr ⟨hs', upd_same, h'.ks, h'.vs⟩⟩
      exact q σ F O _ (E'.keep S.fo) S'
    simp only [keyFor, Bool.or_eq_true, Bool.and_eq_true] at hk
    refine .inr ⟨a, ?_⟩
    rcases hk with ⟨k1, k2⟩ | ⟨k1, k2⟩
    · obtain ⟨c, rfl⟩ := isKeyK_some k1
      have ey := R.keyKS ry
      rcases hH with ⟨hs, h2, h3, h4⟩ | ⟨hs, h2, h3, h4⟩
      · have dr := DRK.of h3 h4
        exact ⟨_, rfl, .inl (.inl ⟨hs, c, h2, ey, by rw [← dr.len]; omega, rfl⟩), finK _ (dr.put keq_keyD rv)⟩
      · have dr := DRT.of h3 h4
        obtain ⟨rfl, rfl⟩ := dr.key0 k2 isKeyK_keyT
        exact ⟨_, rfl, .inr (.inl ⟨h2, c, ey, rfl⟩), finK _ (DR.snoc .nil rv)⟩
    · obtain ⟨c, rfl⟩ := isKeyT_some k1
      obtain ⟨b, ey, eb⟩ := R.keyTS ry
      rcases hH with ⟨hs, h2, h3, h4⟩ | ⟨hs, h2, h3, h4⟩
      · have dr := DRK.of h3 h4
        obtain ⟨rfl, rfl⟩ := dr.key0 k2 isKeyT_keyD
        exact ⟨_, rfl, .inr (.inr ⟨h2, c, b, ey, eb, rfl⟩), finT _ (DR.snoc .nil rv)⟩
      · have dr := DRT.of h3 h4
        exact ⟨_, rfl, .inl (.inr ⟨hs, c, b, h2, ey, eb, by rw [← dr.len]; omega, rfl⟩), finT _ (dr.put keq_keyT rv)⟩
theorem ss_put {g : GC} {N : List Str} {sc : Scope} {fc : Str → Bool} {k : Nat} (hX : XOk g J.X N sc fc k) {i : Nat} {κ : Kind} (hκ : κ.flat) {x : Str} {p p2 pos : Pos} {e ie : Expr} {fe fi : M PyData} (hv : PE J.X (.Name x p) (tVar i)) (he : SE J e .fz T T1 fe) (hi : SE J ie .fz T1 T2 fi)
    (h1 : T1[i]? = some (.ow κ) ∨ T1[i]? = some (.io κ)) (h12 : T1[i]? = T2[i]?)
    (ha : ∀ v, assign (.Subscript (.Name x p) ie p2) J.X.env v = (do
      let ov ← holding [v] (eval (.Name x p) J.X.env)
      let iv ← holding [v, ov] (eval ie J.X.env)
      standAt p2
      holding [v, ov, iv] (setItem ov iv v)
      release [v, ov, iv] []))
    (hs1 : swapsWithSole [.Subscript (.Name x p) ie p2] e pos.line J.X.env = pure false) (hs2 : swappedStores [.Subscript (.Name x p) ie p2] e J.X.env = pure none) (hs3 : (assignEach [.Subscript (.Name x p) ie p2] J.X.env).map (·.2) = [assign (.Subscript (.Name x p) ie p2) J.X.env]) :
    SS J (.Assign [.Subscript (.Name x p) ie p2] e pos) T T2 (sPut i fe fi) := by
  obtain ⟨te, pe, ce⟩ := he
  obtain ⟨ti, pi, ci⟩ := hi
  refine ⟨_, ps_asg pe (pg_sub hv pi (set_A hX.u1) ha) hs1 hs2 hs3, fun B ρ σ F O H D S q => ?_⟩
  refine ce B ρ σ F O H _ S (PostS.bind S q fun d ρ1 F1 O1 H1 e1 S1 q1 => fun v P vr l _ => ?_)
  have hx : ∃ x, σ[i]? = some (some x) := by
    rcases h1 with h | h <;> (rcases S1.sl i _ h with z | ⟨v, e, r⟩; cases z; exact ⟨v, e⟩)
  obtain ⟨xv, e0⟩ := hx
  refine ⟨xv, e0, ?_⟩
  refine ci B ρ1 σ F1 O1 H1 _ S1 (PostS.bind S1 q1 fun d2 ρ2 F2 O2 H2 e2 S2 q2 => fun w P2 vr2 l2 _ => ?_)
  have rv := R.keep (e2.keep S1.fo) d v vr.1
  cases z : setD (get ρ2 i) d2 d with
  | none =>
    have q2 : PostS J B T2 F2 H2 D (match setD (get ρ2 i) d2 d with | some d => .ok .nx (ρ2.set i d) | none => .bad) := q2
    rw [z] at q2; exact q2.elim
  | some d' =>
    have q2 : PostS J B T2 F2 H2 D (match setD (get ρ2 i) d2 d with | some d => .ok .nx (ρ2.set i d) | none => .bad) := q2
    rw [z] at q2
    rw [h12] at h1
    obtain ⟨x', e3, h3⟩ := put_core S2 hκ h1 vr2.1.rs rv z q2
    rw [e0] at e3; cases e3
    exact h3
end
end DL

/-! D21: assignments of more than one. -/
namespace DL
open PySem PySem.Spec PyProof.Rows L2

def sAsg (f : M PyData) (h : MG) : M Fl := f.bind fun d => fun ρ => match h d ρ with
  | some ρ' => .ok .nx ρ'
  | none => .bad
def sPar2 (i j : Nat) (fa fb : M PyData) : M Fl := fa.bind fun d => fb.bind fun e => fun ρ => .ok .nx ((ρ.set i d).set j e)
def sPar3 (i j l : Nat) (fa fb fc : M PyData) : M Fl := fa.bind fun d => fb.bind fun e => fc.bind fun c => fun ρ => .ok .nx (((ρ.set i d).set j e).set l c)
section
variable {K : PySem.W.Frag} {B : Bd} {T : List Tag} {ρ : Env} {σ : L2.St} {F : AS} {O : OF} {H : Hp}
/-- what is loose for two stays so for the second where the first is stored -/
theorem Loose.stored {P1 P2 : AS} {i : Nat} (l2 : Loose B F O H P2) (hd : ∀ a, P2 a → ¬ P1 a) : Loose B F (ownS O P1 i) H P2 := fun a p => by
  obtain ⟨h1, h2, h3, h4⟩ := l2 a p
  refine ⟨h1, ?_, h3, h4⟩
  unfold ownS
  simp [hd a p, h2]
end
section
variable {J : Jc} {T T1 T2 T3 T4 : List Tag}
theorem ss_asg {e tg : Expr} {f : M PyData} {h : MG} {ts : List Nat} {pos : Pos} (he : SE J e .fz T T1 f) (hg : SG J tg ts T1 T2 h)
    (h1 : swapsWithSole [tg] e pos.line J.X.env = pure false) (h2 : swappedStores [tg] e J.X.env = pure none) (h3 : (assignEach [tg] J.X.env).map (·.2) = [assign tg J.X.env]) : SS J (.Assign [tg] e pos) T T2 (sAsg f h) := by
  obtain ⟨te, pe, ce⟩ := he
  obtain ⟨tg', pg, cg⟩ := hg
  refine ⟨_, ps_asg pe pg h1 h2 h3, fun B ρ σ F O H D S q => ?_⟩
  refine ce B ρ σ F O H _ S (PostS.bind S q fun d ρ1 F1 O1 H1 e1 S1 q1 => fun v P vr l _ => ?_)
  refine cg B d v ρ1 σ F1 O1 H1 _ S1 vr.1 ?_
  have q1 : PostS J B T2 F1 H1 D (match h d ρ1 with | some ρ' => .ok .nx ρ' | none => .bad) := q1
  cases z : h d ρ1 with
  | none => rw [z] at q1; exact q1.elim
  | some ρ' =>
    rw [z] at q1
    exact fun σ' O' S' _ _ => q1 σ' F1 O' H1 (.refl F1 H1) S'
/-- the stores of two, of three -/
theorem store2 {B : Bd} {ρ : Env} {σ : L2.St} {F : AS} {O : OF} {H : Hp} (S : St J.X.K B T ρ σ F O H) {i j : Nat} {τ1 τ2 τi τj : Tag} (hij : i ≠ j) (hi : T[i]? = some τi) (hj : T[j]? = some τj) (hi0 : τi.isIo = false) (hj0 : τj.isIo = false) (h1 : τ1.isIo = false) (h2 : τ2.isIo = false)
    {d1 d2 : PyData} {v1 v2 : V} {P1 P2 : AS} (r1 : VR J.X.K F H P1 d1 v1 τ1) (r2 : VR J.X.K F H P2 d2 v2 τ2) (l1 : Loose B F O H P1) (l2 : Loose B F O H P2) (hd : ∀ a, P2 a → ¬ P1 a) :
    St J.X.K B ((T.set i τ1).set j τ2) ((ρ.set i d1).set j d2) ((σ.set i (some v1)).set j (some v2)) F (ownS (ownS O P1 i) P2 j) H :=
  (S.store hi hi0 h1 r1 l1).store (by rw [List.getElem?_set_ne hij]; exact hj) hj0 h2 r2 (l2.stored hd)
theorem disj_of {B : Bd} {F1 : AS} {O1 : OF} {H1 : Hp} {P1 P2 : AS} (l1 : Loose B F1 O1 H1 P1) (h : ∀ a, P2 a → O1 a ≠ none ∨ H1 a = none) : ∀ a, P2 a → ¬ P1 a := fun a p2 p1 => by
  obtain ⟨_, h2, h3, _⟩ := l1 a p1
  rcases h a p2 with z | z
  · exact z h2
  · exact h3 z
theorem ss_par2 {g : GC} {N : List Str} {sc : Scope} {fc : Str → Bool} {k : Nat} {t : Tab} (hX : XOk g J.X N sc fc k) (ht : t.ok N sc fc = true) (i j : Nat) {x y : Str} {a b : Expr} {fa fb : M PyData} {τ1 τ2 τi τj : Tag} {px py pt pos pt2 : Pos} {kt k2 : Nat}
    (hi : t.pl.contains i = true) (hNi : N[i]? = some x) (hj : t.pl.contains j = true) (hNj : N[j]? = some y) (hij : i ≠ j) (ha : SE J a τ1 T T1 fa) (hb : SE J b τ2 T1 T2 fb) (hTi : T2[i]? = some τi) (hTj : T2[j]? = some τj)
    (hi0 : τi.isIo = false) (hj0 : τj.isIo = false) (h1 : τ1.isIo = false) (h2 : τ2.isIo = false) (e2 : (T2.set i τ1).set j τ2 = T3) (hsa : isStar a = false) (hsb : isStar b = false)
    (hsw : swappedStores [.Tuple [.Name x px, .Name y py] kt pt] (.Tuple [a, b] k2 pt2) J.X.env = pure (some [x, y])) (hs1 : swapsWithSole [.Tuple [.Name x px, .Name y py] kt pt] (.Tuple [a, b] k2 pt2) pos.line J.X.env = pure false) :
    SS J (.Assign [.Tuple [.Name x px, .Name y py] kt pt] (.Tuple [a, b] k2 pt2) pos) T T3 (sPar2 i j fa fb) := by
  subst e2
  obtain ⟨ta, pa, ca⟩ := ha
  obtain ⟨tb, pb, cb⟩ := hb
  refine ⟨_, ps_par hX.c (by rw [hX.n]; exact hX.nd) (by rw [hX.n]; exact hNi) (by rw [hX.n]; exact hNj) hij (by rw [hX.s]; exact Tab.pl_at ht hi hNi) (by rw [hX.s]; exact Tab.pl_at ht hj hNj) (pa_cons pa (pa_cons pb pa_nil (starEach_cons hsb)) (starEach_cons hsa)) hsw hs1, fun B ρ σ F O H D S q => ?_⟩
  refine ca B ρ σ F O H _ S (PostS.bind S q fun d1 ρ1 F1 O1 H1 e1 S1 q1 => fun v1 P1 r1 l1 _ => ?_)
  refine cb B ρ1 σ F1 O1 H1 _ S1 (PostS.bind S1 q1 fun d2 ρ2 F2 O2 H2 e2 S2 q2 => fun v2 P2 r2 l2 n2 => ?_)
  refine ⟨v1, v2, rfl, ?_⟩
  exact q2 _ F2 _ H2 (.refl F2 H2) (store2 S2 hij hTi hTj hi0 hj0 h1 h2 (r1.keep (e2.keep S1.fo) (l1.same e2)) r2 (l1.ext e2) l2 (disj_of l1 n2))
theorem ss_par3 {g : GC} {N : List Str} {sc : Scope} {fc : Str → Bool} {k : Nat} {t : Tab} (hX : XOk g J.X N sc fc k) (ht : t.ok N sc fc = true) (i j l : Nat) {x y z : Str} {a b c : Expr} {fa fb fcc : M PyData} {τ1 τ2 τ3 τi τj τl : Tag} {px py pz pt pos pt2 : Pos} {kt k2 : Nat}
    (hi : t.pl.contains i = true) (hNi : N[i]? = some x) (hj : t.pl.contains j = true) (hNj : N[j]? = some y) (hl : t.pl.contains l = true) (hNl : N[l]? = some z) (hij : i ≠ j) (hil : i ≠ l) (hjl : j ≠ l) (ha : SE J a τ1 T T1 fa) (hb : SE J b τ2 T1 T2 fb) (hc : SE J c τ3 T2 T3 fcc)
    (hTi : T3[i]? = some τi) (hTj : T3[j]? = some τj) (hTl : T3[l]? = some τl) (hi0 : τi.isIo = false) (hj0 : τj.isIo = false) (hl0 : τl.isIo = false) (h1 : τ1.isIo = false) (h2 : τ2.isIo = false) (h3 : τ3.isIo = false) (e4 : ((T3.set i τ1).set j τ2).set l τ3 = T4) (hsa : isStar a = false) (hsb : isStar b = false) (hsc : isStar c = false)
    (hsw : swappedStores [.Tuple [.Name x px, .Name y py, .Name z pz] kt pt] (.Tuple [a, b, c] k2 pt2) J.X.env = pure (some [x, y, z])) (hs1 : swapsWithSole [.Tuple [.Name x px, .Name y py, .Name z pz] kt pt] (.Tuple [a, b, c] k2 pt2) pos.line J.X.env = pure false) :
    SS J (.Assign [.Tuple [.Name x px, .Name y py, .Name z pz] kt pt] (.Tuple [a, b, c] k2 pt2) pos) T T4 (sPar3 i j l fa fb fcc) := by
  subst e4
  obtain ⟨ta, pa, ca⟩ := ha
  obtain ⟨tb, pb, cb⟩ := hb
  obtain ⟨tc, pc, cc⟩ := hc
  refine ⟨_, ps_par3 hX.c (by rw [hX.n]; exact hX.nd) (by rw [hX.n]; exact hNi) (by rw [hX.n]; exact hNj) (by rw [hX.n]; exact hNl) hij hil hjl (by rw [hX.s]; exact Tab.pl_at ht hi hNi) (by rw [hX.s]; exact Tab.pl_at ht hj hNj) (by rw [hX.s]; exact Tab.pl_at ht hl hNl)
    (pa_cons pa (pa_cons pb (pa_cons pc pa_nil (starEach_cons hsc)) (starEach_cons hsb)) (starEach_cons hsa)) hsw hs1, fun B ρ σ F O H D S q => ?_⟩
  refine ca B ρ σ F O H _ S (PostS.bind S q fun d1 ρ1 F1 O1 H1 e1 S1 q1 => fun v1 P1 r1 l1 _ => ?_)
  refine cb B ρ1 σ F1 O1 H1 _ S1 (PostS.bind S1 q1 fun d2 ρ2 F2 O2 H2 e2 S2 q2 => fun v2 P2 r2 l2 n2 => ?_)
  refine cc B ρ2 σ F2 O2 H2 _ S2 (PostS.bind S2 q2 fun d3 ρ3 F3 O3 H3 e3 S3 q3 => fun v3 P3 r3 l3 n3 => ?_)
  refine ⟨v1, v2, v3, rfl, ?_⟩
  have l1' := l1.ext e2
  have r1' := (r1.keep (e2.keep S1.fo) (l1.same e2)).keep (e3.keep S2.fo) (l1'.same e3)
  have r2' := r2.keep (e3.keep S2.fo) (l2.same e3)
  have l1'' := l1'.ext e3
  have l2'' := l2.ext e3
  have d12 := disj_of l1 n2
  have d13 := disj_of l1' n3
  have d23 := disj_of l2 n3
  have S4 := store2 S3 hij hTi hTj hi0 hj0 h1 h2 r1' r2' l1'' l2'' d12
  refine q3 _ F3 _ H3 (.refl F3 H3) (S4.store (by rw [List.getElem?_set_ne hjl, List.getElem?_set_ne hil]; exact hTl) hl0 h3 r3 ((l3.stored d13).stored d23))
end
end DL

/-! D22: y = [..]; a, b = e1, e2 where a name is a cell. -/
namespace DL
open PySem PySem.Spec PyProof.Rows L2

section
variable {J : Jc} {T T1 T2 T3 T4 : List Tag}
theorem ss_setLc {g : GC} {N : List Str} {sc : Scope} {fc : Str → Bool} {k : Nat} {t : Tab} (hX : XOk g J.X N sc fc k) (htb : t.ok N sc fc = true) (n : Nat) {y : Str} {py spos pos : Pos} {elt tg iter : Expr} {ifs : List Expr} {scope : Scope} (own : List (Str × Nat)) {f : M (List PyData)} {h : MG} {b : M Bool} {fe : M PyData} {ts : List Nat} {τ0 : Tag}
    (hn : t.pl.contains n = true) (hN : N[n]? = some y)
    (hi : SI J tg iter T T1 f) (ok : blkC N sc scope own = true) (hT : ∀ i ∈ own.map (·.2), ∃ τ, T1[i]? = some τ ∧ unOrFz τ = true) (e2 : (own.map (·.2)).foldr (fun i t => t.set i .un) T1 = T2)
    (hg : ∀ Y : Cx, XOk g Y N (relS scope sc) (fun x => scope.names.lookup x == some .cell) k → SG (JB J Y) tg ts T2 T3 h)
    (ht : ∀ Y : Cx, XOk g Y N (relS scope sc) (fun x => scope.names.lookup x == some .cell) k → STs (JB J Y) ifs T3 T3 b)
    (he : ∀ Y : Cx, XOk g Y N (relS scope sc) (fun x => scope.names.lookup x == some .cell) k → SE (JB J Y) elt .fz T3 T3 fe)
    (hts : ∀ i ∈ ts, i ∈ own.map (·.2)) (e3 : (own.map (·.2)).foldr (fun i t => t.set i .un) T3 = T2) (hT3 : ∀ i ∈ own.map (·.2), ∃ τ, T3[i]? = some τ ∧ unOrFz τ = true)
    (h0 : T1[n]? = some τ0) (h1 : τ0.isIo = false) (e4 : T1.set n (.ow OL) = T4)
    (hs : ∀ x, foldedSetIterable iter J.X.env x = pure x) (hsw : swapsWith (.ListComp elt [⟨tg, iter, ifs, 0⟩] scope pos) (some (.Name y py)) spos.line J.X.env = pure true) :
    SS J (.Assign [.Name y py] (.ListComp elt [⟨tg, iter, ifs, 0⟩] scope pos) spos) T T4 (sSet n (eLc f (own.map (·.2)) h b fe)) := by
  subst e4
  obtain ⟨wi, gg, tt, te, pi, okB, pg, pt, pe, core⟩ := lc_core hX (elt := elt) own hi ok hT e2 hg ht he hts e3 hT3
  refine ⟨_, ps_setLc (g := gg) (tt := tt) (te := te) hX.c (by rw [hX.n]; exact hX.nd) (by rw [hX.n]; exact hN) (by rw [hX.s]; exact Tab.pl_at htb hn hN) hsw pi okB pg pt pe hs, fun B ρ σ F O H D S q => ?_⟩
  refine core B ρ σ F O H _ S (PostS.bind S q fun d ρ1 F1 O1 H1 e1 S1 q1 => fun v P vr l _ => ?_)
  exact q1 _ F1 _ H1 (.refl F1 H1) (S1.store h0 h1 rfl vr l)
/-- the frozen one -/
theorem St.refreeze {K : PySem.W.Frag} {B : Bd} {T : List Tag} {ρ : Env} {σ : L2.St} {F : AS} {O : OF} {H : Hp} (S : St K B T ρ σ F O H) : St K B T ρ σ F O H := S
theorem ss_tup2 {g : GC} {N : List Str} {sc : Scope} {fc : Str → Bool} {k : Nat} {t : Tab} (hX : XOk g J.X N sc fc k) (ht : t.ok N sc fc = true) (i j : Nat) {x y : Str} {a b : Expr} {fa fb : M PyData} {τ1 τ2 τi τj : Tag} {px py pt pos pt2 : Pos} {kt k2 : Nat}
    (hi : t.st.contains i = true) (hNi : N[i]? = some x) (hj : t.st.contains j = true) (hNj : N[j]? = some y) (hij : i ≠ j) (ha : SE J a τ1 T T1 fa) (hb : SE J b τ2 T1 T2 fb) (hTi : T2[i]? = some τi) (hTj : T2[j]? = some τj)
    (hi0 : τi.isIo = false) (hj0 : τj.isIo = false) (h1 : τ1.isIo = false) (h2 : τ2.isIo = false) (e2 : (T2.set i τ1).set j τ2 = T3) (hsa : isStar a = false) (hsb : isStar b = false)
    (hs1 : swapsWithSole [.Tuple [.Name x px, .Name y py] kt pt] (.Tuple [a, b] k2 pt2) pos.line J.X.env = pure false) (hsw : swappedStores [.Tuple [.Name x px, .Name y py] kt pt] (.Tuple [a, b] k2 pt2) J.X.env = pure none)
    (hs3 : (assignEach [.Tuple [.Name x px, .Name y py] kt pt] J.X.env).map (·.2) = [assign (.Tuple [.Name x px, .Name y py] kt pt) J.X.env]) (hl : (assignEach [.Name x px, .Name y py] J.X.env).length = 2) (hst : (assignEach [.Name x px, .Name y py] J.X.env).findIdx? (·.1) = none)
    (hg1 : (assignEach [.Name x px, .Name y py] J.X.env).map (·.2) = assign (.Name x px) J.X.env :: (assignEach [.Name y py] J.X.env).map (·.2)) (hg2 : (assignEach [.Name y py] J.X.env).map (·.2) = assign (.Name y py) J.X.env :: (assignEach [] J.X.env).map (·.2)) :
    SS J (.Assign [.Tuple [.Name x px, .Name y py] kt pt] (.Tuple [a, b] k2 pt2) pos) T T3 (sPar2 i j fa fb) := by
  subst e2
  obtain ⟨ta, pa, ca⟩ := ha
  obtain ⟨tb, pb, cb⟩ := hb
  refine ⟨_, ps_asg (pe_tup (pa_cons pa (pa_cons pb pa_nil (starEach_cons hsb)) (starEach_cons hsa))) (pg_tup hX.c (pgs_cons (hX.pg ht i hi hNi) (pgs_cons (hX.pg ht j hj hNj) pgs_nil hg2) hg1) hl hst) hs1 hsw hs3, fun B ρ σ F O H D S q => ?_⟩
  refine ca B ρ σ F O H _ S (PostS.bind S q fun d1 ρ1 F1 O1 H1 e1 S1 q1 => fun v1 P1 r1 l1 _ => ?_)
  refine cb B ρ1 σ F1 O1 H1 _ S1 (PostS.bind S1 q1 fun d2 ρ2 F2 O2 H2 e2 S2 q2 => fun v2 P2 r2 l2 n2 => ?_)
  refine ⟨by rw [sizeLine_eq]; show 2 ≤ 16777216; decide, fun p hp => ⟨p, [v1, v2], rfl, .of upd_same, rfl, v1, [v2], rfl, v2, [], rfl, rfl, ?_⟩⟩
  have g := Grow.newL (F := F2) (o := .tup [v1, v2]) hp
  have S3 := S2.grow g
  have l1' := (l1.ext e2)
  have r1' := r1.keep (e2.keep S1.fo) (l1.same e2)
  exact q2 _ F2 _ _ g.keep (store2 S3 hij hTi hTj hi0 hj0 h1 h2 (r1'.keep g.keep fun a o _ h => g.h a o h) (r2.keep g.keep fun a o _ h => g.h a o h) (l1'.ext (S2.ext g)) (l2.ext (S2.ext g)) (disj_of l1 n2))
theorem ss_tup3 {g : GC} {N : List Str} {sc : Scope} {fc : Str → Bool} {k : Nat} {t : Tab} (hX : XOk g J.X N sc fc k) (ht : t.ok N sc fc = true) (i j l : Nat) {x y z : Str} {a b c : Expr} {fa fb fcc : M PyData} {τ1 τ2 τ3 τi τj τl : Tag} {px py pz pt pos pt2 : Pos} {kt k2 : Nat}
    (hi : t.st.contains i = true) (hNi : N[i]? = some x) (hj : t.st.contains j = true) (hNj : N[j]? = some y) (hl' : t.st.contains l = true) (hNl : N[l]? = some z) (hij : i ≠ j) (hil : i ≠ l) (hjl : j ≠ l) (ha : SE J a τ1 T T1 fa) (hb : SE J b τ2 T1 T2 fb) (hc : SE J c τ3 T2 T3 fcc)
    (hTi : T3[i]? = some τi) (hTj : T3[j]? = some τj) (hTl : T3[l]? = some τl) (hi0 : τi.isIo = false) (hj0 : τj.isIo = false) (hl0 : τl.isIo = false) (h1 : τ1.isIo = false) (h2 : τ2.isIo = false) (h3 : τ3.isIo = false) (e4 : ((T3.set i τ1).set j τ2).set l τ3 = T4) (hsa : isStar a = false) (hsb : isStar b = false) (hsc : isStar c = false)
    (hs1 : swapsWithSole [.Tuple [.Name x px, .Name y py, .Name z pz] kt pt] (.Tuple [a, b, c] k2 pt2) pos.line J.X.env = pure false) (hsw : swappedStores [.Tuple [.Name x px, .Name y py, .Name z pz] kt pt] (.Tuple [a, b, c] k2 pt2) J.X.env = pure none)
    (hs3 : (assignEach [.Tuple [.Name x px, .Name y py, .Name z pz] kt pt] J.X.env).map (·.2) = [assign (.Tuple [.Name x px, .Name y py, .Name z pz] kt pt) J.X.env]) (hl : (assignEach [.Name x px, .Name y py, .Name z pz] J.X.env).length = 3) (hst : (assignEach [.Name x px, .Name y py, .Name z pz] J.X.env).findIdx? (·.1) = none)
    (hg1 : (assignEach [.Name x px, .Name y py, .Name z pz] J.X.env).map (·.2) = assign (.Name x px) J.X.env :: (assignEach [.Name y py, .Name z pz] J.X.env).map (·.2)) (hg2 : (assignEach [.Name y py, .Name z pz] J.X.env).map (·.2) = assign (.Name y py) J.X.env :: (assignEach [.Name z pz] J.X.env).map (·.2))
    (hg3 : (assignEach [.Name z pz] J.X.env).map (·.2) = assign (.Name z pz) J.X.env :: (assignEach [] J.X.env).map (·.2)) :
    SS J (.Assign [.Tuple [.Name x px, .Name y py, .Name z pz] kt pt] (.Tuple [a, b, c] k2 pt2) pos) T T4 (sPar3 i j l fa fb fcc) := by
  subst e4
  obtain ⟨ta, pa, ca⟩ := ha
  obtain ⟨tb, pb, cb⟩ := hb
  obtain ⟨tc, pc, cc⟩ := hc
  refine ⟨_, ps_asg (pe_tup (pa_cons pa (pa_cons pb (pa_cons pc pa_nil (starEach_cons hsc)) (starEach_cons hsb)) (starEach_cons hsa))) (pg_tup hX.c (pgs_cons (hX.pg ht i hi hNi) (pgs_cons (hX.pg ht j hj hNj) (pgs_cons (hX.pg ht l hl' hNl) pgs_nil hg3) hg2) hg1) hl hst) hs1 hsw hs3, fun B ρ σ F O H D S q => ?_⟩
  refine ca B ρ σ F O H _ S (PostS.bind S q fun d1 ρ1 F1 O1 H1 e1 S1 q1 => fun v1 P1 r1 l1 _ => ?_)
  refine cb B ρ1 σ F1 O1 H1 _ S1 (PostS.bind S1 q1 fun d2 ρ2 F2 O2 H2 e2 S2 q2 => fun v2 P2 r2 l2 n2 => ?_)
  refine cc B ρ2 σ F2 O2 H2 _ S2 (PostS.bind S2 q2 fun d3 ρ3 F3 O3 H3 e3 S3 q3 => fun v3 P3 r3 l3 n3 => ?_)
  refine ⟨by rw [sizeLine_eq]; show 3 ≤ 16777216; decide, fun p hp => ⟨p, [v1, v2, v3], rfl, .of upd_same, rfl, v1, [v2, v3], rfl, v2, [v3], rfl, v3, [], rfl, rfl, ?_⟩⟩
  have g := Grow.newL (F := F3) (o := .tup [v1, v2, v3]) hp
  have S3' := S3.grow g
  have E := S3.ext g
  have kk : ∀ a o (Z : AS), Z a → H3 a = some o → upd H3 p (.tup [v1, v2, v3]) a = some o := fun a o _ _ h => g.h a o h
  have l1' := l1.ext e2
  have r1' := ((r1.keep (e2.keep S1.fo) (l1.same e2)).keep (e3.keep S2.fo) (l1'.same e3)).keep g.keep fun a o _ h => g.h a o h
  have r2' := (r2.keep (e3.keep S2.fo) (l2.same e3)).keep g.keep fun a o _ h => g.h a o h
  have r3' := r3.keep g.keep fun a o _ h => g.h a o h
  have l1'' := (l1'.ext e3).ext E
  have l2'' := (l2.ext e3).ext E
  have l3'' := l3.ext E
  have d12 := disj_of l1 n2
  have d13 := disj_of l1' n3
  have d23 := disj_of l2 n3
  have S4 := store2 S3' hij hTi hTj hi0 hj0 h1 h2 r1' r2' l1'' l2'' d12
  refine q3 _ F3 _ _ g.keep (S4.store (by rw [List.getElem?_set_ne hjl, List.getElem?_set_ne hil]; exact hTl) hl0 h3 r3' ((l3''.stored d13).stored d23))
end
end DL

/-! D23: the law's own call. -/
namespace DL
open PySem PySem.Spec PyProof.Rows L2

/-- an object of a heap that nothing tracks -/
theorem hid_ns {h : Heap} {H : Hp} (hD : ∀ (b : Addr) (o : Obj) (es : Array DictEntry) (ep : Nat), h.get? b = some o → o.data = .dict es ep → H b = none) {b : Addr} {m : Str → Option Value} (n : h.Ns b m) : (hidT h H).Ns b m := by
  obtain ⟨o, es, ep, e, d, r⟩ := n
  exact ⟨o, es, ep, hidT_get e (hD b o es ep e d), d, r⟩
/-- the def of the law, called with the script a: its promise at H, in which nothing but the script may stand -/
theorem run_top {g : GC} {k : Nat} {fa a : Addr} {fd : FuncData} {x : Str} {sp : Sp} {s : Shared} {H : Hp} {mb : Str → Option Value} {us : Array Value}
    (hb0 : g.base = hidT s.heap H) (hK : g.K.In s.heap) (hns : s.heap.Ns mainGlobals g.mg) (hbl : s.heap.Ns builtinsNs mb) (hbb : ∀ x : Str, x ≠ "__name__" → mb x = bootBuiltins x) (hlim : s.heap.NoLimit) (hgn : s.gens = #[]) (hr : Room k callerA)
    (ha : s.heap.get? a = some { cls := .type "list", data := .seq us }) (hO : Only H) (hok : HOk g.P g.w H s.heap) (hA : ∀ b, H b ≠ none → b = a) (hKa : H a ≠ none → g.K.lookup a = none)
    (F : FnG g (L2.CX g.P g.w) k fa fd [x] sp) (hbd : ∀ (s : Shared) (u : Value), BindsTo s fd ⟨[u], []⟩ [(x, u)]) (hsp : sp [.ref a] H (fun v _ => v = .bl true) fun _ _ _ => False) :
    codeAny (model g.P g.w) callerA (.call (.ref fa) ⟨[.ref a], []⟩) (fun r s' => r = .ok (.ret (.bool true)) ∧ OldK s.heap s'.heap ∧ s'.os = s.os ∧ AllBare s'.gens) s := by
  have noD : ∀ (b : Addr) (o : Obj) (es : Array DictEntry) (ep : Nat), s.heap.get? b = some o → o.data = .dict es ep → H b = none := fun b o es ep e d => by
    cases q : H b with
    | none => rfl
    | some u =>
      have hba := hA b (by rw [q]; simp)
      rw [hba, ha] at e
      cases e
      cases (show Data.seq us _ = Data.dict es ep from d)
  have hM : Mod g.K g.mg g.base := by
    rw [hb0]
    refine ⟨fun b o e => hidT_get (hK b o e) ?_, hid_ns noD hns, ⟨mb, hid_ns noD hbl, hbb⟩, hlim.elim fun mc hm => ⟨mc, hid_ns noD hm.1, hm.2⟩⟩
    cases q : H b with
    | none => rfl
    | some u =>
      have hba := hA b (by rw [q]; simp)
      rw [hba] at e q
      rw [hKa (by rw [q]; simp)] at e; cases e
  have hE : Env0 g.P g.w g.K g.mg g.base callerA [] s H := ⟨rfl, hM, fun b o e => of_hidT (by rw [← hb0]; exact e), by rw [hb0]; exact Nat.le_of_eq (hidT_size _ _), trivial, fun b hb => (by cases hb), hok, .of_eq hgn⟩
  refine codeAny_mono (F.run callerA [] s H ⟨[.ref a], []⟩ [.ref a] [.ref a] _ _ hr rfl hE (hbd s (.ref a)) (.cons rfl .nil) hsp) fun r s' h => ?_
  cases r with
  | error e =>
    obtain ⟨_, _, _, _, _, _, _, _, _, _, _, _, z⟩ := h
    exact z.elim
  | ok fl =>
    cases fl with
    | next => exact False.elim h
    | brk => exact False.elim h
    | cont => exact False.elim h
    | ret u =>
      obtain ⟨v, H', os, bare, un, hok', rv, q⟩ := h
      have q : v = .bl true := q
      subst q
      obtain rfl : u = Value.bool true := rv
      refine ⟨rfl, OldK.of_keep fun b o e => ?_, os, bare⟩
      rcases hO b with z | ⟨ob, xs, z⟩
      · exact un.keep b o e z (fun y => (by cases y)) (by simp)
      · obtain ⟨e1, _⟩ := hok b _ z
        obtain ⟨e2, _⟩ := hok' b _ (un.frzs b ob _ z)
        rw [e] at e1; cases e1
        exact e2
/-- the goal that k_head leaves (case hc) -/
theorem walk_G {l : PySem.W.OpenLaw} {n k : Nat} {q : Program} {loose : List Str} {XP : (Str → Option Value) → Heap → Prop} {YP : World → Heap → Prop} {d : DefRec} {K : Params → PySem.W.Frag} {sp : World → Sp} {x : Str}
    (hn : l.most = some n) (hn2 : n ≤ sizeLine) (hdf : d.params.defaults = []) (hr : Room k callerA) (hY : ∀ (w : World) (h : Heap), YP w h → (K w.params).In h)
    (F : ∀ (w : World) (mg : Str → Option Value) (fa : Addr) (h : Heap), (K w.params).In h → h.Ns mainGlobals mg → mg d.name = some (.ref fa) →
      ∃ fd : FuncData, (∀ (s : Shared) (u : Value), BindsTo s fd ⟨[u], []⟩ [(x, u)]) ∧ ∀ base : Heap, FnG ⟨l.prog, w, K w.params, mg, base⟩ (L2.CX l.prog w) k fa fd [x] (sp w))
    (hsp : ∀ (w : World) (H : Hp) (a : Addr) (ns : List Int), ns.length ≤ n → Only H → SqL (K w.params) H a (ns.map V.int) → sp w [.ref a] H (fun v _ => v = .bl true) fun _ _ _ => False) :
    PySem.W.WalkO q loose XP YP l.row.toRowW d [] (fun f vs => PySem.call f vs) := by
  refine Att.attach_call hn hdf fun w s₀ s₁ mg mb fa o pm cd doc a vs ns G Y ho hd hcd hmg hobj hints hlen hg => ?_
  have hK := hY w _ Y
  obtain ⟨fd, hbd, hF⟩ := F w mg fa _ hK G.T.g hmg
  have rv := vals_ints hints
  have hl : ns.length ≤ sizeLine := Nat.le_trans hlen hn2
  have lv := hints.length
  by_cases hk : (K w.params).lookup a = none
  · let H : Hp := fun b => if b = a then some (.frz { cls := .type "list", data := .seq vs.toArray } (.lst (ns.map V.int))) else none
    have hHa : H a = some (.frz { cls := .type "list", data := .seq vs.toArray } (.lst (ns.map V.int))) := if_pos rfl
    have hHn : ∀ b, b ≠ a → H b = none := fun b z => if_neg z
    have hO : Only H := fun b => by
      by_cases z : b = a
      · subst z; exact .inr ⟨_, _, hHa⟩
      · exact .inl (hHn b z)
    refine run_top (g := ⟨l.prog, w, K w.params, mg, hidT s₁.heap H⟩) (H := H) rfl hK G.T.g G.T.b G.T.builtins G.T.nolimit hg hr hobj hO (fun b u z => ?_) (fun b z => Classical.byContradiction fun y => z (hHn b y)) (fun _ => hk) (hF _) hbd (hsp w H a ns hlen hO (.inl (.inr ⟨_, hHa⟩)))
    by_cases y : b = a
    · subst y
      rw [hHa] at z
      cases z
      exact ⟨hobj, by rw [List.length_map]; exact hl, vs, _, rv, hobj⟩
    · rw [hHn b y] at z; cases z
  · obtain ⟨o2, hk2⟩ := Option.ne_none_iff_exists'.mp hk
    have e := hK a o2 hk2
    rw [hobj] at e
    cases e
    exact run_top (g := ⟨l.prog, w, K w.params, mg, hidT s₁.heap (fun _ => none)⟩) (H := fun _ => none) rfl hK G.T.g G.T.b G.T.builtins G.T.nolimit hg hr hobj (fun _ => .inl rfl) (fun b u z => by cases z) (fun b z => absurd rfl z) (fun z => absurd rfl z) (hF _) hbd
      (hsp w _ a ns hlen (fun _ => .inl rfl) (.inr ⟨_, vs.toArray, _, hk2, rfl, rfl, rfl, by rw [List.size_toArray, lv]; exact hl, by simpa using rv⟩))
/-- the promise of a law: at every list of ints of at most n its mirror tells True -/
theorem law_sp {K : PySem.W.Frag} {ex : Str → Option Addr} {m : FM} {n : Nat} (h : ∀ ns : List Int, ns.length ≤ n → ∃ ios, m [.list (ns.map .int)] = .ok (.bool true) ios) {H : Hp} {a : Addr} {ns : List Int} (hl : ns.length ≤ n) (hO : Only H) (hS : SqL K H a (ns.map V.int)) :
    spF K ex [.fz] .fz m [.ref a] H (fun v _ => v = .bl true) fun _ _ _ => False := by
  obtain ⟨ios, hm⟩ := h ns hl
  have hR : ∃ F : AS, R K F H (.list (ns.map .int)) (.ref a) ∧ ∀ b, F b → H b ≠ none := by
    rcases hS with hS | hS
    · refine ⟨fun b => b = a, .lst rfl hS (RAll.ints ns), fun b e => ?_⟩
      subst e
      rcases hS with z | ⟨o, z⟩ <;> (rw [z]; simp)
    · exact ⟨fun _ => False, .lstK hS (RAll.ints ns), fun b z => z.elim⟩
  obtain ⟨F, hR, hF⟩ := hR
  refine ⟨rfl, [.list (ns.map .int)], F, fun _ => none, rfl, fun i τ e => ?_, fun b i e => (by cases e), fun _ _ => rfl, hF, ?_⟩
  · cases i with
    | zero =>
      simp at e
      subst e
      exact ⟨_, rfl, hR, fun b z => by cases z⟩
    | succ i => simp at e
  · rw [hm]
    intro v F' O' H' P ρ' fb hi vr l
    exact R.boolS vr.1
end DL

/-! D24: {k: v}. -/
namespace DL
open PySem PySem.Spec PyProof.Rows L2

def eDisp1 (p : PyData → Bool) (fk fv : M PyData) : M PyData := fk.bind fun c => fv.bind fun v => if p c then M.pure (.dict [(c, v)]) else fun _ => .bad
section
variable {J : Jc} {T T1 T2 T3 : List Tag}
/-- what is new at p floats through -/
theorem float2 {F F1 F2 : AS} {O O1 O2 : OF} {H H1 H2 : Hp} {p : Addr} {o : HO} {B : Bd} {T : List Tag} {ρ : Env} {σ : L2.St} {K : PySem.W.Frag} (S : St K B T ρ σ F O H) (hp : H p = none) (e1 : Ext F O (upd H p o) F1 O1 H1) (e2 : Ext F1 O1 H1 F2 O2 H2) :
    O2 p = none ∧ ¬ F2 p ∧ H2 p = some o ∧ B.H p = none := by
  have h0 : upd H p o p ≠ none := by rw [upd_same]; simp
  obtain ⟨a1, a2, a3⟩ := e1.float h0 (S.freshO hp) fun f => S.fh p f hp
  obtain ⟨b1, b2, b3⟩ := e2.float (by rw [a3]; exact h0) a1 a2
  exact ⟨b1, b2, by rw [b3, a3, upd_same], S.fresh hp⟩
theorem se_disp1T {g : GC} {N : List Str} {sc : Scope} {fc : Str → Bool} {k : Nat} (hX : XOk g J.X N sc fc k) {ke ve : Expr} {pos : Pos} {fk fv : M PyData} (hk : SE J ke .fz T T1 fk) (hv : SE J ve .fz T1 T2 fv) : SE J (.Dict [some ke] [ve] pos) (.ow OD) T T2 (eDisp1 isKeyT fk fv) := by
  obtain ⟨tk, pk, ck⟩ := hk
  obtain ⟨tv, pv, cv⟩ := hv
  refine ⟨_, pe_disp1T hX.u1 pk pv, fun B ρ σ F O H Q S q => fun p hp => ?_⟩
  have S0 := S.grow (.newL (o := .dT []) hp)
  refine ck B ρ σ F O _ _ S0 (Post.bind (q.ext (S.ext (.newL hp))) fun d ρ1 F1 O1 H1 hz1 e1 S1 q1 => fun v P vr l _ => ?_)
  refine cv B ρ1 σ F1 O1 H1 _ S1 (Post.bind q1 fun d2 ρ2 F2 O2 H2 hz2 e2 S2 q2 => fun w P2 vr2 l2 _ => ?_)
  have rk := R.keep (e2.keep S1.fo) d v vr.1
  obtain ⟨n1, n2, n3, n4⟩ := float2 S hp e1 e2
  by_cases z : isKeyT d = true
  · have q0 : Post J B T2 σ F O H (CE J B (.ow OD) Q O H) (.ok (.dict [(d, d2)]) ρ2) := by
      have h0 : eDisp1 isKeyT fk fv ρ = .ok (.dict [(d, d2)]) ρ2 := by
        simp only [eDisp1, M.bind, hz1, Res.bind, hz2, z, if_true, M.pure]
      rw [h0] at q; exact q
    obtain ⟨c, rfl⟩ := isKeyT_some z
    obtain ⟨b, rfl, hb⟩ := R.keyTS rk
    refine ⟨n3, c, b, rfl, hb, ?_⟩
    have kp : Keep F2 H2 F2 (upd H2 p (.dT [(c, w)])) := ⟨fun _ h => h, fun a u f h => by rw [upd_ne (fun z : a = p => n2 (by rw [← z]; exact f))]; exact h, fun a us h => by rw [upd_ne (fun z : a = p => by rw [z, n3] at h; cases h)]; exact h⟩
    have S3 := S2.other n2 n1 n4 (fun xs h => by rw [n3] at h; cases h) (o := .dT [(c, w)])
    have hE : Ext F O H F2 O2 (upd H2 p (.dT [(c, w)])) := (((S.ext (.newL hp)).trans e1).trans e2).updD hp
    have dr := (DR.cons (kD := keyT) (p := (keyT c, d2)) rfl vr2.1 .nil).keep kp
    exact q0 F2 O2 _ hE S3 (.ref p) (fun a => a = p) ⟨p, _, rfl, rfl, fun a => Iff.rfl, .inr ⟨_, upd_same, dr.ks, dr.vs⟩⟩ (fun a e => by subst e; exact ⟨n2, n1, by rw [upd_same]; simp, n4⟩) fun a e => .inr (by subst e; exact hp)
  · simp only [z] at q2
    exact q2.elim
theorem se_disp1K {ke ve : Expr} {pos : Pos} {fk fv : M PyData} (hk : SE J ke .fz T T1 fk) (hv : SE J ve .fz T1 T2 fv) : SE J (.Dict [some ke] [ve] pos) (.ow OD) T T2 (eDisp1 isKeyK fk fv) := by
  obtain ⟨tk, pk, ck⟩ := hk
  obtain ⟨tv, pv, cv⟩ := hv
  refine ⟨_, pe_disp (pps_cons pk pv pps_nil) rfl rfl (fun z => by cases z) (by show 1 ≤ 15; decide), fun B ρ σ F O H Q S q => fun p hp => ?_⟩
  have S0 := S.grow (.newL (o := .dK []) hp)
  refine ck B ρ σ F O _ _ S0 (Post.bind (q.ext (S.ext (.newL hp))) fun d ρ1 F1 O1 H1 hz1 e1 S1 q1 => fun v P vr l _ => ?_)
  refine cv B ρ1 σ F1 O1 H1 _ S1 (Post.bind q1 fun d2 ρ2 F2 O2 H2 hz2 e2 S2 q2 => fun w P2 vr2 l2 _ => ?_)
  have rk := R.keep (e2.keep S1.fo) d v vr.1
  obtain ⟨n1, n2, n3, n4⟩ := float2 S hp e1 e2
  by_cases z : isKeyK d = true
  · have q0 : Post J B T2 σ F O H (CE J B (.ow OD) Q O H) (.ok (.dict [(d, d2)]) ρ2) := by
      have h0 : eDisp1 isKeyK fk fv ρ = .ok (.dict [(d, d2)]) ρ2 := by
        simp only [eDisp1, M.bind, hz1, Res.bind, hz2, z, if_true, M.pure]
      rw [h0] at q; exact q
    obtain ⟨c, rfl⟩ := isKeyK_some z
    have ek := R.keyKS rk
    subst ek
    refine ⟨n3, [(c, w)], rfl, by simp, ?_⟩
    have hm : mergeK [] [(c, w)] = [(c, w)] := by simp [mergeK, putK]
    rw [hm]
    have kp : Keep F2 H2 F2 (upd H2 p (.dK [(c, w)])) := ⟨fun _ h => h, fun a u f h => by rw [upd_ne (fun z : a = p => n2 (by rw [← z]; exact f))]; exact h, fun a us h => by rw [upd_ne (fun z : a = p => by rw [z, n3] at h; cases h)]; exact h⟩
    have S3 := S2.other n2 n1 n4 (fun xs h => by rw [n3] at h; cases h) (o := .dK [(c, w)])
    have hE : Ext F O H F2 O2 (upd H2 p (.dK [(c, w)])) := (((S.ext (.newL hp)).trans e1).trans e2).updD hp
    have dr := (DR.cons (kD := keyD) (p := (keyD c, d2)) rfl vr2.1 .nil).keep kp
    exact q0 F2 O2 _ hE S3 (.ref p) (fun a => a = p) ⟨p, _, rfl, rfl, fun a => Iff.rfl, .inl ⟨_, upd_same, dr.ks, dr.vs⟩⟩ (fun a e => by subst e; exact ⟨n2, n1, by rw [upd_same]; simp, n4⟩) fun a e => .inr (by subst e; exact hp)
  · simp only [z] at q2
    exact q2.elim
end
end DL

/-! D25: the jar (a dict with a list of its own). -/
namespace DL
open PySem PySem.Spec PyProof.Rows L2

abbrev kFar : Key := .inr "far"
abbrev kCells : Key := .inr "cells"
abbrev kSeal : Key := .inr "seal"
abbrev kCount : Key := .inr "count"
def jarD (fs cs : List Int) (sl0 cn0 : Int) : PyData := .tuple [.list (fs.map .int), .list (cs.map .int), .int sl0, .int cn0]
def jarH (b : Addr) (vc : V) (sl0 cn0 : Int) : List (Key × V) := [(kFar, .ref b), (kCells, vc), (kSeal, .int sl0), (kCount, .int cn0)]
/-- the jar -/
def JK : Kind where
  rel := fun K F H P d v => ∃ (a b : Addr) (fs cs : List Int) (vc : V) (sl0 cn0 : Int), d = jarD fs cs sl0 cn0 ∧ v = .ref a ∧ H a = some (.dK (jarH b vc sl0 cn0)) ∧ H b = some (.lst (fs.map V.int)) ∧ R K F H (.list (cs.map .int)) vc ∧ ∀ x, P x ↔ x = a ∨ x = b
  keep := by
    rintro K F F' H H' P d v ⟨a, b, fs, cs, vc, sl0, cn0, rfl, rfl, h1, h2, r, p⟩ k q
    exact ⟨a, b, fs, cs, vc, sl0, cn0, rfl, rfl, q a _ ((p a).mpr (.inl rfl)) h1, q b _ ((p b).mpr (.inr rfl)) h2, R.keep k _ _ r, p⟩
  live := by
    rintro K F H P d v x ⟨a, b, fs, cs, vc, sl0, cn0, rfl, rfl, h1, h2, r, p⟩ q e
    rcases (p x).mp q with z | z
    · rw [z, h1] at e; cases e
    · rw [z, h2] at e; cases e
/-- a field of the jar -/
def jFld (key : Str) : PyData → Option PyData
  | .tuple [_, c, s, n] => if key = "cells" then some c else if key = "seal" then some s else if key = "count" then some n else none
  | _ => none
def eJget (i : Nat) (key : Str) : M PyData := fun ρ => match jFld key (get ρ i) with
  | some d => .ok d ρ
  | none => .bad
def jPut (d v : PyData) : Option PyData := match d, v with
  | .tuple [f, c, s, .int _], .int n => some (.tuple [f, c, s, .int n])
  | _, _ => none
def sJput (i : Nat) (fe : M PyData) : M Fl := fe.bind fun v => fun ρ => match jPut (get ρ i) v with
  | some d => .ok .nx (ρ.set i d)
  | none => .bad
section
variable {K : PySem.W.Frag} {B : Bd} {T : List Tag} {ρ : Env} {σ : L2.St} {F : AS} {O : OF} {H : Hp}
/-- a slot of which nothing is known holds anything -/
theorem St.junk (S : St K B T ρ σ F O H) {i : Nat} (hT : T[i]? = some .un) (v : V) : St K B T ρ (σ.set i (some v)) F O H := by
  refine ⟨fun j τ e => ?_, S.own, S.fo, S.fh, S.oh, S.fr, S.al, S.tu, S.f0, S.f1, fun j κ e => ?_, by rw [List.length_set]; exact S.lenT, by rw [List.length_set]; exact S.lenR⟩
  · by_cases hij : i = j
    · subst hij
      rw [e] at hT; cases hT
      exact .inl rfl
    · refine (S.sl j τ e).imp id fun ⟨w, e1, r⟩ => ⟨w, by rw [List.getElem?_set_ne hij]; exact e1, r⟩
  · have hij : i ≠ j := fun z => by rw [z, e] at hT; cases hT
    obtain ⟨w, h1, h2⟩ := S.ios j κ e
    exact ⟨w, h1, by rw [List.getElem?_set_ne hij]; exact h2⟩
theorem St.jar (S : St K B T ρ σ F O H) {i : Nat} (hT : T[i]? = some (.ow JK) ∨ T[i]? = some (.io JK)) : ∃ v, σ[i]? = some (some v) ∧ JK.rel K F H (fun a => O a = some i) (get ρ i) v := by
  rcases hT with hT | hT <;> (rcases S.sl i _ hT with z | ⟨v, e, r⟩; cases z; exact ⟨v, e, r⟩)
end
section
variable {J : Jc} {T T1 T2 : List Tag}
theorem se_jget {g : GC} {N : List Str} {sc : Scope} {fc : Str → Bool} {k : Nat} (hX : XOk g J.X N sc fc k) {i : Nat} {x key : Str} {p p2 pos : Pos} {j0 : Nat} (hv : PE J.X (.Name x p) (tVar i)) (hT : T[i]? = some (.ow JK) ∨ T[i]? = some (.io JK)) :
    SE J (.Subscript (.Name x p) (.Constant (.str key) j0 p2) pos) .fz T T (eJget i key) := by
  refine ⟨_, pe_dget hX.u1 hv pe_str (fun _ _ => rfl), fun B ρ σ F O H Q S q => ?_⟩
  obtain ⟨v, e, a, b, fs, cs, vc, sl0, cn0, hd, rfl, h1, h2, r, hP⟩ := S.jar hT
  refine ⟨.ref a, e, a, ?_⟩
  unfold eJget at q
  rw [hd] at q
  have g : ∀ o, valV (jarH b vc sl0 cn0) (.inr key) = some o → DGet H a (.str key) (some o) := fun o ho => .inl ⟨_, .inr key, .inl h1, rfl, ho.symm⟩
  by_cases k1 : key = "cells"
  · subst k1
    exact ⟨vc, rfl, g _ rfl, ce_fz (q F O H .refl S) r⟩
  · by_cases k2 : key = "seal"
    · subst k2
      exact ⟨.int sl0, rfl, g _ rfl, ce_fz (q F O H .refl S) (.int _)⟩
    · by_cases k3 : key = "count"
      · subst k3
        exact ⟨.int cn0, rfl, g _ rfl, ce_fz (q F O H .refl S) (.int _)⟩
      · simp only [jarD, jFld, k1, k2, k3, if_false] at q
        exact q.elim
end
end DL

/-! D26: the jar's draw: the list of its own; a field that is put. -/
namespace DL
open PySem PySem.Spec PyProof.Rows L2

theorem canLay_ints : ∀ ns : List Int, PyData.canLayAll0 (ns.map .int) = true
  | [] => by simp [PyData.canLayAll0]
  | n :: r => by simp [PyData.canLayAll0, PyData.canLay0, canLay_ints r]
theorem depth_ints0 : ∀ ns : List Int, PyData.depthAll (ns.map .int) = 0
  | [] => by simp [PyData.depthAll]
  | n :: r => by simp [PyData.depthAll, PyData.depth, depth_ints0 r]
theorem shaped_ints (ns : List Int) : SeqAt.shaped (.list (ns.map .int)) = true := by
  simp [SeqAt.shaped, PyData.canLay0, canLay_ints, PyData.depth, depth_ints0]
theorem shaped_intsT (ns : List Int) : SeqAt.shaped (.tuple (ns.map .int)) = true := by
  simp [SeqAt.shaped, PyData.canLay0, canLay_ints, PyData.depth, depth_ints0]
section
variable {J : Jc} {T T1 T2 : List Tag}
theorem ss_jput {g : GC} {N : List Str} {sc : Scope} {fc : Str → Bool} {k : Nat} (hX : XOk g J.X N sc fc k) {i : Nat} {x : Str} {p p2 p3 pos : Pos} {j0 : Nat} {e : Expr} {fe : M PyData} (hv : PE J.X (.Name x p) (tVar i)) (he : SE J e .fz T T1 fe) (hT : T1[i]? = some (.ow JK) ∨ T1[i]? = some (.io JK))
    (hs : swapsWith e (some (.Subscript (.Name x p) (.Constant (.str "count") j0 p3) p2)) pos.line J.X.env = pure false) : SS J (.Assign [.Subscript (.Name x p) (.Constant (.str "count") j0 p3) p2] e pos) T T1 (sJput i fe) := by
  obtain ⟨te, pe, ce⟩ := he
  refine ⟨_, ps_dput hX.u1 hv pe_str pe hs, fun B ρ σ F O H D S q => ?_⟩
  refine ce B ρ σ F O H _ S (PostS.bind S q fun d ρ1 F1 O1 H1 e1 S1 q1 => fun v P vr l _ => ?_)
  obtain ⟨x1, hσ, a, b, fs, cs, vc, sl0, cn0, hd, rfl, h1, h2, r, hP⟩ := S1.jar hT
  have q1 : PostS J B T1 F1 H1 D (match jPut (get ρ1 i) d with | some d => .ok .nx (ρ1.set i d) | none => .bad) := q1
  rw [hd] at q1
  cases d <;> try exact q1.elim
  rename_i n q1
  have hvn : v = .int n := vr.1.intS
  subst hvn
  refine ⟨.ref a, hσ, a, _, rfl, .inl ⟨_, kCount, h1, rfl, by rw [sizeLine_eq]; show 4 < 16777216; decide, rfl⟩, ?_⟩
  have hp : putK (jarH b vc sl0 cn0) kCount (.int n) = jarH b vc sl0 n := rfl
  rw [hp]
  have oa : O1 a = some i := (hP a).mpr (.inl rfl)
  have nab : b ≠ a := fun z => by rw [z, h1] at h2; cases h2
  have nF : ¬ F1 a := fun f => by rw [S1.fo a f] at oa; cases oa
  have kp : Keep F1 H1 F1 (upd H1 a (.dK (jarH b vc sl0 n))) := ⟨fun _ h => h, fun c u f h => by rw [upd_ne (fun z : c = a => nF (by rw [← z]; exact f))]; exact h, fun c us h => by rw [upd_ne (fun z : c = a => by rw [z, h1] at h; cases h)]; exact h⟩
  obtain ⟨S2, E2⟩ := S1.mut hT oa (fun us z => by rw [h1] at z; cases z) (o := .dK (jarH b vc sl0 n)) (d := jarD fs cs sl0 n) hσ ⟨a, b, fs, cs, vc, sl0, n, rfl, rfl, upd_same, by rw [upd_ne nab]; exact h2, R.keep kp _ _ r, hP⟩
  exact q1 σ F1 O1 _ (E2.keep S1.fo) S2
/-- the first lines of the draw -/
def sJfar (i m : Nat) (rest : M Fl) : M Fl := fun ρ => match get ρ i, get ρ m with
  | .tuple [.list [], _, _, _], .int _ => rest ρ
  | .tuple [.list (.int own :: fs), c, s, n], .int many => if 1 < many then
      (if decide (many < 1073741824) && lenOk (fs.length + 1) then .ok (.rt (.int (own.fmod many))) (ρ.set i (.tuple [.list (if many ≤ own then .int (own.fdiv many) :: fs else fs), c, s, n])) else .bad)
    else rest ρ
  | _, _ => .bad
theorem sss_jfar {g : GC} {N : List Str} {sc : Scope} {fc : Str → Bool} {k : Nat} {t : Tab} (hX : XOk g J.X N sc fc k) (ht : t.ok N sc fc = true) {i m jf jo ji : Nat} {xj xm xf xo : Str} (hjx : t.ld.contains i = true) (hNi : N[i]? = some xj) (hmx : t.ld.contains m = true) (hNm : N[m]? = some xm)
    (hfl : t.ld.contains jf = true) (hfs : t.st.contains jf = true) (hNf : N[jf]? = some xf) (hol : t.ld.contains jo = true) (hos : t.st.contains jo = true) (hNo : N[jo]? = some xo) (hgl : t.gl[ji]? = some ("int" : Str)) (hgm : g.mg "int" = none)
    (hT : T[i]? = some (.io JK)) (hTm : T[m]? = some .fz) (hTf : T[jf]? = some .un) (hTo : T[jo]? = some .un) (nfo : jf ≠ jo) (nmf : m ≠ jf) (nmo : m ≠ jo) (nif : i ≠ jf) (nio : i ≠ jo) (bm : List Bool) (hbm : bm.length = T.length) (hTr : mask bm T = J.Tr) (hτ : J.τr = .fz)
    {rest : List Stmt} {fR : M Fl} (hR : SSs J rest T T1 fR)
    {pa pb pc pd pe p1 p2 p3 p4 p5 p6 p7 p8 p9 p10 p11 p12 p13 p14 p15 p16 p17 p18 p19 p20 p21 p22 p23 p25 p26 p27 p28 p29 p30 p31 p32 p33 : Pos} {j0 j1 j2 j3 : Nat}
    (hl1 : (p10.endLine == p12.line) = true) (hl2 : (p17.endLine == p23.line) = true) :
    SSs J (.Assign [.Name xf pa] (.Subscript (.Name xj pb) (.Constant (.str "far") j0 pc) pd) pe ::
      .If (.BoolOp .And [.Compare (.Name xf p1) [.NotEq] [.List [] p2] p3, .Compare (.Name xm p4) [.Gt] [.Constant (.int 1) j1 p5] p6] p7)
        [.Assign [.Name xo p8] (.Call (.Attribute (.Name xf p9) "pop" p10) [.Constant (.int 0) j2 p11] [] p12) p13,
         .If (.Compare (.Name xo p14) [.GtE] [.Name xm p15] p28) [.Expr (.Call (.Attribute (.Name xf p16) "insert" p17) [.Constant (.int 0) j3 p18, .BinOp (.Name xo p19) .FloorDiv (.Name xm p20) p21] [] p23) p22] [] p32,
         .Return (some (.BinOp (.Call (.Name "int" p25) [.Name xo p26] [] p27) .Mod (.Name xm p29) p30)) p31] [] p33 :: rest) T T1 (sJfar i m fR) := by
  obtain ⟨tR, pR, cR⟩ := hR
  have nd : J.X.N.Nodup := by rw [hX.n]; exact hX.nd
  have hNf' : J.X.N[jf]? = some xf := by rw [hX.n]; exact hNf
  have hNo' : J.X.N[jo]? = some xo := by rw [hX.n]; exact hNo
  obtain ⟨lf, lf2⟩ := hX.loc ht hfs hNf
  obtain ⟨lo, lo2⟩ := hX.loc ht hos hNo
  have vj : ∀ {p : Pos}, PE J.X (.Name xj p) (tVar i) := fun {p} => hX.pv ht i hjx hNi
  have vm : ∀ {p : Pos}, PE J.X (.Name xm p) (tVar m) := fun {p} => hX.pv ht m hmx hNm
  have vf : ∀ {p : Pos}, PE J.X (.Name xf p) (tVar jf) := fun {p} => hX.pv ht jf hfl hNf
  have vo : ∀ {p : Pos}, PE J.X (.Name xo p) (tVar jo) := fun {p} => hX.pv ht jo hol hNo
  refine ⟨_, pss_cons (ps_set nd hNf' lf (pe_dget hX.u1 vj pe_str (fun _ _ => rfl)) rfl lf2)
    (pss_cons (ps_if (pw_and (pt_cmpR (op_neD hX.u64) vf (pe_lst pa_nil) (nomark _)) (pw_and1 (pt_cmpR op_gt vm pe_int (nomark _)))).pt
      (pss_cons (ps_set nd hNo' lo (pe_bm PySem.F.plainAttrs_list PySem.F.slot_list_pop PySem.F.type_list_pop mt_popAt vf (pa_cons pe_int pa_nil) rfl rfl hl1 rfl rfl) rfl lo2)
        (pss_cons (ps_if (pt_cmpR op_ge vo vm (nomark _)) (pss_one (ps_expr (pe_bm PySem.F.plainAttrs_list PySem.F.slot_list_insert PySem.F.type_list_insert mt_insert vf (pa_cons pe_int (pa_cons (pe_op op_fdivN vo vm) pa_nil)) rfl rfl hl2 rfl rfl))) pss_nil)
          (pss_one (ps_ret (pe_op op_modN (pe_callTy call_int1 (hX.gl ht hgl).1 (by rw [hX.mg]; exact hgm) (by decide +kernel) (pa_cons vo pa_nil)) vm))))) pss_nil) pR), fun B ρ σ F O H D S q => ?_⟩
  -- the list of its own
  obtain ⟨x1, hσ, a, b, fs, cs, vc, sl0, cn0, hd, rfl, h1, h2, r, hP⟩ := S.jar (.inr hT)
  have hm : ∃ vm, σ[m]? = some (some vm) ∧ R J.X.K F H (get ρ m) vm := by
    rcases S.sl m _ hTm with z | ⟨v, e, r⟩
    · cases z
    · exact ⟨v, e, r.1⟩
  obtain ⟨vm, hσm, rm⟩ := hm
  have oa : O a = some i := (hP a).mpr (.inl rfl)
  have ob : O b = some i := (hP b).mpr (.inr rfl)
  have nab : a ≠ b := fun z => by rw [z, h2] at h1; cases h1
  have jfl : jf < σ.length := by rw [← S.lenT]; exact (List.getElem?_eq_some_iff.mp hTf).1
  have jol : jo < σ.length := by rw [← S.lenT]; exact (List.getElem?_eq_some_iff.mp hTo).1
  refine ⟨.ref a, hσ, a, .ref b, rfl, .inl ⟨_, kFar, .inl h1, rfl, rfl⟩, ?_⟩
  have S1 := S.junk hTf (.ref b)
  have q : PostS J B T1 F H D (sJfar i m fR ρ) := q
  unfold sJfar at q
  rw [hd] at q
  have eF : (σ.set jf (some (.ref b)))[jf]? = some (some (V.ref b)) := List.getElem?_set_self jfl
  have eM : (σ.set jf (some (.ref b)))[m]? = some (some vm) := by rw [List.getElem?_set_ne (Ne.symm nmf)]; exact hσm
  refine ⟨.ref b, eF, by rw [sizeLine_eq]; show 0 ≤ 16777216; decide, fun l hl => ?_⟩
  have gl := Grow.newL (F := F) (o := .lst []) hl
  have S2 := S1.grow gl
  have nbl : b ≠ l := ne_of_none h2 hl
  have h2' : upd H l (.lst []) b = some (.lst (fs.map V.int)) := by rw [upd_ne nbl]; exact h2
  refine ⟨.list (fs.map .int), .list [], .lst (.inl (.inl h2')) (RAll.dp (K := J.X.K) (F := F) _ _ ?_ (RAll.ints fs)), .lst (.inl (.inl upd_same)) .nil, shaped_ints fs, by decide, _, rfl, ?_⟩
  · exact noDicts_of _ (canLay_ints fs)
  have kH : Keep F H F (upd H l (.lst [])) := gl.keep
  cases hmv : get ρ m <;> (rw [hmv] at q rm) <;> try (cases fs <;> exact q.elim)
  rename_i many
  have evm : vm = .int many := rm.intS
  subst evm
  cases fs with
  | nil => 
    refine iteF ?_
    have q : PostS J B T1 F H D (fR ρ) := q
    exact cR B ρ _ F O _ D S2 (q.ext kH)
  | cons own fs =>
    refine iteT ?_
    refine ⟨.int many, eM, many, 1, rfl, rfl, _, rfl, ?_⟩
    by_cases h1m : 1 < many
    · rw [show decide (many > 1) = true from decide_eq_true h1m]
      refine iteT ?_
      have q : PostS J B T1 F H D (if 1 < many then (if decide (many < 1073741824) && lenOk ((fs.map PyData.int).length + 1) then Res.ok (.rt (.int (own.fmod many))) (ρ.set i (.tuple [.list (if many ≤ own then .int (own.fdiv many) :: fs.map .int else fs.map .int), .list (cs.map .int), .int sl0, .int cn0])) else .bad) else fR ρ) := q
      rw [if_pos h1m] at q
      by_cases hb : (decide (many < 1073741824) && lenOk ((fs.map PyData.int).length + 1)) = true
      · rw [if_pos hb] at q
        simp only [Bool.and_eq_true, decide_eq_true_eq] at hb
        obtain ⟨hb1, hb2⟩ := hb
        have hb2 := lenOk_line hb2
        rw [List.length_map] at hb2
        have hle : 1 < many := h1m
        have il : i < σ.length := by rw [← S.lenT]; exact (List.getElem?_eq_some_iff.mp hT).1
        have jol2 : jo < (σ.set jf (some (V.ref b))).length := by rw [List.length_set]; exact jol
        have eO : ((σ.set jf (some (V.ref b))).set jo (some (V.int own)))[jo]? = some (some (V.int own)) := List.getElem?_set_self jol2
        have eM2 : ((σ.set jf (some (V.ref b))).set jo (some (V.int own)))[m]? = some (some (V.int many)) := by rw [List.getElem?_set_ne (Ne.symm nmo)]; exact eM
        have eF2 : ((σ.set jf (some (V.ref b))).set jo (some (V.int own)))[jf]? = some (some (V.ref b)) := by rw [List.getElem?_set_ne (Ne.symm nfo)]; exact eF
        have eI2 : ((σ.set jf (some (V.ref b))).set jo (some (V.int own)))[i]? = some (some (V.ref a)) := by rw [List.getElem?_set_ne (Ne.symm nio), List.getElem?_set_ne (Ne.symm nif)]; exact hσ
        have S3 := S2.junk (i := jo) hTo (.int own)
        have fin : ∀ nf : List Int, PostS J B T1 F H D (.ok (.rt (.int (own.fmod many))) (ρ.set i (jarD nf cs sl0 cn0))) → D.rt (.int (own.fmod many)) (upd (upd H l (.lst [])) b (.lst (nf.map V.int))) := by
          intro nf qf
          have h1' : upd (upd H l (.lst [])) b (.lst (nf.map V.int)) a = some (.dK (jarH b vc sl0 cn0)) := by
            rw [upd_ne nab, upd_ne (ne_of_none h1 hl)]; exact h1
          have nF : ¬ F b := fun f => by rw [S.fo b f] at ob; cases ob
          have kp : Keep F (upd H l (.lst [])) F (upd (upd H l (.lst [])) b (.lst (nf.map V.int))) := ⟨fun _ h => h, fun c u f h => by rw [upd_ne (fun z : c = b => nF (by rw [← z]; exact f))]; exact h, fun c us h => by rw [upd_ne (fun z : c = b => by rw [z, h2'] at h; cases h)]; exact h⟩
          obtain ⟨S4, E4⟩ := S3.mut (.inr hT) ob (fun us z => by rw [h2'] at z; cases z) (o := .lst (nf.map V.int)) (d := jarD nf cs sl0 cn0) eI2 ⟨a, b, nf, cs, vc, sl0, cn0, rfl, rfl, h1', upd_same, R.keep (kH.trans kp) _ _ r, hP⟩
          have S5 := S4.mask hbm
          rw [hTr] at S5
          exact qf _ _ F _ _ (fun _ => False) (kH.trans kp) S5 (by rw [hτ]; exact ⟨.int _, fun _ z => z⟩) Loose.none
        refine ⟨.ref b, eF, .inl ⟨rfl, _, .inl (.inl h2')⟩, b, _, 0, 0, .int own, rfl, rfl, h2', by decide, by decide, by simp [seqIndex?], rfl, ?_⟩
        refine ⟨.int own, eO, .int many, eM2, own, many, rfl, rfl, _, rfl, ?_⟩
        have eE : ((own :: fs).map V.int).eraseIdx 0 = fs.map V.int := rfl
        rw [eE]
        by_cases hge : many ≤ own
        · rw [show decide (own ≥ many) = true from decide_eq_true hge]
          rw [if_pos hge] at q
          refine iteT ?_
          refine ⟨.ref b, eF2, .inl ⟨rfl, _, .inl (.inl upd_same)⟩, .int own, eO, .int many, eM2, own, many, rfl, rfl, ⟨by omega, by omega⟩, b, fs.map V.int, 0, .int (own.fdiv many), rfl, rfl, upd_same, by rw [List.length_map]; omega, by decide, by decide, ?_⟩
          refine ⟨.int own, eO, .inl ⟨own, rfl, .int many, eM2, own, many, rfl, rfl, by omega, ?_⟩⟩
          rw [upd_upd]
          exact fin (own.fdiv many :: fs) q
        · rw [show decide (own ≥ many) = false from decide_eq_false hge]
          rw [if_neg hge] at q
          refine iteF ?_
          refine ⟨.int own, eO, .inl ⟨own, rfl, .int many, eM2, own, many, rfl, rfl, by omega, ?_⟩⟩
          exact fin fs q
      · rw [if_neg hb] at q
        exact q.elim
    · rw [show decide (many > 1) = false from decide_eq_false h1m]
      refine iteF ?_
      have q : PostS J B T1 F H D (if 1 < many then (if decide (many < 1073741824) && lenOk ((fs.map PyData.int).length + 1) then Res.ok (.rt (.int (own.fmod many))) (ρ.set i (.tuple [.list (if many ≤ own then .int (own.fdiv many) :: fs.map .int else fs.map .int), .list (cs.map .int), .int sl0, .int cn0])) else .bad) else fR ρ) := q
      rw [if_neg h1m] at q
      exact cR B ρ _ F O _ D S2 (q.ext kH)
end
end DL

/-! D27: a jar made. -/
namespace DL
open PySem PySem.Spec PyProof.Rows L2

section
variable {K : PySem.W.Frag} {B : Bd} {T : List Tag} {ρ : Env} {σ : L2.St} {F : AS} {O : OF} {H : Hp}
/-- an owned slot is given away -/
theorem St.move (S : St K B T ρ σ F O H) {i : Nat} {κ : Kind} (hT : T[i]? = some (Tag.ow κ)) : St K B (T.set i .un) ρ σ F (dropO O i) H ∧ Ext F O H F (dropO O i) H ∧ ∃ v, σ[i]? = some (some v) ∧ κ.rel K F H (fun a => O a = some i) (get ρ i) v ∧ Loose B F (dropO O i) H (fun a => O a = some i) := by
  have iT : i < T.length := (List.getElem?_eq_some_iff.mp hT).1
  rcases S.sl i _ hT with z | ⟨v, e, r⟩
  · cases z
  refine ⟨⟨fun j τj e => ?_, fun a j e => ?_, fun a f => ?_, S.fh, fun a j e => ?_, S.fr, S.al, S.tu, S.f0, S.f1, fun j κ' e => ?_, by simp [S.lenT], S.lenR⟩, ⟨fun _ h => h, fun _ _ h _ => h, fun a e => .inl fun z => by unfold dropO at e; rw [z] at e; simp at e, fun _ h => .inl h, fun _ h => h, fun _ _ h => h⟩, v, e, r, fun a p => ?_⟩
  · by_cases hij : i = j
    · subst hij
      rw [List.getElem?_set_self iT] at e
      cases e
      exact .inl rfl
    · rw [List.getElem?_set_ne hij] at e
      exact (S.sl j τj e).imp id fun ⟨w, e1, r1⟩ => ⟨w, e1, r1.congr fun a => (dropO_ne hij a).symm⟩
  · by_cases hij : i = j
    · subst hij
      exact absurd e (dropO_self a)
    · rw [List.getElem?_set_ne hij]
      exact S.own a j ((dropO_ne hij a).mp e)
  · unfold dropO
    simp [S.fo a f]
  · by_cases hij : i = j
    · subst hij
      exact absurd e (dropO_self a)
    · exact S.oh a j ((dropO_ne hij a).mp e)
  · by_cases hij : i = j
    · subst hij
      rw [List.getElem?_set_self iT] at e
      cases e
    · rw [List.getElem?_set_ne hij] at e
      exact S.ios j κ' e
  · have p : O a = some i := p
    refine ⟨fun f => (by rw [S.fo a f] at p; cases p), (by unfold dropO; simp [p]), S.oh a i p, ?_⟩
    rcases S.own a i p with ⟨_, _, z⟩ | ⟨κ', h, _⟩
    · exact z
    · rw [hT] at h; cases h
end
def jarOf : PyData → PyData → PyData → PyData → Option PyData
  | .list fs, .list cs, .int s, .int n => (ints? fs).bind fun f => (ints? cs).bind fun c => some (jarD f c s n)
  | _, _, _, _ => none
def eJar (jf : Nat) (f2 f3 f4 : M PyData) : M PyData := f2.bind fun c => f3.bind fun s => f4.bind fun n => fun ρ => ofO (jarOf (get ρ jf) c s n) ρ
theorem ints?_eq : ∀ {ds : List PyData} {ns : List Int}, ints? ds = some ns → ds = ns.map .int
  | [], ns, h => by simp [ints?] at h; subst h; rfl
  | d :: ds, ns, h => by
    cases d <;> simp [ints?] at h
    obtain ⟨r, h1, rfl⟩ := h
    rw [ints?_eq h1]; rfl
section
variable {J : Jc} {T T1 T2 T3 T4 : List Tag}
theorem se_jar {x2 : Expr} {x3 x4 : Expr} {xf : Str} {jf : Nat} {p1 p2 p3 p4 p5 pos : Pos} {k1 k2 k3 k4 : Nat} {f2 f3 f4 : M PyData} (hv : PE J.X (.Name xf p5) (tVar jf)) (h0 : T[jf]? = some (.ow OL)) (h2 : SE J x2 .fz T T1 f2) (h3 : SE J x3 .fz T1 T2 f3) (h4 : SE J x4 .fz T2 T3 f4)
    (hT : T3[jf]? = some (.ow OL)) (e4 : T3.set jf .un = T4) :
    SE J (.Dict [some (.Constant (.str "far") k1 p1), some (.Constant (.str "cells") k2 p2), some (.Constant (.str "seal") k3 p3), some (.Constant (.str "count") k4 p4)] [.Name xf p5, x2, x3, x4] pos) (.ow JK) T T4 (eJar jf f2 f3 f4) := by
  subst e4
  obtain ⟨t2, q2, c2⟩ := h2
  obtain ⟨t3, q3, c3⟩ := h3
  obtain ⟨t4, q4, c4⟩ := h4
  refine ⟨_, pe_disp (pps_cons pe_str hv (pps_cons pe_str q2 (pps_cons pe_str q3 (pps_cons pe_str q4 pps_nil)))) rfl rfl (fun z => by cases z) (by show 4 ≤ 15; decide), fun B ρ σ F O H Q S q => fun p hp => ?_⟩
  have S0 := S.grow (.newL (o := .dK []) hp)
  have hb : ∃ b, σ[jf]? = some (some (.ref b)) := by
    rcases S.sl jf _ h0 with z | ⟨v, e, a, xs, ds, _, rfl, _⟩
    · cases z
    · exact ⟨a, e⟩
  obtain ⟨b, hσ⟩ := hb
  refine ⟨.ref b, hσ, ?_⟩
  refine c2 B ρ σ F O _ _ S0 (Post.bind (q.ext (S.ext (.newL hp))) fun d2 ρ1 F1 O1 H1 hz1 e1 S1 q1 => fun v2 P2 r2 l2 _ => ?_)
  refine c3 B ρ1 σ F1 O1 H1 _ S1 (Post.bind q1 fun d3 ρ2 F2 O2 H2 hz2 e2 S2 q2 => fun v3 P3 r3 l3 _ => ?_)
  refine c4 B ρ2 σ F2 O2 H2 _ S2 (Post.bind q2 fun d4 ρ3 F3 O3 H3 hz3 e3 S3 q3 => fun v4 P4 r4 l4 _ => ?_)
  have r2' := R.keep ((e2.trans e3).keep S1.fo) d2 v2 r2.1
  have r3' := R.keep (e3.keep S2.fo) d3 v3 r3.1
  obtain ⟨n1, n2, n3, n4⟩ := float2 S hp e1 (e2.trans e3)
  cases hj : jarOf (get ρ3 jf) d2 d3 d4 with
  | none => rw [hj] at q3; exact q3.elim
  | some d =>
    have q0 : Post J B (T3.set jf .un) σ F O H (CE J B (.ow JK) Q O H) (.ok d ρ3) := by
      have h0 : eJar jf f2 f3 f4 ρ = .ok d ρ3 := by
        simp only [eJar, M.bind, hz1, Res.bind, hz2, hz3, hj, ofO]
      rw [h0] at q; exact q
    obtain ⟨S4, E4, w, hw, rw', lw⟩ := S3.move hT
    rw [hσ] at hw; cases hw
    obtain ⟨b', xs, ds, hd, hb', hH, ra, hP⟩ := rw'
    cases hb'
    rw [hd] at hj
    have hx : ∃ cd sl0 cn0, d2 = .list cd ∧ d3 = .int sl0 ∧ d4 = .int cn0 := by
      unfold jarOf at hj
      split at hj
      · rename_i h1 h2 h3
        exact ⟨_, _, _, rfl, rfl, rfl⟩
      · cases hj
    obtain ⟨cd, sl0, cn0, rfl, rfl, rfl⟩ := hx
    simp only [jarOf, Option.bind_eq_some_iff, Option.some.injEq] at hj
    obtain ⟨fs, hf, cs, hc, rfl⟩ := hj
    have e5 := ints?_eq hf
    have e6 := ints?_eq hc
    subst e5 e6
    have exs := ra.ofInts hf
    subst exs
    have ev3 := R.intS r3'
    have ev4 := R.intS r4.1
    subst ev3 ev4
    refine ⟨n3, jarH b v2 sl0 cn0, rfl, by show 4 ≤ 15; decide, ?_⟩
    have hm : mergeK [] (jarH b v2 sl0 cn0) = jarH b v2 sl0 cn0 := rfl
    rw [hm]
    have nbp : b ≠ p := fun z => by rw [z, n3] at hH; cases hH
    have ob : O3 b = some jf := (hP b).mpr rfl
    have n1' : dropO O3 jf p = none := by unfold dropO; simp [n1]
    have S5 := S4.other n2 n1' n4 (fun xs h => by rw [n3] at h; cases h) (o := .dK (jarH b v2 sl0 cn0))
    have hE : Ext F O H F3 (dropO O3 jf) (upd H3 p (.dK (jarH b v2 sl0 cn0))) := ((((S.ext (.newL hp)).trans e1).trans (e2.trans e3)).trans E4).updD hp
    have kp : Keep F3 H3 F3 (upd H3 p (.dK (jarH b v2 sl0 cn0))) := ⟨fun _ h => h, fun a u f h => by rw [upd_ne (fun z : a = p => n2 (by rw [← z]; exact f))]; exact h, fun a us h => by rw [upd_ne (fun z : a = p => by rw [z, n3] at h; cases h)]; exact h⟩
    refine q0 F3 _ _ hE S5 (.ref p) (fun a => a = p ∨ a = b) ⟨p, b, fs, cs, v2, sl0, cn0, rfl, rfl, upd_same, by rw [upd_ne nbp]; exact hH, R.keep kp _ _ r2', fun a => Iff.rfl⟩ (fun a e => ?_) fun a e => ?_
    · rcases e with e | e
      · subst e
        exact ⟨n2, n1', by rw [upd_same]; simp, n4⟩
      · subst e
        obtain ⟨g1, g2, g3, g4⟩ := lw a ob
        exact ⟨g1, g2, by rw [upd_ne nbp]; exact g3, g4⟩
    · rcases e with e | e
      · subst e; exact .inr hp
      · subst e
        rcases (((S.ext (.newL (o := .dK []) hp)).trans e1).trans (e2.trans e3)).o a (by rw [ob]; simp) with z | z
        · exact .inl z
        · exact .inr z
end
end DL

/-! D28: short words for a printed derivation. -/
namespace DL
open PySem PySem.Spec PyProof.Rows L2

section
variable {g : GC} {N : List Str} {sc : Scope} {fc : Str → Bool} {k : Nat} {t : Tab} {J : Jc} {T T1 T2 T3 : List Tag}
/-- nothing is let out of a comprehension -/
theorem passes_no {P : Program} {w : World} {X : Cx} : ∀ σ, PassesAt (L2.CX P w) X σ (WE (fun _ _ _ _ => False) σ) := by
  intro σ pins H s e s' I h
  obtain ⟨_, _, _, _, _, _, _, _, _, _, _, _, z⟩ := h
  exact z.elim
theorem se_kint (hX : XOk g J.X N sc fc k) (ht : t.ok N sc fc = true) {j : Nat} {x : Str} (hj : t.gl[j]? = some x) {n : Int} (hm : ∃ tk, g.mg x = some (.int n tk)) {p : Pos} : SE J (.Name x p) .fz T T (eC (.int n)) := by
  obtain ⟨tk, hm⟩ := hm
  exact se_now (v := .int n) (pe_glob (v := .int n) (hX.gl ht hj).1 (by rw [hX.mg]; exact hm) ⟨tk, rfl⟩ (hX.gl ht hj).2.1) fun _ _ => .int n
def iSeq (f : M PyData) : M (List PyData) := f.bind fun d => ofO (asSeq d)
theorem si_seq {tg e : Expr} {f : M PyData} (h : SE J e .fz T T1 f) : SI J tg e T T1 (iSeq f) := by
  obtain ⟨tt, p, c⟩ := h
  refine ⟨fun σ H R => iList J.X.K tt σ H R ∨ iTup J.X.K tt σ H R, ⟨fun pins s σ H R I h => h.elim ((pi_list p).run pins s σ H R I) ((pi_tup p).run pins s σ H R I)⟩, fun B ρ σ F O H Q S q => ?_⟩
  cases z : f ρ with
  | bad => unfold iSeq M.bind at q; rw [z] at q; exact q.elim
  | exc x ρ' =>
    unfold iSeq M.bind at q
    rw [z] at q
    exact .inl (c B ρ σ F O H _ S (by rw [z]; exact q))
  | ok d ρ' =>
    unfold iSeq M.bind at q
    rw [z] at q
    have q : Post J B T1 σ F O H (fun ds F1 _ H1 => ∀ It, WalkD J.X.K It ds F1 H1 → Q It H1) (ofO (asSeq d) ρ') := q
    cases d <;> try exact q.elim
    · refine .inl (c B ρ σ F O H _ S ?_)
      rw [z]
      intro F' O' H' e' S' v P vr l _
      obtain ⟨a, xs, rfl, ha, ra⟩ := vr.1.listS
      exact ⟨a, rfl, ⟨xs, ha.sq⟩, q F' O' H' e' S' _ (walk_L ha ra)⟩
    · refine .inr (c B ρ σ F O H _ S ?_)
      rw [z]
      intro F' O' H' e' S' v P vr l _
      obtain ⟨a, xs, rfl, ha, ra⟩ := vr.1.tupleS
      exact ⟨a, rfl, ⟨xs, ha⟩, q F' O' H' e' S' _ (walk_T vr.1)⟩
/-- a slice of any, frozen -/
def slA (d : PyData) (lo hi : Option Int) : Option PyData := match d with
  | .list ds => some (.list (cutD ds lo hi))
  | .tuple ds => some (.tuple (cutD ds lo hi))
  | .str z => if lenOk z.length then some (.str (cutS z lo hi)) else none
  | _ => none
theorem se_slice {e : Expr} {lo hi : Option Expr} {p2 pos : Pos} {fa : M PyData} {fl fh : M (Option Int)} {T0 T1 T2 T3 : List Tag} (ha : SE J e .fz T0 T1 fa) (hl : SPt J lo T1 T2 fl) (hh : SPt J hi T2 T3 fh) : SE J (.Subscript e (.Slice lo hi none p2) pos) .fz T0 T3 (eSl slA fa fl fh) := by
  obtain ⟨ta, pa, ca⟩ := ha
  obtain ⟨tl, pl, cl⟩ := hl
  obtain ⟨th, ph, ch⟩ := hh
  refine ⟨_, pe_slice (sl_list.or (sl_tupA.or sl_str)) pa pl ph, fun B ρ σ F O H Q S q => ?_⟩
  refine ca B ρ σ F O H _ S (Post.bind q fun d ρ1 F1 O1 H1 hz1 e1 S1 q1 => fun v P vr l _ => ?_)
  refine cl B ρ1 σ F1 O1 H1 _ S1 (Post.bind q1 fun o2 ρ2 F2 O2 H2 hz2 e2 S2 q2 => ?_)
  refine ch B ρ2 σ F2 O2 H2 _ S2 (Post.bind q2 fun o3 ρ3 F3 O3 H3 hz3 e3 S3 q3 => ?_)
  have r1 := R.keep (e3.keep S2.fo) d v (R.keep (e2.keep S1.fo) d v vr.1)
  cases hs : slA d o2 o3 with
  | none => rw [hs] at q3; exact q3.elim
  | some c =>
    cases d <;> try (simp [slA] at hs; done)
    · rename_i z
      simp only [slA, Option.ite_none_right_eq_some, Option.some.injEq] at hs
      obtain ⟨hz, rfl⟩ := hs
      exact .inr (.inr ⟨z, r1.strS, lenOk_line hz, post_some (o := slA (.str z) o2 o3) S3 (by simp [slA, hz]) q3 .refl (.str _)⟩)
    · rename_i ds
      obtain ⟨a, xs, rfl, hx, rx⟩ := r1.listS
      cases hs
      exact .inl ⟨a, xs, rfl, hx.sq, fun p hp => post_some S3 (o := slA (.list ds) o2 o3) rfl q3 (.new hp) (R.newL (rx.cut o2 o3) hp)⟩
    · rename_i ds
      obtain ⟨a, xs, rfl, hx, rx⟩ := r1.tupleS
      cases hs
      refine .inr (.inl ⟨a, xs, rfl, hx, fun hw => ?_, fun hw p hp => ?_⟩)
      · have e : cutD ds o2 o3 = ds := by
          unfold cutD
          rw [rx.length, hw.1, hw.2, List.drop_zero, Nat.sub_zero, ← rx.length, List.take_length]
        refine post_some S3 (o := slA (.tuple ds) o2 o3) rfl q3 .refl ?_
        rw [e]; exact r1
      · exact post_some S3 (o := slA (.tuple ds) o2 o3) rfl q3 (.newL hp) (R.newT (rx.cut o2 o3) hp)
/-- < of all -/
def ltA (d e : PyData) : Option PyData := (ltI d e).or (ltT d e)
theorem ops_ltA {K : PySem.W.Frag} : OpS2 K (fun x y H Q => rI0 (fun i j => .bl (decide (i < j))) x y H Q ∨ rLtT K x y H Q) ltA := (ops_cmpI _).or ops_ltT
end
end DL

/-! D29: what a printed derivation names. -/
namespace DL
open PySem PySem.Spec PyProof.Rows L2
theorem shr_owL : (Tag.ow OL).shr := OL.sh
theorem shr_ioL : (Tag.io OL).shr := OL.sh
theorem shr_owD : (Tag.ow OD).shr := OD.sh
theorem shr_ioD : (Tag.io OD).shr := OD.sh
theorem bb_len : bootBuiltins ("len" : Str) = some (.builtin "len") := by decide +kernel
theorem bb_abs : bootBuiltins ("abs" : Str) = some (.builtin "abs") := by decide +kernel
theorem bb_sorted : bootBuiltins ("sorted" : Str) = some (.builtin "sorted") := by decide +kernel
theorem bb_repr : bootBuiltins ("repr" : Str) = some (.builtin "repr") := by decide +kernel
theorem bb_isinstance : bootBuiltins ("isinstance" : Str) = some (.builtin "isinstance") := by decide +kernel
theorem bb_min : bootBuiltins ("min" : Str) = some (.builtin "min") := by decide +kernel
theorem bb_max : bootBuiltins ("max" : Str) = some (.builtin "max") := by decide +kernel
theorem bb_sum : bootBuiltins ("sum" : Str) = some (.builtin "sum") := by decide +kernel
theorem bb_all : bootBuiltins ("all" : Str) = some (.builtin "all") := by decide +kernel
theorem bb_any : bootBuiltins ("any" : Str) = some (.builtin "any") := by decide +kernel
theorem bb_int : bootBuiltins ("int" : Str) = some (.type "int") := by decide +kernel
theorem bb_tuple : bootBuiltins ("tuple" : Str) = some (.type "tuple") := by decide +kernel
theorem bb_list : bootBuiltins ("list" : Str) = some (.type "list") := by decide +kernel
theorem bb_dict : bootBuiltins ("dict" : Str) = some (.type "dict") := by decide +kernel
theorem bb_str : bootBuiltins ("str" : Str) = some (.type "str") := by decide +kernel
/-- assignments look at the scope alone -/
theorem sw_true_ {g : GC} {X : Cx} {N : List Str} {sc : Scope} {fc : Str → Bool} {k : Nat} (hX : XOk g X N sc fc k) {elt : Expr} {gs : List Comprehension} {scope : Scope} {pos py : Pos} {y : Str} {l : Nat} (hk : sc.kind = .function) (hy : sc.names.lookup y = some .local) (hl : (py.line == pos.line) = true)
    (ha : (scope.names.any fun (n, k) => n == y && (k == .local || k == .cell)) = false) : swapsWith (.ListComp elt gs scope pos) (some (.Name y py)) l X.env = pure true :=
  sw_true (by rw [hX.s]; exact hk) (by rw [hX.s]; exact hy) hl ha
theorem sw_cell_ {g : GC} {X : Cx} {N : List Str} {sc : Scope} {fc : Str → Bool} {k : Nat} (hX : XOk g X N sc fc k) {elt : Expr} {gs : List Comprehension} {scope : Scope} {pos py : Pos} {y : Str} {l : Nat} (hy : (sc.names.lookup y == some .local) = false) : swapsWith (.ListComp elt gs scope pos) (some (.Name y py)) l X.env = pure false := by
  have h : (X.env.kindOf y == some .local) = false := by
    show (X.env.scope.names.lookup y == some .local) = false
    rw [hX.s]; exact hy
  unfold swapsWith
  simp only [h, Bool.and_false, Bool.false_and]
/-- a body without continue -/
def noCt (b : M Fl) : M Fl := fun ρ => match b ρ with
  | .ok .ct _ => .bad
  | r => r
theorem sss_noCt {J : Jc} {body : List Stmt} {T T1 Tx : List Tag} {b : M Fl} (h : SSs J body T T1 b) : SSs { J with Tc := Tx } body T T1 (noCt b) := by
  obtain ⟨t, p, c⟩ := h
  refine ⟨t, p, fun B ρ σ F O H D S q => c B ρ σ F O H D S ?_⟩
  unfold noCt at q
  cases z : b ρ with
  | bad => rw [z] at q; exact q
  | exc x ρ' => rw [z] at q; exact q
  | ok fl ρ' =>
    rw [z] at q
    cases fl with
    | nx => exact q
    | rt d => exact q
    | ct => exact q.elim
theorem ss_for1 {g : GC} {N : List Str} {sc : Scope} {fc : Str → Bool} {k : Nat} {J : Jc} {T T1 T2 : List Tag} (hX : XOk g J.X N sc fc k) (hp : PassesOwn (model J.X.prog J.X.w) J.X.A J.X.env J.X.xe) {tg iter : Expr} {body : List Stmt} {f : M (List PyData)} {h : MG} {b : M Fl} {ts : List Nat} {pos : Pos} (hi : SI J tg iter T T1 f)
    (hg : SG J tg ts T1 T2 h) (hb : SSs J body T2 T1 b) (hs : ∀ x, foldedSetIterable iter J.X.env x = pure x) : SS J (.For tg iter body [] pos) T T1 (sFor f h (noCt b)) := ss_for hX hp hi hg (sss_noCt hb) hs
theorem ss_while1 {g : GC} {N : List Str} {sc : Scope} {fc : Str → Bool} {k : Nat} {J : Jc} {T : List Tag} (hX : XOk g J.X N sc fc k) (hp : PassesOwn (model J.X.prog J.X.w) J.X.A J.X.env J.X.xe) {c : Expr} {body : List Stmt} {t : M Bool} {b : M Fl} {pos : Pos}
    (hc : ST J c T T t) (hb : SSs J body T T b) : SS J (.While c body [] pos) T T (sWhile t (noCt b)) := ss_while hX hp hc (sss_noCt hb)
/-- an env of that scope -/
def envS (sc : Scope) : PySem.Env := { (default : PySem.Env) with scope := sc }
theorem swp_ {g : GC} {X : Cx} {N : List Str} {sc : Scope} {fc : Str → Bool} {k : Nat} (hX : XOk g X N sc fc k) {ts : List Expr} {v : Expr} {r : Sem (Option (List Str))} (h : swappedStores ts v (envS sc) = r) : swappedStores ts v X.env = r := by
  rw [← h]
  have e : ∀ y, X.env.kindOf y = (envS sc).kindOf y := fun y => by
    show X.env.scope.names.lookup y = sc.names.lookup y
    rw [hX.s]
  have b : X.env.blockKind = (envS sc).blockKind := by
    unfold Env.blockKind
    rw [hX.s]; rfl
  unfold swappedStores
  simp only [e, b]
end DL

/-! D30: bodies that return; defs joined. -/
namespace DL
open PySem PySem.Spec PyProof.Rows L2
theorem n_ret (f : M PyData) : ∀ ρ ρ', sRet f ρ ≠ .ok .nx ρ' := fun ρ ρ' h => by
  unfold sRet M.bind at h
  cases z : f ρ with
  | ok d ρ1 => rw [z] at h; cases h
  | exc x ρ1 => rw [z] at h; cases h
  | bad => rw [z] at h; cases h
theorem n_cons (a : M Fl) {b : M Fl} (hb : ∀ ρ ρ', b ρ ≠ .ok .nx ρ') : ∀ ρ ρ', sCons a b ρ ≠ .ok .nx ρ' := fun ρ ρ' h => by
  unfold sCons M.bind at h
  cases z : a ρ with
  | ok fl ρ1 =>
    rw [z] at h
    cases fl with
    | nx => exact hb _ _ h
    | rt d => cases h
    | ct => cases h
  | exc x ρ1 => rw [z] at h; cases h
  | bad => rw [z] at h; cases h
/-- a def's place in a call -/
theorem cal_of {g : GC} {ex : Str → Option Addr} {x : Str} {st : Stmt} {kf : Nat} {pn : List Str} {ps : List Tag} {τ : Tag} {m : FM} {f : Addr} {kV doc pm : Value} {an : Option Addr} {cdv ct : Value}
    (F : FnG g (L2.CX g.P g.w) kf f (PySem.W.fnOf x x (defArgs st) (defBody st) (defScope st) .none kV doc pm an cdv ct) pn (spF g.K ex ps τ m)) (hm : g.mg x = some (.ref f)) (hk : PySem.W.keepIn g.K (.ref f) = true) (hb : Binds g.K (PySem.W.fnOf x x (defArgs st) (defBody st) (defScope st) .none kV doc pm an cdv ct) pn []) :
    Cal g (L2.CX g.P g.w) ex x st kf pn ps τ m := ⟨f, _, F, hm, hk, hb, _, _, _, _, _, _, rfl⟩
end DL

/-! D31: mirrors are run (equations for simp). -/
namespace DL
open PySem PySem.Spec PyProof.Rows L2
@[simp] theorem bind_run {α β : Type} (m : M α) (k : α → M β) (ρ : Env) : (m.bind k) ρ = (m ρ).bind k := rfl
@[simp] theorem ok_bind {α β : Type} (a : α) (ρ : Env) (k : α → M β) : (Res.ok a ρ).bind k = k a ρ := rfl
@[simp] theorem exc_bind {α β : Type} (x : Exn) (ρ : Env) (k : α → M β) : (Res.exc x ρ : Res α).bind k = .exc x ρ := rfl
@[simp] theorem pure_run {α : Type} (a : α) (ρ : Env) : (M.pure a) ρ = .ok a ρ := rfl
@[simp] theorem ofO_some {α : Type} (a : α) (ρ : Env) : ofO (some a) ρ = .ok a ρ := rfl
@[simp] theorem eV_run (i : Nat) (ρ : Env) : eV i ρ = .ok (DL.get ρ i) ρ := rfl
@[simp] theorem eC_run (d : PyData) (ρ : Env) : eC d ρ = .ok d ρ := rfl
@[simp] theorem eOp2_run (f : PyData → PyData → Option PyData) (a b : M PyData) (ρ : Env) : eOp2 f a b ρ = (a ρ).bind fun x => b.bind fun y => ofO (f x y) := rfl
@[simp] theorem eOp1_run (f : PyData → Option PyData) (a : M PyData) (ρ : Env) : eOp1 f a ρ = (a ρ).bind fun x => ofO (f x) := rfl
@[simp] theorem eSlot_run (i : Nat) (f : PyData → PyData → Option PyData) (b : M PyData) (ρ : Env) : eSlot i f b ρ = (b ρ).bind fun y => fun ρ => ofO (f (DL.get ρ i) y) ρ := rfl
@[simp] theorem sCons_run (a b : M Fl) (ρ : Env) : sCons a b ρ = (a ρ).bind fun r => match r with
  | .nx => b
  | r => M.pure r := rfl
@[simp] theorem sSet_run (i : Nat) (f : M PyData) (ρ : Env) : sSet i f ρ = (f ρ).bind fun d => fun ρ => .ok .nx (ρ.set i d) := rfl
@[simp] theorem sRet_run (f : M PyData) (ρ : Env) : sRet f ρ = (f ρ).bind fun d => M.pure (.rt d) := rfl
@[simp] theorem sExp_run (f : M PyData) (ρ : Env) : sExp f ρ = (f ρ).bind fun _ => M.pure .nx := rfl
@[simp] theorem sIf_run (t : M Bool) (a b : M Fl) (ρ : Env) : sIf t a b ρ = (t ρ).bind fun x => if x then a else b := rfl
@[simp] theorem sNil_run (ρ : Env) : sNil ρ = .ok .nx ρ := rfl
@[simp] theorem get_nil (i : Nat) : DL.get [] i = .none := rfl
@[simp] theorem get_zero (d : PyData) (r : Env) : DL.get (d :: r) 0 = d := rfl
@[simp] theorem get_succ (d : PyData) (r : Env) (i : Nat) : DL.get (d :: r) (i + 1) = DL.get r i := rfl
@[simp] theorem eIf_run (t : M Bool) (a b : M PyData) (ρ : Env) : eIf t a b ρ = (t ρ).bind fun x => if x then a else b := rfl
@[simp] theorem tTru_run (f : M PyData) (ρ : Env) : tTru f ρ = (f ρ).bind fun d => match d with
  | .bool b => M.pure b
  | _ => fun _ => .bad := rfl
@[simp] theorem tAndM_run (a b : M Bool) (ρ : Env) : tAndM a b ρ = (a ρ).bind fun x => if x then b else M.pure false := rfl
@[simp] theorem tOrM_run (a b : M Bool) (ρ : Env) : tOrM a b ρ = (a ρ).bind fun x => if x then M.pure true else b := rfl
@[simp] theorem tNotM_run (a : M Bool) (ρ : Env) : tNotM a ρ = (a ρ).bind fun x => M.pure (!x) := rfl
@[simp] theorem aNil_run (ρ : Env) : aNil ρ = .ok [] ρ := rfl
@[simp] theorem aCons_run (a : M PyData) (b : M (List PyData)) (ρ : Env) : aCons a b ρ = (a ρ).bind fun d => b.bind fun ds => M.pure (d :: ds) := rfl
@[simp] theorem aLend_run (b : M (List PyData)) (ρ : Env) : aLend b ρ = (b ρ).bind fun ds => M.pure (.none :: ds) := rfl
theorem ite_cond {α : Type} (b : Bool) (x y : α) : (if b = true then x else y) = cond b x y := by cases b <;> rfl
@[simp] theorem eTup_run (f : M (List PyData)) (ρ : Env) : eTup f ρ = (f ρ).bind fun ds => cond (lenOk ds.length) (M.pure (.tuple ds)) (fun _ => .bad) := by
  simp only [← ite_cond]; rfl
@[simp] theorem eLst_run (f : M (List PyData)) (ρ : Env) : eLst f ρ = (f ρ).bind fun ds => cond (lenOk ds.length) (M.pure (.list ds)) (fun _ => .bad) := by
  simp only [← ite_cond]; rfl
@[simp] theorem eSl_run (f : PyData → Option Int → Option Int → Option PyData) (a : M PyData) (l h : M (Option Int)) (ρ : Env) : eSl f a l h ρ = (a ρ).bind fun x => l.bind fun lo => h.bind fun hi => ofO (f x lo hi) := rfl
@[simp] theorem oNone_run (ρ : Env) : oNone ρ = .ok none ρ := rfl
@[simp] theorem oSome_run (f : M PyData) (ρ : Env) : oSome f ρ = (f ρ).bind fun d => match d with
  | .int i => M.pure (some i)
  | _ => fun _ => .bad := rfl
@[simp] theorem eCall_run (m : FM) (ms : List Md) (a : M (List PyData)) (ρ : Env) : eCall m ms a ρ = (a ρ).bind fun ds => callR m ms ds := rfl
@[simp] theorem eMut_run (i : Nat) (g : PyData → List PyData → Option (PyData × PyData)) (fa : M (List PyData)) (ρ : Env) : eMut i g fa ρ = (fa ρ).bind fun ys => fun ρ => match g (DL.get ρ i) ys with
  | some (d, c) => .ok c (ρ.set i d)
  | none => .bad := rfl
@[simp] theorem sPar2_run (i j : Nat) (fa fb : M PyData) (ρ : Env) : sPar2 i j fa fb ρ = (fa ρ).bind fun d => fb.bind fun e => fun ρ => .ok .nx ((ρ.set i d).set j e) := rfl
@[simp] theorem sPar3_run (i j l : Nat) (fa fb fc : M PyData) (ρ : Env) : sPar3 i j l fa fb fc ρ = (fa ρ).bind fun d => fb.bind fun e => fc.bind fun c => fun ρ => .ok .nx (((ρ.set i d).set j e).set l c) := rfl
@[simp] theorem sAsg_run (f : M PyData) (h : MG) (ρ : Env) : sAsg f h ρ = (f ρ).bind fun d => fun ρ => match h d ρ with
  | some ρ' => .ok .nx ρ'
  | none => .bad := rfl
@[simp] theorem sPut_run (i : Nat) (fe fi : M PyData) (ρ : Env) : sPut i fe fi ρ = (fe ρ).bind fun v => fi.bind fun k => fun ρ => match setD (DL.get ρ i) k v with
  | some d => .ok .nx (ρ.set i d)
  | none => .bad := rfl
@[simp] theorem sFor_run (f : M (List PyData)) (tg : MG) (body : M Fl) (ρ : Env) : sFor f tg body ρ = (f ρ).bind fun ds => forL tg body ds := rfl
theorem lenOk_of {n : Nat} (h : n ≤ 16777216) : lenOk n = true := decide_eq_true h
@[simp] theorem addD_int (i j : Int) : addD (.int i) (.int j) = some (.int (i + j)) := rfl
theorem addD_tuple (xs ys : List PyData) (h : xs.length + ys.length ≤ 16777216) : addD (.tuple xs) (.tuple ys) = some (.tuple (xs ++ ys)) := by
  simp [addD, addI, addT, lenOk_of h]
theorem addD_list (xs ys : List PyData) (h : xs.length + ys.length ≤ 16777216) : addD (.list xs) (.list ys) = some (.list (xs ++ ys)) := by
  simp [addD, addI, addT, addL, lenOk_of h]
@[simp] theorem slA_tuple (ds : List PyData) (lo hi : Option Int) : slA (.tuple ds) lo hi = some (.tuple (cutD ds lo hi)) := rfl
@[simp] theorem slA_list (ds : List PyData) (lo hi : Option Int) : slA (.list ds) lo hi = some (.list (cutD ds lo hi)) := rfl
/-- for: a turn, the end -/
@[simp] theorem forL_nil (tg : MG) (b : M Fl) (ρ : Env) : forL tg b [] ρ = .ok .nx ρ := rfl
theorem forL_cons (tg : MG) (b : M Fl) (d : PyData) (ds : List PyData) {ρ ρ1 ρ2 : Env} (h1 : tg d ρ = some ρ1) (h2 : b ρ1 = .ok .nx ρ2) : forL tg b (d :: ds) ρ = forL tg b ds ρ2 := by
  simp only [forL, h1, h2, Res.bind]
theorem whileN_end (c : M Bool) (b : M Fl) (n : Nat) {ρ ρ1 : Env} (h1 : c ρ = .ok false ρ1) : whileN c b (n + 1) ρ = .ok .nx ρ1 := by
  simp [whileN, bind_run, h1, ok_bind, pure_run]
theorem whileN_turn (c : M Bool) (b : M Fl) (n : Nat) {ρ ρ1 ρ2 : Env} (h1 : c ρ = .ok true ρ1) (h2 : b ρ1 = .ok .nx ρ2) : whileN c b (n + 1) ρ = whileN c b n ρ2 := by
  simp [whileN, bind_run, h1, h2, ok_bind]
@[simp] theorem defM_run (n : Nat) (ps : List Tag) (body : M Fl) (ds : List PyData) : defM n ps body ds = match body (ds ++ List.replicate (n - ds.length) .none) with
  | .ok (.rt d) ρ => .ok d ((ioFrom 0 ps).map (DL.get ρ))
  | .ok .nx ρ => .ok .none ((ioFrom 0 ps).map (DL.get ρ))
  | .ok .ct _ => .bad
  | .exc x ρ => .exc x ((ioFrom 0 ps).map (DL.get ρ))
  | .bad => .bad := rfl
theorem ixA_tuple (ds : List PyData) (i : Int) (d : PyData) (h : atI ds i = some d) : ixA (.tuple ds) (.int i) = some d := by
  simp [ixA, ixD, h]
theorem ixA_list (ds : List PyData) (i : Int) (d : PyData) (h : atI ds i = some d) : ixA (.list ds) (.int i) = some d := by
  simp [ixA, ixD, h]
end DL

/-! D32: what is dead is wiped. -/
namespace DL
open PySem PySem.Spec PyProof.Rows L2
def clr (is : List Nat) (ρ : Env) : Env := is.foldl (fun ρ i => ρ.set i .none) ρ
def sClr (is : List Nat) (m : M Fl) : M Fl := fun ρ => match m ρ with
  | .ok .nx ρ' => .ok .nx (clr is ρ')
  | r => r
def sPre (is : List Nat) (m : M Fl) : M Fl := fun ρ => m (clr is ρ)
def Tag.isUn : Tag → Bool
  | .un => true
  | _ => false
def unAt (T : List Tag) (is : List Nat) : Bool := is.all fun i => match T[i]? with
  | some τ => τ.isUn
  | none => false
theorem clr_length (is : List Nat) : ∀ ρ : Env, (clr is ρ).length = ρ.length := by
  induction is with
  | nil => intro ρ; rfl
  | cons i r ih => intro ρ; show (clr r (ρ.set i .none)).length = _; rw [ih]; simp
theorem get_set_neX (ρ : Env) {i j : Nat} (d : PyData) (h : i ≠ j) : get (ρ.set i d) j = get ρ j := by
  unfold get
  rw [List.getD_eq_getElem?_getD, List.getD_eq_getElem?_getD, List.getElem?_set_ne h]
theorem clr_get (is : List Nat) (j : Nat) (h : j ∉ is) : ∀ ρ : Env, get (clr is ρ) j = get ρ j := by
  induction is with
  | nil => intro ρ; rfl
  | cons i r ih =>
    intro ρ
    show get (clr r (ρ.set i .none)) j = _
    rw [ih (fun e => h (by simp [e])), get_set_neX _ _ (fun e => h (by simp [e]))]
theorem unAt_of {T : List Tag} {is : List Nat} (h : unAt T is = true) {i : Nat} (hi : i ∈ is) : T[i]? = some .un := by
  have e := List.all_eq_true.mp h i hi
  revert e
  cases T[i]? with
  | none => intro e; simp at e
  | some τ =>
    intro e
    cases τ with
    | un => rfl
    | _ => simp [Tag.isUn] at e
theorem St.clr {K : PySem.W.Frag} {B : Bd} {T : List Tag} {ρ : Env} {σ : L2.St} {F : AS} {O : OF} {H : Hp} (S : St K B T ρ σ F O H) {is : List Nat} (h : unAt T is = true) : St K B T (DL.clr is ρ) σ F O H where
  sl := fun i τ e => by
    by_cases hi : i ∈ is
    · rw [unAt_of h hi] at e
      cases e
      exact .inl rfl
    · rw [clr_get is i hi]
      exact S.sl i τ e
  own := S.own
  fo := S.fo
  fh := S.fh
  oh := S.oh
  fr := S.fr
  al := S.al
  tu := S.tu
  f0 := S.f0
  f1 := S.f1
  ios := S.ios
  lenT := S.lenT
  lenR := by rw [clr_length]; exact S.lenR
section
variable {J : Jc} {T T1 T2 : List Tag}
theorem sss_clr_end {st : List Stmt} {f : M Fl} (m : List Bool) (is : List Nat) (hm : m.length = T1.length) (e : mask m T1 = T2) (hu : unAt T2 is = true) (h : SSs J st T T1 f) : SSs J st T T2 (sClr is f) := by
  subst e
  obtain ⟨t, p, c⟩ := h
  refine ⟨t, p, fun B ρ σ F O H D S q => c B ρ σ F O H D S ?_⟩
  unfold sClr at q
  cases z : f ρ with
  | bad => rw [z] at q; exact q
  | exc x ρ' => rw [z] at q; exact q
  | ok fl ρ' =>
    rw [z] at q
    cases fl with
    | rt d => exact q
    | ct => exact q
    | nx => exact fun σ' F' O' H' k s => q σ' F' _ H' k ((s.mask hm).clr hu)
theorem sss_clr {st : List Stmt} {f : M Fl} (m : List Bool) (is : List Nat) (hm : m.length = T.length) {T0 : List Tag} (e : mask m T = T0) (hu : unAt T0 is = true) (h : SSs J st T0 T1 f) : SSs J st T T1 (sPre is f) := by
  subst e
  obtain ⟨t, p, c⟩ := h
  exact ⟨t, p, fun B ρ σ F O H D S q => c B _ σ _ _ H D ((S.mask hm).clr hu) q⟩
end
end DL

/-! D33: own exceptions are made and raised. -/
namespace DL
open PySem PySem.Spec PyProof.Rows L2

/-! ### Base.__init__(self, ..), Base an own class over ValueError that has no __init__ -/
structure UeC (K : PySem.W.Frag) (mg : Str → Option Value) (b : Str) : Prop where
  ex : ∃ (C : Addr) (mc : Value), mg b = some (.ref C) ∧ PySem.W.readsIn K C mc = true ∧ PySem.W.specialIn K (.ref C) "__getattribute__" = some (some (.builtin "type.__getattribute__")) ∧
    PySem.W.findCls K (.ref C) mc "__init__" = some (.val (.builtin "ValueError.__init__"))
theorem pe_ueinit {X : Cx} {b : Str} {e : Expr} {es : List Expr} {ta : TA} {p1 p2 pos : Pos} {pl : Sem Bool} (U : UeC X.K X.mg b) (hg : Gl X b) (hdb : (b == ("__debug__" : Str)) = false) (ha : PA X (e :: es) ta)
    (hc : eval (.Call (.Attribute (.Name b p1) "__init__" p2) (e :: es) [] pos) X.env = (do
      let ov ← eval (.Name b p1) X.env
      standAt p2.atName
      let (f, first) ← holding [ov] (getMethod ov "__init__" pl)
      callWith pos f first (backTo pos (starEach (e :: es) X.env)) (backToKw pos (keywordEach [] X.env))) := by rfl)
    (he : starEach (e :: es) X.env = (false, eval e X.env) :: starEach es X.env := by rfl) (hpl : (backTo pos (starEach es X.env)).any (·.1) = false := by rfl) :
    PE X (.Call (.Attribute (.Name b p1) "__init__" p2) (e :: es) [] pos) (tVeI X.K ta) := by
  obtain ⟨C, mc, hm, hr, hga, hf⟩ := U.ex
  refine ⟨fun pins s σ H Q I h => ?_⟩
  refine PySem.W.methodCall_KW (ld_glob I hg hm ?_ hdb) hc
  refine PySem.W.method_cls I.kIn hga ?_
  refine PySem.W.cls_value I.kIn hr hf (by decide +kernel) ?_
  show wpAny _ _ (callWith pos (Value.builtin "ValueError.__init__") [] (backTo pos (starEach (e :: es) X.env)) []) _ _ _
  refine PyProof.Rows.callWith_method1 (thn (ha.run pos pins _ σ H _ (I.tok _) h) fun us s1 ⟨vs, H1, I1, r1, a, C, ws, ev, hl, T, ea, q⟩ => ?_) he hpl
  subst ev
  cases r1 with
  | @cons _ u0 _ ur ra rw' =>
    obtain rfl : u0 = Value.ref a := ra
    have hlen : ur.length ≤ sizeLine := by
      rw [← Paired.length rw', sizeLine_eq]
      omega
    exact oinit_ok T I1 ea hlen fun s' J => ⟨.non, H1, J, rfl, q⟩

/-! ### __init__'s promise -/
def spI0 (K : PySem.W.Frag) : Sp := fun vs H Q _ => ∃ a C : Addr, vs = [.ref a] ∧ OexC K C ∧ H a = some (exo a C none) ∧ Q .non H
def spI1 (K : PySem.W.Frag) (f : Str) : Sp := fun vs H Q _ => ∃ (a C : Addr) (v : V), vs = [.ref a, v] ∧ OexC K C ∧ PySem.W.findIn K (.ref C) f = some none ∧ H a = some (exo a C none) ∧
  ∀ dx, H dx = none → dx ≠ a → Q .non (upd (upd H dx (exd dx [(f, v)])) a (exo a C (some dx)))
section
variable {g : GC} {q : Str} {st : Stmt} {fI : Addr} {fd : FuncData} {b f par : Str}
theorem init0_ok (Fu : L2.Fun g.K "__init__" q st fI fd) (S : FnScope ["self"] ["self"] (defScope st)) (U : UeC g.K g.mg b) (hdb : (b == ("__debug__" : Str)) = false) (hgl : (defScope st).names.lookup b = some .globalImplicit)
    {p1 p2 p3 p4 p5 p6 : Pos} {m : Str} {c : Nat} (hb : defBody st = [.Expr (.Call (.Attribute (.Name b p1) "__init__" p2) [.Name "self" p3, .Constant (.str m) c p4] [] p5) p6])
    (hv : (defScope st).names.lookup ("self" : Str) = some .local)
    (hbase : ∀ env : PySem.Env, env.scope = defScope st → ∃ pl, eval (.Call (.Attribute (.Name b p1) "__init__" p2) [.Name "self" p3, .Constant (.str m) c p4] [] p5) env = (do
      let ov ← eval (.Name b p1) env
      standAt p2.atName
      let (f, first) ← holding [ov] (getMethod ov "__init__" pl)
      callWith p5 f first (backTo p5 (starEach [.Name "self" p3, .Constant (.str m) c p4] env)) (backToKw p5 (keywordEach [] env)))) :
    FnOk g.P g.w g.K g.mg g.base CX0 1 fI fd ["self"] (spI0 g.K) := by
  refine Fu.ok (N := ["self"]) S (fun vs H Q E h => by obtain ⟨a, C, rfl, _⟩ := h; rfl) fun cdv A outer s H vs Q E hr h => ?_
  obtain ⟨a, C, rfl, T, ha, hq⟩ := h
  rw [hb]
  obtain ⟨pl, hcl⟩ := hbase (cxOf CX0 g.P g.w g.K g.mg g.base ["self"] q (defScope st) fI cdv A outer s H E).nox.env rfl
  refine ⟨_, pss_one (ps_expr (pe_ueinit U hgl hdb (pa_cons (pe_var (i := 0) rfl (.inl hv)) (pa_cons pe_str pa_nil)) hcl)), ?_⟩
  exact ⟨_, rfl, a, C, _, rfl, by simp, T, ha, hq⟩
theorem init1_ok (Fu : L2.Fun g.K "__init__" q st fI fd) (S : FnScope ["self", par] ["self", par] (defScope st)) (U : UeC g.K g.mg b) (hdb : (b == ("__debug__" : Str)) = false) (hgl : (defScope st).names.lookup b = some .globalImplicit)
    {p1 p2 p3 p4 p5 p6 q1 q2 q3 q4 : Pos} {m : Str} {c : Nat} (hb : defBody st = [.Expr (.Call (.Attribute (.Name b p1) "__init__" p2) [.Name "self" p3, .Constant (.str m) c p4] [] p5) p6, .Assign [.Attribute (.Name "self" q1) f q2] (.Name par q3) q4])
    (hv : (defScope st).names.lookup ("self" : Str) = some .local) (hp : (defScope st).names.lookup par = some .local) (hd1 : (par == ("__debug__" : Str)) = false) (hd2 : (par == ("__classdict__" : Str)) = false)
    (hbase : ∀ env : PySem.Env, env.scope = defScope st → ∃ pl, eval (.Call (.Attribute (.Name b p1) "__init__" p2) [.Name "self" p3, .Constant (.str m) c p4] [] p5) env = (do
      let ov ← eval (.Name b p1) env
      standAt p2.atName
      let (f, first) ← holding [ov] (getMethod ov "__init__" pl)
      callWith p5 f first (backTo p5 (starEach [.Name "self" p3, .Constant (.str m) c p4] env)) (backToKw p5 (keywordEach [] env)))) :
    FnOk g.P g.w g.K g.mg g.base CX0 1 fI fd ["self", par] (spI1 g.K f) := by
  refine Fu.ok (N := ["self", par]) S (fun vs H Q E h => by obtain ⟨a, C, v, rfl, _⟩ := h; rfl) fun cdv A outer s H vs Q E hr h => ?_
  obtain ⟨a, C, v, rfl, T, hno, ha, hq⟩ := h
  rw [hb]
  obtain ⟨pl, hcl⟩ := hbase (cxOf CX0 g.P g.w g.K g.mg g.base ["self", par] q (defScope st) fI cdv A outer s H E).nox.env rfl
  refine ⟨_, pss_cons (ps_expr (pe_ueinit U hgl hdb (pa_cons (pe_var (i := 0) rfl (.inl hv)) (pa_cons pe_str pa_nil)) hcl)) (pss_one (ps_ost (pe_var (i := 0) rfl (.inl hv)) (pe_var (i := 1) rfl (.inl hp) hd1 hd2))), ?_⟩
  refine ⟨_, rfl, a, C, _, rfl, by simp, T, ha, ?_⟩
  exact ⟨_, rfl, _, rfl, a, C, rfl, T, hno, .inl ⟨ha, hq⟩⟩
end

/-! ### C(..) -/
theorem mk_endN {X : Cx} {pins : List (Addr × Obj)} {σ : L2.St} {H1 H2 : Hp} {Q : XK} {hp hp2 h2 : Heap} {g1 g2 : Array GenState} {d1 d2 : Drawn} {t1 t2 : Nat} {os1 os2 : OsState} {a C : Addr} (T : Raises X (.ref C)) (I1 : Inv X pins σ H1 ⟨hp, g1, d1, t1, os1⟩)
    (ha : hp.objs.size ≤ a) (k : ∀ b o, hp.get? b = some o → hp2.get? b = some o) (un : Un (frs X.stack) [] (upd H1 a (exo a C none)) H2 hp2 h2) (hok : HOk X.prog X.w H2 h2) (ho : os2 = os1) (hb : AllBare g2)
    (ea : H2 a = some (exo a C none)) (q : Q (.ref C) none (del H2 a)) : MkP X pins σ Q (.ref a) ⟨h2, g2, d2, t2, os2⟩ := by
  obtain ⟨t0, hoe⟩ := exo_at hok ea
  have hn : H1 a = none := I1.hok.fresh ha
  obtain ⟨G, g1', g2'⟩ := restrict h2 fun b => decide (b ≠ a)
  have gk : ∀ b, b ≠ a → G.get? b = h2.get? b := fun b hb => g1' b (decide_eq_true hb)
  have ge : G.get? a = none := g2' a (by simp)
  have nha : ∀ {b : Addr} {o : Obj}, hp.get? b = some o → b ≠ a := fun {b o} z => Nat.ne_of_lt (Nat.lt_of_lt_of_le (Heap.lt_size z) ha)
  have up : ∀ {b : Addr}, b ≠ a → H1 b = none → upd H1 a (exo a C none) b = none := fun {b} hb n => by rw [upd_ne hb]; exact n
  have U : Un (frs X.stack) [] H1 (del H2 a) hp G := {
    keep := fun b o z n hf hx => by
      rw [gk b (nha z)]
      exact un.keep b o (k b o z) (up (nha z) n) hf hx
    slot := fun b o z n hf hx => by
      rw [gk b (nha z)]
      exact un.slot b o (k b o z) (up (nha z) n) hf hx
    free := fun b o z n hx => by
      rw [del_ne (nha z)]
      exact un.free b o (k b o z) (up (nha z) n) hx
    there := fun b o z hx => by
      rw [gk b (nha z)]
      exact un.there b o (k b o z) hx
    tups := fun b xs z => by
      rw [del_ne (ne_of_none z hn)]
      exact un.tups b xs (by rw [upd_ne (ne_of_none z hn)]; exact z)
    frzs := fun b o v z => by
      rw [del_ne (ne_of_none z hn)]
      exact un.frzs b o v (by rw [upd_ne (ne_of_none z hn)]; exact z)
    tbls := fun b ps z => by
      rw [del_ne (ne_of_none z hn)]
      exact un.tbls b ps (by rw [upd_ne (ne_of_none z hn)]; exact z) }
  have hok3 : HOk X.prog X.w (del H2 a) G := fun b o z => by
    have hba : b ≠ a := fun e => by
      rw [e, del_same] at z
      cases z
    rw [del_ne hba] at z
    have noa : ∀ {c : Addr}, H2 c = some (.own b) → c ≠ a := fun {c} hc => at_ne ea hc exo_own
    exact (hok b o z).stay (fun c v hc y => by
        have hca : c ≠ a := by
          rcases hc with hc | hc
          · rw [hc]
            exact hba
          · exact noa hc
        rw [gk c hca]
        exact y)
      (fun c hc => by rw [del_ne (noa hc)]; exact hc) (fun c xs hc => by rw [del_ne (at_ne ea hc exo_tup)]; exact hc)
  have J : Inv X pins σ (del H2 a) ⟨G, g2, d2, t2, os2⟩ := I1.call' (ch := []) ho U hok3 hb (fun b z => absurd z (by simp))
  have kG : ∀ b o, G.get? b = some o → h2.get? b = some o := fun b o z => by
    by_cases hba : b = a
    · rw [hba, ge] at z
      cases z
    · exact (gk b hba).symm.trans z
  exact ⟨a, _, _, ⟨G, g2, d2, t2, os2⟩, _, .ref C, none, rfl, J, kG, ge, hoe, ⟨rfl, rfl⟩, rfl, rfl, del_same, rfl, hb, T, q⟩
/-- C(e, ..), C's own __init__ keeping sp -/
def tMkE (C : Addr) (sp : Sp) (ta : TA) : L2.St → Hp → XK → Prop := fun σ H Q => ta σ H fun vs H1 => vs.length ≤ 1000 ∧ ∀ a, H1 a = none → sp (.ref a :: vs) (upd H1 a (exo a C none))
  (fun v H2 => v = .non ∧ ((H2 a = some (exo a C none) ∧ Q (.ref C) none (del H2 a)) ∨ ∃ (d : Addr) (fs : List (Str × V)), H2 a = some (exo a C (some d)) ∧ H2 d = some (exd d fs) ∧ H1 d = none ∧ Q (.ref C) (some d) (upd (del H2 a) d (.xd fs)))) (fun _ _ _ => False)
theorem made_ok {X : Cx} {C fI : Addr} {k : Nat} {fd : FuncData} {ps : List Str} {sp : Sp} {pins : List (Addr × Obj)} {σ : L2.St} {H1 : Hp} {s1 : Shared} {us : List Value} {vs : List V} {Q : XK} (T : OexC X.K C)
    (iC : PySem.W.findIn X.K (.ref C) "__init__" = some (some (.ref fI))) (tI : PySem.W.typeIn X.K (.ref fI) = some (.type "function")) (F1 : FnOk X.prog X.w X.K X.mg X.base CX0 k fI fd ps sp) (hr : Room (k + 1) X.A) (hb : Binds X.K fd ps [])
    (I1 : Inv X pins σ H1 s1) (r1 : Vals vs us) (hz : vs.length ≤ 1000) (q1 : ∀ a, H1 a = none → sp (.ref a :: vs) (upd H1 a (exo a C none))
      (fun v H2 => v = .non ∧ ((H2 a = some (exo a C none) ∧ Q (.ref C) none (del H2 a)) ∨ ∃ (d : Addr) (fs : List (Str × V)), H2 a = some (exo a C (some d)) ∧ H2 d = some (exd d fs) ∧ H1 d = none ∧ Q (.ref C) (some d) (upd (del H2 a) d (.xd fs)))) (fun _ _ _ => False)) :
    wpAny (model X.prog X.w) X.A (call (.ref C) us) (MkP X pins σ Q) X.xe s1 := by
  obtain ⟨nm, q, N, bs, bm, sn, sub, ab, col, dd, k0, k1, k2, k3, k5, hC, hbm⟩ := T.cls
  obtain ⟨hp, g, dr, tk, os⟩ := s1
  have hsz : hp.objs.size ≤ hp.objs.size + 1 := Nat.le_succ _
  have hn : H1 (hp.objs.size + 1) = none := I1.hok.fresh hsz
  have hq := q1 (hp.objs.size + 1) hn
  have kk : ∀ b o, hp.get? b = some o → ((hp.push (PySem.W.kdv_tup us)).push (PySem.HandSPX.excO C hp.objs.size)).get? b = some o := fun b o e => Heap.get?_push_of_some _ (Heap.get?_push_of_some _ e)
  have hget : ((hp.push (PySem.W.kdv_tup us)).push (PySem.HandSPX.excO C hp.objs.size)).get? (hp.objs.size + 1) = some (PySem.HandSPX.excO C hp.objs.size) := by heap_get
  have I2 : Inv X pins σ (upd H1 (hp.objs.size + 1) (exo (hp.objs.size + 1) C none)) ⟨(hp.push (PySem.W.kdv_tup us)).push (PySem.HandSPX.excO C hp.objs.size), g, dr, tk, os⟩ :=
    I1.laid (t' := tk) (a := hp.objs.size + 1) (o := exo (hp.objs.size + 1) C none) (h' := (hp.push (PySem.W.kdv_tup us)).push (PySem.HandSPX.excO C hp.objs.size)) kk hsz (exo_ok hget)
  have r2 : Vals (V.ref (hp.objs.size + 1) :: vs) (Value.ref (hp.objs.size + 1) :: us) := .cons rfl r1
  have hl : (Value.ref (hp.objs.size + 1) :: us).length = ps.length := by
    have e := r2.length
    rw [F1.len _ _ _ _ hq] at e
    exact e.symm
  have hus : us.length ≤ sizeLine := by
    rw [← Paired.length r1, sizeLine_eq]
    omega
  refine wpAny_call (PySem.HandSPX.call_own F.excBase_ValueError (fun Y => PySem.HandSPX.refsVE_contains Y bm hbm) (I1.kIn _ _ hC) (PySem.W.looks_findIn I1.kIn iC) (fun self => PySem.W.bind_fn I1.kIn self tI) hus
    (codeAny_mono (F1.run _ X.stack _ _ ⟨Value.ref (hp.objs.size + 1) :: us, []⟩ (Value.ref (hp.objs.size + 1) :: us) _ _ (fun _ _ _ => False) (hr.make C us []) (I2.env0.make C us []) (by simpa using hb _ (Value.ref (hp.objs.size + 1) :: us) I2.kIn (by simpa using hl)) r2 hq) fun r s' hq' => ?_))
  cases r with
  | error er => exact hq'.elim
  | ok fl =>
    cases fl with
    | ret u =>
      obtain ⟨v, H2, os2, bare2, un2, hok2, rv, ev, q2⟩ := hq'
      subst ev
      obtain ⟨h2, g2, d2, t2, os'⟩ := s'
      refine ⟨rv, ?_⟩
      rcases q2 with ⟨ea, q2⟩ | ⟨d, fs, ea, ed, hd1, q2⟩
      · exact mk_endN (raises_own T.exC T.tyC) I1 hsz kk un2 hok2 os2 bare2 ea q2
      · exact mk_end (raises_own T.exC T.tyC) I1 hsz kk un2 hok2 os2 bare2 ea ed hd1 q2
    | next => exact False.elim hq'
    | brk => exact False.elim hq'
    | cont => exact False.elim hq'
end DL

/-! D34: raise. -/
namespace DL
open PySem PySem.Spec PyProof.Rows L2
/-- an own exception class: X() or X(e), which keeps e under f -/
structure Ecl (g : GC) (ex : Str → Option Addr) (x : Str) (fs : List Str) : Prop where
  ok : ∃ (C fI : Addr) (fd : FuncData), ex x = some C ∧ g.mg x = some (.ref C) ∧ OexC g.K C ∧ PySem.W.findIn g.K (.ref C) "__init__" = some (some (.ref fI)) ∧ PySem.W.typeIn g.K (.ref fI) = some (.type "function") ∧
    ((fs = [] ∧ FnOk g.P g.w g.K g.mg g.base CX0 1 fI fd ["self"] (spI0 g.K) ∧ Binds g.K fd ["self"] []) ∨
     ∃ f par, fs = [f] ∧ PySem.W.findIn g.K (.ref C) f = some none ∧ FnOk g.P g.w g.K g.mg g.base CX0 1 fI fd ["self", par] (spI1 g.K f) ∧ Binds g.K fd ["self", par] [])
def sRaise (x : Str) (fs : List Str) (fa : M (List PyData)) : M Fl := fa.bind fun ds ρ => .exc ⟨x, fs.zip ds⟩ ρ
theorem del_upd {H : Hp} {a : Addr} {o : HO} (h : H a = none) : del (upd H a o) a = H := by
  funext b
  unfold del
  by_cases e : b = a
  · rw [if_pos e, e, h]
  · rw [if_neg e, upd_ne e]
theorem del_upd2 {H : Hp} {a d : Addr} {o1 o2 o3 o4 : HO} (h : H a = none) (hd : d ≠ a) : upd (del (upd (upd (upd H a o1) d o2) a o3) a) d o4 = upd H d o4 := by
  funext b
  by_cases e : b = d
  · rw [e, upd_same, upd_same]
  · rw [upd_ne e, upd_ne e]
    unfold del
    by_cases ea : b = a
    · rw [if_pos ea, ea, h]
    · rw [if_neg ea, upd_ne ea, upd_ne e, upd_ne ea]
theorem Grow.newF {F : AS} {H : Hp} {p : Addr} {o : HO} (h : H p = none) : Grow F H (fun a => F a ∨ a = p) (upd H p o) :=
  ⟨fun _ z => .inl z, fun a u z => by rw [upd_ne (ne_of_none z h)]; exact z, fun a z => z.elim .inl fun e => .inr (by subst e; exact ⟨h, by rw [upd_same]; simp⟩)⟩
section
variable {g : GC} {J : Jc} {N : List Str} {sc : Scope} {fc : Str → Bool} {k : Nat} {t : Tab} {T T1 T2 : List Tag}
theorem ss_raise0 (hX : XOk g J.X N sc fc k) (ht : t.ok N sc fc = true) (tk : L2.Takes J.X J.W) {x : Str} (E : Ecl g J.ex x []) (hk : 2 ≤ k) {j : Nat} (hj : t.gl[j]? = some x) {p p2 pos : Pos}
    (b : List Bool) (hb : b.length = T.length) (hTh : mask b T = J.Th) : SS J (.Raise (some (.Call (.Name x p) [] [] p2)) none pos) T T1 (sRaise x [] aNil) := by
  obtain ⟨C, fI, fd, hex, hm, T0, iC, tI, hc⟩ := E.ok
  obtain ⟨F1, hbd⟩ : FnOk g.P g.w g.K g.mg g.base CX0 1 fI fd ["self"] (spI0 g.K) ∧ Binds g.K fd ["self"] [] := by
    rcases hc with ⟨_, h1, h2⟩ | ⟨f, par, h, _⟩
    · exact ⟨h1, h2⟩
    · cases h
  obtain ⟨g1, g2, _⟩ := hX.gl ht hj
  rw [← hX.kk] at T0 iC tI
  have pm : PMk J.X (.Call (.Name x p) [] [] p2) (tMkE C (spI0 J.X.K) tNil) := by
    intro pins s σ H Q I h
    refine wpAny_Call_Name_kw (ld_glob I g1 (by rw [hX.mg]; exact hm) ?_ g2)
    refine PySem.W.callWith_K0 I.kIn T0.kC ?_
    exact made_ok T0 iC tI (by rw [hX.pr, hX.w, hX.kk, hX.mg, hX.bs]; exact F1) (hX.hr.mono hk) (by rw [hX.kk]; exact hbd) I .nil h.1 h.2
  refine ⟨_, ps_raise hX.c tk pm, fun B ρ σ F O H D S q => ?_⟩
  refine ⟨by simp, fun a ha => ⟨a, C, rfl, T0, by rw [upd_same], rfl, .inl ⟨by rw [upd_same], ?_⟩⟩⟩
  rw [del_upd ha]
  have S2 := St.mask S (m := b) hb
  rw [hTh] at S2
  exact q (.ref C) none σ F _ H (.refl F H) S2 ⟨C, hex, rfl, .inl rfl⟩
theorem ss_raise1 (hX : XOk g J.X N sc fc k) (ht : t.ok N sc fc = true) (tk : L2.Takes J.X J.W) {x f : Str} (E : Ecl g J.ex x [f]) (hk : 2 ≤ k) {j : Nat} (hj : t.gl[j]? = some x) {p p2 pos : Pos} {e : Expr} {fa : M (List PyData)}
    (ha : SA J [e] [.val] T T1 fa) (hs : isStar e = false) (b : List Bool) (hb : b.length = T1.length) (hTh : mask b T1 = J.Th) : SS J (.Raise (some (.Call (.Name x p) [e] [] p2)) none pos) T T2 (sRaise x [f] fa) := by
  obtain ⟨C, fI, fd, hex, hm, T0, iC, tI, hc⟩ := E.ok
  obtain ⟨par, hno, F1, hbd⟩ : ∃ par, PySem.W.findIn g.K (.ref C) f = some none ∧ FnOk g.P g.w g.K g.mg g.base CX0 1 fI fd ["self", par] (spI1 g.K f) ∧ Binds g.K fd ["self", par] [] := by
    rcases hc with ⟨h, _⟩ | ⟨f', par, h, h0, h1, h2⟩
    · cases h
    · cases h
      exact ⟨par, h0, h1, h2⟩
  obtain ⟨g1, g2, _⟩ := hX.gl ht hj
  obtain ⟨ta, pa, ca⟩ := ha
  rw [← hX.kk] at T0 iC tI hno
  have pm : PMk J.X (.Call (.Name x p) [e] [] p2) (tMkE C (spI1 J.X.K f) ta) := by
    intro pins s σ H Q I h
    refine wpAny_Call_Name_kw (ld_glob I g1 (by rw [hX.mg]; exact hm) ?_ g2)
    refine PySem.W.callWith_K (h₀ := J.X.base) I.ok.mod.kin T0.kC (thn (pa.run p2 pins s σ H _ I h) fun us s1 ⟨vs, H1, I1, r, hz, q1⟩ => ⟨I1.kIn, ?_⟩) (starEach_cons hs) (backTo_plain rfl)
    exact made_ok T0 iC tI (by rw [hX.pr, hX.w, hX.kk, hX.mg, hX.bs]; exact F1) (hX.hr.mono hk) (by rw [hX.kk]; exact hbd) I1 r hz q1
  refine ⟨_, ps_raise hX.c tk pm, fun B ρ σ F O H D S q => ?_⟩
  refine ca B ρ σ F O H _ S (PostS.bind S q fun ds ρ1 F1 O1 H1 e1 S1 q1 => fun vs ok => ?_)
  obtain ⟨d, v, rfl, rfl, r⟩ : ∃ d v, ds = [d] ∧ vs = [v] ∧ R J.X.K F1 H1 d v := by
    cases ok with
    | val r ok => cases ok; exact ⟨_, _, rfl, rfl, r⟩
  refine ⟨by simp, fun a ha => ⟨a, C, v, rfl, T0, hno, by rw [upd_same], fun dx hdx hda => ⟨rfl, .inr ⟨dx, [(f, v)], by rw [upd_same], by rw [upd_ne hda, upd_same], ?_, ?_⟩⟩⟩⟩
  · rw [upd_ne hda] at hdx; exact hdx
  · rw [upd_ne hda] at hdx
    rw [del_upd2 ha hda]
    have S2 := St.mask S1 (m := b) hb
    rw [hTh] at S2
    have G := Grow.newF (F := F1) (o := .xd [(f, v)]) hdx
    have K' : Keep F1 H1 (fun a => F1 a ∨ a = dx) (upd H1 dx (.xd [(f, v)])) := G.keep
    refine q1 (.ref C) (some dx) σ _ _ _ K' (S2.grow G) ⟨C, hex, rfl, .inr ⟨dx, [(f, v)], rfl, upd_same, .inr rfl, rfl, ?_⟩⟩
    exact .cons (R.keep K' d v r) .nil
end
end DL

/-! D35: classes of the top, the law's promise. -/
namespace DL
open PySem PySem.Spec PyProof.Rows L2
/-- where a module's name points -/
def exOf (mg : Str → Option Value) : Str → Option Addr := fun x => match mg x with
  | some (.ref a) => some a
  | _ => none
theorem exOf_ref {mg : Str → Option Value} {x : Str} {a : Addr} (h : mg x = some (.ref a)) : exOf mg x = some a := by
  unfold exOf; rw [h]
/-- a def in a class's body -/
def inCls : Stmt → Nat → Stmt
  | .ClassDef _ _ _ b _ _ _ _ _ _ p, j => b.getD j (.Pass p)
  | s, _ => s
theorem ue_of {g : GC} {b : Str} {C : Addr} {mc : Value} (hm : g.mg b = some (.ref C)) (h1 : PySem.W.readsIn g.K C mc = true) (h2 : PySem.W.specialIn g.K (.ref C) "__getattribute__" = some (some (.builtin "type.__getattribute__")))
    (h3 : PySem.W.findCls g.K (.ref C) mc "__init__" = some (.val (.builtin "ValueError.__init__"))) : UeC g.K g.mg b := ⟨C, mc, hm, h1, h2, h3⟩
theorem oex_of {K : PySem.W.Frag} {C N : Addr} {nm q : Str} {bs bm : List Value} {sn : List Str} {sub : List Value} {ab : Bool} {col : Option Bool} {dd : Option Addr} {m0 m1 m2 m3 m5 : Option Value}
    (xL : K.lookup C = some (excClassObj nm q C N bs bm true sn sub ab col dd m0 m1 m2 m3 m5 "ValueError.__new__")) (hr : PySem.HandSPX.refsVE bm = true) (sa : PySem.W.findIn K (.ref C) "__setattr__" = some (some (.builtin "object.__setattr__")))
    (eC : PySem.W.subIn K (.ref C) (.type "BaseException") = some true) (tC : PySem.W.typeIn K (.ref C) = some (.type "type")) (kC : PySem.W.keepIn K (.ref C) = true) : OexC K C :=
  ⟨⟨nm, q, N, bs, bm, sn, sub, ab, col, dd, m0, m1, m2, m3, m5, xL, hr⟩, sa, eC, tC, kC⟩
theorem ecl0 {g : GC} {x : Str} {C fI : Addr} {fd : FuncData} (hm : g.mg x = some (.ref C)) (T : OexC g.K C) (iC : PySem.W.findIn g.K (.ref C) "__init__" = some (some (.ref fI))) (tI : PySem.W.typeIn g.K (.ref fI) = some (.type "function"))
    (F : FnOk g.P g.w g.K g.mg g.base CX0 1 fI fd ["self"] (spI0 g.K)) (b : Binds g.K fd ["self"] []) : Ecl g (exOf g.mg) x [] := ⟨C, fI, fd, exOf_ref hm, hm, T, iC, tI, .inl ⟨rfl, F, b⟩⟩
theorem ecl1 {g : GC} {x f par : Str} {C fI : Addr} {fd : FuncData} (hm : g.mg x = some (.ref C)) (T : OexC g.K C) (iC : PySem.W.findIn g.K (.ref C) "__init__" = some (some (.ref fI))) (tI : PySem.W.typeIn g.K (.ref fI) = some (.type "function"))
    (hno : PySem.W.findIn g.K (.ref C) f = some none) (F : FnOk g.P g.w g.K g.mg g.base CX0 1 fI fd ["self", par] (spI1 g.K f)) (b : Binds g.K fd ["self", par] []) : Ecl g (exOf g.mg) x [f] := ⟨C, fI, fd, exOf_ref hm, hm, T, iC, tI, .inr ⟨f, par, rfl, hno, F, b⟩⟩
def spK (K : PySem.W.Frag) (ps : List Tag) (τ : Tag) (m : FM) : Sp := fun vs H Q _ => vs.length = ps.length ∧ ∃ (ds : List PyData) (F : AS) (O : OF), ds.length = ps.length ∧
  (∀ (i : Nat) τi, ps[i]? = some τi → ∃ v, vs[i]? = some v ∧ VR K F H (fun a => O a = some i) (get ds i) v τi) ∧
  (∀ a (i : Nat), O a = some i → ∃ κ, ps[i]? = some (Tag.io κ)) ∧ (∀ a, F a → O a = none) ∧ (∀ a, F a → H a ≠ none) ∧
  ∃ d ios, m ds = .ok d ios ∧ ∀ v F' O' H' P ρ', FB K ps F O H vs F' O' H' ρ' → ios = (ioFrom 0 ps).map (get ρ') → VR K F' H' P d v τ → (∀ a, P a → ¬ F' a ∧ O' a = none ∧ H' a ≠ none ∧ H a = none) → Q v H'
theorem FnG.imp {g : GC} {cx : CXT} {k : Nat} {f : Addr} {fd : FuncData} {pn : List Str} {sp sp' : Sp} (F : FnG g cx k f fd pn sp) (h : ∀ vs H Q E, sp' vs H Q E → sp vs H Q E) : FnG g cx k f fd pn sp' :=
  ⟨fun vs H Q E q => F.len vs H Q E (h _ _ _ _ q), fun A outer s H args us vs Q E hr hg he hb hv hs => F.run A outer s H args us vs Q E hr hg he hb hv (h _ _ _ _ hs)⟩
theorem fn_law {g : GC} {ex : Str → Option Addr} {k : Nat} {f : Addr} {fd : FuncData} {pn : List Str} {ps : List Tag} {τ : Tag} {m : FM} (F : FnG g (L2.CX g.P g.w) k f fd pn (spF g.K ex ps τ m)) : FnG g (L2.CX g.P g.w) k f fd pn (spK g.K ps τ m) :=
  F.imp fun vs H Q E ⟨h1, ds, F', O, h2, h3, h4, h5, h6, d, ios, hm, q⟩ => ⟨h1, ds, F', O, h2, h3, h4, h5, h6, by rw [hm]; exact q⟩
theorem law_spK {K : PySem.W.Frag} {m : FM} {n : Nat} (h : ∀ ns : List Int, ns.length ≤ n → ∃ ios, m [.list (ns.map .int)] = .ok (.bool true) ios) {H : Hp} {a : Addr} {ns : List Int} (hl : ns.length ≤ n) (hO : Only H) (hS : SqL K H a (ns.map V.int)) :
    spK K [.fz] .fz m [.ref a] H (fun v _ => v = .bl true) fun _ _ _ => False := by
  obtain ⟨ios, hm⟩ := h ns hl
  have hR : ∃ F : AS, R K F H (.list (ns.map .int)) (.ref a) ∧ ∀ b, F b → H b ≠ none := by
    rcases hS with hS | hS
    · refine ⟨fun b => b = a, .lst rfl hS (RAll.ints ns), fun b e => ?_⟩
      subst e
      rcases hS with z | ⟨o, z⟩ <;> (rw [z]; simp)
    · exact ⟨fun _ => False, .lstK hS (RAll.ints ns), fun b z => z.elim⟩
  obtain ⟨F, hR, hF⟩ := hR
  refine ⟨rfl, [.list (ns.map .int)], F, fun _ => none, rfl, fun i τ e => ?_, fun b i e => (by cases e), fun _ _ => rfl, hF, .bool true, ios, hm, ?_⟩
  · cases i with
    | zero =>
      simp at e
      subst e
      exact ⟨_, rfl, hR, fun b z => by cases z⟩
    | succ i => simp at e
  · intro v F' O' H' P ρ' fb hi vr l
    exact R.boolS vr.1
end DL

/-! R1: mirrors are run. -/
namespace DL
open PySem PySem.Spec PyProof.Rows L2
def WpR {α : Type} (r : Res α) (Q : α → Env → Prop) (E : Exn → Env → Prop) : Prop := match r with
  | .ok a ρ => Q a ρ
  | .exc x ρ => E x ρ
  | .bad => False
structure Wp {α : Type} (r : Res α) (Q : α → Env → Prop) (E : Exn → Env → Prop) : Prop where
  h : WpR r Q E
abbrev NoE : Exn → Env → Prop := fun _ _ => False
def FWR (r : FR) (Q : PyData → List PyData → Prop) (E : Exn → List PyData → Prop) : Prop := match r with
  | .ok a ρ => Q a ρ
  | .exc x ρ => E x ρ
  | .bad => False
structure FW (r : FR) (Q : PyData → List PyData → Prop) (E : Exn → List PyData → Prop) : Prop where
  h : FWR r Q E
theorem Res.bind_cg {α β : Type} {m m' : Res α} {k : α → M β} (h : m = m') : m.bind k = m'.bind k := by rw [h]
theorem Wp_cg {α : Type} {r r' : Res α} {Q : α → Env → Prop} {E : Exn → Env → Prop} (h : r = r') : Wp r Q E = Wp r' Q E := by rw [h]
theorem Wp_ok {α : Type} {a : α} {ρ : Env} {Q : α → Env → Prop} {E : Exn → Env → Prop} : Wp (.ok a ρ) Q E = Q a ρ := propext ⟨fun z => z.h, fun z => ⟨z⟩⟩
theorem Wp_exc {α : Type} {x : Exn} {ρ : Env} {Q : α → Env → Prop} {E : Exn → Env → Prop} : Wp (.exc x ρ) Q E = E x ρ := propext ⟨fun z => z.h, fun z => ⟨z⟩⟩
theorem Wp.bind {α β : Type} {r : Res α} {k : α → M β} {Q : β → Env → Prop} {E : Exn → Env → Prop} (h : Wp r (fun a ρ => Wp (k a ρ) Q E) E) : Wp (r.bind k) Q E := by
  cases r with
  | ok a ρ => exact h.h
  | exc x ρ => exact ⟨h.h⟩
  | bad => exact h.h.elim
theorem Wp.mono {α : Type} {r : Res α} {Q Q' : α → Env → Prop} {E E' : Exn → Env → Prop} (h : Wp r Q E) (q : ∀ a ρ, Q a ρ → Q' a ρ) (e : ∀ x ρ, E x ρ → E' x ρ) : Wp r Q' E' := by
  cases r with
  | ok a ρ => exact ⟨q _ _ h.h⟩
  | exc x ρ => exact ⟨e _ _ h.h⟩
  | bad => exact h.h.elim
theorem FW.mono {r : FR} {Q Q' : PyData → List PyData → Prop} {E E' : Exn → List PyData → Prop} (h : FW r Q E) (q : ∀ a ρ, Q a ρ → Q' a ρ) (e : ∀ x ρ, E x ρ → E' x ρ) : FW r Q' E' := by
  cases r with
  | ok a ρ => exact ⟨q _ _ h.h⟩
  | exc x ρ => exact ⟨e _ _ h.h⟩
  | bad => exact h.h.elim
/-! ### heads of matches, named -/
def seqF (r : Fl) (b : M Fl) : M Fl := match r with
  | .nx => b
  | r => M.pure r
def truM (d : PyData) : M Bool := match d with
  | .bool b => M.pure b
  | _ => fun _ => .bad
def someM (d : PyData) : M (Option Int) := match d with
  | .int i => M.pure (some i)
  | _ => fun _ => .bad
def andM (d : PyData) (b : M PyData) : M PyData := match d with
  | .bool true => b
  | .bool false => M.pure (.bool false)
  | _ => fun _ => .bad
def orM (d : PyData) (b : M PyData) : M PyData := match d with
  | .bool true => M.pure (.bool true)
  | .bool false => b
  | _ => fun _ => .bad
def stE (o : Option Env) : Res Fl := match o with
  | some ρ => .ok .nx ρ
  | none => .bad
def muE (i : Nat) (o : Option (PyData × PyData)) (ρ : Env) : Res PyData := match o with
  | some (d, c) => .ok c (ρ.set i d)
  | none => .bad
def frE (ms : List Md) (ρ : Env) : FR → Res PyData
  | .ok d ios => .ok d (putB ms ios ρ)
  | .exc x ios => .exc x (putB ms ios ρ)
  | .bad => .bad
def cnd {α : Type} (x : Bool) (a b : M α) : M α := if x then a else b
def clrR (is : List Nat) : Res Fl → Res Fl
  | .ok .nx ρ' => .ok .nx (clr is ρ')
  | r => r
def noCtR : Res Fl → Res Fl
  | .ok .ct _ => .bad
  | r => r
def rtF (r : Fl) (b : M Fl) : M Fl := match r with
  | .rt x => M.pure (.rt x)
  | _ => b
def rgE (ds : List PyData) : M (List PyData) := match ds with
  | [.int n] => if smallI n then M.pure (rangeD 0 n) else fun _ => .bad
  | [.int lo, .int hi] => if smallI lo && smallI hi then M.pure (rangeD lo hi) else fun _ => .bad
  | _ => fun _ => .bad
def enE (ds : List PyData) : M (List PyData) := match ds with
  | [.list xs] => M.pure (enumL 0 xs)
  | [.tuple xs] => M.pure (enumL 0 xs)
  | _ => fun _ => .bad
def zpE (ds : List PyData) : M (List PyData) := match ds with
  | [.list xs, .list ys] => M.pure (zipL xs ys)
  | [.tuple xs, .tuple ys] => M.pure (zipL xs ys)
  | _ => fun _ => .bad
def rg1E (d : PyData) : M PyData := match d with
  | .int n => if rgOk 0 n then M.pure (.list (rangeD 0 n)) else fun _ => .bad
  | _ => fun _ => .bad
def rg2E (d e : PyData) : M PyData := match d, e with
  | .int m, .int n => if rgOk m n then M.pure (.list (rangeD m n)) else fun _ => .bad
  | _, _ => fun _ => .bad
def lcE (own : List Nat) (ρ1 : Env) : Res (List PyData) → Res PyData
  | .ok ys ρ2 => .ok (.list ys) (restore own ρ1 ρ2)
  | _ => .bad
def gSome (o : Option Env) (b : MGs) (r : List PyData) : Option Env := o.bind (b r)
def frOf (ps : List Tag) : Res Fl → FR
  | .ok (.rt d) ρ => .ok d ((ioFrom 0 ps).map (DL.get ρ))
  | .ok .nx ρ => .ok .none ((ioFrom 0 ps).map (DL.get ρ))
  | .ok .ct _ => .bad
  | .exc x ρ => .exc x ((ioFrom 0 ps).map (DL.get ρ))
  | .bad => .bad
theorem defM_fr (n : Nat) (ps : List Tag) (body : M Fl) (ds : List PyData) : defM n ps body ds = frOf ps (body (ds ++ List.replicate (n - ds.length) .none)) := by
  unfold defM frOf
  cases body (ds ++ List.replicate (n - ds.length) .none) with
  | ok fl ρ => cases fl <;> rfl
  | exc x ρ => rfl
  | bad => rfl
/-- what binds, runs -/
theorem run1 :
  (∀ {α β : Type} (m : M α) (k : α → M β) (ρ : Env), (M.bind m k) ρ = (m ρ).bind k) ∧
  (∀ {α β : Type} (a : α) (ρ : Env) (k : α → M β), (Res.ok a ρ).bind k = k a ρ) ∧
  (∀ {α β : Type} (x : Exn) (ρ : Env) (k : α → M β), (Res.exc x ρ : Res α).bind k = .exc x ρ) ∧
  (∀ {α β γ : Type} (m : Res α) (k : α → M β) (k' : β → M γ), (m.bind k).bind k' = m.bind fun a ρ => (k a ρ).bind k') ∧
  (∀ {α : Type} (a : α) (ρ : Env), (M.pure a) ρ = .ok a ρ) ∧
  (∀ {α : Type} (a : α) (ρ : Env), ofO (some a) ρ = .ok a ρ) ∧
  (∀ (i : Nat) (ρ : Env), eV i ρ = .ok (DL.get ρ i) ρ) ∧
  (∀ (d : PyData) (ρ : Env), eC d ρ = .ok d ρ) ∧
  (∀ (f : PyData → PyData → Option PyData) (a b : M PyData) (ρ : Env), eOp2 f a b ρ = (a ρ).bind fun x => fun ρ => (b ρ).bind fun y => ofO (f x y)) ∧
  (∀ (f : PyData → Option PyData) (a : M PyData) (ρ : Env), eOp1 f a ρ = (a ρ).bind fun x => ofO (f x)) ∧
  (∀ (f : List PyData → Option PyData) (a : M (List PyData)) (ρ : Env), eOpL f a ρ = (a ρ).bind fun x => ofO (f x)) ∧
  (∀ (i : Nat) (f : PyData → PyData → Option PyData) (b : M PyData) (ρ : Env), eSlot i f b ρ = (b ρ).bind fun y => fun ρ => ofO (f (DL.get ρ i) y) ρ) ∧
  (∀ (t : M Bool) (a b : M PyData) (ρ : Env), eIf t a b ρ = (t ρ).bind fun x => cnd x a b) ∧
  (∀ (t : M Bool) (ρ : Env), eTst t ρ = (t ρ).bind fun x => M.pure (.bool x)) ∧
  (∀ (a b : M PyData) (ρ : Env), eAndV a b ρ = (a ρ).bind fun d => andM d b) ∧
  (∀ (a b : M PyData) (ρ : Env), eOrV a b ρ = (a ρ).bind fun d => orM d b) ∧
  (∀ (f : M (List PyData)) (ρ : Env), eTup f ρ = (f ρ).bind fun ds => cnd (lenOk ds.length) (M.pure (.tuple ds)) (fun _ => .bad)) ∧
  (∀ (f : M (List PyData)) (ρ : Env), eLst f ρ = (f ρ).bind fun ds => cnd (lenOk ds.length) (M.pure (.list ds)) (fun _ => .bad)) ∧
  (∀ (f : PyData → Option Int → Option Int → Option PyData) (a : M PyData) (l h : M (Option Int)) (ρ : Env), eSl f a l h ρ = (a ρ).bind fun x => fun ρ => (l ρ).bind fun lo => fun ρ => (h ρ).bind fun hi => ofO (f x lo hi)) ∧
  (∀ (ρ : Env), oNone ρ = .ok none ρ) ∧
  (∀ (f : M PyData) (ρ : Env), oSome f ρ = (f ρ).bind someM) ∧
  (∀ (ρ : Env), aNil ρ = .ok [] ρ) ∧
  (∀ (a : M PyData) (b : M (List PyData)) (ρ : Env), aCons a b ρ = (a ρ).bind fun d => fun ρ => (b ρ).bind fun ds => M.pure (d :: ds)) ∧
  (∀ (b : M (List PyData)) (ρ : Env), aLend b ρ = (b ρ).bind fun ds => M.pure (.none :: ds)) ∧
  (∀ (m : FM) (ms : List Md) (a : M (List PyData)) (ρ : Env), eCall m ms a ρ = (a ρ).bind fun ds => fun ρ => frE ms ρ (m (fill ms ds ρ))) ∧
  (∀ (m : FM) (perm : List Nat) (a : M (List PyData)) (ρ : Env), eCallK m perm a ρ = (a ρ).bind fun ds => fun ρ => frE (List.replicate perm.length .val) ρ (m (fill (List.replicate perm.length .val) (perm.map fun i => DL.get ds i) ρ))) ∧
  (∀ (i : Nat) (g : PyData → List PyData → Option (PyData × PyData)) (fa : M (List PyData)) (ρ : Env), eMut i g fa ρ = (fa ρ).bind fun ys => fun ρ => muE i (g (DL.get ρ i) ys) ρ) ∧
  (∀ (p : PyData → Bool) (fk fv : M PyData) (ρ : Env), eDisp1 p fk fv ρ = (fk ρ).bind fun c => fun ρ => (fv ρ).bind fun v => cnd (p c) (M.pure (.dict [(c, v)])) (fun _ => .bad)) ∧
  (∀ (a : M PyData) (ρ : Env), eRg1 a ρ = (a ρ).bind rg1E) ∧
  (∀ (a b : M PyData) (ρ : Env), eRg2 a b ρ = (a ρ).bind fun d => fun ρ => (b ρ).bind fun e => rg2E d e) ∧
  (∀ (f : M (List PyData)) (own : List Nat) (tg : MG) (test : M Bool) (elt : M PyData) (ρ : Env), eLc f own tg test elt ρ = (f ρ).bind fun ds ρ1 => cnd (lenOk ds.length) (fun ρ1 => lcE own ρ1 (lcL tg test elt ds ρ1)) (fun _ => .bad) ρ1) := by
  refine ⟨fun _ _ _ => rfl, fun _ _ _ => rfl, fun _ _ _ => rfl, ?_, fun _ _ => rfl, fun _ _ => rfl, fun _ _ => rfl, fun _ _ => rfl, fun _ _ _ _ => rfl, fun _ _ _ => rfl, fun _ _ _ => rfl, fun _ _ _ _ => rfl, fun _ _ _ _ => rfl, fun _ _ => rfl,
    fun _ _ _ => rfl, fun _ _ _ => rfl, fun _ _ => rfl, fun _ _ => rfl, fun _ _ _ _ _ => rfl, fun _ => rfl, fun _ _ => rfl, fun _ => rfl, fun _ _ _ => rfl, fun _ _ => rfl, ?_, ?_, ?_, fun _ _ _ _ => rfl, fun _ _ => rfl, fun _ _ _ => rfl, ?_⟩
  · intro α β γ m k k'
    cases m <;> rfl
  · exact fun _ _ _ _ => rfl
  · exact fun _ _ _ _ => rfl
  · intro i g fa ρ
    show (fa ρ).bind _ = (fa ρ).bind _
    congr 1
  · intro f own tg test elt ρ
    show (f ρ).bind _ = (f ρ).bind _
    congr 1
    funext ds ρ1
    by_cases h : lenOk ds.length = true
    · simp only [cnd, h, if_true]
      show _ = lcE own ρ1 (lcL tg test elt ds ρ1)
      cases lcL tg test elt ds ρ1 <;> rfl
    · simp only [cnd, h]
      rfl
theorem run2 :
  (∀ (f : M PyData) (ρ : Env), tTru f ρ = (f ρ).bind truM) ∧
  (∀ (a b : M Bool) (ρ : Env), tAndM a b ρ = (a ρ).bind fun x => cnd x b (M.pure false)) ∧
  (∀ (a b : M Bool) (ρ : Env), tOrM a b ρ = (a ρ).bind fun x => cnd x (M.pure true) b) ∧
  (∀ (a : M Bool) (ρ : Env), tNotM a ρ = (a ρ).bind fun x => M.pure (!x)) ∧
  (∀ (ρ : Env), tYesM ρ = .ok true ρ) ∧
  (∀ (ρ : Env), sNil ρ = .ok .nx ρ) ∧
  (∀ (ρ : Env), sCt ρ = .ok .ct ρ) ∧
  (∀ (a b : M Fl) (ρ : Env), sCons a b ρ = (a ρ).bind fun r => seqF r b) ∧
  (∀ (i : Nat) (f : M PyData) (ρ : Env), sSet i f ρ = (f ρ).bind fun d => fun ρ => .ok .nx (ρ.set i d)) ∧
  (∀ (f : M PyData) (ρ : Env), sRet f ρ = (f ρ).bind fun d => M.pure (.rt d)) ∧
  (∀ (f : M PyData) (ρ : Env), sExp f ρ = (f ρ).bind fun _ => M.pure .nx) ∧
  (∀ (t : M Bool) (a b : M Fl) (ρ : Env), sIf t a b ρ = (t ρ).bind fun x => cnd x a b) ∧
  (∀ (i j : Nat) (fa fb : M PyData) (ρ : Env), sPar2 i j fa fb ρ = (fa ρ).bind fun d => fun ρ => (fb ρ).bind fun e => fun ρ => .ok .nx ((ρ.set i d).set j e)) ∧
  (∀ (i j l : Nat) (fa fb fc : M PyData) (ρ : Env), sPar3 i j l fa fb fc ρ = (fa ρ).bind fun d => fun ρ => (fb ρ).bind fun e => fun ρ => (fc ρ).bind fun c => fun ρ => .ok .nx (((ρ.set i d).set j e).set l c)) ∧
  (∀ (f : M PyData) (h : MG) (ρ : Env), sAsg f h ρ = (f ρ).bind fun d => fun ρ => stE (h d ρ)) ∧
  (∀ (i : Nat) (fe fi : M PyData) (ρ : Env), sPut i fe fi ρ = (fe ρ).bind fun v => fun ρ => (fi ρ).bind fun k => fun ρ => stE ((setD (DL.get ρ i) k v).map fun d => ρ.set i d)) ∧
  (∀ (f : M (List PyData)) (tg : MG) (body : M Fl) (ρ : Env), sFor f tg body ρ = (f ρ).bind fun ds => forL tg body ds) ∧
  (∀ (c : M Bool) (b : M Fl) (ρ : Env), sWhile c b ρ = whileN c b fuel ρ) ∧
  (∀ (is : List Nat) (b : M Fl) (ρ : Env), sClr is b ρ = clrR is (b ρ)) ∧
  (∀ (is : List Nat) (b : M Fl) (ρ : Env), sPre is b ρ = b (clr is ρ)) ∧
  (∀ (b : M Fl) (ρ : Env), noCt b ρ = noCtR (b ρ)) ∧
  (∀ (f : M PyData) (ρ : Env), iSeq f ρ = (f ρ).bind fun d => ofO (asSeq d)) ∧
  (∀ (f : M (List PyData)) (ρ : Env), iR f ρ = (f ρ).bind rgE) ∧
  (∀ (f : M (List PyData)) (ρ : Env), iEn f ρ = (f ρ).bind enE) ∧
  (∀ (f : M (List PyData)) (ρ : Env), iZp f ρ = (f ρ).bind zpE) ∧
  (∀ (ρ : Env), stE (some ρ) = .ok .nx ρ) ∧
  (∀ (i : Nat) (d c : PyData) (ρ : Env), muE i (some (d, c)) ρ = .ok c (ρ.set i d)) ∧
  (∀ (ms : List Md) (ρ : Env) (d : PyData) (ios : List PyData), frE ms ρ (.ok d ios) = .ok d (putB ms ios ρ)) ∧
  (∀ (ms : List Md) (ρ : Env) (d : Exn) (ios : List PyData), frE ms ρ (.exc d ios) = .exc d (putB ms ios ρ)) ∧
  (∀ (b : M Fl), seqF .nx b = b) ∧
  (∀ (b : M Fl) (d : PyData), seqF (.rt d) b = M.pure (.rt d)) ∧
  (∀ (b : M Fl), seqF .ct b = M.pure .ct) ∧
  (∀ (b : M Fl), rtF .nx b = b) ∧
  (∀ (b : M Fl) (d : PyData), rtF (.rt d) b = M.pure (.rt d)) ∧
  (∀ (b : Bool), truM (.bool b) = M.pure b) ∧
  (∀ (i : Int), someM (.int i) = M.pure (some i)) ∧
  (∀ (b : M PyData), andM (.bool true) b = b) ∧
  (∀ (b : M PyData), andM (.bool false) b = M.pure (.bool false)) ∧
  (∀ (b : M PyData), orM (.bool true) b = M.pure (.bool true)) ∧
  (∀ (b : M PyData), orM (.bool false) b = b) ∧
  (∀ {α : Type} (a b : M α), cnd true a b = a) ∧
  (∀ {α : Type} (a b : M α), cnd false a b = b) ∧
  (∀ (is : List Nat) (ρ : Env), clrR is (.ok .nx ρ) = .ok .nx (clr is ρ)) ∧
  (∀ (is : List Nat) (ρ : Env) (d : PyData), clrR is (.ok (.rt d) ρ) = .ok (.rt d) ρ) ∧
  (∀ (is : List Nat) (ρ : Env) (x : Exn), clrR is (.exc x ρ) = .exc x ρ) ∧
  (∀ (ρ : Env), noCtR (.ok .nx ρ) = .ok .nx ρ) ∧
  (∀ (ρ : Env) (d : PyData), noCtR (.ok (.rt d) ρ) = .ok (.rt d) ρ) ∧
  (∀ (ρ : Env) (x : Exn), noCtR (.exc x ρ) = .exc x ρ) ∧
  (∀ (ds : List PyData), asSeq (.list ds) = some ds) ∧
  (∀ (ds : List PyData), asSeq (.tuple ds) = some ds) ∧
  (∀ (xs : List PyData), enE [.list xs] = M.pure (enumL 0 xs)) ∧
  (∀ (xs : List PyData), enE [.tuple xs] = M.pure (enumL 0 xs)) ∧
  (∀ (xs ys : List PyData), zpE [.list xs, .list ys] = M.pure (zipL xs ys)) ∧
  (∀ (xs ys : List PyData), zpE [.tuple xs, .tuple ys] = M.pure (zipL xs ys)) ∧
  (∀ (i : Nat) (d : PyData) (ρ : Env), gSet i d ρ = some (ρ.set i d)) ∧
  (∀ (ρ : Env), gsNil [] ρ = some ρ) ∧
  (∀ (a : MG) (b : MGs) (d : PyData) (r : List PyData) (ρ : Env), gsCons a b (d :: r) ρ = gSome (a d ρ) b r) ∧
  (∀ (b : MGs) (r : List PyData) (ρ : Env), gSome (some ρ) b r = b r ρ) ∧
  (∀ (d e : PyData) (a : MGs) (ρ : Env), gTupM 2 a (.tuple [d, e]) ρ = a [d, e] ρ) ∧
  (∀ (d e c : PyData) (a : MGs) (ρ : Env), gTupM 3 a (.tuple [d, e, c]) ρ = a [d, e, c] ρ) ∧
  (∀ (ρ : Env) (d : PyData), List.set (d :: ρ) 0 = fun c => c :: ρ) ∧
  (∀ (ρ : Env) (d c : PyData) (i : Nat), List.set (d :: ρ) (i + 1) c = d :: ρ.set i c) ∧
  (∀ (d : PyData) (r : Env), DL.get (d :: r) 0 = d) ∧
  (∀ (d : PyData) (r : Env) (i : Nat), DL.get (d :: r) (i + 1) = DL.get r i) ∧
  (∀ (ρ : Env), clr [] ρ = ρ) ∧
  (∀ (i : Nat) (is : List Nat) (ρ : Env), clr (i :: is) ρ = clr is (ρ.set i .none)) ∧
  (∀ (ms : List Md) (d : PyData) (ds : List PyData) (ρ : Env), fill (.val :: ms) (d :: ds) ρ = d :: fill ms ds ρ) ∧
  (∀ (j : Nat) (ms : List Md) (d : PyData) (ds : List PyData) (ρ : Env), fill (.lend j :: ms) (d :: ds) ρ = DL.get ρ j :: fill ms ds ρ) ∧
  (∀ (ρ : Env), fill [] [] ρ = []) ∧
  (∀ (ms : List Md) (ios : List PyData) (ρ : Env), putB (.val :: ms) ios ρ = putB ms ios ρ) ∧
  (∀ (j : Nat) (ms : List Md) (x : PyData) (ios : List PyData) (ρ : Env), putB (.lend j :: ms) (x :: ios) ρ = putB ms ios (ρ.set j x)) ∧
  (∀ (ios : List PyData) (ρ : Env), putB [] ios ρ = ρ) := by
  refine ⟨fun _ _ => rfl, fun _ _ _ => rfl, fun _ _ _ => rfl, fun _ _ => rfl, fun _ => rfl, fun _ => rfl, fun _ => rfl, fun _ _ _ => rfl, fun _ _ _ => rfl, fun _ _ => rfl, fun _ _ => rfl, fun _ _ _ _ => rfl, fun _ _ _ _ _ => rfl, fun _ _ _ _ _ _ _ => rfl, fun _ _ _ => rfl, ?_, fun _ _ _ _ => rfl, fun _ _ _ => rfl, ?_, fun _ _ _ => rfl, ?_,
    fun _ _ => rfl, fun _ _ => rfl, fun _ _ => rfl, fun _ _ => rfl, fun _ => rfl, fun _ _ _ _ => rfl, fun _ _ _ _ => rfl, fun _ _ _ _ => rfl, fun _ => rfl, fun _ _ => rfl, fun _ => rfl, fun _ => rfl, fun _ _ => rfl, fun _ => rfl, fun _ => rfl, fun _ => rfl, fun _ => rfl, fun _ => rfl, fun _ => rfl, fun _ _ => rfl, fun _ _ => rfl, fun _ _ => rfl, fun _ _ _ => rfl, fun _ _ _ => rfl, fun _ => rfl, fun _ _ => rfl, fun _ _ => rfl, fun _ => rfl, fun _ => rfl, fun _ => rfl, fun _ => rfl, fun _ _ => rfl, fun _ _ => rfl,
    fun _ _ _ => rfl, fun _ => rfl, fun _ _ _ _ _ => rfl, fun _ _ _ => rfl, fun _ _ _ _ => rfl, fun _ _ _ _ _ => rfl, fun _ _ => rfl, fun _ _ _ _ => rfl, fun _ _ => rfl, fun _ _ _ => rfl, fun _ => rfl, fun _ _ _ => rfl, fun _ _ _ _ => rfl, fun _ _ _ _ _ => rfl, fun _ => rfl, fun _ _ _ => rfl, fun _ _ _ _ _ => rfl, fun _ _ => rfl⟩
  · intro i fe fi ρ
    show (fe ρ).bind _ = (fe ρ).bind _
    congr 1
    funext v ρ
    show (fi ρ).bind _ = (fi ρ).bind _
    congr 1
    funext k ρ
    cases setD (DL.get ρ i) k v <;> rfl
  · intro is b ρ
    show sClr is b ρ = _
    unfold sClr clrR
    cases b ρ with
    | ok fl ρ' => cases fl <;> rfl
    | exc x ρ' => rfl
    | bad => rfl
  · intro b ρ
    unfold noCt noCtR
    cases b ρ with
    | ok fl ρ' => cases fl <;> rfl
    | exc x ρ' => rfl
    | bad => rfl
end DL

/-! R2: operations on data, read as equations. -/
namespace DL
open PySem PySem.Spec PyProof.Rows L2
theorem lenOk_le {n : Nat} (h : n ≤ 16777216) : lenOk n = true := lenOk_of h
/-! ### places -/
theorem ixN_nat' {n a : Nat} (h : a < n) : ixN n (a : Int) = some a := by
  unfold ixN
  rw [if_pos (by omega), if_pos (by omega)]
  simp
theorem atI_nat' {α : Type} (xs : List α) (i : Nat) : atI xs (i : Int) = xs[i]? := by
  unfold atI
  by_cases h : i < xs.length
  · rw [ixN_nat' h]; rfl
  · have e : ixN xs.length (i : Int) = none := by
      unfold ixN
      rw [if_pos (by omega), if_neg (by omega)]
    rw [e, List.getElem?_eq_none (by omega)]; rfl
theorem atI_last {α : Type} (xs : List α) : atI xs (-1) = xs.getLast? := by
  unfold atI ixN
  rw [if_neg (by omega)]
  cases xs with
  | nil => simp
  | cons x r =>
    rw [if_pos (by simp; omega)]
    simp only [List.length_cons, Option.bind_some, List.getLast?_eq_getElem?]
    congr 1
    omega
theorem ixT (ds : List PyData) (i : Nat) : ixA (.tuple ds) (.int (i : Int)) = ds[i]? := by
  show (atI ds (i : Int)).or none = _
  rw [atI_nat', Option.or_none]
theorem ixL (ds : List PyData) (i : Nat) : ixA (.list ds) (.int (i : Int)) = ds[i]? := by
  show (atI ds (i : Int)).or none = _
  rw [atI_nat', Option.or_none]
theorem ixT_last (ds : List PyData) : ixA (.tuple ds) (.int (-1)) = ds.getLast? := by
  show (atI ds (-1)).or none = _
  rw [atI_last, Option.or_none]
theorem ixL_last (ds : List PyData) : ixA (.list ds) (.int (-1)) = ds.getLast? := by
  show (atI ds (-1)).or none = _
  rw [atI_last, Option.or_none]
theorem ixT0 (a : PyData) (r : List PyData) : ixA (.tuple (a :: r)) (.int 0) = some a := ixT (a :: r) 0
theorem ixT1 (a b : PyData) (r : List PyData) : ixA (.tuple (a :: b :: r)) (.int 1) = some b := ixT (a :: b :: r) 1
theorem ixT2 (a b c : PyData) (r : List PyData) : ixA (.tuple (a :: b :: c :: r)) (.int 2) = some c := ixT (a :: b :: c :: r) 2
theorem ixT3 (a b c d : PyData) (r : List PyData) : ixA (.tuple (a :: b :: c :: d :: r)) (.int 3) = some d := ixT (a :: b :: c :: d :: r) 3
theorem ixL0 (a : PyData) (r : List PyData) : ixA (.list (a :: r)) (.int 0) = some a := ixL (a :: r) 0
theorem ixL1 (a b : PyData) (r : List PyData) : ixA (.list (a :: b :: r)) (.int 1) = some b := ixL (a :: b :: r) 1
theorem ixL2 (a b c : PyData) (r : List PyData) : ixA (.list (a :: b :: c :: r)) (.int 2) = some c := ixL (a :: b :: c :: r) 2
/-! ### cuts -/
theorem cutD_take {α : Type} (ss : List α) (k : Nat) : cutD ss none (some (k : Int)) = ss.take k := by
  unfold cutD
  rw [HT.sIx_none, HT.sIx_nat]
  simp only [Nat.sub_zero, List.drop_zero]
  by_cases h : k ≤ ss.length
  · rw [Nat.min_eq_left h]
  · rw [Nat.min_eq_right (by omega), List.take_of_length_le (by omega), List.take_of_length_le (by omega)]
theorem cutD_drop {α : Type} (ss : List α) (k : Nat) : cutD ss (some (k : Int)) none = ss.drop k := by
  unfold cutD
  rw [HT.sIx_none, HT.sIx_nat]
  by_cases h : k ≤ ss.length
  · rw [Nat.min_eq_left h, ← List.length_drop]
    exact List.take_length
  · rw [Nat.min_eq_right (by omega)]
    simp [List.drop_eq_nil_of_le (Nat.le_of_lt (Nat.lt_of_not_le h))]
/-! ### ints -/
theorem dInts :
  (∀ i j : Int, addD (.int i) (.int j) = some (.int (i + j))) ∧ (∀ i j : Int, subD (.int i) (.int j) = some (.int (i - j))) ∧ (∀ i : Int, negD (.int i) = some (.int (-i))) ∧
  (∀ i j : Int, ltI (.int i) (.int j) = some (.bool (decide (i < j)))) ∧ (∀ i j : Int, leI (.int i) (.int j) = some (.bool (decide (i ≤ j)))) ∧
  (∀ i j : Int, gtI (.int i) (.int j) = some (.bool (decide (j < i)))) ∧ (∀ i j : Int, geI (.int i) (.int j) = some (.bool (decide (j ≤ i)))) ∧
  (∀ i j : Int, eqD (.int i) (.int j) = some (.bool (decide (i = j)))) ∧ (∀ i j : Int, neD (.int i) (.int j) = some (.bool (!decide (i = j)))) ∧
  (∀ i : Int, intD (.int i) = some (.int i)) ∧ (∀ b : Bool, intD (.bool b) = some (.int (if b = true then 1 else 0))) ∧
  (∀ i j : Int, min2D (.int i) (.int j) = some (.int (if j < i then j else i))) ∧ (∀ i j : Int, max2D (.int i) (.int j) = some (.int (if j > i then j else i))) ∧
  (∀ d : PyData, isD d .none = some (.bool (isNone d))) ∧ (∀ d : PyData, isNotD d .none = some (.bool (!isNone d))) ∧
  (isNone .none = true) ∧ (∀ i : Int, isNone (.int i) = false) ∧ (∀ ds, isNone (.tuple ds) = false) ∧ (∀ ds, isNone (.list ds) = false) ∧ (∀ ds, isNone (.dict ds) = false) ∧
  (∀ b : Bool, isNone (.bool b) = false) ∧ (∀ x : Str, isNone (.str x) = false) ∧
  (∀ ds : List PyData, lenD (.list ds) = some (.int ds.length)) ∧ (∀ ds : List PyData, lenD (.tuple ds) = some (.int ds.length)) ∧ (∀ kvs : List (PyData × PyData), lenD (.dict kvs) = some (.int kvs.length)) ∧
  (∀ ds : List PyData, tupD (.list ds) = some (.tuple ds)) ∧ (∀ ds : List PyData, tupD (.tuple ds) = some (.tuple ds)) ∧
  (∀ ds : List PyData, listD (.list ds) = some (.list ds)) ∧ (∀ ds : List PyData, listD (.tuple ds) = some (.list ds)) ∧ (∀ kvs : List (PyData × PyData), listD (.dict kvs) = some (.list (kvs.map (·.1)))) ∧
  (∀ (ds : List PyData) (lo hi : Option Int), slA (.tuple ds) lo hi = some (.tuple (cutD ds lo hi))) ∧ (∀ (ds : List PyData) (lo hi : Option Int), slA (.list ds) lo hi = some (.list (cutD ds lo hi))) ∧
  (∀ ds : List PyData, revL (.list ds) = some (.list ds.reverse)) := by
  refine ⟨fun _ _ => rfl, fun _ _ => rfl, fun _ => rfl, fun _ _ => rfl, fun _ _ => rfl, fun _ _ => rfl, fun _ _ => rfl, ?_, ?_, fun _ => rfl, fun _ => rfl, fun _ _ => rfl, fun _ _ => rfl, fun _ => rfl, fun _ => rfl, rfl, fun _ => rfl, fun _ => rfl, fun _ => rfl, fun _ => rfl, fun _ => rfl, fun _ => rfl,
    fun _ => rfl, fun _ => rfl, fun _ => rfl, fun _ => rfl, fun _ => rfl, fun _ => rfl, fun _ => rfl, fun _ => rfl, fun _ _ _ => rfl, fun _ _ _ => rfl, fun _ => rfl⟩
  · intro i j
    simp only [eqD, SeqAt.shaped, PyData.canLay0, PyData.depth, PyData.eqv, Bool.true_and, Nat.zero_le, decide_true, Bool.and_self, if_true]
    rfl
  · intro i j
    simp only [neD, SeqAt.shaped, PyData.canLay0, PyData.depth, PyData.eqv, Bool.true_and, Nat.zero_le, decide_true, Bool.and_self, if_true]
    rfl
theorem modD_int {i j : Int} (h : j ≠ 0) : modD (.int i) (.int j) = some (.int (i.fmod j)) := by simp [modD, h]
theorem fdivD_int {i j : Int} (h : j ≠ 0) (h2 : j.natAbs < 1073741824) : fdivD (.int i) (.int j) = some (.int (i.fdiv j)) := by simp [fdivD, divOk, h, h2]
theorem mulI_l {i j : Int} (h1 : -18446744073709551616 < i) (h2 : i < 18446744073709551616) : mulI (.int i) (.int j) = some (.int (i * j)) := by simp [mulI, mulOk, h1, h2]
theorem mulI_r {i j : Int} (h1 : -18446744073709551616 < j) (h2 : j < 18446744073709551616) : mulI (.int i) (.int j) = some (.int (i * j)) := by simp [mulI, mulOk, h1, h2]
theorem addT' (xs ys : List PyData) (h : xs.length + ys.length ≤ 16777216) : addD (.tuple xs) (.tuple ys) = some (.tuple (xs ++ ys)) := addD_tuple xs ys h
theorem addL' (xs ys : List PyData) (h : xs.length + ys.length ≤ 16777216) : addD (.list xs) (.list ys) = some (.list (xs ++ ys)) := addD_list xs ys h
/-! ### lists that grow -/
theorem muAppend' (ds : List PyData) (d : PyData) (h : ds.length + 1 ≤ 16777216) : muAppend (.list ds) [d] = some (.list (ds ++ [d]), .none) := by
  simp only [muAppend, lenOk_le h, if_true]
theorem muPop' (ds : List PyData) (d : PyData) : muPop (.list (ds ++ [d])) [] = some (.list ds, d) := by
  simp [muPop]
theorem seqIndex_nat {i n : Nat} (h : i < n) : seqIndex? (i : Int) n = some i := (ixN_seq (ixN_nat' h)).1
theorem muPopAt' (ds : List PyData) (i : Nat) (d : PyData) (h : ds[i]? = some d) (hl : ds.length ≤ 16777216) : muPopAt (.list ds) [.int (i : Int)] = some (.list (ds.eraseIdx i), d) := by
  have hi : i < ds.length := (List.getElem?_eq_some_iff.mp h).1
  have h1 : (decide (-9223372036854775808 ≤ (i : Int)) && decide ((i : Int) < 9223372036854775808)) = true := by
    simp only [Bool.and_eq_true, decide_eq_true_eq]; omega
  simp only [muPopAt, h1, if_true, seqIndex_nat hi, Option.bind_some, h, Option.map_some]
theorem setL' (ds : List PyData) (i : Nat) (v : PyData) (h : i < ds.length) : setD (.list ds) (.int (i : Int)) v = some (.list (ds.set i v)) := by
  simp only [setD, ixN_nat' h, Option.map_some]
theorem rep1 (d : PyData) (n : Nat) (h : n ≤ 16777216) : repL (.list [d]) (.int n) = some (.list (List.replicate n d)) := by
  have h1 : repOk 1 (n : Int) = true := by
    simp only [repOk, Bool.and_eq_true, decide_eq_true_eq]
    exact ⟨⟨by omega, by omega⟩, lenOk_le (by omega)⟩
  have h2 : ∀ k : Nat, (List.replicate k [d]).flatten = List.replicate k d := by
    intro k
    induction k with
    | zero => rfl
    | succ k ih => simp only [List.replicate_succ, List.flatten_cons, ih, List.singleton_append]
  simp only [repL, List.length_singleton, h1, if_true, Int.toNat_natCast, h2]
theorem rangeD_nat (n : Nat) : rangeD 0 (n : Int) = (List.range n).map fun i => .int ((i : Nat) : Int) := by
  simp [rangeD]
theorem rangeD_nats (m n : Nat) (h : m ≤ n) : rangeD (m : Int) (n : Int) = (List.range (n - m)).map fun i => .int (((m + i : Nat)) : Int) := by
  unfold rangeD
  rw [show ((n : Int) - (m : Int)).toNat = n - m by omega]
  apply List.map_congr_left
  intro a _
  simp
theorem smallI_of {i : Int} (h1 : -4611686018427387904 ≤ i) (h2 : i < 4611686018427387904) : smallI i = true := by simp [smallI, h1, h2]
theorem rgE1 (n : Nat) (h : n ≤ 16777216) : rgE [.int (n : Int)] = M.pure ((List.range n).map fun i => .int ((i : Nat) : Int)) := by
  have e := smallI_of (i := (n : Int)) (by omega) (by omega)
  simp only [rgE, e, if_true, rangeD_nat]
theorem rgE2 (m n : Nat) (h : n ≤ 16777216) (h2 : m ≤ n) : rgE [.int (m : Int), .int (n : Int)] = M.pure ((List.range (n - m)).map fun i => .int (((m + i : Nat)) : Int)) := by
  have e := smallI_of (i := (n : Int)) (by omega) (by omega)
  have e2 := smallI_of (i := (m : Int)) (by omega) (by omega)
  simp only [rgE, e, e2, Bool.and_self, if_true, rangeD_nats m n h2]
theorem rg1E1 (n : Nat) (h : n ≤ 16777216) : rg1E (.int (n : Int)) = M.pure (.list ((List.range n).map fun i => .int ((i : Nat) : Int))) := by
  have h1 : rgOk 0 (n : Int) = true := by
    simp only [rgOk, Bool.and_eq_true, decide_eq_true_eq]
    exact ⟨⟨smallI_of (by omega) (by omega), smallI_of (by omega) (by omega)⟩, by omega⟩
  simp only [rg1E, h1, if_true, rangeD_nat]
end DL

/-! R3: typed data: what ==, in, dicts tell. -/
namespace DL
open PySem PySem.Spec PyProof.Rows L2
/-! data without truth values and dicts -/
mutual
def nb : PyData → Bool
  | .none => true
  | .int _ => true
  | .str x => PyData.strOk x
  | .list ds => nbs ds
  | .tuple ds => nbs ds
  | _ => false
def nbs : List PyData → Bool
  | [] => true
  | d :: ds => nb d && nbs ds
end
mutual
theorem nb_eqv : ∀ d e : PyData, nb d = true → nb e = true → (PyData.eqv d e = true ↔ d = e)
  | .none, e, _, h2 => by cases e <;> simp [PyData.eqv]
  | .int i, e, _, h2 => by
    cases e with
    | int j => simp [PyData.eqv]
    | bool b => simp [nb] at h2
    | _ => simp [PyData.eqv]
  | .str i, e, _, h2 => by
    cases e with
    | str j => simp [PyData.eqv]
    | _ => simp [PyData.eqv]
  | .list ds, e, h1, h2 => by
    cases e with
    | list es =>
      simp only [PyData.eqv, PyData.list.injEq]
      exact nbs_eqv ds es (by simpa [nb] using h1) (by simpa [nb] using h2)
    | _ => simp [PyData.eqv]
  | .tuple ds, e, h1, h2 => by
    cases e with
    | tuple es =>
      simp only [PyData.eqv, PyData.tuple.injEq]
      exact nbs_eqv ds es (by simpa [nb] using h1) (by simpa [nb] using h2)
    | _ => simp [PyData.eqv]
  | .bool b, _, h1, _ => by simp [nb] at h1
  | .dict b, _, h1, _ => by simp [nb] at h1
theorem nbs_eqv : ∀ ds es : List PyData, nbs ds = true → nbs es = true → (PyData.eqvAll ds es = true ↔ ds = es)
  | [], [], _, _ => by simp [PyData.eqvAll]
  | [], _ :: _, _, _ => by simp [PyData.eqvAll]
  | _ :: _, [], _, _ => by simp [PyData.eqvAll]
  | d :: ds, e :: es, h1, h2 => by
    simp only [nbs, Bool.and_eq_true] at h1 h2
    simp only [PyData.eqvAll, Bool.and_eq_true, List.cons.injEq]
    exact and_congr (nb_eqv d e h1.1 h2.1) (nbs_eqv ds es h1.2 h2.2)
end
mutual
theorem nb_lay : ∀ d : PyData, nb d = true → d.canLay0 = true
  | .none, _ => rfl
  | .int _, _ => rfl
  | .str x, h => by simpa [nb, PyData.canLay0] using h
  | .list ds, h => by simpa [PyData.canLay0] using nbs_lay ds (by simpa [nb] using h)
  | .tuple ds, h => by simpa [PyData.canLay0] using nbs_lay ds (by simpa [nb] using h)
  | .bool b, h => by simp [nb] at h
  | .dict b, h => by simp [nb] at h
theorem nbs_lay : ∀ ds : List PyData, nbs ds = true → PyData.canLayAll0 ds = true
  | [], _ => rfl
  | d :: ds, h => by
    simp only [nbs, Bool.and_eq_true] at h
    simp only [PyData.canLayAll0, Bool.and_eq_true]
    exact ⟨nb_lay d h.1, nbs_lay ds h.2⟩
end
theorem nbs_map {α : Type} {f : α → PyData} (h : ∀ a, nb (f a) = true) : ∀ xs : List α, nbs (xs.map f) = true
  | [] => rfl
  | x :: xs => by simp [nbs, h x, nbs_map h xs]
theorem depths_map {α : Type} {f : α → PyData} {k : Nat} (h : ∀ a, (f a).depth ≤ k) : ∀ xs : List α, PyData.depthAll (xs.map f) ≤ k
  | [] => Nat.zero_le _
  | x :: xs => by
    simp only [List.map_cons, PyData.depthAll]
    exact Nat.max_le.mpr ⟨h x, depths_map h xs⟩
theorem shaped_nb {d : PyData} (h : nb d = true) (k : d.depth ≤ 64) : SeqAt.shaped d = true := by
  simp only [SeqAt.shaped, Bool.and_eq_true, decide_eq_true_eq]
  exact ⟨nb_lay d h, k⟩
theorem eqv_nb {d e : PyData} (h1 : nb d = true) (h2 : nb e = true) : ∀ [Decidable (d = e)], PyData.eqv d e = decide (d = e) := by
  intro _
  rw [Bool.eq_iff_iff, decide_eq_true_eq]
  exact nb_eqv d e h1 h2
/-- a type's values as data -/
structure En (k : Nat) {α : Type} (f : α → PyData) : Prop where
  inj : ∀ a b, f a = f b → a = b
  ok : ∀ a, nb (f a) = true
  dp : ∀ a, (f a).depth ≤ k
theorem En.int : En 0 PyData.int := ⟨fun _ _ h => by cases h; rfl, fun _ => rfl, fun _ => Nat.le_refl _⟩
theorem En.nat : En 0 (fun n : Nat => PyData.int (n : Int)) := ⟨fun a b h => by have h' := PyData.int.inj h; omega, fun _ => rfl, fun _ => Nat.le_refl _⟩
theorem map_inj' {α β : Type} {f : α → β} (h : ∀ a b, f a = f b → a = b) : ∀ xs ys : List α, xs.map f = ys.map f → xs = ys
  | [], [], _ => rfl
  | [], _ :: _, e => by simp at e
  | _ :: _, [], e => by simp at e
  | x :: xs, y :: ys, e => by
    simp only [List.map_cons, List.cons.injEq] at e
    rw [h _ _ e.1, map_inj' h xs ys e.2]
theorem En.tup {k : Nat} {α : Type} {f : α → PyData} (h : En k f) : En (k + 1) (fun xs : List α => PyData.tuple (xs.map f)) :=
  ⟨fun a b e => map_inj' h.inj a b (by simpa using e), fun a => by simp only [nb]; exact nbs_map h.ok a, fun a => by simp only [PyData.depth]; exact Nat.succ_le_succ (depths_map h.dp a)⟩
theorem En.lst {k : Nat} {α : Type} {f : α → PyData} (h : En k f) : En (k + 1) (fun xs : List α => PyData.list (xs.map f)) :=
  ⟨fun a b e => map_inj' h.inj a b (by simpa using e), fun a => by simp only [nb]; exact nbs_map h.ok a, fun a => by simp only [PyData.depth]; exact Nat.succ_le_succ (depths_map h.dp a)⟩
theorem En.pr {k l : Nat} {α β : Type} {f : α → PyData} {g : β → PyData} (h1 : En k f) (h2 : En l g) : En (max k l + 1) (fun p : α × β => PyData.tuple [f p.1, g p.2]) :=
  ⟨fun a b e => by
    simp only [PyData.tuple.injEq, List.cons.injEq, and_true] at e
    exact Prod.ext (h1.inj _ _ e.1) (h2.inj _ _ e.2), fun a => by simp [nb, nbs, h1.ok, h2.ok], fun a => by
    have e1 := h1.dp a.1; have e2 := h2.dp a.2
    simp only [PyData.depth, PyData.depthAll]; omega⟩
theorem En.tr {k l m : Nat} {α β γ : Type} {f : α → PyData} {g : β → PyData} {h : γ → PyData} (h1 : En k f) (h2 : En l g) (h3 : En m h) : En (max k (max l m) + 1) (fun p : α × β × γ => PyData.tuple [f p.1, g p.2.1, h p.2.2]) :=
  ⟨fun a b e => by
    simp only [PyData.tuple.injEq, List.cons.injEq, and_true] at e
    exact Prod.ext (h1.inj _ _ e.1) (Prod.ext (h2.inj _ _ e.2.1) (h3.inj _ _ e.2.2)), fun a => by simp [nb, nbs, h1.ok, h2.ok, h3.ok], fun a => by
    have e1 := h1.dp a.1; have e2 := h2.dp a.2.1; have e3 := h3.dp a.2.2
    simp only [PyData.depth, PyData.depthAll]; omega⟩
theorem En.mono {k l : Nat} {α : Type} {f : α → PyData} (h : En k f) (hk : k ≤ l) : En l f := ⟨h.inj, h.ok, fun a => Nat.le_trans (h.dp a) hk⟩
section
variable {k : Nat} {α : Type} [DecidableEq α] {f : α → PyData}
theorem En.eqv (h : En k f) (a b : α) [Decidable (a = b)] : PyData.eqv (f a) (f b) = decide (a = b) := by
  rw [Bool.eq_iff_iff, nb_eqv _ _ (h.ok a) (h.ok b), decide_eq_true_eq]
  exact ⟨h.inj a b, fun e => by rw [e]⟩
theorem En.shaped (h : En k f) (hk : k ≤ 64) (a : α) : SeqAt.shaped (f a) = true := shaped_nb (h.ok a) (Nat.le_trans (h.dp a) hk)
theorem eqD_en (h : En k f) (hk : k ≤ 64) (a b : α) [Decidable (a = b)] : eqD (f a) (f b) = some (.bool (decide (a = b))) := by
  simp only [eqD, h.shaped hk, Bool.and_self, if_true, h.eqv]
theorem neD_en (h : En k f) (hk : k ≤ 64) (a b : α) [Decidable (a = b)] : neD (f a) (f b) = some (.bool (!decide (a = b))) := by
  simp only [neD, h.shaped hk, Bool.and_self, if_true, h.eqv]
theorem any_en (h : En k f) (a : α) (xs : List α) [Decidable (a ∈ xs)] : ((xs.map f).any fun z => PyData.eqv z (f a)) = decide (a ∈ xs) := by
  rw [Bool.eq_iff_iff, List.any_eq_true, decide_eq_true_eq]
  constructor
  · rintro ⟨z, hz, e⟩
    obtain ⟨b, hb, rfl⟩ := List.mem_map.mp hz
    rw [h.eqv, decide_eq_true_eq] at e
    rw [← e]; exact hb
  · intro ha
    exact ⟨f a, List.mem_map_of_mem ha, by rw [h.eqv]; simp⟩
theorem inL_en (h : En k f) (hk : k ≤ 60) (a : α) (xs : List α) [Decidable (a ∈ xs)] : inA (f a) (.list (xs.map f)) = some (.bool (decide (a ∈ xs))) := by
  have e := (h.lst).shaped (by omega) xs
  simp only [inA, inL, h.shaped (Nat.le_trans hk (by decide)) a, e, Bool.and_self, if_true, any_en h, Option.or]
theorem inT_en (h : En k f) (hk : k ≤ 60) (a : α) (xs : List α) [Decidable (a ∈ xs)] : inA (f a) (.tuple (xs.map f)) = some (.bool (decide (a ∈ xs))) := by
  have e := (h.tup).shaped (by omega) xs
  simp only [inA, inL, inTp, h.shaped (Nat.le_trans hk (by decide)) a, e, Bool.and_self, if_true, any_en h, Option.or]
theorem notInL_en (h : En k f) (hk : k ≤ 60) (a : α) (xs : List α) [Decidable (a ∈ xs)] : notInA (f a) (.list (xs.map f)) = some (.bool (!decide (a ∈ xs))) := by
  have e := (h.lst).shaped (by omega) xs
  simp only [notInA, notInL, h.shaped (Nat.le_trans hk (by decide)) a, e, Bool.and_self, if_true, any_en h, Option.or]
theorem notInT_en (h : En k f) (hk : k ≤ 60) (a : α) (xs : List α) [Decidable (a ∈ xs)] : notInA (f a) (.tuple (xs.map f)) = some (.bool (!decide (a ∈ xs))) := by
  have e := (h.tup).shaped (by omega) xs
  simp only [notInA, notInL, notInTp, h.shaped (Nat.le_trans hk (by decide)) a, e, Bool.and_self, if_true, any_en h, Option.or]
end
/-! ### dicts -/
structure Ky {α : Type} [DecidableEq α] (f : α → PyData) : Prop where
  eq : ∀ a b, keq (f a) (f b) = decide (a = b)
  kd : (∀ a, isKeyK (f a) = true) ∨ (∀ a, isKeyT (f a) = true)
theorem Ky.int : Ky PyData.int := ⟨fun a b => by simp [keq], .inl fun _ => rfl⟩
theorem Ky.nat : Ky (fun n : Nat => PyData.int (n : Int)) := ⟨fun a b => by simp [keq]; omega, .inl fun _ => rfl⟩
theorem keqs_ints : ∀ xs ys : List Int, keqs (xs.map PyData.int) (ys.map PyData.int) = decide (xs = ys)
  | [], [] => by simp [keqs]
  | [], _ :: _ => by simp [keqs]
  | _ :: _, [] => by simp [keqs]
  | x :: xs, y :: ys => by
    simp only [List.map_cons, keqs, keq, keqs_ints xs ys, List.cons.injEq, ← Bool.decide_and]
theorem dkeys_ints : ∀ xs : List Int, dkeys (xs.map PyData.int) = some (xs.map fun i => (.inl i : Key))
  | [] => rfl
  | x :: xs => by simp [dkeys, dkey, dkeys_ints xs]
theorem Ky.ints : Ky (fun xs : List Int => PyData.tuple (xs.map PyData.int)) := ⟨fun a b => by simp only [keq]; exact keqs_ints a b, .inr fun a => by simp [isKeyT, dkeys_ints]⟩
theorem Ky.nats2 : Ky (fun p : Nat × Nat => PyData.tuple [.int (p.1 : Int), .int (p.2 : Int)]) := ⟨fun a b => by
  obtain ⟨a1, a2⟩ := a; obtain ⟨b1, b2⟩ := b
  simp only [keq, keqs, Prod.mk.injEq, Bool.and_true, ← Bool.decide_and]
  rw [decide_eq_decide]; omega, .inr fun a => rfl⟩
/-- a dict of typed keys and values -/
abbrev dcD {α β : Type} (f : α → PyData) (g : β → PyData) (kvs : List (α × β)) : PyData := .dict (kvs.map fun p => (f p.1, g p.2))
def aput {α β : Type} [DecidableEq α] (kvs : List (α × β)) (a : α) (b : β) : List (α × β) := if a ∈ kvs.map (·.1) then kvs.map (fun p => if p.1 = a then (p.1, b) else p) else kvs ++ [(a, b)]
def aget {α β : Type} [DecidableEq α] : List (α × β) → α → Option β
  | [], _ => none
  | (c, v) :: r, a => if c = a then some v else aget r a
section
variable {α β : Type} [DecidableEq α] {f : α → PyData} {g : β → PyData}
theorem aget_isSome (kvs : List (α × β)) (a : α) : (aget kvs a).isSome = true ↔ a ∈ kvs.map (·.1) := by
  induction kvs with
  | nil => simp [aget]
  | cons p r ih =>
    obtain ⟨c, v⟩ := p
    by_cases h : c = a
    · simp [aget, h]
    · simp only [aget, h, if_false, ih, List.map_cons, List.mem_cons]
      exact ⟨.inr, fun z => z.elim (fun e => absurd e.symm h) id⟩
theorem aget_mem {kvs : List (α × β)} {a : α} {b : β} (h : aget kvs a = some b) : (a, b) ∈ kvs := by
  induction kvs with
  | nil => simp [aget] at h
  | cons p r ih =>
    obtain ⟨c, v⟩ := p
    by_cases e : c = a
    · simp [aget, e] at h; simp [e, h]
    · simp only [aget, e, if_false] at h; simp [ih h]
theorem aget_of_mem {kvs : List (α × β)} {a : α} {b : β} (hn : (kvs.map (·.1)).Nodup) (h : (a, b) ∈ kvs) : aget kvs a = some b := by
  induction kvs with
  | nil => simp at h
  | cons p r ih =>
    obtain ⟨c, v⟩ := p
    simp only [List.map_cons, List.nodup_cons] at hn
    rcases List.mem_cons.mp h with e | e
    · cases e; simp [aget]
    · have : c ≠ a := fun z => hn.1 (z ▸ List.mem_map_of_mem (f := (·.1)) e)
      simp only [aget, this, if_false]; exact ih hn.2 e
theorem dFind_dc (hk : Ky f) (kvs : List (α × β)) (a : α) : dFind (kvs.map fun p => (f p.1, g p.2)) (f a) = (aget kvs a).map g := by
  induction kvs with
  | nil => rfl
  | cons p r ih =>
    simp only [List.map_cons, dFind, hk.eq, aget]
    by_cases h : p.1 = a
    · simp [h]
    · simp [h, ih]
theorem keyFor_dc (hk : Ky f) (kvs : List (α × β)) (a : α) : keyFor (kvs.map fun p => (f p.1, g p.2)) (f a) = true := by
  unfold keyFor
  rw [Bool.or_eq_true]
  rcases hk.kd with h | h
  · left; simp only [h, Bool.true_and, List.all_map, List.all_eq_true, Function.comp]; intros; trivial
  · right; simp only [h, Bool.true_and, List.all_map, List.all_eq_true, Function.comp]; intros; trivial
theorem dHas_dc (hk : Ky f) (kvs : List (α × β)) (a : α) [Decidable (a ∈ kvs.map (·.1))] : dHas (kvs.map fun p => (f p.1, g p.2)) (f a) = decide (a ∈ kvs.map (·.1)) := by
  unfold dHas
  rw [dFind_dc hk, Option.isSome_map, Bool.eq_iff_iff, aget_isSome, decide_eq_true_eq]
theorem in_dc (hk : Ky f) (kvs : List (α × β)) (a : α) [Decidable (a ∈ kvs.map (·.1))] : inA (f a) (dcD f g kvs) = some (.bool (decide (a ∈ kvs.map (·.1)))) := by
  simp only [inA, inL, inTp, inDc, keyFor_dc hk, if_true, dHas_dc hk, Option.or]
theorem notIn_dc (hk : Ky f) (kvs : List (α × β)) (a : α) [Decidable (a ∈ kvs.map (·.1))] : notInA (f a) (dcD f g kvs) = some (.bool (!decide (a ∈ kvs.map (·.1)))) := by
  simp only [notInA, notInL, notInTp, notInDc, keyFor_dc hk, if_true, dHas_dc hk, Option.or]
theorem get_dc (hk : Ky f) (kvs : List (α × β)) (a : α) : ixA (dcD f g kvs) (f a) = (aget kvs a).map g := by
  show (none : Option PyData).or (getDc _ _) = _
  simp only [getDc, keyFor_dc hk, if_true, dFind_dc hk, Option.or]
theorem put_dc (hk : Ky f) (kvs : List (α × β)) (a : α) (b : β) (h : kvs.length + 1 ≤ 16777216) : setD (dcD f g kvs) (f a) (g b) = some (dcD f g (aput kvs a b)) := by
  simp only [setD, keyFor_dc hk, Bool.true_and, List.length_map, lenOk_le h, if_true, dPut, dHas_dc hk, aput]
  by_cases e : a ∈ kvs.map (·.1)
  · simp only [e, decide_true, if_true, dcD, List.map_map, Option.some.injEq, PyData.dict.injEq]
    apply List.map_congr_left
    intro p _
    simp only [Function.comp, hk.eq]
    by_cases z : p.1 = a <;> simp [z]
  · simp [e, dcD]
theorem aput_new {kvs : List (α × β)} {a : α} {b : β} (h : a ∉ kvs.map (·.1)) : aput kvs a b = kvs ++ [(a, b)] := by simp only [aput, h, if_false]
end
end DL

/-! R4: loops. -/
namespace DL
open PySem PySem.Spec PyProof.Rows L2
/-- a turn: the target, the body -/
def turn (tg : MG) (body : M Fl) (d : PyData) (ρ : Env) : Res Fl := match tg d ρ with
  | some ρ1 => body ρ1
  | none => .bad
def tnE (o : Option Env) (body : M Fl) : Res Fl := match o with
  | some ρ1 => body ρ1
  | none => .bad
theorem turn_run (tg : MG) (body : M Fl) (d : PyData) (ρ : Env) : turn tg body d ρ = tnE (tg d ρ) body := rfl
theorem tnE_some (ρ1 : Env) (body : M Fl) : tnE (some ρ1) body = body ρ1 := rfl
/-- a turn of a comprehension -/
def turnB (tg : MG) (test : M Bool) (d : PyData) (ρ : Env) : Res Bool := match tg d ρ with
  | some ρ1 => test ρ1
  | none => .bad
def tnB (o : Option Env) (test : M Bool) : Res Bool := match o with
  | some ρ1 => test ρ1
  | none => .bad
theorem turnB_run (tg : MG) (test : M Bool) (d : PyData) (ρ : Env) : turnB tg test d ρ = tnB (tg d ρ) test := rfl
theorem tnB_some (ρ1 : Env) (test : M Bool) : tnB (some ρ1) test = test ρ1 := rfl
theorem run3 : (∀ (tg : MG) (body : M Fl) (d : PyData) (ρ : Env), turn tg body d ρ = tnE (tg d ρ) body) ∧ (∀ (ρ1 : Env) (body : M Fl), tnE (some ρ1) body = body ρ1) ∧
  (∀ (tg : MG) (test : M Bool) (d : PyData) (ρ : Env), turnB tg test d ρ = tnB (tg d ρ) test) ∧ (∀ (ρ1 : Env) (test : M Bool), tnB (some ρ1) test = test ρ1) := ⟨fun _ _ _ _ => rfl, fun _ _ => rfl, fun _ _ _ _ => rfl, fun _ _ => rfl⟩
theorem forL_turn (tg : MG) (body : M Fl) (d : PyData) (ds : List PyData) (ρ : Env) : forL tg body (d :: ds) ρ = (turn tg body d ρ).bind fun r => rtF r (forL tg body ds) := by
  unfold turn
  show (match tg d ρ with | none => Res.bad | some ρ1 => (body ρ1).bind _) = _
  cases tg d ρ with
  | none => rfl
  | some ρ1 =>
    show (body ρ1).bind _ = (body ρ1).bind _
    congr 1
theorem forL_end (tg : MG) (body : M Fl) (ρ : Env) : forL tg body [] ρ = .ok .nx ρ := rfl
/-- what a turn is wished to end with -/
def Kp (Q : Fl → Env → Prop) (P : Env → Prop) (fl : Fl) (ρ : Env) : Prop := match fl with
  | .rt d => Q (.rt d) ρ
  | _ => P ρ
theorem Kp_run : (∀ (Q : Fl → Env → Prop) (P : Env → Prop) (ρ : Env), Kp Q P .nx ρ = P ρ) ∧ (∀ (Q : Fl → Env → Prop) (P : Env → Prop) (d : PyData) (ρ : Env), Kp Q P (.rt d) ρ = Q (.rt d) ρ) := ⟨fun _ _ _ => rfl, fun _ _ _ _ => rfl⟩
theorem wp_for {α : Type} {f : α → PyData} {tg : MG} {body : M Fl} {Q : Fl → Env → Prop} {Er : Exn → Env → Prop} (xs : List α) (I : List α → Env → Prop) {ρ : Env} (h0 : I [] ρ)
    (h : ∀ pre x post ρ, xs = pre ++ x :: post → I pre ρ → Wp (turn tg body (f x) ρ) (Kp Q (I (pre ++ [x]))) Er) (hend : ∀ ρ, I xs ρ → Q .nx ρ) : Wp (forL tg body (xs.map f) ρ) Q Er := by
  have key : ∀ post pre ρ, xs = pre ++ post → I pre ρ → Wp (forL tg body (post.map f) ρ) Q Er := by
    intro post
    induction post with
    | nil => intro pre ρ e hi; rw [List.append_nil] at e; subst e; exact ⟨hend ρ hi⟩
    | cons x post ih =>
      intro pre ρ e hi
      rw [List.map_cons, forL_turn]
      refine Wp.bind ((h pre x post ρ e hi).mono (fun fl ρ2 z => ?_) fun _ _ z => z)
      cases fl with
      | nx => exact ih (pre ++ [x]) ρ2 (by simp [e]) z
      | ct => exact ih (pre ++ [x]) ρ2 (by simp [e]) z
      | rt d => exact ⟨z⟩
  exact key xs [] ρ (by simp) h0
/-- a loop without return: the environment behind is told by a function of the part that was walked -/
theorem forL_eq {α : Type} {f : α → PyData} {tg : MG} {body : M Fl} (xs : List α) (E : List α → Env) (h : ∀ pre x post, xs = pre ++ x :: post → turn tg body (f x) (E pre) = .ok .nx (E (pre ++ [x]))) : forL tg body (xs.map f) (E []) = .ok .nx (E xs) := by
  have key : ∀ post pre, xs = pre ++ post → forL tg body (post.map f) (E pre) = .ok .nx (E xs) := by
    intro post
    induction post with
    | nil => intro pre e; rw [List.append_nil] at e; subst e; rfl
    | cons x post ih =>
      intro pre e
      rw [List.map_cons, forL_turn, h pre x post e]
      exact ih (pre ++ [x]) (by simp [e])
  exact key xs [] (by simp)
theorem fuel_is : fuel = 1000000000 := by unfold fuel; rfl
theorem wp_while {σ : Type} {c : M Bool} {body : M Fl} {Q : Fl → Env → Prop} {Er : Exn → Env → Prop} (E : σ → Env) (I : σ → Prop) (μ : σ → Nat) (s : σ) {ρ0 : Env} (hρ : ρ0 = E s) (hs : I s) (hm : μ s < 1000000000)
    (h : ∀ s, I s → Wp (c (E s)) (fun b ρ => if b = true then Wp (body ρ) (Kp Q (fun ρ2 => ∃ s', ρ2 = E s' ∧ I s' ∧ μ s' < μ s)) Er else Q .nx ρ) Er) : Wp (whileN c body fuel ρ0) Q Er := by
  subst hρ
  have key : ∀ n s, I s → μ s < n → Wp (whileN c body n (E s)) Q Er := by
    intro n
    induction n with
    | zero => intro s _ hm; omega
    | succ n ih =>
      intro s hs hm
      show Wp ((c (E s)).bind _) Q Er
      refine Wp.bind ((h s hs).mono (fun b ρ z => ?_) fun _ _ z => z)
      cases b with
      | false => exact ⟨(by simpa using z : Q .nx ρ)⟩
      | true =>
        show Wp ((body ρ).bind _) Q Er
        refine Wp.bind (Wp.mono (by simpa using z) (fun fl ρ2 z => ?_) fun _ _ z => z)
        have step : (∃ s', ρ2 = E s' ∧ I s' ∧ μ s' < μ s) → Wp (whileN c body n ρ2) Q Er := by
          rintro ⟨s', rfl, hi, hl⟩
          exact ih s' hi (by omega)
        cases fl with
        | nx => exact step z
        | ct => exact step z
        | rt d => exact ⟨z⟩
  exact key _ s hs (by rw [fuel_is]; exact hm)
/-! ### comprehensions -/
theorem wp_lc {α β : Type} {f : α → PyData} {g : β → PyData} {tg : MG} {test : M Bool} {elt : M PyData} {Q : List PyData → Env → Prop} {Er : Exn → Env → Prop} (xs : List α) (I : List α → List β → Env → Prop) {ρ : Env} (h0 : I [] [] ρ)
    (h : ∀ pre x post ys ρ, xs = pre ++ x :: post → I pre ys ρ → Wp (turnB tg test (f x) ρ) (fun b ρ2 => if b = true then Wp (elt ρ2) (fun d ρ3 => ∃ y, d = g y ∧ I (pre ++ [x]) (ys ++ [y]) ρ3) NoE else I (pre ++ [x]) ys ρ2) NoE)
    (hend : ∀ ys ρ, I xs ys ρ → Q (ys.map g) ρ) : Wp (lcL tg test elt (xs.map f) ρ) Q Er := by
  have key : ∀ post pre (ys : List β) ρ, xs = pre ++ post → I pre ys ρ → ∃ zs ρ', lcL tg test elt (post.map f) ρ = .ok (zs.map g) ρ' ∧ I xs (ys ++ zs) ρ' := by
    intro post
    induction post with
    | nil => intro pre ys ρ e hi; rw [List.append_nil] at e; subst e; exact ⟨[], ρ, rfl, by simpa using hi⟩
    | cons x post ih =>
      intro pre ys ρ e hi
      have z := h pre x post ys ρ e hi
      unfold turnB at z
      rw [List.map_cons]
      unfold lcL
      cases q1 : tg (f x) ρ with
      | none => rw [q1] at z; exact z.h.elim
      | some ρ1 =>
        rw [q1] at z
        dsimp only at z ⊢
        cases q2 : test ρ1 with
        | bad => rw [q2] at z; exact z.h.elim
        | exc x ρ' => rw [q2] at z; exact z.h.elim
        | ok b ρ2 =>
          rw [q2] at z
          have z : if b = true then Wp (elt ρ2) (fun d ρ3 => ∃ y, d = g y ∧ I (pre ++ [x]) (ys ++ [y]) ρ3) NoE else I (pre ++ [x]) ys ρ2 := z.h
          cases b with
          | false =>
            dsimp only
            exact ih (pre ++ [x]) ys ρ2 (by simp [e]) (by simpa using z)
          | true =>
            dsimp only
            simp only [if_true] at z
            cases q3 : elt ρ2 with
            | bad => rw [q3] at z; exact z.h.elim
            | exc x ρ' => rw [q3] at z; exact z.h.elim
            | ok d ρ3 =>
              rw [q3] at z
              obtain ⟨y, rfl, hy⟩ := z.h
              obtain ⟨zs, ρ', e1, e2⟩ := ih (pre ++ [x]) (ys ++ [y]) ρ3 (by simp [e]) hy
              dsimp only
              rw [e1]
              exact ⟨y :: zs, ρ', rfl, by simpa using e2⟩
  obtain ⟨zs, ρ', e1, e2⟩ := key xs [] [] ρ (by simp) h0
  rw [e1]
  refine ⟨?_⟩
  exact hend zs ρ' (by simpa using e2)
/-- a comprehension without effects: E tells the environment by what the own slots hold -/
theorem lc_ok {α J : Type} {f : α → PyData} {tg : MG} {test : M Bool} {elt : M PyData} (E : J → Env) (own : List Nat) (p : α → Bool) (g : α → PyData) (xs : List α) (j0 : J) (hr : ∀ j, restore own (E j0) (E j) = E j0)
    (h : ∀ x ∈ xs, ∀ j, ∃ j', turnB tg test (f x) (E j) = .ok (p x) (E j') ∧ (p x = true → elt (E j') = .ok (g x) (E j'))) : lcE own (E j0) (lcL tg test elt (xs.map f) (E j0)) = .ok (.list ((xs.filter p).map g)) (E j0) := by
  have key : ∀ xs : List α, (∀ x ∈ xs, ∀ j, ∃ j', turnB tg test (f x) (E j) = .ok (p x) (E j') ∧ (p x = true → elt (E j') = .ok (g x) (E j'))) → ∀ j, ∃ j', lcL tg test elt (xs.map f) (E j) = .ok ((xs.filter p).map g) (E j') := by
    intro xs
    induction xs with
    | nil => intro _ j; exact ⟨j, rfl⟩
    | cons x xs ih =>
      intro h j
      obtain ⟨j1, e1, e2⟩ := h x (by simp) j
      have ih := ih fun y hy => h y (by simp [hy])
      rw [List.map_cons]
      unfold lcL
      unfold turnB at e1
      cases q1 : tg (f x) (E j) with
      | none => rw [q1] at e1; cases e1
      | some ρ1 =>
        rw [q1] at e1
        dsimp only at e1 ⊢
        rw [e1]
        cases q2 : p x with
        | false =>
          dsimp only
          obtain ⟨j2, e3⟩ := ih j1
          exact ⟨j2, by rw [e3]; simp [q2]⟩
        | true =>
          dsimp only
          rw [e2 q2]
          obtain ⟨j2, e3⟩ := ih j1
          exact ⟨j2, by dsimp only; rw [e3]; simp [q2]⟩
  obtain ⟨j', e⟩ := key xs h j0
  rw [e]
  show Res.ok _ _ = _
  rw [hr]
theorem lc_all {α J : Type} {f : α → PyData} {tg : MG} {test : M Bool} {elt : M PyData} (E : J → Env) (own : List Nat) (g : α → PyData) (xs : List α) (j0 : J) (hr : ∀ j, restore own (E j0) (E j) = E j0)
    (h : ∀ x ∈ xs, ∀ j, ∃ j', turnB tg test (f x) (E j) = .ok true (E j') ∧ elt (E j') = .ok (g x) (E j')) : lcE own (E j0) (lcL tg test elt (xs.map f) (E j0)) = .ok (.list (xs.map g)) (E j0) := by
  have e := lc_ok (f := f) (tg := tg) (test := test) (elt := elt) E own (fun _ => true) g xs j0 hr fun x hx j => let ⟨j', e1, e2⟩ := h x hx j; ⟨j', e1, fun _ => e2⟩
  rw [List.filter_eq_self.mpr (fun _ _ => rfl)] at e
  exact e
/-! ### numbered items -/
def num {α : Type} : Nat → List α → List (Nat × α)
  | _, [] => []
  | n, x :: xs => (n, x) :: num (n + 1) xs
theorem enumL_num {α : Type} (f : α → PyData) : ∀ (n : Nat) (xs : List α), enumL n (xs.map f) = (num n xs).map fun p => .tuple [.int (p.1 : Nat), f p.2]
  | _, [] => rfl
  | n, x :: xs => by simp only [List.map_cons, enumL, num, enumL_num f (n + 1) xs]
theorem num_length {α : Type} : ∀ (n : Nat) (xs : List α), (num n xs).length = xs.length
  | _, [] => rfl
  | n, x :: xs => by simp [num, num_length (n + 1) xs]
theorem num_split {α : Type} : ∀ {n : Nat} {xs : List α} {pre : List (Nat × α)} {p : Nat × α} {post : List (Nat × α)}, num n xs = pre ++ p :: post → p.1 = n + pre.length ∧ xs[pre.length]? = some p.2 ∧ pre = num n (xs.take pre.length)
  | n, [], pre, p, post, e => by simp [num] at e
  | n, x :: xs, [], p, post, e => by
    simp only [num, List.nil_append, List.cons.injEq] at e
    rw [← e.1]; exact ⟨rfl, rfl, rfl⟩
  | n, x :: xs, q :: pre, p, post, e => by
    simp only [num, List.cons_append, List.cons.injEq] at e
    obtain ⟨h1, h2, h3⟩ := num_split e.2
    refine ⟨by rw [h1]; simp; omega, by simpa using h2, ?_⟩
    rw [List.length_cons, List.take_succ_cons, num, ← h3, e.1]
theorem num_append {α : Type} : ∀ (n : Nat) (xs ys : List α), num n (xs ++ ys) = num n xs ++ num (n + xs.length) ys
  | _, [], ys => by simp [num]
  | n, x :: xs, ys => by simp only [List.cons_append, num, num_append (n + 1) xs ys, List.length_cons]; rw [show n + 1 + xs.length = n + (xs.length + 1) by omega]
theorem mem_num {α : Type} : ∀ {n : Nat} {xs : List α} {p : Nat × α}, p ∈ num n xs ↔ n ≤ p.1 ∧ xs[p.1 - n]? = some p.2
  | n, [], p => by simp [num]
  | n, x :: xs, p => by
    obtain ⟨i, y⟩ := p
    simp only [num, List.mem_cons, Prod.mk.injEq, mem_num (n := n + 1) (xs := xs)]
    constructor
    · rintro (⟨rfl, rfl⟩ | ⟨h1, h2⟩)
      · simp
      · refine ⟨by omega, ?_⟩
        rw [show i - n = (i - (n + 1)) + 1 by omega, List.getElem?_cons_succ]; exact h2
    · rintro ⟨h1, h2⟩
      by_cases e : i = n
      · subst e; simp at h2; exact .inl ⟨rfl, h2.symm⟩
      · refine .inr ⟨by omega, ?_⟩
        rw [show i - n = (i - (n + 1)) + 1 by omega, List.getElem?_cons_succ] at h2; exact h2
theorem zipL_map {α β : Type} (f : α → PyData) (g : β → PyData) : ∀ (xs : List α) (ys : List β), zipL (xs.map f) (ys.map g) = (xs.zip ys).map fun p => .tuple [f p.1, g p.2]
  | [], _ => rfl
  | _ :: _, [] => rfl
  | x :: xs, y :: ys => by
    have := zipL_map f g xs ys
    unfold zipL at this ⊢
    simp [this]
end DL

/-! R5: a def's own run. -/
namespace DL
open PySem PySem.Spec PyProof.Rows L2
theorem run4 :
  (∀ (ps : List Tag) (d : PyData) (ρ : Env), frOf ps (.ok (.rt d) ρ) = .ok d ((ioFrom 0 ps).map (DL.get ρ))) ∧ (∀ (ps : List Tag) (ρ : Env), frOf ps (.ok .nx ρ) = .ok .none ((ioFrom 0 ps).map (DL.get ρ))) ∧
  (∀ (ps : List Tag) (x : Exn) (ρ : Env), frOf ps (.exc x ρ) = .exc x ((ioFrom 0 ps).map (DL.get ρ))) ∧
  (∀ (n : Nat), ioFrom n [] = []) ∧ (∀ (n : Nat) (ps : List Tag), ioFrom n (.fz :: ps) = ioFrom (n + 1) ps) ∧ (∀ (n : Nat) (κ : Kind) (ps : List Tag), ioFrom n (.io κ :: ps) = n :: ioFrom (n + 1) ps) ∧
  (∀ (x : Str) (fs : List Str) (fa : M (List PyData)) (ρ : Env), sRaise x fs fa ρ = (fa ρ).bind fun ds ρ => .exc ⟨x, fs.zip ds⟩ ρ) ∧
  
  (∀ (own : List Nat) (ρ1 : Env) (ys : List PyData) (ρ2 : Env), lcE own ρ1 (.ok ys ρ2) = .ok (.list ys) (restore own ρ1 ρ2)) ∧
  (∀ (ρ1 ρ2 : Env), restore [] ρ1 ρ2 = ρ2) ∧ (∀ (i : Nat) (is : List Nat) (ρ1 ρ2 : Env), restore (i :: is) ρ1 ρ2 = (restore is ρ1 ρ2).set i (DL.get ρ1 i)) :=
  ⟨fun _ _ _ => rfl, fun _ _ => rfl, fun _ _ _ => rfl, fun _ => rfl, fun _ _ => rfl, fun _ _ _ => rfl, fun _ _ _ _ => rfl, fun _ _ _ _ => rfl, fun _ _ => rfl, fun _ _ _ _ => rfl⟩
def chM (r : PyData) (k : M PyData) : M PyData := match r with
  | .bool true => k
  | .bool false => M.pure (.bool false)
  | _ => fun _ => .bad
def ntM (d : PyData) : M PyData := match d with
  | .bool b => M.pure (.bool (!b))
  | _ => fun _ => .bad
def jgE (o : Option PyData) : M PyData := fun ρ => match o with
  | some d => .ok d ρ
  | none => .bad
theorem run5 :
  (∀ (f f' : PyData → PyData → Option PyData) (a b c : M PyData) (ρ : Env), eChain f f' a b c ρ = (a ρ).bind fun x ρ => (b ρ).bind fun y => (ofO (f x y)).bind fun r => chM r (c.bind fun z => ofO (f' y z))) ∧
  (∀ (k : M PyData), chM (.bool true) k = k) ∧ (∀ (k : M PyData), chM (.bool false) k = M.pure (.bool false)) ∧
  (∀ (a : M PyData) (ρ : Env), eNotV a ρ = (a ρ).bind ntM) ∧ (∀ b : Bool, ntM (.bool b) = M.pure (.bool (!b))) ∧
  (∀ (i : Nat) (key : Str) (ρ : Env), eJget i key ρ = jgE (jFld key (DL.get ρ i)) ρ) ∧ (∀ (d : PyData) (ρ : Env), jgE (some d) ρ = .ok d ρ) ∧
  (∀ (i : Nat) (fe : M PyData) (ρ : Env), sJput i fe ρ = (fe ρ).bind fun v ρ => stE ((jPut (DL.get ρ i) v).map fun d => ρ.set i d)) ∧
  (∀ (jf : Nat) (f2 f3 f4 : M PyData) (ρ : Env), eJar jf f2 f3 f4 ρ = (f2 ρ).bind fun c ρ => (f3 ρ).bind fun s ρ => (f4 ρ).bind fun n ρ => ofO (jarOf (DL.get ρ jf) c s n) ρ) ∧
  (∀ f c s n : PyData, jFld "cells" (.tuple [f, c, s, n]) = some c) ∧ (∀ f c s n : PyData, jFld "seal" (.tuple [f, c, s, n]) = some s) ∧ (∀ f c s n : PyData, jFld "count" (.tuple [f, c, s, n]) = some n) ∧
  (∀ (f c s : PyData) (i j : Int), jPut (.tuple [f, c, s, .int i]) (.int j) = some (.tuple [f, c, s, .int j])) := by
  refine ⟨fun _ _ _ _ _ _ => rfl, fun _ => rfl, fun _ => rfl, fun _ _ => rfl, fun _ => rfl, fun _ _ _ => rfl, fun _ _ => rfl, ?_, fun _ _ _ _ _ => rfl, fun _ _ _ _ => ?_, fun _ _ _ _ => ?_, fun _ _ _ _ => ?_, fun _ _ _ _ _ => rfl⟩
  · intro i fe ρ
    show (fe ρ).bind _ = (fe ρ).bind _
    congr 1
    funext v ρ
    cases jPut (DL.get ρ i) v <;> rfl
  · simp [jFld]
  · simp only [jFld]
    rw [if_neg (by decide +kernel), if_pos trivial]
  · simp only [jFld]
    rw [if_neg (by decide +kernel), if_neg (by decide +kernel), if_pos trivial]
/-- what is wished of a body, for its def -/
def Fd (ps : List Tag) (P : PyData → List PyData → Prop) (fl : Fl) (ρ : Env) : Prop := match fl with
  | .rt d => P d ((ioFrom 0 ps).map (DL.get ρ))
  | .nx => P .none ((ioFrom 0 ps).map (DL.get ρ))
  | .ct => False
theorem Fd_run : (∀ (ps : List Tag) (P : PyData → List PyData → Prop) (d : PyData) (ρ : Env), Fd ps P (.rt d) ρ = P d ((ioFrom 0 ps).map (DL.get ρ))) ∧ (∀ (ps : List Tag) (P : PyData → List PyData → Prop) (ρ : Env), Fd ps P .nx ρ = P .none ((ioFrom 0 ps).map (DL.get ρ))) := ⟨fun _ _ _ _ => rfl, fun _ _ _ => rfl⟩
def Nc (Q : Fl → Env → Prop) (fl : Fl) (ρ : Env) : Prop := match fl with
  | .ct => False
  | fl => Q fl ρ
def Cl (is : List Nat) (Q : Fl → Env → Prop) (fl : Fl) (ρ : Env) : Prop := match fl with
  | .nx => Q .nx (clr is ρ)
  | fl => Q fl ρ
theorem NcCl : (∀ (Q : Fl → Env → Prop) (ρ : Env), Nc Q .nx ρ = Q .nx ρ) ∧ (∀ (Q : Fl → Env → Prop) (d : PyData) (ρ : Env), Nc Q (.rt d) ρ = Q (.rt d) ρ) ∧
  (∀ (is : List Nat) (Q : Fl → Env → Prop) (ρ : Env), Cl is Q .nx ρ = Q .nx (clr is ρ)) ∧ (∀ (is : List Nat) (Q : Fl → Env → Prop) (d : PyData) (ρ : Env), Cl is Q (.rt d) ρ = Q (.rt d) ρ) := ⟨fun _ _ => rfl, fun _ _ _ => rfl, fun _ _ _ => rfl, fun _ _ _ _ => rfl⟩
theorem wp_noCt {r : Res Fl} {Q : Fl → Env → Prop} {E : Exn → Env → Prop} (h : Wp r (Nc Q) E) : Wp (noCtR r) Q E := by
  cases r with
  | ok fl ρ =>
    cases fl with
    | ct => exact h.h.elim
    | nx => exact ⟨h.h⟩
    | rt d => exact ⟨h.h⟩
  | exc x ρ => exact ⟨h.h⟩
  | bad => exact h.h.elim
theorem wp_clr {is : List Nat} {r : Res Fl} {Q : Fl → Env → Prop} {E : Exn → Env → Prop} (h : Wp r (Cl is Q) E) : Wp (clrR is r) Q E := by
  cases r with
  | ok fl ρ =>
    cases fl with
    | ct => exact ⟨h.h⟩
    | nx => exact ⟨h.h⟩
    | rt d => exact ⟨h.h⟩
  | exc x ρ => exact ⟨h.h⟩
  | bad => exact h.h.elim
theorem wp_lcE {own : List Nat} {ρ1 : Env} {r : Res (List PyData)} {Q : PyData → Env → Prop} {E : Exn → Env → Prop} (h : Wp r (fun ys ρ2 => Q (.list ys) (restore own ρ1 ρ2)) (fun _ _ => False)) : Wp (lcE own ρ1 r) Q E := by
  cases r with
  | ok ys ρ => exact ⟨h.h⟩
  | exc x ρ => exact h.h.elim
  | bad => exact h.h.elim
theorem fw_of {n : Nat} {ps : List Tag} {body : M Fl} {ds : List PyData} {P : PyData → List PyData → Prop} {E : Exn → List PyData → Prop} (h : Wp (body (ds ++ List.replicate (n - ds.length) .none)) (Fd ps P) (fun x ρ => E x ((ioFrom 0 ps).map (DL.get ρ)))) : FW (defM n ps body ds) P E := by
  rw [defM_fr]
  cases z : body (ds ++ List.replicate (n - ds.length) .none) with
  | bad => rw [z] at h; exact h.h.elim
  | exc x ρ => rw [z] at h; exact ⟨h.h⟩
  | ok fl ρ =>
    rw [z] at h
    cases fl with
    | ct => exact h.h.elim
    | rt d => exact ⟨h.h⟩
    | nx => exact ⟨h.h⟩
/-- a call, by the def's promise -/
theorem wp_call {m : FM} {ms : List Md} {args : List PyData} {ρ : Env} {β : Type} {k : PyData → M β} {Q : β → Env → Prop} {E : Exn → Env → Prop} {P : PyData → List PyData → Prop} (h : FW (m args) P (fun x ios => E x (putB ms ios ρ)))
    (hk : ∀ d ios, P d ios → Wp (k d (putB ms ios ρ)) Q E) : Wp ((frE ms ρ (m args)).bind k) Q E := by
  cases z : m args with
  | ok d ios => rw [z] at h; exact hk d ios h.h
  | exc x ios => rw [z] at h; exact ⟨h.h⟩
  | bad => rw [z] at h; exact h.h.elim
theorem wp_callE {m : FM} {ms : List Md} {args : List PyData} {ρ : Env} {Q : PyData → Env → Prop} {E : Exn → Env → Prop} {P : PyData → List PyData → Prop} (h : FW (m args) P (fun x ios => E x (putB ms ios ρ)))
    (hk : ∀ d ios, P d ios → Q d (putB ms ios ρ)) : Wp (frE ms ρ (m args)) Q E := by
  cases z : m args with
  | ok d ios => rw [z] at h; exact ⟨hk d ios h.h⟩
  | exc x ios => rw [z] at h; exact ⟨h.h⟩
  | bad => rw [z] at h; exact h.h.elim
theorem wp_sCons {A B : M Fl} {ρ ρ' : Env} {Q : Fl → Env → Prop} {E : Exn → Env → Prop} (h : A ρ = .ok .nx ρ') (hb : Wp (B ρ') Q E) : Wp (sCons A B ρ) Q E := by
  show Wp ((A ρ).bind _) Q E
  rw [h]
  exact hb
theorem FW.noE {r : FR} {P : PyData → List PyData → Prop} {E : Exn → List PyData → Prop} (h : FW r P (fun _ _ => False)) : FW r P E := h.mono (fun _ _ z => z) fun _ _ z => z.elim
theorem FW.eq {r : FR} {d : PyData} {ios : List PyData} {E : Exn → List PyData → Prop} (h : FW r (fun a b => a = d ∧ b = ios) (fun _ _ => False)) : r = .ok d ios := by
  cases r with
  | ok a b => obtain ⟨rfl, rfl⟩ := h.h; rfl
  | exc x b => exact h.h.elim
  | bad => exact h.h.elim
theorem FW.ex {r : FR} {P : PyData → List PyData → Prop} (h : FW r P (fun _ _ => False)) : ∃ d ios, r = .ok d ios ∧ P d ios := by
  cases r with
  | ok a b => exact ⟨a, b, rfl, h.h⟩
  | exc x b => exact h.h.elim
  | bad => exact h.h.elim
end DL

/-! R6: repr of small data. -/
namespace DL
open PySem PySem.Spec PyProof.Rows L2
def Cp (x : Str) : Prop := ∀ c ∈ x.cps.toList, c < 1114112
theorem Cp.ok {x : Str} (h : Cp x) : PyData.strOk x = true := by
  unfold PyData.strOk
  rw [Array.all_eq_true_iff_forall_mem]
  intro c hc
  have := h c (Array.mem_toList_iff.mpr hc)
  simpa using this
theorem Cp.of {x : Str} (h : PyData.strOk x = true) : Cp x := by
  unfold PyData.strOk at h
  rw [Array.all_eq_true_iff_forall_mem] at h
  intro c hc
  have := h c (Array.mem_toList_iff.mp hc)
  simpa using this
theorem cps_app (x y : Str) : (x ++ y).cps.toList = x.cps.toList ++ y.cps.toList := by
  show (x.cps ++ y.cps).toList = _
  simp
theorem Cp.app {x y : Str} (hx : Cp x) (hy : Cp y) : Cp (x ++ y) := fun c hc => by
  rw [cps_app] at hc
  rcases List.mem_append.mp hc with z | z
  · exact hx c z
  · exact hy c z
theorem Cp.join {s : Str} (hs : Cp s) : ∀ ts : List Str, (∀ t ∈ ts, Cp t) → Cp (Str.join s ts)
  | [], _ => fun c hc => by simp [Str.join, Str.empty] at hc
  | [x], h => h x (by simp)
  | x :: y :: r, h => ((h x (by simp)).app hs).app (Cp.join hs (y :: r) fun t ht => h t (by simp [ht]))
theorem Cp.lit_le {x : Str} (h : PyData.strOk x = true) : Cp x := .of h
theorem Cp.list {ts : List Str} (h : ∀ t ∈ ts, Cp t) : Cp (listText ts) := by
  rw [listText_eq_join]
  exact ((Cp.of (by decide +kernel)).app (Cp.join (.of (by decide +kernel)) ts h)).app (.of (by decide +kernel))
theorem Cp.tuple {ts : List Str} (h : ∀ t ∈ ts, Cp t) : Cp (tupleText ts) := by
  unfold tupleText
  refine ((Cp.of (by decide +kernel)).app (Cp.join (.of (by decide +kernel)) ts h)).app ?_
  split <;> exact .of (by decide +kernel)
theorem Cp.intS (i : Int) : Cp (PySem.Str.ofString (toString i)) := by
  intro c hc
  rw [Str.ofString_eq_toList] at hc
  simp only [List.mem_map] at hc
  obtain ⟨ch, h1, rfl⟩ := hc
  rcases int_sign i ch h1 with h | h
  · have := digit_range h; omega
  · subst h; decide
mutual
def sm : PyData → Bool
  | .none => true
  | .bool _ => true
  | .int i => decide (i.natAbs < 1099511627776)
  | .str x => PyData.strOk x && PyData.strOk (PyData.str x).shown
  | .list ds => sms ds
  | .tuple ds => sms ds
  | .dict _ => false
def sms : List PyData → Bool
  | [] => true
  | d :: ds => sm d && sms ds
end
theorem log2_lt {n : Nat} (h : n < 1099511627776) : n.log2 < 40 := by
  by_cases e : n = 0
  · subst e; decide
  · exact (Nat.log2_lt e).mpr (by simpa using h)
mutual
theorem sm_noDict : ∀ d : PyData, sm d = true → noDict d = true
  | .none, _ => rfl
  | .bool _, _ => rfl
  | .int _, _ => rfl
  | .str _, _ => rfl
  | .list ds, h => by simpa [noDict] using sms_noDict ds (by simpa [sm] using h)
  | .tuple ds, h => by simpa [noDict] using sms_noDict ds (by simpa [sm] using h)
  | .dict _, h => by simp [sm] at h
theorem sms_noDict : ∀ ds : List PyData, sms ds = true → noDicts ds = true
  | [], _ => rfl
  | d :: ds, h => by
    simp only [sms, Bool.and_eq_true] at h
    simp only [noDicts, Bool.and_eq_true]
    exact ⟨sm_noDict d h.1, sms_noDict ds h.2⟩
end
mutual
theorem sm_show : ∀ d : PyData, sm d = true → d.showable = true
  | .none, _ => rfl
  | .bool _, _ => rfl
  | .int i, h => by
    simp only [sm, decide_eq_true_eq] at h
    have := log2_lt h
    simp only [PyData.showable, decide_eq_true_eq]; omega
  | .str _, _ => rfl
  | .list ds, h => by simpa [PyData.showable] using sms_show ds (by simpa [sm] using h)
  | .tuple ds, h => by simpa [PyData.showable] using sms_show ds (by simpa [sm] using h)
  | .dict _, h => by simp [sm] at h
theorem sms_show : ∀ ds : List PyData, sms ds = true → PyData.showableAll ds = true
  | [], _ => rfl
  | d :: ds, h => by
    simp only [sms, Bool.and_eq_true] at h
    simp only [PyData.showableAll, Bool.and_eq_true]
    exact ⟨sm_show d h.1, sms_show ds h.2⟩
end
mutual
theorem sm_leaves : ∀ d : PyData, sm d = true → d.leavesShort 41 = true
  | .none, _ => rfl
  | .bool _, _ => rfl
  | .int i, h => by
    simp only [sm, decide_eq_true_eq] at h
    have := int_text_length_le (a := i) (k := 40) (by decide) (log2_lt h)
    simp only [PyData.leavesShort, decide_eq_true_eq]
    show (PySem.Str.ofString (toString i)).length ≤ 41
    rw [Str.ofString_eq_toList]
    simpa [Str.length, String.length_toList] using this
  | .str x, h => by
    simp only [sm, Bool.and_eq_true] at h
    simp only [PyData.leavesShort, List.all_eq_true, decide_eq_true_eq]
    intro c hc
    have := Cp.of h.1 c hc
    omega
  | .list ds, h => by simpa [PyData.leavesShort] using sms_leaves ds (by simpa [sm] using h)
  | .tuple ds, h => by simpa [PyData.leavesShort] using sms_leaves ds (by simpa [sm] using h)
  | .dict _, h => by simp [sm] at h
theorem sms_leaves : ∀ ds : List PyData, sms ds = true → PyData.leavesShortAll 41 ds = true
  | [], _ => rfl
  | d :: ds, h => by
    simp only [sms, Bool.and_eq_true] at h
    simp only [PyData.leavesShortAll, Bool.and_eq_true]
    exact ⟨sm_leaves d h.1, sms_leaves ds h.2⟩
end
mutual
theorem sm_cp : ∀ d : PyData, sm d = true → Cp d.shown
  | .none, _ => .of (by decide +kernel)
  | .bool b, _ => by cases b <;> exact .of (by decide +kernel)
  | .int i, h => Cp.intS i
  | .str x, h => by
    simp only [sm, Bool.and_eq_true] at h
    exact .of h.2
  | .list ds, h => by
    simp only [PyData.shown]
    exact Cp.list (sms_cp ds (by simpa [sm] using h))
  | .tuple ds, h => by
    simp only [PyData.shown]
    exact Cp.tuple (sms_cp ds (by simpa [sm] using h))
  | .dict _, h => by simp [sm] at h
theorem sms_cp : ∀ ds : List PyData, sms ds = true → ∀ t ∈ PyData.shownAll ds, Cp t
  | [], _ => fun t ht => by simp [PyData.shownAll] at ht
  | d :: ds, h => fun t ht => by
    simp only [sms, Bool.and_eq_true] at h
    simp only [PyData.shownAll, List.mem_cons] at ht
    rcases ht with rfl | ht
    · exact sm_cp d h.1
    · exact sms_cp ds h.2 t ht
end
/-- repr is told -/
structure Rp (d : PyData) : Prop where
  eq : reprD d = some (.str d.shown)
  ok : PyData.strOk d.shown = true
theorem rp_of {d : PyData} (h : sm d = true) (hd : d.depth ≤ 40) (hw : d.weight ≤ 300000) : Rp d := by
  have l := PyData.shown_le 41 (by decide) d (sm_leaves d h)
  have l2 : (41 + 2) * d.weight ≤ 43 * 300000 := Nat.mul_le_mul (by decide) hw
  have ok : reprOk d = true := by
    simp only [reprOk, Bool.and_eq_true, decide_eq_true_eq]
    exact ⟨⟨⟨sm_noDict d h, sm_show d h⟩, hd⟩, lenOk_le (by omega)⟩
  exact ⟨by simp only [reprD, ok, if_true], (sm_cp d h).ok⟩
theorem str_shaped {x : Str} (h : PyData.strOk x = true) : SeqAt.shaped (.str x) = true := by
  simp only [SeqAt.shaped, PyData.canLay0, h, PyData.depth, Nat.zero_le, decide_true, Bool.and_self]
theorem eqD_str {x y : Str} (hx : PyData.strOk x = true) (hy : PyData.strOk y = true) [Decidable (x = y)] : eqD (.str x) (.str y) = some (.bool (decide (x = y))) := by
  simp only [eqD, str_shaped hx, str_shaped hy, Bool.and_self, if_true, PyData.eqv]
  congr 2
  rw [Bool.eq_iff_iff]; simp
theorem neD_str {x y : Str} (hx : PyData.strOk x = true) (hy : PyData.strOk y = true) [Decidable (x = y)] : neD (.str x) (.str y) = some (.bool (!decide (x = y))) := by
  simp only [neD, str_shaped hx, str_shaped hy, Bool.and_self, if_true, PyData.eqv]
  congr 3
  rw [Bool.eq_iff_iff]; simp
/-! ### how much data weighs -/
theorem weights_map {α : Type} {f : α → PyData} {k : Nat} (h : ∀ a, (f a).weight ≤ k) : ∀ xs : List α, PyData.weightAll (xs.map f) ≤ xs.length * (k + 1)
  | [] => by simp [PyData.weightAll]
  | x :: xs => by
    have := h x; have := weights_map h xs
    simp only [List.map_cons, PyData.weightAll, List.length_cons, Nat.succ_mul]; omega
theorem weights_mem {α : Type} {f : α → PyData} {k : Nat} : ∀ (xs : List α), (∀ a ∈ xs, (f a).weight ≤ k) → PyData.weightAll (xs.map f) ≤ xs.length * (k + 1)
  | [], _ => by simp [PyData.weightAll]
  | x :: xs, h => by
    have := h x (by simp); have := weights_mem xs fun a ha => h a (by simp [ha])
    simp only [List.map_cons, PyData.weightAll, List.length_cons, Nat.succ_mul]; omega
theorem weight_int {i : Int} (h : i.natAbs < 1099511627776) : (PyData.int i).weight ≤ 40 := by
  simp only [PyData.weight]
  split
  · omega
  · have := log2_lt h; omega
theorem sms_map {α : Type} {f : α → PyData} : ∀ (xs : List α), (∀ a ∈ xs, sm (f a) = true) → sms (xs.map f) = true
  | [], _ => rfl
  | x :: xs, h => by simp [sms, h x (by simp), sms_map xs fun a ha => h a (by simp [ha])]
theorem sm_int {i : Int} (h : i.natAbs < 1099511627776) : sm (.int i) = true := by simp [sm, h]
theorem depths_mem {α : Type} {f : α → PyData} {k : Nat} : ∀ (xs : List α), (∀ a ∈ xs, (f a).depth ≤ k) → PyData.depthAll (xs.map f) ≤ k
  | [], _ => by simp [PyData.depthAll]
  | x :: xs, h => by
    have := h x (by simp); have := depths_mem xs fun a ha => h a (by simp [ha])
    simp only [List.map_cons, PyData.depthAll]; omega
/-- small data, so deep, so heavy -/
structure Sz (d : PyData) (k n : Nat) : Prop where
  sm : sm d = true
  dp : d.depth ≤ k
  wt : d.weight ≤ n
theorem Sz.int {i : Int} (h : i.natAbs < 1099511627776) : Sz (.int i) 0 40 := ⟨sm_int h, Nat.le_refl _, weight_int h⟩
theorem Sz.none : Sz .none 0 0 := ⟨rfl, Nat.le_refl _, Nat.le_refl _⟩
theorem Sz.bool (b : Bool) : Sz (.bool b) 0 0 := ⟨rfl, Nat.le_refl _, Nat.le_refl _⟩
theorem Sz.tup {α : Type} {f : α → PyData} {k n : Nat} (xs : List α) (h : ∀ a ∈ xs, Sz (f a) k n) : Sz (.tuple (xs.map f)) (k + 1) (xs.length * (n + 1)) :=
  ⟨by simp only [DL.sm]; exact sms_map xs fun a ha => (h a ha).sm, by simp only [PyData.depth]; have := depths_mem xs fun a ha => (h a ha).dp; omega, by simp only [PyData.weight]; exact weights_mem xs fun a ha => (h a ha).wt⟩
theorem Sz.lst {α : Type} {f : α → PyData} {k n : Nat} (xs : List α) (h : ∀ a ∈ xs, Sz (f a) k n) : Sz (.list (xs.map f)) (k + 1) (xs.length * (n + 1)) :=
  ⟨by simp only [DL.sm]; exact sms_map xs fun a ha => (h a ha).sm, by simp only [PyData.depth]; have := depths_mem xs fun a ha => (h a ha).dp; omega, by simp only [PyData.weight]; exact weights_mem xs fun a ha => (h a ha).wt⟩
theorem Sz.tup2 {a b : PyData} {k n l m : Nat} (h1 : Sz a k n) (h2 : Sz b l m) : Sz (.tuple [a, b]) (max k l + 1) (n + m + 2) :=
  ⟨by simp [DL.sm, sms, h1.sm, h2.sm], by have := h1.dp; have := h2.dp; simp only [PyData.depth, PyData.depthAll]; omega, by have := h1.wt; have := h2.wt; simp only [PyData.weight, PyData.weightAll]; omega⟩
theorem Sz.tup3 {a b c : PyData} {k n l m p q : Nat} (h1 : Sz a k n) (h2 : Sz b l m) (h3 : Sz c p q) : Sz (.tuple [a, b, c]) (max k (max l p) + 1) (n + m + q + 3) :=
  ⟨by simp [DL.sm, sms, h1.sm, h2.sm, h3.sm], by have := h1.dp; have := h2.dp; have := h3.dp; simp only [PyData.depth, PyData.depthAll]; omega, by have := h1.wt; have := h2.wt; have := h3.wt; simp only [PyData.weight, PyData.weightAll]; omega⟩
theorem Sz.cons {d : PyData} {ds : List PyData} {k n l m : Nat} (h1 : Sz d k n) (h2 : Sz (.list ds) (l + 1) m) : Sz (.list (d :: ds)) (max k l + 1) (n + m + 1) :=
  ⟨by have := h2.sm; simp only [DL.sm] at this; simp [DL.sm, sms, h1.sm, this], by have := h1.dp; have := h2.dp; simp only [PyData.depth, PyData.depthAll] at *; omega, by have := h1.wt; have := h2.wt; simp only [PyData.weight, PyData.weightAll] at *; omega⟩
theorem Sz.nil : Sz (.list []) 1 0 := ⟨rfl, by simp [PyData.depth, PyData.depthAll], by simp [PyData.weight, PyData.weightAll]⟩
theorem Sz.rp {d : PyData} {k n : Nat} (h : Sz d k n) (hk : k ≤ 40) (hn : n ≤ 300000) : Rp d := rp_of h.sm (Nat.le_trans h.dp hk) (Nat.le_trans h.wt hn)
end DL

/-! R7: dict(pairs); isinstance. -/
namespace DL
open PySem PySem.Spec PyProof.Rows L2
def amerge {α β : Type} [DecidableEq α] (xs : List (α × β)) : List (α × β) := xs.foldl (fun acc p => aput acc p.1 p.2) []
section
variable {α β : Type} [DecidableEq α] {f : α → PyData} {g : β → PyData}
theorem dPut_dc (hk : Ky f) (kvs : List (α × β)) (a : α) (b : β) : dPut (kvs.map fun p => (f p.1, g p.2)) (f a) (g b) = (aput kvs a b).map fun p => (f p.1, g p.2) := by
  simp only [dPut, dHas_dc hk, aput]
  by_cases e : a ∈ kvs.map (·.1)
  · simp only [e, decide_true, if_true, List.map_map]
    apply List.map_congr_left
    intro p _
    simp only [Function.comp, hk.eq]
    by_cases z : p.1 = a <;> simp [z]
  · simp [e]
theorem pairs_map : ∀ xs : List (α × β), pairs? (xs.map fun p => PyData.tuple [f p.1, g p.2]) = some (xs.map fun p => (f p.1, g p.2))
  | [] => rfl
  | x :: xs => by simp [pairs?, pairs_map xs]
theorem dict_en (hk : Ky f) (xs : List (α × β)) : dictD (.list (xs.map fun p => PyData.tuple [f p.1, g p.2])) = some (dcD f g (amerge xs)) := by
  have hm : ∀ (xs acc : List (α × β)), dMerge (acc.map fun p => (f p.1, g p.2)) (xs.map fun p => (f p.1, g p.2)) = (xs.foldl (fun acc p => aput acc p.1 p.2) acc).map fun p => (f p.1, g p.2) := by
    intro xs
    induction xs with
    | nil => intro acc; rfl
    | cons x xs ih =>
      intro acc
      have := ih (aput acc x.1 x.2)
      simp only [dMerge, List.map_cons, List.foldl_cons, dPut_dc hk] at this ⊢
      exact this
  have hm := hm xs []
  simp only [List.map_nil] at hm
  have ok : ((xs.map fun p => (f p.1, g p.2)).all (fun p => isKeyK p.1) || (xs.map fun p => (f p.1, g p.2)).all (fun p => isKeyT p.1)) = true := by
    rw [Bool.or_eq_true]
    rcases hk.kd with h | h
    · left; simp only [List.all_map, List.all_eq_true, Function.comp, h]; intros; trivial
    · right; simp only [List.all_map, List.all_eq_true, Function.comp, h]; intros; trivial
  simp only [dictD, pairs_map, Option.bind_some, ok, if_true, hm]
  rfl
theorem aget_aput (kvs : List (α × β)) (a c : α) (b : β) : aget (aput kvs a b) c = if a = c then some b else aget kvs c := by
  unfold aput
  by_cases e : a ∈ kvs.map (·.1)
  · rw [if_pos e]
    induction kvs with
    | nil => simp at e
    | cons p r ih =>
      obtain ⟨k, v⟩ := p
      by_cases h : k = a
      · subst h
        by_cases h2 : k = c
        · simp [aget, h2]
        · simp only [List.map_cons, if_true, aget, h2, if_false]
          by_cases e2 : k ∈ r.map (·.1)
          · rw [ih e2, if_neg h2]
          · congr 1
            have : ∀ p ∈ r, (if p.1 = k then (p.1, b) else p) = p := fun p hp => if_neg fun (z : p.1 = k) => e2 (z ▸ List.mem_map_of_mem (f := (·.1)) hp)
            rw [List.map_congr_left this, List.map_id' ]
      · have e2 : a ∈ r.map (·.1) := by
          simp only [List.map_cons, List.mem_cons] at e
          exact e.elim (fun z => absurd z.symm h) id
        simp only [List.map_cons, h, if_false, aget]
        by_cases h2 : k = c
        · subst h2
          rw [if_pos rfl, if_neg (fun z => h z.symm), if_pos rfl]
        · simp only [h2, if_false]; exact ih e2
  · rw [if_neg e]
    induction kvs with
    | nil => simp [aget]
    | cons p r ih =>
      obtain ⟨k, v⟩ := p
      have e2 : a ∉ r.map (·.1) := fun z => e (by simp only [List.map_cons, List.mem_cons]; exact .inr z)
      have h : k ≠ a := fun z => e (by simp [z])
      simp only [List.cons_append, aget]
      by_cases h2 : k = c
      · subst h2
        rw [if_pos rfl, if_neg (fun z => h z.symm), if_pos rfl]
      · simp only [h2, if_false]; exact ih e2
theorem amerge_get (xs : List (α × β)) (a : α) (b : β) (hf : ∀ b', (a, b') ∈ xs → b' = b) (h : (a, b) ∈ xs) : aget (amerge xs) a = some b := by
  have key : ∀ (xs acc : List (α × β)), (∀ b', (a, b') ∈ xs → b' = b) → (aget acc a = some b ∨ (a, b) ∈ xs) → aget (xs.foldl (fun acc p => aput acc p.1 p.2) acc) a = some b := by
    intro xs
    induction xs with
    | nil => intro acc _ h; exact h.elim id fun z => by simp at z
    | cons x xs ih =>
      intro acc hf h
      rw [List.foldl_cons]
      refine ih _ (fun b' hb => hf b' (by simp [hb])) ?_
      rw [aget_aput]
      by_cases e : x.1 = a
      · rw [if_pos e]
        exact .inl (by rw [hf x.2 (by rw [← e]; simp)])
      · rw [if_neg e]
        rcases h with h | h
        · exact .inl h
        · rcases List.mem_cons.mp h with z | z
          · exact absurd (by rw [← z]) e
          · exact .inr z
  exact key xs [] hf (.inr h)
end
theorem Ky.natInt : Ky (fun p : Nat × Int => PyData.tuple [.int (p.1 : Int), .int p.2]) := ⟨fun a b => by
  obtain ⟨a1, a2⟩ := a; obtain ⟨b1, b2⟩ := b
  simp only [keq, keqs, Prod.mk.injEq, Bool.and_true, ← Bool.decide_and]
  rw [decide_eq_decide]; omega, .inr fun a => rfl⟩
theorem isi_tuple (ds : List PyData) : isiD "tuple" (.tuple ds) = some (.bool true) := by
  show (kitB "tuple" "tuple").map PyData.bool = _
  have : kitB "tuple" "tuple" = some true := by decide +kernel
  rw [this]; rfl
end DL

namespace CJ
open PySem DL
def N_sums_of : List Str := ["web", "standing", "found", "one", "other", "load"]
def b_sums_of : M Fl :=
    (sCons (sSet 2 (eOp2 repL (eLst (aCons (eC (.int (0))) aNil)) (eOp2 ixA (eV 0) (eC (.int (0))))))
      (sCons (sFor (iZp (aCons (eOp2 ixA (eV 0) (eC (.int (1)))) (aCons (eV 1) aNil))) (gTupM 2 (gsCons (gTupM 2 (gsCons (gSet 3) (gsCons (gSet 4) gsNil))) (gsCons (gSet 5) gsNil)))
        (noCt (sClr [3, 4, 5] (sCons (sPut 2 (eOp2 addD (eSlot 2 ixA (eV 3)) (eV 5)) (eV 3))
      (sPut 2 (eOp2 addD (eSlot 2 ixA (eV 4)) (eV 5)) (eV 4))))))
      (sRet (eOp1 tupD (eV 2)))))
def m_sums_of : FM := defM N_sums_of.length [.fz, .fz] b_sums_of
def N_unlike_roads : List Str := ["web", "standing", "sums", "road", "one", "other"]
def b_unlike_roads : M Fl :=
    (sCons (sSet 2 (eCall m_sums_of [.val, .val] (aCons (eV 0) (aCons (eV 1) aNil))))
      (sRet (eOp1 tupD (eLc (iEn (aCons (eOp2 ixA (eV 0) (eC (.int (1)))) aNil)) [3, 4, 5] (gTupM 2 (gsCons (gSet 3) (gsCons (gTupM 2 (gsCons (gSet 4) (gsCons (gSet 5) gsNil))) gsNil))) (tTru (eOp2 neD (eOp2 ixA (eV 2) (eV 4)) (eOp2 ixA (eV 2) (eV 5)))) (eV 3)))))
def m_unlike_roads : FM := defM N_unlike_roads.length [.fz, .fz] b_unlike_roads
def N_with_load : List Str := ["standing", "road", "load"]
def b_with_load : M Fl :=
    (sRet (eOp2 addD (eOp2 addD (eSl slA (eV 0) oNone (oSome (eV 1))) (eTup (aCons (eV 2) aNil))) (eSl slA (eV 0) (oSome (eOp2 addD (eV 1) (eC (.int (1))))) oNone)))
def m_with_load : FM := defM N_with_load.length [.fz, .fz, .fz] b_with_load
def N_beside : List Str := ["web", "standing", "n", "roads", "most", "found", "road", "load"]
def b_beside : M Fl :=
    (sCons (sAsg (eV 0) (gTupM 3 (gsCons (gSet 2) (gsCons (gSet 3) (gsCons (gSet 4) gsNil)))))
      (sCons (sSet 5 (eLst aNil))
      (sPre [2, 3] (sCons (sFor (iSeq (eCall m_unlike_roads [.val, .val] (aCons (eV 0) (aCons (eV 1) aNil)))) (gSet 6)
        (noCt (sCons (sSet 7 (eOp2 ixA (eV 1) (eV 6)))
      (sCons (sIf (tTru (eOp2 gtI (eV 7) (eC (.int (0)))))
        (sExp (eMut 5 muAppend (aCons (eTup (aCons (eTup (aCons (eV 6) (aCons (eOp1 negD (eC (.int (1)))) aNil))) (aCons (eCall m_with_load [.val, .val, .val] (aCons (eV 1) (aCons (eV 6) (aCons (eOp2 subD (eV 7) (eC (.int (1)))) aNil)))) aNil))) aNil)))
        sNil)
      (sIf (tTru (eOp2 ltI (eV 7) (eOp2 ixA (eV 4) (eV 6))))
        (sClr [6, 7] (sExp (eMut 5 muAppend (aCons (eTup (aCons (eTup (aCons (eV 6) (aCons (eC (.int (1))) aNil))) (aCons (eCall m_with_load [.val, .val, .val] (aCons (eV 1) (aCons (eV 6) (aCons (eOp2 addD (eV 7) (eC (.int (1)))) aNil)))) aNil))) aNil))))
        (sClr [6, 7] sNil))))))
      (sRet (eV 5))))))
def m_beside : FM := defM N_beside.length [.fz, .fz] b_beside
def N_reached : List Str := ["web", "start", "closed", "limit", "known", "waiting", "at", "elder", "deed", "standing"]
def b_reached : M Fl :=
    (sCons (sPar3 4 5 6 (eDisp1 isKeyT (eV 1) (eC .none)) (eLst (aCons (eV 1) aNil)) (eC (.int (0))))
      (sPre [1] (sCons (sWhile (tTru (eOp2 ltI (eV 6) (eOp1 lenD (eV 5))))
        (noCt (sClr [7] (sCons (sSet 7 (eSlot 5 ixA (eV 6)))
      (sCons (sSet 6 (eOp2 addD (eV 6) (eC (.int (1)))))
      (sFor (iSeq (eCall m_beside [.val, .val] (aCons (eV 0) (aCons (eV 7) aNil)))) (gTupM 2 (gsCons (gSet 8) (gsCons (gSet 9) gsNil)))
        (noCt (sIf (tAndM (tTru (eOp2 notInA (eOp2 ixA (eV 8) (eC (.int (0)))) (eV 2))) (tTru (eOp2 notInA (eV 9) (eV 4))))
        (sClr [8, 9] (sCons (sIf (tTru (eOp2 eqD (eOp1 lenD (eV 4)) (eV 3)))
        (sRaise "TooMany" ["limit"] (aCons (eV 3) aNil))
        sNil)
      (sCons (sPut 4 (eTup (aCons (eV 7) (aCons (eV 8) aNil))) (eV 9))
      (sExp (eMut 5 muAppend (aCons (eV 9) aNil))))))
        (sClr [8, 9] sNil)))))))))
      (sRet (eV 4)))))
def m_reached : FM := defM N_reached.length [.fz, .fz, .fz, .fz] b_reached
def N_way_to : List Str := ["known", "standing", "found", "step"]
def b_way_to : M Fl :=
    (sCons (sSet 2 (eLst aNil))
      (sCons (sSet 3 (eOp2 ixA (eV 0) (eV 1)))
      (sPre [1] (sCons (sWhile (tTru (eOp2 isNotD (eV 3) (eC .none)))
        (noCt (sCons (sExp (eMut 2 muAppend (aCons (eOp2 ixA (eV 3) (eC (.int (1)))) aNil)))
      (sSet 3 (eOp2 ixA (eV 0) (eOp2 ixA (eV 3) (eC (.int (0)))))))))
      (sRet (eOp1 tupD (eOp1 revL (eV 2))))))))
def m_way_to : FM := defM N_way_to.length [.fz, .fz] b_way_to
def N_closed_way : List Str := ["web", "one", "other", "closed", "known"]
def b_closed_way : M Fl :=
    (sCons (sSet 4 (eCall m_reached [.val, .val, .val, .val] (aCons (eV 0) (aCons (eV 1) (aCons (eV 3) (aCons (eC (.int (2000))) aNil))))))
      (sRet (eIf (tTru (eOp2 inA (eV 2) (eV 4))) (eCall m_way_to [.val, .val] (aCons (eV 4) (aCons (eV 2) aNil))) (eC .none))))
def m_closed_way : FM := defM N_closed_way.length [.fz, .fz, .fz, .fz] b_closed_way
def N__law_jar : List Str := ["script", "own", "cells", "seal", "far"]
def b__law_jar : M Fl :=
    (sCons (sPar2 2 3 (eLc (iSeq (eSl slA (eV 0) oNone (oSome (eC (.int (63)))))) [1] (gSet 1) tYesM (eIf (tTru (eOp2 geI (eV 1) (eC (.int (0))))) (eOp2 mulI (eC (.int (2))) (eV 1)) (eOp2 subD (eOp2 mulI (eOp1 negD (eC (.int (2)))) (eV 1)) (eC (.int (1)))))) (eOp2 addD (eOp2 mulI (eC (.int (3))) (eOp1 lenD (eV 0))) (eC (.int (11)))))
      (sPre [0] (sCons (sFor (iSeq (eV 2)) (gSet 1)
        (noCt (sClr [1] (sSet 3 (eOp2 modD (eOp1 intD (eOp2 addD (eOp2 addD (eOp2 mulI (eV 3) (eC (.int (16807)))) (eOp2 mulI (eV 1) (eC (.int (3))))) (eC (.int (5))))) (eC (.int (4294967279))))))))
      (sCons (sSet 4 (eLc (iSeq (eV 2)) [1] (gSet 1) (tTru (eOp2 geI (eV 1) (eOp2 powD (eC (.int (10))) (eC (.int (18)))))) (eV 1)))
      (sRet (eJar 4 (eOp2 addD (eV 2) (eLst (aCons (eOp2 addD (eOp2 mulI (eC (.int (5))) (eOp1 lenD (eV 2))) (eC (.int (3)))) aNil))) (eV 3) (eC (.int (0)))))))))
def m__law_jar : FM := defM N__law_jar.length [.fz] b__law_jar
def N__law_draw : List Str := ["jar", "many", "far", "own", "count", "cells", "mixed", "turn"]
def b__law_draw : M Fl :=
    (sJfar 0 1 (sCons (sJput 0 (eOp2 addD (eJget 0 "count") (eC (.int (1)))))
      (sCons (sPar2 4 5 (eJget 0 "count") (eJget 0 "cells"))
      (sCons (sSet 6 (eOp2 modD (eOp1 intD (eOp2 addD (eOp2 addD (eOp2 mulI (eOp2 ixA (eV 5) (eOp2 modD (eOp1 intD (eOp2 mulI (eV 4) (eC (.int (5))))) (eOp1 lenD (eV 5)))) (eC (.int (2654435761)))) (eOp2 mulI (eJget 0 "seal") (eC (.int (3))))) (eOp2 mulI (eV 4) (eC (.int (40503)))))) (eC (.int (4294967291)))))
      (sPre [5] (sCons (sFor (iR (aCons (eC (.int (2))) aNil)) (gSet 7)
        (noCt (sClr [7] (sSet 6 (eOp2 modD (eOp1 intD (eOp2 addD (eOp2 addD (eOp2 mulI (eV 6) (eV 6)) (eJget 0 "seal")) (eOp2 mulI (eV 4) (eOp2 addD (eC (.int (17))) (eV 7))))) (eC (.int (4294967231))))))))
      (sRet (eOp2 modD (eOp1 intD (eOp2 fdivD (eV 6) (eC (.int (1024))))) (eV 1)))))))))
def m__law_draw : FM := defM N__law_draw.length [.io JK, .fz] b__law_draw
def N__law_pick : List Str := ["jar", "row"]
def b__law_pick : M Fl :=
    (sRet (eOp2 ixA (eV 1) (eCall m__law_draw [.lend 0, .val] (aLend (aCons (eOp1 lenD (eV 1)) aNil)))))
def m__law_pick : FM := defM N__law_pick.length [.io JK, .fz] b__law_pick
def N__law_mixed : List Str := ["jar", "row", "rest", "found", "turn"]
def b__law_mixed : M Fl :=
    (sCons (sPar2 2 3 (eOp1 listD (eV 1)) (eLst aNil))
      (sPre [1] (sCons (sFor (iR (aCons (eOp1 lenD (eV 2)) aNil)) (gSet 4)
        (noCt (sClr [4] (sExp (eMut 3 muAppend (aCons (eMut 2 muPopAt (aCons (eCall m__law_draw [.lend 0, .val] (aLend (aCons (eOp1 lenD (eV 2)) aNil))) aNil)) aNil))))))
      (sRet (eV 3)))))
def m__law_mixed : FM := defM N__law_mixed.length [.io JK, .fz] b__law_mixed
def N__law_made : List Str := ["jar", "n", "pairs", "loads", "names", "found", "a", "b", "load"]
def b__law_made : M Fl :=
    (sCons (sPar2 4 5 (eCall m__law_mixed [.lend 0, .val] (aLend (aCons (eRg1 (eV 1)) aNil))) (eLst aNil))
      (sCons (sFor (iZp (aCons (eV 2) (aCons (eV 3) aNil))) (gTupM 2 (gsCons (gTupM 2 (gsCons (gSet 6) (gsCons (gSet 7) gsNil))) (gsCons (gSet 8) gsNil)))
        (noCt (sClr [6, 7, 8] (sExp (eMut 5 muAppend (aCons (eTup (aCons (eOp2 min2D (eOp2 ixA (eV 4) (eV 6)) (eOp2 ixA (eV 4) (eV 7))) (aCons (eOp2 max2D (eOp2 ixA (eV 4) (eV 6)) (eOp2 ixA (eV 4) (eV 7))) (aCons (eV 8) aNil)))) aNil))))))
      (sCons (sSet 5 (eOp1 sortD (eV 5)))
      (sRet (eTup (aCons (eV 1) (aCons (eOp1 tupD (eLc (iSeq (eV 5)) [6, 7, 8] (gTupM 3 (gsCons (gSet 6) (gsCons (gSet 7) (gsCons (gSet 8) gsNil)))) tYesM (eTup (aCons (eV 6) (aCons (eV 7) aNil))))) (aCons (eOp1 tupD (eLc (iSeq (eV 5)) [6, 7, 8] (gTupM 3 (gsCons (gSet 6) (gsCons (gSet 7) (gsCons (gSet 8) gsNil)))) tYesM (eV 8))) aNil))))))))
def m__law_made : FM := defM N__law_made.length [.io JK, .fz, .fz, .fz] b__law_made
def N__law_tree : List Str := ["jar", "n", "place"]
def b__law_tree : M Fl :=
    (sRet (eLc (iR (aCons (eC (.int (1))) (aCons (eV 1) aNil))) [2] (gSet 2) tYesM (eTup (aCons (eCall m__law_draw [.lend 0, .val] (aLend (aCons (eV 2) aNil))) (aCons (eV 2) aNil)))))
def m__law_tree : FM := defM N__law_tree.length [.io JK, .fz] b__law_tree
def N__law_more : List Str := ["jar", "n", "pairs", "many", "rest", "a", "b"]
def b__law_more : M Fl :=
    (sCons (sSet 4 (eLst aNil))
      (sCons (sFor (iR (aCons (eV 1) aNil)) (gSet 5)
        (noCt (sClr [5] (sSet 4 (eOp2 addD (eV 4) (eLc (iR (aCons (eOp2 addD (eV 5) (eC (.int (1)))) (aCons (eV 1) aNil))) [6] (gSet 6) (tTru (eOp2 notInA (eTup (aCons (eV 5) (aCons (eV 6) aNil))) (eV 2))) (eTup (aCons (eV 5) (aCons (eV 6) aNil)))))))))
      (sRet (eOp2 addD (eV 2) (eSl slA (eCall m__law_mixed [.lend 0, .val] (aLend (aCons (eV 4) aNil))) oNone (oSome (eV 3)))))))
def m__law_more : FM := defM N__law_more.length [.io JK, .fz, .fz, .fz] b__law_more
def N__law_web : List Str := ["jar", "way", "far", "k", "pairs", "n", "elder", "a", "b", "most", "pair"]
def b__law_web : M Fl :=
    (sCons (sPar2 1 2 (eCall m__law_draw [.lend 0, .val] (aLend (aCons (eC (.int (8))) aNil))) (eOp2 addD (eC (.int (5))) (eCall m__law_draw [.lend 0, .val] (aLend (aCons (eC (.int (3))) aNil)))))
      (sCons (sPar2 4 5 (eLc (iR (aCons (eOp2 subD (eV 2) (eC (.int (1)))) aNil)) [3] (gSet 3) tYesM (eTup (aCons (eV 3) (aCons (eOp2 addD (eV 3) (eC (.int (1)))) aNil)))) (eV 2))
      (sCons (sIf (tTru (eOp2 eqD (eV 1) (eC (.int (1)))))
        (sClr [2] (sSet 4 (eOp2 addD (eV 4) (eLst (aCons (eTup (aCons (eC (.int (0))) (aCons (eOp2 subD (eV 2) (eC (.int (1)))) aNil))) aNil)))))
        (sIf (tTru (eOp2 eqD (eV 1) (eC (.int (2)))))
        (sClr [2] (sCons (sSet 5 (eOp2 addD (eC (.int (3))) (eCall m__law_draw [.lend 0, .val] (aLend (aCons (eC (.int (6))) aNil)))))
      (sSet 4 (eCall m__law_tree [.lend 0, .val] (aLend (aCons (eV 5) aNil))))))
        (sIf (tTru (eOp2 eqD (eV 1) (eC (.int (3)))))
        (sClr [2] (sCons (sSet 5 (eOp2 addD (eC (.int (4))) (eCall m__law_draw [.lend 0, .val] (aLend (aCons (eC (.int (3))) aNil)))))
      (sSet 4 (eCall m__law_more [.lend 0, .val, .val, .val] (aLend (aCons (eV 5) (aCons (eCall m__law_tree [.lend 0, .val] (aLend (aCons (eV 5) aNil))) (aCons (eOp2 addD (eC (.int (1))) (eCall m__law_draw [.lend 0, .val] (aLend (aCons (eC (.int (2))) aNil)))) aNil))))))))
        (sIf (tTru (eOp2 eqD (eV 1) (eC (.int (4)))))
        (sClr [6] (sCons (sSet 6 (eCall m__law_pick [.lend 0, .val] (aLend (aCons (eLst (aCons (eLst (aCons (eTup (aCons (eC (.int (0))) (aCons (eC (.int (1))) aNil))) (aCons (eTup (aCons (eC (.int (0))) (aCons (eC (.int (2))) aNil))) (aCons (eTup (aCons (eC (.int (0))) (aCons (eC (.int (3))) aNil))) aNil)))) (aCons (eLst (aCons (eTup (aCons (eC (.int (0))) (aCons (eC (.int (1))) aNil))) (aCons (eTup (aCons (eC (.int (0))) (aCons (eC (.int (2))) aNil))) (aCons (eTup (aCons (eC (.int (0))) (aCons (eC (.int (3))) aNil))) aNil)))) (aCons (eLst (aCons (eTup (aCons (eC (.int (0))) (aCons (eC (.int (1))) aNil))) (aCons (eTup (aCons (eC (.int (1))) (aCons (eC (.int (2))) aNil))) aNil))) aNil)))) aNil))))
      (sCons (sPar2 5 4 (eOp2 addD (eOp2 mulI (eC (.int (2))) (eOp1 lenD (eV 6))) (eC (.int (1)))) (eLst aNil))
      (sPre [2] (sFor (iEn (aCons (eV 6) aNil)) (gTupM 2 (gsCons (gSet 3) (gsCons (gTupM 2 (gsCons (gSet 7) (gsCons (gSet 8) gsNil))) gsNil)))
        (noCt (sClr [3, 7, 8] (sSet 4 (eOp2 addD (eV 4) (eLst (aCons (eTup (aCons (eV 7) (aCons (eOp2 addD (eOp2 addD (eOp1 lenD (eV 6)) (eC (.int (1)))) (eV 3)) aNil))) (aCons (eTup (aCons (eV 8) (aCons (eOp2 addD (eOp2 addD (eOp1 lenD (eV 6)) (eC (.int (1)))) (eV 3)) aNil))) aNil))))))))))))
        (sIf (tTru (eOp2 eqD (eV 1) (eC (.int (5)))))
        (sClr [2] (sCons (sSet 5 (eCall m__law_pick [.lend 0, .val] (aLend (aCons (eLst (aCons (eC (.int (2))) (aCons (eC (.int (3))) (aCons (eC (.int (3))) (aCons (eC (.int (4))) (aCons (eC (.int (4))) (aCons (eC (.int (4))) aNil))))))) aNil))))
      (sSet 4 (eCall m__law_more [.lend 0, .val, .val, .val] (aLend (aCons (eV 5) (aCons (eCall m__law_tree [.lend 0, .val] (aLend (aCons (eV 5) aNil))) (aCons (eCall m__law_draw [.lend 0, .val] (aLend (aCons (eC (.int (3))) aNil))) aNil))))))))
        (sIf (tTru (eOp2 eqD (eV 1) (eC (.int (6)))))
        (sClr [2] (sCons (sSet 5 (eOp2 addD (eC (.int (3))) (eCall m__law_draw [.lend 0, .val] (aLend (aCons (eC (.int (2))) aNil)))))
      (sSet 4 (eCall m__law_more [.lend 0, .val, .val, .val] (aLend (aCons (eV 5) (aCons (eCall m__law_tree [.lend 0, .val] (aLend (aCons (eV 5) aNil))) (aCons (eCall m__law_draw [.lend 0, .val] (aLend (aCons (eC (.int (2))) aNil))) aNil))))))))
        (sIf (tTru (eOp2 eqD (eV 1) (eC (.int (7)))))
        (sClr [2] (sCons (sSet 5 (eOp2 addD (eC (.int (4))) (eCall m__law_draw [.lend 0, .val] (aLend (aCons (eC (.int (2))) aNil)))))
      (sSet 4 (eOp2 addD (eLst (aCons (eTup (aCons (eC (.int (0))) (aCons (eC (.int (2))) aNil))) (aCons (eTup (aCons (eC (.int (0))) (aCons (eC (.int (3))) aNil))) (aCons (eTup (aCons (eC (.int (1))) (aCons (eC (.int (2))) aNil))) (aCons (eTup (aCons (eC (.int (1))) (aCons (eC (.int (3))) aNil))) aNil))))) (eIf (tTru (eOp2 eqD (eV 5) (eC (.int (4))))) (eLst (aCons (eTup (aCons (eC (.int (0))) (aCons (eC (.int (1))) aNil))) (aCons (eTup (aCons (eC (.int (2))) (aCons (eC (.int (3))) aNil))) aNil))) (eLst (aCons (eTup (aCons (eC (.int (0))) (aCons (eC (.int (4))) aNil))) (aCons (eTup (aCons (eC (.int (1))) (aCons (eC (.int (4))) aNil))) aNil))))))))
        (sClr [2] sNil))))))))
      (sCons (sSet 9 (eOp2 addD (eOp2 addD (eC (.int (1))) (eOp1 intD (eOp2 eqD (eV 1) (eC (.int (6)))))) (eOp1 intD (eAndV (eOp2 eqD (eV 1) (eC (.int (6)))) (eOp2 ltI (eOp1 lenD (eV 4)) (eC (.int (4))))))))
      (sRet (eCall m__law_made [.lend 0, .val, .val, .val] (aLend (aCons (eV 5) (aCons (eV 4) (aCons (eLc (iSeq (eV 4)) [10] (gSet 10) tYesM (eOp2 addD (eC (.int (1))) (eCall m__law_draw [.lend 0, .val] (aLend (aCons (eV 9) aNil))))) aNil))))))))))
def m__law_web : FM := defM N__law_web.length [.io JK] b__law_web
def N__law_sums : List Str := ["web", "standing", "found", "a", "b", "load"]
def b__law_sums : M Fl :=
    (sCons (sSet 2 (eOp2 repL (eLst (aCons (eC (.int (0))) aNil)) (eOp2 ixA (eV 0) (eC (.int (0))))))
      (sCons (sFor (iZp (aCons (eOp2 ixA (eV 0) (eC (.int (1)))) (aCons (eV 1) aNil))) (gTupM 2 (gsCons (gTupM 2 (gsCons (gSet 3) (gsCons (gSet 4) gsNil))) (gsCons (gSet 5) gsNil)))
        (noCt (sClr [3, 4, 5] (sCons (sPut 2 (eOp2 addD (eSlot 2 ixA (eV 3)) (eV 5)) (eV 3))
      (sPut 2 (eOp2 addD (eSlot 2 ixA (eV 4)) (eV 5)) (eV 4))))))
      (sRet (eV 2))))
def m__law_sums : FM := defM N__law_sums.length [.fz, .fz] b__law_sums
def N__law_near : List Str := ["web", "standing", "sums", "found", "road", "a", "b", "by", "load"]
def b__law_near : M Fl :=
    (sCons (sPar2 2 3 (eCall m__law_sums [.val, .val] (aCons (eV 0) (aCons (eV 1) aNil))) (eLst aNil))
      (sCons (sFor (iEn (aCons (eOp2 ixA (eV 0) (eC (.int (1)))) aNil)) (gTupM 2 (gsCons (gSet 4) (gsCons (gTupM 2 (gsCons (gSet 5) (gsCons (gSet 6) gsNil))) gsNil)))
        (noCt (sIf (tTru (eOp2 neD (eOp2 ixA (eV 2) (eV 5)) (eOp2 ixA (eV 2) (eV 6))))
        (sClr [4] (sPre [5, 6] (sFor (iSeq (eTup (aCons (eOp1 negD (eC (.int (1)))) (aCons (eC (.int (1))) aNil)))) (gSet 7)
        (noCt (sCons (sSet 8 (eOp2 addD (eOp2 ixA (eV 1) (eV 4)) (eV 7)))
      (sIf (tTru (eChain leI leI (eC (.int (0))) (eV 8) (eOp2 ixA (eOp2 ixA (eV 0) (eC (.int (2)))) (eV 4))))
        (sClr [7, 8] (sExp (eMut 3 muAppend (aCons (eTup (aCons (eTup (aCons (eV 4) (aCons (eV 7) aNil))) (aCons (eOp2 addD (eOp2 addD (eSl slA (eV 1) oNone (oSome (eV 4))) (eTup (aCons (eV 8) aNil))) (eSl slA (eV 1) (oSome (eOp2 addD (eV 4) (eC (.int (1))))) oNone)) aNil))) aNil))))
        (sClr [7, 8] sNil)))))))
        (sClr [4, 5, 6] sNil))))
      (sRet (eV 3))))
def m__law_near : FM := defM N__law_near.length [.fz, .fz] b__law_near
def N__law_standing : List Str := ["jar", "web", "way", "loads", "road", "most", "k", "own"]
def b__law_standing : M Fl :=
    (sCons (sSet 2 (eCall m__law_draw [.lend 0, .val] (aLend (aCons (eC (.int (4))) aNil))))
      (sCons (sSet 3 (eLc (iSeq (eOp2 ixA (eV 1) (eC (.int (2))))) [5] (gSet 5) tYesM (eCall m__law_draw [.lend 0, .val] (aLend (aCons (eOp2 addD (eV 5) (eC (.int (1)))) aNil)))))
      (sCons (sIf (tTru (eOp2 gtI (eV 2) (eC (.int (1)))))
        (sClr [1, 2, 4] (sCons (sSet 4 (eCall m__law_draw [.lend 0, .val] (aLend (aCons (eOp1 lenD (eV 3)) aNil))))
      (sCons (sSet 3 (eLc (iEn (aCons (eV 3) aNil)) [6, 7] (gTupM 2 (gsCons (gSet 6) (gsCons (gSet 7) gsNil))) tYesM (eIf (tTru (eOp2 eqD (eV 6) (eV 4))) (eV 7) (eIf (tTru (eOp2 eqD (eV 2) (eC (.int (2))))) (eC (.int (0))) (eOp2 ixA (eOp2 ixA (eV 1) (eC (.int (2)))) (eV 6))))))
      sNil)))
        (sClr [1, 2] sNil))
      (sRet (eOp1 tupD (eV 3))))))
def m__law_standing : FM := defM N__law_standing.length [.io JK, .fz] b__law_standing
def N__law_reach : List Str := ["web", "standing", "shut", "known", "todo", "own", "deed", "further"]
def b__law_reach : M Fl :=
    (sCons (sPar2 3 4 (eDisp1 isKeyT (eV 1) (eC (.bool true))) (eLst (aCons (eV 1) aNil)))
      (sPre [1] (sCons (sWhile (tTru (eSlot 4 neD (eLst aNil)))
        (noCt (sClr [5] (sCons (sSet 5 (eMut 4 muPop aNil))
      (sFor (iSeq (eCall m__law_near [.val, .val] (aCons (eV 0) (aCons (eV 5) aNil)))) (gTupM 2 (gsCons (gSet 6) (gsCons (gSet 7) gsNil)))
        (noCt (sIf (tAndM (tTru (eOp2 notInA (eOp2 ixA (eV 6) (eC (.int (0)))) (eV 2))) (tTru (eOp2 notInA (eV 7) (eV 3))))
        (sClr [6, 7] (sCons (sPut 3 (eC (.bool true)) (eV 7))
      (sExp (eMut 4 muAppend (aCons (eV 7) aNil)))))
        (sClr [6, 7] sNil))))))))
      (sRet (eOp1 sortD (eOp1 listD (eV 3)))))))
def m__law_reach : FM := defM N__law_reach.length [.fz, .fz, .fz] b__law_reach
def N_parts_of : List Str := ["web", "names", "mark", "n", "roads", "most", "road", "a", "b"]
def b_parts_of : M Fl :=
    (sCons (sAsg (eV 0) (gTupM 3 (gsCons (gSet 3) (gsCons (gSet 4) (gsCons (gSet 5) gsNil)))))
      (sRet (eLc (iEn (aCons (eV 4) aNil)) [6, 7, 8] (gTupM 2 (gsCons (gSet 6) (gsCons (gTupM 2 (gsCons (gSet 7) (gsCons (gSet 8) gsNil))) gsNil))) tYesM (eTup (aCons (eTup (aCons (eOp2 ixA (eV 1) (eV 7)) (aCons (eOp2 ixA (eV 1) (eV 8)) aNil))) (aCons (eOp2 ixA (eV 5) (eV 6)) (aCons (eTup (aCons (eV 2) (aCons (eV 6) aNil))) aNil)))))))
def m_parts_of : FM := defM N_parts_of.length [.fz, .fz, .fz] b_parts_of
def N__law_grown : List Str := ["jar", "way", "n", "pairs", "k", "pair"]
def b__law_grown : M Fl :=
    (sCons (sSet 1 (eCall m__law_draw [.lend 0, .val] (aLend (aCons (eC (.int (5))) aNil))))
      (sCons (sIf (tTru (eOp2 ltI (eV 1) (eC (.int (3)))))
        (sRet (eCall m__law_web [.lend 0] (aLend aNil)))
        sNil)
      (sCons (sSet 2 (eOp2 addD (eC (.int (10))) (eCall m__law_draw [.lend 0, .val] (aLend (aCons (eC (.int (15))) aNil)))))
      (sCons (sSet 3 (eIf (tTru (eOp2 eqD (eCall m__law_draw [.lend 0, .val] (aLend (aCons (eC (.int (2))) aNil))) (eC (.int (0))))) (eLc (iR (aCons (eOp2 subD (eV 2) (eC (.int (1)))) aNil)) [4] (gSet 4) tYesM (eTup (aCons (eV 4) (aCons (eOp2 addD (eV 4) (eC (.int (1)))) aNil)))) (eLc (iR (aCons (eC (.int (1))) (aCons (eV 2) aNil))) [4] (gSet 4) tYesM (eTup (aCons (eC (.int (0))) (aCons (eV 4) aNil))))))
      (sCons (sIf (tTru (eOp2 eqD (eV 1) (eC (.int (4)))))
        (sClr [1] (sPar2 2 3 (eC (.int (9))) (eCall m__law_more [.lend 0, .val, .val, .val] (aLend (aCons (eC (.int (9))) (aCons (eCall m__law_tree [.lend 0, .val] (aLend (aCons (eC (.int (9))) aNil))) (aCons (eC (.int (28))) aNil)))))))
        (sClr [1] sNil))
      (sRet (eCall m__law_made [.lend 0, .val, .val, .val] (aLend (aCons (eV 2) (aCons (eV 3) (aCons (eLc (iSeq (eV 3)) [5] (gSet 5) tYesM (eOp2 addD (eC (.int (1))) (eCall m__law_draw [.lend 0, .val] (aLend (aCons (eC (.int (9))) aNil))))) aNil)))))))))))
def m__law_grown : FM := defM N__law_grown.length [.io JK] b__law_grown
def N__law_class : List Str := ["web", "standing", "known", "todo", "own", "deed", "further"]
def b__law_class : M Fl :=
    (sCons (sPar2 2 3 (eDisp1 isKeyT (eV 1) (eC (.bool true))) (eLst (aCons (eV 1) aNil)))
      (sPre [1] (sCons (sWhile (tTru (eSlot 3 neD (eLst aNil)))
        (noCt (sClr [4] (sCons (sSet 4 (eMut 3 muPop aNil))
      (sFor (iSeq (eCall m__law_near [.val, .val] (aCons (eV 0) (aCons (eV 4) aNil)))) (gTupM 2 (gsCons (gSet 5) (gsCons (gSet 6) gsNil)))
        (noCt (sIf (tTru (eOp2 notInA (eV 6) (eV 2)))
        (sClr [5, 6] (sCons (sPut 2 (eC (.bool true)) (eV 6))
      (sExp (eMut 3 muAppend (aCons (eV 6) aNil)))))
        (sClr [5, 6] sNil))))))))
      (sRet (eOp1 sortD (eOp1 listD (eV 2)))))))
def m__law_class : FM := defM N__law_class.length [.fz, .fz] b__law_class
def N_is_integer : List Str := ["value"]
def b_is_integer : M Fl :=
    (sRet (eAndV (eOp1 (isiD "int") (eV 0)) (eNotV (eOp1 (isiD "bool") (eV 0)))))
def m_is_integer : FM := defM N_is_integer.length [.fz] b_is_integer
def N_is_turn : List Str := ["value", "due", "load"]
def b_is_turn : M Fl :=
    (sCons (sIf (tOrM (tNotM (tTru (eOp1 (isiD "tuple") (eV 0)))) (tOrM (tTru (eOp2 neD (eOp1 lenD (eV 0)) (eC (.int (2))))) (tNotM (tTru (eOp1 (isiD "tuple") (eOp2 ixA (eV 0) (eC (.int (0)))))))))
        (sRet (eC (.bool false)))
        sNil)
      (sCons (sIf (tOrM (tNotM (tTru (eOp1 allL (eLc (iSeq (eOp2 ixA (eV 0) (eC (.int (0))))) [2] (gSet 2) tYesM (eCall m_is_integer [.val] (aCons (eV 2) aNil)))))) (tTru (eOp2 neD (eOp2 ixA (eV 0) (eC (.int (0)))) (eOp2 ixA (eV 1) (eC (.int (0)))))))
        (sRet (eC (.bool false)))
        sNil)
      (sRet (eIf (tTru (eOp2 isD (eOp2 ixA (eV 1) (eC (.int (1)))) (eC .none))) (eOp2 isD (eOp2 ixA (eV 0) (eC (.int (1)))) (eC .none)) (eAndV (eCall m_is_integer [.val] (aCons (eOp2 ixA (eV 0) (eC (.int (1)))) aNil)) (eOp2 eqD (eOp2 ixA (eV 0) (eC (.int (1)))) (eOp2 ixA (eV 1) (eC (.int (1))))))))))
def m_is_turn : FM := defM N_is_turn.length [.fz, .fz] b_is_turn
end CJ

/-! P1: webs, standings, sums, deeds. -/
namespace PJ
open PySem PySem.Spec PyProof.Rows L2 DL CJ
abbrev Road := Nat × Nat
abbrev Deed := Nat × Int
abbrev Sta := List Int
abbrev roadD (p : Road) : PyData := .tuple [.int (p.1 : Int), .int (p.2 : Int)]
abbrev deedD (p : Deed) : PyData := .tuple [.int (p.1 : Int), .int p.2]
abbrev stD (s : Sta) : PyData := .tuple (s.map .int)
abbrev nearD (p : Deed × Sta) : PyData := .tuple [deedD p.1, stD p.2]
structure Web where
  n : Nat
  rs : List Road
  ms : List Int
abbrev webD (w : Web) : PyData := .tuple [.int (w.n : Int), .tuple (w.rs.map roadD), .tuple (w.ms.map .int)]
structure WOk (w : Web) : Prop where
  nn : w.n ≤ 1000
  len : w.ms.length = w.rs.length
  rl : w.rs.length ≤ 1000
  ends : ∀ p ∈ w.rs, p.1 < w.n ∧ p.2 < w.n
/-- the sums -/
def bump (fs : List Int) (p : Road × Int) : List Int :=
  let gs := fs.set p.1.1 (fs.getD p.1.1 0 + p.2)
  gs.set p.1.2 (gs.getD p.1.2 0 + p.2)
def sums (w : Web) (s : Sta) : List Int := (w.rs.zip s).foldl bump (List.replicate w.n 0)
theorem bump_len (fs : List Int) (p : Road × Int) : (bump fs p).length = fs.length := by simp [bump]
theorem fold_len : ∀ (ps : List (Road × Int)) (fs : List Int), (ps.foldl bump fs).length = fs.length
  | [], fs => rfl
  | p :: ps, fs => by simp only [List.foldl_cons, fold_len ps, bump_len]
theorem sums_len (w : Web) (s : Sta) : (sums w s).length = w.n := by simp [sums, fold_len]
theorem map_get {α : Type} (f : α → PyData) (xs : List α) (i : Nat) (h : i < xs.length) : (xs.map f)[i]? = some (f xs[i]) := by simp [h]
theorem getD_at {α : Type} (xs : List α) (i : Nat) (d : α) (h : i < xs.length) : xs.getD i d = xs[i] := by simp [h]
theorem put_int (fs : List Int) (i : Nat) (v : Int) (h : i < fs.length) : setD (.list (fs.map .int)) (.int (i : Int)) (.int v) = some (.list ((fs.set i v).map .int)) := by
  rw [setL' _ _ _ (by simpa using h), List.map_set]
theorem get_int (fs : List Int) (i : Nat) (h : i < fs.length) : ixA (.list (fs.map .int)) (.int (i : Int)) = some (.int (fs.getD i 0)) := by
  rw [ixL, map_get _ _ _ h, getD_at _ _ _ h]
theorem get_intT (fs : List Int) (i : Nat) (h : i < fs.length) : ixA (.tuple (fs.map .int)) (.int (i : Int)) = some (.int (fs.getD i 0)) := by
  rw [ixT, map_get _ _ _ h, getD_at _ _ _ h]
theorem zip_ends {w : Web} (h : WOk w) {s : Sta} {pre post : List (Road × Int)} {p : Road × Int} (e : w.rs.zip s = pre ++ p :: post) : p.1.1 < w.n ∧ p.1.2 < w.n := by
  have : p ∈ w.rs.zip s := by rw [e]; simp
  exact h.ends _ (List.of_mem_zip this).1
theorem rep_int (n : Nat) : List.replicate n (PyData.int 0) = (List.replicate n (0 : Int)).map .int := by simp
theorem sums_loop {w : Web} (h : WOk w) (s : Sta) : forL (gTupM 2 (gsCons (gTupM 2 (gsCons (gSet 3) (gsCons (gSet 4) gsNil))) (gsCons (gSet 5) gsNil)))
    (noCt (sClr [3, 4, 5] (sCons (sPut 2 (eOp2 addD (eSlot 2 ixA (eV 3)) (eV 5)) (eV 3)) (sPut 2 (eOp2 addD (eSlot 2 ixA (eV 4)) (eV 5)) (eV 4)))))
    ((w.rs.zip s).map fun p => .tuple [roadD p.1, .int p.2]) [webD w, stD s, .list ((List.replicate w.n (0 : Int)).map .int), .none, .none, .none] = .ok .nx [webD w, stD s, .list ((sums w s).map .int), .none, .none, .none] := by
  refine forL_eq (w.rs.zip s) (fun pre => [webD w, stD s, .list ((pre.foldl bump (List.replicate w.n 0)).map .int), .none, .none, .none]) fun pre p post e => ?_
  obtain ⟨h1, h2⟩ := zip_ends h e
  have hl := fold_len pre (List.replicate w.n 0)
  simp only [List.length_replicate] at hl
  have e1 := get_int (pre.foldl bump (List.replicate w.n 0)) p.1.1 (by omega)
  have e2 := fun v => put_int (pre.foldl bump (List.replicate w.n 0)) p.1.1 v (by omega)
  have e3 := fun v => get_int ((pre.foldl bump (List.replicate w.n 0)).set p.1.1 v) p.1.2 (by simp; omega)
  have e4 := fun v u => put_int ((pre.foldl bump (List.replicate w.n 0)).set p.1.1 v) p.1.2 u (by simp; omega)
  simp (disch := (first | omega | (simp only [List.length_cons, List.length_nil, List.length_map, List.length_append, List.length_set, List.length_take, List.length_drop, List.length_replicate, List.length_reverse, List.length_range]; omega))) only [run1, run2, run3, run4, run5, dInts, ixT0, ixT1, ixT2, ixT3, ixL0, ixL1, ixL2, ixT_last, ixL_last, cutD_take, cutD_drop, Kp_run, Fd_run, Wp_ok, Wp_exc, NcCl, if_true, if_false, Bool.false_eq_true, decide_true, decide_false, Bool.not_true, Bool.not_false, lenOk_le, addT', addL', muAppend', List.length_cons, List.length_nil, List.length_map, List.length_append, List.length_set, List.length_singleton, Nat.reduceAdd, Nat.reduceSub, Nat.zero_add, List.replicate_succ, List.replicate_zero, List.cons_append, List.nil_append, List.map_cons, List.map_nil, Nat.reduceLeDiff, roadD, e1, e2, e3, e4, Option.map_some]
  rw [List.foldl_append]; rfl
theorem sums_of_ok {w : Web} (h : WOk w) (s : Sta) : m_sums_of [webD w, stD s] = .ok (.tuple ((sums w s).map .int)) [] := by
  have l := sums_loop h s
  have hn := h.nn
  have e := rep1 (.int 0) w.n (by omega)
  have z := zipL_map roadD PyData.int w.rs s
  rw [m_sums_of, defM_fr]
  simp (disch := (first | omega | (simp only [List.length_cons, List.length_nil, List.length_map, List.length_append, List.length_set, List.length_take, List.length_drop, List.length_replicate, List.length_reverse, List.length_range]; omega))) only [run1, run2, run3, run4, run5, dInts, ixT0, ixT1, ixT2, ixT3, ixL0, ixL1, ixL2, ixT_last, ixL_last, cutD_take, cutD_drop, Kp_run, Fd_run, Wp_ok, Wp_exc, NcCl, if_true, if_false, Bool.false_eq_true, decide_true, decide_false, Bool.not_true, Bool.not_false, lenOk_le, addT', addL', muAppend', List.length_cons, List.length_nil, List.length_map, List.length_append, List.length_set, List.length_singleton, Nat.reduceAdd, Nat.reduceSub, Nat.zero_add, List.replicate_succ, List.replicate_zero, List.cons_append, List.nil_append, List.map_cons, List.map_nil, Nat.reduceLeDiff, b_sums_of, N_sums_of, e, z, rep_int, l]
theorem law_sums_ok {w : Web} (h : WOk w) (s : Sta) : m__law_sums [webD w, stD s] = .ok (.list ((sums w s).map .int)) [] := by
  have l := sums_loop h s
  have hn := h.nn
  have e := rep1 (.int 0) w.n (by omega)
  have z := zipL_map roadD PyData.int w.rs s
  rw [m__law_sums, defM_fr]
  simp (disch := (first | omega | (simp only [List.length_cons, List.length_nil, List.length_map, List.length_append, List.length_set, List.length_take, List.length_drop, List.length_replicate, List.length_reverse, List.length_range]; omega))) only [run1, run2, run3, run4, run5, dInts, ixT0, ixT1, ixT2, ixT3, ixL0, ixL1, ixL2, ixT_last, ixL_last, cutD_take, cutD_drop, Kp_run, Fd_run, Wp_ok, Wp_exc, NcCl, if_true, if_false, Bool.false_eq_true, decide_true, decide_false, Bool.not_true, Bool.not_false, lenOk_le, addT', addL', muAppend', List.length_cons, List.length_nil, List.length_map, List.length_append, List.length_set, List.length_singleton, Nat.reduceAdd, Nat.reduceSub, Nat.zero_add, List.replicate_succ, List.replicate_zero, List.cons_append, List.nil_append, List.map_cons, List.map_nil, Nat.reduceLeDiff, b__law_sums, N__law_sums, e, z, rep_int, l]
/-- the roads with unlike ends -/
def isUnl (w : Web) (s : Sta) (p : Nat × Road) : Bool := !decide ((sums w s).getD p.2.1 0 = (sums w s).getD p.2.2 0)
def unl (w : Web) (s : Sta) : List Nat := ((num 0 w.rs).filter (isUnl w s)).map (·.1)
theorem mem_numR {w : Web} (h : WOk w) {p : Nat × Road} (hp : p ∈ num 0 w.rs) : p.1 < w.rs.length ∧ w.rs[p.1]? = some p.2 ∧ p.2.1 < w.n ∧ p.2.2 < w.n := by
  obtain ⟨_, h2⟩ := mem_num.mp hp
  rw [Nat.sub_zero] at h2
  have h3 := (List.getElem?_eq_some_iff.mp h2).1
  exact ⟨h3, h2, h.ends _ (List.mem_of_getElem? h2)⟩
theorem unlike_ok {w : Web} (h : WOk w) (s : Sta) : m_unlike_roads [webD w, stD s] = .ok (.tuple ((unl w s).map fun r : Nat => PyData.int (r : Int))) [] := by
  have z := enumL_num roadD 0 w.rs
  have hl := num_length 0 w.rs
  have hr := h.rl
  have hs := sums_of_ok h s
  have c := lc_ok (f := fun p : Nat × Road => PyData.tuple [.int (p.1 : Int), roadD p.2]) (tg := gTupM 2 (gsCons (gSet 3) (gsCons (gTupM 2 (gsCons (gSet 4) (gsCons (gSet 5) gsNil))) gsNil)))
    (test := tTru (eOp2 neD (eOp2 ixA (eV 2) (eV 4)) (eOp2 ixA (eV 2) (eV 5)))) (elt := eV 3) (fun j : PyData × PyData × PyData => [webD w, stD s, .tuple ((sums w s).map .int), j.1, j.2.1, j.2.2]) [3, 4, 5] (isUnl w s) (fun p => .int (p.1 : Int)) (num 0 w.rs) (.none, .none, .none)
    (fun j => by simp (disch := (first | omega | (simp only [List.length_cons, List.length_nil, List.length_map, List.length_append, List.length_set, List.length_take, List.length_drop, List.length_replicate, List.length_reverse, List.length_range]; omega))) only [run1, run2, run3, run4, run5, dInts, ixT0, ixT1, ixT2, ixT3, ixL0, ixL1, ixL2, ixT_last, ixL_last, cutD_take, cutD_drop, Kp_run, Fd_run, Wp_ok, Wp_exc, NcCl, if_true, if_false, Bool.false_eq_true, decide_true, decide_false, Bool.not_true, Bool.not_false, lenOk_le, addT', addL', muAppend', List.length_cons, List.length_nil, List.length_map, List.length_append, List.length_set, List.length_singleton, Nat.reduceAdd, Nat.reduceSub, Nat.zero_add, List.replicate_succ, List.replicate_zero, List.cons_append, List.nil_append, List.map_cons, List.map_nil, Nat.reduceLeDiff]) fun p hp j => by
      obtain ⟨_, _, h1, h2⟩ := mem_numR h hp
      have hl := sums_len w s
      have e1 := get_intT (sums w s) p.2.1 (by omega)
      have e2 := get_intT (sums w s) p.2.2 (by omega)
      refine ⟨(.int (p.1 : Int), .int (p.2.1 : Int), .int (p.2.2 : Int)), ?_, fun _ => ?_⟩
      · simp (disch := (first | omega | (simp only [List.length_cons, List.length_nil, List.length_map, List.length_append, List.length_set, List.length_take, List.length_drop, List.length_replicate, List.length_reverse, List.length_range]; omega))) only [run1, run2, run3, run4, run5, dInts, ixT0, ixT1, ixT2, ixT3, ixL0, ixL1, ixL2, ixT_last, ixL_last, cutD_take, cutD_drop, Kp_run, Fd_run, Wp_ok, Wp_exc, NcCl, if_true, if_false, Bool.false_eq_true, decide_true, decide_false, Bool.not_true, Bool.not_false, lenOk_le, addT', addL', muAppend', List.length_cons, List.length_nil, List.length_map, List.length_append, List.length_set, List.length_singleton, Nat.reduceAdd, Nat.reduceSub, Nat.zero_add, List.replicate_succ, List.replicate_zero, List.cons_append, List.nil_append, List.map_cons, List.map_nil, Nat.reduceLeDiff, roadD, e1, e2, isUnl]
      · simp (disch := (first | omega | (simp only [List.length_cons, List.length_nil, List.length_map, List.length_append, List.length_set, List.length_take, List.length_drop, List.length_replicate, List.length_reverse, List.length_range]; omega))) only [run1, run2, run3, run4, run5, dInts, ixT0, ixT1, ixT2, ixT3, ixL0, ixL1, ixL2, ixT_last, ixL_last, cutD_take, cutD_drop, Kp_run, Fd_run, Wp_ok, Wp_exc, NcCl, if_true, if_false, Bool.false_eq_true, decide_true, decide_false, Bool.not_true, Bool.not_false, lenOk_le, addT', addL', muAppend', List.length_cons, List.length_nil, List.length_map, List.length_append, List.length_set, List.length_singleton, Nat.reduceAdd, Nat.reduceSub, Nat.zero_add, List.replicate_succ, List.replicate_zero, List.cons_append, List.nil_append, List.map_cons, List.map_nil, Nat.reduceLeDiff]
  rw [m_unlike_roads, defM_fr]
  simp (disch := (first | omega | (simp only [List.length_cons, List.length_nil, List.length_map, List.length_append, List.length_set, List.length_take, List.length_drop, List.length_replicate, List.length_reverse, List.length_range]; omega))) only [run1, run2, run3, run4, run5, dInts, ixT0, ixT1, ixT2, ixT3, ixL0, ixL1, ixL2, ixT_last, ixL_last, cutD_take, cutD_drop, Kp_run, Fd_run, Wp_ok, Wp_exc, NcCl, if_true, if_false, Bool.false_eq_true, decide_true, decide_false, Bool.not_true, Bool.not_false, lenOk_le, addT', addL', muAppend', List.length_cons, List.length_nil, List.length_map, List.length_append, List.length_set, List.length_singleton, Nat.reduceAdd, Nat.reduceSub, Nat.zero_add, List.replicate_succ, List.replicate_zero, List.cons_append, List.nil_append, List.map_cons, List.map_nil, Nat.reduceLeDiff, b_unlike_roads, N_unlike_roads, hs, z, hl]
  simp (disch := (first | omega | (simp only [List.length_cons, List.length_nil, List.length_map, List.length_append, List.length_set, List.length_take, List.length_drop, List.length_replicate, List.length_reverse, List.length_range]; omega))) only [run1, run2, run3, run4, run5, dInts, ixT0, ixT1, ixT2, ixT3, ixL0, ixL1, ixL2, ixT_last, ixL_last, cutD_take, cutD_drop, Kp_run, Fd_run, Wp_ok, Wp_exc, NcCl, if_true, if_false, Bool.false_eq_true, decide_true, decide_false, Bool.not_true, Bool.not_false, lenOk_le, addT', addL', muAppend', List.length_cons, List.length_nil, List.length_map, List.length_append, List.length_set, List.length_singleton, Nat.reduceAdd, Nat.reduceSub, Nat.zero_add, List.replicate_succ, List.replicate_zero, List.cons_append, List.nil_append, List.map_cons, List.map_nil, Nat.reduceLeDiff, c]

  rw [unl, List.map_map]; rfl
theorem with_load_ok (s : Sta) (r : Nat) (v : Int) (h1 : r < s.length) (h2 : s.length ≤ 1000) : m_with_load [stD s, .int (r : Int), .int v] = .ok (stD (s.set r v)) [] := by
  have e1 : ((r : Int) + 1) = ((r + 1 : Nat) : Int) := by omega
  rw [m_with_load, defM_fr]
  simp (disch := (first | omega | (simp only [List.length_cons, List.length_nil, List.length_map, List.length_append, List.length_set, List.length_take, List.length_drop, List.length_replicate, List.length_reverse, List.length_range]; omega))) only [run1, run2, run3, run4, run5, dInts, ixT0, ixT1, ixT2, ixT3, ixL0, ixL1, ixL2, ixT_last, ixL_last, cutD_take, cutD_drop, Kp_run, Fd_run, Wp_ok, Wp_exc, NcCl, if_true, if_false, Bool.false_eq_true, decide_true, decide_false, Bool.not_true, Bool.not_false, lenOk_le, addT', addL', muAppend', List.length_cons, List.length_nil, List.length_map, List.length_append, List.length_set, List.length_singleton, Nat.reduceAdd, Nat.reduceSub, Nat.zero_add, List.replicate_succ, List.replicate_zero, List.cons_append, List.nil_append, List.map_cons, List.map_nil, Nat.reduceLeDiff, b_with_load, N_with_load, e1, List.length_take, List.length_drop]
  rw [List.set_eq_take_append_cons_drop, if_pos h1]

  simp
end PJ

/-! P2: what deeds lead to. -/
namespace PJ
open PySem PySem.Spec PyProof.Rows L2 DL CJ
/-- a standing -/
structure SOk (w : Web) (s : Sta) : Prop where
  len : s.length = w.rs.length
  lo : ∀ i, i < w.rs.length → 0 ≤ s.getD i 0
  hi : ∀ i, i < w.rs.length → s.getD i 0 ≤ w.ms.getD i 0
def downs (s : Sta) (r : Nat) : List (Deed × Sta) := if 0 < s.getD r 0 then [((r, -1), s.set r (s.getD r 0 - 1))] else []
def ups (w : Web) (s : Sta) (r : Nat) : List (Deed × Sta) := if s.getD r 0 < w.ms.getD r 0 then [((r, 1), s.set r (s.getD r 0 + 1))] else []
def nearAt (w : Web) (s : Sta) (r : Nat) : List (Deed × Sta) := downs s r ++ ups w s r
def near (w : Web) (s : Sta) : List (Deed × Sta) := (unl w s).flatMap (nearAt w s)
theorem nearAt_len (w : Web) (s : Sta) (r : Nat) : (nearAt w s r).length ≤ 2 := by
  unfold nearAt downs ups; split <;> split <;> simp
theorem flat_len {α β : Type} (f : α → List β) (h : ∀ a, (f a).length ≤ 2) : ∀ xs : List α, (xs.flatMap f).length ≤ 2 * xs.length
  | [] => by simp
  | x :: xs => by
    have := flat_len f h xs; have := h x
    simp only [List.flatMap_cons, List.length_append, List.length_cons]; omega
theorem unl_mem {w : Web} (h : WOk w) {s : Sta} {r : Nat} (hr : r ∈ unl w s) : r < w.rs.length := by
  unfold unl at hr
  obtain ⟨p, hp, rfl⟩ := List.mem_map.mp hr
  exact (mem_numR h (List.mem_filter.mp hp).1).1
theorem unl_len (w : Web) (s : Sta) : (unl w s).length ≤ w.rs.length := by
  unfold unl
  rw [List.length_map]
  exact Nat.le_trans (List.length_filter_le _ _) (by rw [num_length]; exact Nat.le_refl _)
theorem beside_ok {w : Web} (h : WOk w) {s : Sta} (hs : SOk w s) : m_beside [webD w, stD s] = .ok (.list ((near w s).map nearD)) [] := by
  have hu := unlike_ok h s
  have hrl := h.rl
  have hlen := hs.len
  have l := forL_eq (f := fun r : Nat => PyData.int (r : Int)) (tg := gSet 6)
    (body := noCt (sCons (sSet 7 (eOp2 ixA (eV 1) (eV 6)))
      (sCons (sIf (tTru (eOp2 gtI (eV 7) (eC (.int (0)))))
        (sExp (eMut 5 muAppend (aCons (eTup (aCons (eTup (aCons (eV 6) (aCons (eOp1 negD (eC (.int (1)))) aNil))) (aCons (eCall m_with_load [.val, .val, .val] (aCons (eV 1) (aCons (eV 6) (aCons (eOp2 subD (eV 7) (eC (.int (1)))) aNil)))) aNil))) aNil)))
        sNil)
      (sIf (tTru (eOp2 ltI (eV 7) (eOp2 ixA (eV 4) (eV 6))))
        (sClr [6, 7] (sExp (eMut 5 muAppend (aCons (eTup (aCons (eTup (aCons (eV 6) (aCons (eC (.int (1))) aNil))) (aCons (eCall m_with_load [.val, .val, .val] (aCons (eV 1) (aCons (eV 6) (aCons (eOp2 addD (eV 7) (eC (.int (1)))) aNil)))) aNil))) aNil))))
        (sClr [6, 7] sNil))))) (unl w s) (fun pre => [webD w, stD s, .none, .none, .tuple (w.ms.map .int), .list ((pre.flatMap (nearAt w s)).map nearD), .none, .none]) fun pre r post e => by
    have hr := unl_mem h (s := s) (r := r) (by rw [e]; simp)
    have h5 := unl_len w s
    rw [e] at h5
    have h6 := flat_len (nearAt w s) (nearAt_len w s) pre
    simp only [List.length_append, List.length_cons] at h5
    have e1 := get_intT s r (by omega)
    have e2 := get_intT w.ms r (by rw [h.len]; exact hr)
    have e3 := fun v => with_load_ok s r v (by omega) (by omega)
    by_cases c1 : 0 < s.getD r 0
    · by_cases c2 : s.getD r 0 < w.ms.getD r 0
      · simp (disch := (first | omega | (simp only [List.length_cons, List.length_nil, List.length_map, List.length_append, List.length_set, List.length_take, List.length_drop, List.length_replicate, List.length_reverse, List.length_range]; omega))) only [run1, run2, run3, run4, run5, dInts, ixT0, ixT1, ixT2, ixT3, ixL0, ixL1, ixL2, ixT_last, ixL_last, cutD_take, cutD_drop, Kp_run, Fd_run, Wp_ok, Wp_exc, NcCl, if_true, if_false, Bool.false_eq_true, decide_true, decide_false, Bool.not_true, Bool.not_false, lenOk_le, addT', addL', muAppend', List.length_cons, List.length_nil, List.length_map, List.length_append, List.length_set, List.length_singleton, Nat.reduceAdd, Nat.reduceSub, Nat.zero_add, List.replicate_succ, List.replicate_zero, List.cons_append, List.nil_append, List.map_cons, List.map_nil, Nat.reduceLeDiff, e1, e2, e3, c1, c2, decide_true, decide_false]
        simp only [List.flatMap_append, List.map_append, List.flatMap_cons, List.flatMap_nil, nearAt, downs, ups, c1, c2, if_true, List.append_assoc, List.cons_append, List.nil_append, List.append_nil, List.map_cons, List.map_nil]
      · simp (disch := (first | omega | (simp only [List.length_cons, List.length_nil, List.length_map, List.length_append, List.length_set, List.length_take, List.length_drop, List.length_replicate, List.length_reverse, List.length_range]; omega))) only [run1, run2, run3, run4, run5, dInts, ixT0, ixT1, ixT2, ixT3, ixL0, ixL1, ixL2, ixT_last, ixL_last, cutD_take, cutD_drop, Kp_run, Fd_run, Wp_ok, Wp_exc, NcCl, if_true, if_false, Bool.false_eq_true, decide_true, decide_false, Bool.not_true, Bool.not_false, lenOk_le, addT', addL', muAppend', List.length_cons, List.length_nil, List.length_map, List.length_append, List.length_set, List.length_singleton, Nat.reduceAdd, Nat.reduceSub, Nat.zero_add, List.replicate_succ, List.replicate_zero, List.cons_append, List.nil_append, List.map_cons, List.map_nil, Nat.reduceLeDiff, e1, e2, e3, c1, c2, decide_true, decide_false]
        simp only [List.flatMap_append, List.map_append, List.flatMap_cons, List.flatMap_nil, nearAt, downs, ups, c1, c2, if_true, if_false, List.append_assoc, List.cons_append, List.nil_append, List.append_nil, List.map_cons, List.map_nil]
    · by_cases c2 : s.getD r 0 < w.ms.getD r 0
      · simp (disch := (first | omega | (simp only [List.length_cons, List.length_nil, List.length_map, List.length_append, List.length_set, List.length_take, List.length_drop, List.length_replicate, List.length_reverse, List.length_range]; omega))) only [run1, run2, run3, run4, run5, dInts, ixT0, ixT1, ixT2, ixT3, ixL0, ixL1, ixL2, ixT_last, ixL_last, cutD_take, cutD_drop, Kp_run, Fd_run, Wp_ok, Wp_exc, NcCl, if_true, if_false, Bool.false_eq_true, decide_true, decide_false, Bool.not_true, Bool.not_false, lenOk_le, addT', addL', muAppend', List.length_cons, List.length_nil, List.length_map, List.length_append, List.length_set, List.length_singleton, Nat.reduceAdd, Nat.reduceSub, Nat.zero_add, List.replicate_succ, List.replicate_zero, List.cons_append, List.nil_append, List.map_cons, List.map_nil, Nat.reduceLeDiff, e1, e2, e3, c1, c2, decide_true, decide_false]
        simp only [List.flatMap_append, List.map_append, List.flatMap_cons, List.flatMap_nil, nearAt, downs, ups, c1, c2, if_true, if_false, List.append_assoc, List.cons_append, List.nil_append, List.append_nil, List.map_cons, List.map_nil]
      · simp (disch := (first | omega | (simp only [List.length_cons, List.length_nil, List.length_map, List.length_append, List.length_set, List.length_take, List.length_drop, List.length_replicate, List.length_reverse, List.length_range]; omega))) only [run1, run2, run3, run4, run5, dInts, ixT0, ixT1, ixT2, ixT3, ixL0, ixL1, ixL2, ixT_last, ixL_last, cutD_take, cutD_drop, Kp_run, Fd_run, Wp_ok, Wp_exc, NcCl, if_true, if_false, Bool.false_eq_true, decide_true, decide_false, Bool.not_true, Bool.not_false, lenOk_le, addT', addL', muAppend', List.length_cons, List.length_nil, List.length_map, List.length_append, List.length_set, List.length_singleton, Nat.reduceAdd, Nat.reduceSub, Nat.zero_add, List.replicate_succ, List.replicate_zero, List.cons_append, List.nil_append, List.map_cons, List.map_nil, Nat.reduceLeDiff, e1, e2, e3, c1, c2, decide_true, decide_false]
        simp only [List.flatMap_append, List.map_append, List.flatMap_cons, List.flatMap_nil, nearAt, downs, ups, c1, c2, if_true, if_false, List.append_assoc, List.cons_append, List.nil_append, List.append_nil, List.map_cons, List.map_nil]
  simp only [List.flatMap_nil, List.map_nil] at l
  rw [m_beside, defM_fr]
  simp (disch := (first | omega | (simp only [List.length_cons, List.length_nil, List.length_map, List.length_append, List.length_set, List.length_take, List.length_drop, List.length_replicate, List.length_reverse, List.length_range]; omega))) only [run1, run2, run3, run4, run5, dInts, ixT0, ixT1, ixT2, ixT3, ixL0, ixL1, ixL2, ixT_last, ixL_last, cutD_take, cutD_drop, Kp_run, Fd_run, Wp_ok, Wp_exc, NcCl, if_true, if_false, Bool.false_eq_true, decide_true, decide_false, Bool.not_true, Bool.not_false, lenOk_le, addT', addL', muAppend', List.length_cons, List.length_nil, List.length_map, List.length_append, List.length_set, List.length_singleton, Nat.reduceAdd, Nat.reduceSub, Nat.zero_add, List.replicate_succ, List.replicate_zero, List.cons_append, List.nil_append, List.map_cons, List.map_nil, Nat.reduceLeDiff, b_beside, N_beside, hu, l, near]
theorem get_last {α : Type} (l : List α) : l ++ [] = l := List.append_nil l
theorem law_near_ok {w : Web} (h : WOk w) {s : Sta} (hs : SOk w s) : m__law_near [webD w, stD s] = .ok (.list ((near w s).map nearD)) [] := by
  have hu := law_sums_ok h s
  have hrl := h.rl
  have hlen := hs.len
  have z := enumL_num roadD 0 w.rs
  have hl := sums_len w s
  have l := forL_eq (f := fun p : Nat × Road => PyData.tuple [.int (p.1 : Int), roadD p.2]) (tg := gTupM 2 (gsCons (gSet 4) (gsCons (gTupM 2 (gsCons (gSet 5) (gsCons (gSet 6) gsNil))) gsNil)))
    (body := noCt (sIf (tTru (eOp2 neD (eOp2 ixA (eV 2) (eV 5)) (eOp2 ixA (eV 2) (eV 6))))
        (sClr [4] (sPre [5, 6] (sFor (iSeq (eTup (aCons (eOp1 negD (eC (.int (1)))) (aCons (eC (.int (1))) aNil)))) (gSet 7)
        (noCt (sCons (sSet 8 (eOp2 addD (eOp2 ixA (eV 1) (eV 4)) (eV 7)))
      (sIf (tTru (eChain leI leI (eC (.int (0))) (eV 8) (eOp2 ixA (eOp2 ixA (eV 0) (eC (.int (2)))) (eV 4))))
        (sClr [7, 8] (sExp (eMut 3 muAppend (aCons (eTup (aCons (eTup (aCons (eV 4) (aCons (eV 7) aNil))) (aCons (eOp2 addD (eOp2 addD (eSl slA (eV 1) oNone (oSome (eV 4))) (eTup (aCons (eV 8) aNil))) (eSl slA (eV 1) (oSome (eOp2 addD (eV 4) (eC (.int (1))))) oNone)) aNil))) aNil))))
        (sClr [7, 8] sNil)))))))
        (sClr [4, 5, 6] sNil))) (num 0 w.rs) (fun pre => [webD w, stD s, .list ((sums w s).map .int), .list ((((pre.filter (isUnl w s)).map (·.1)).flatMap (nearAt w s)).map nearD), .none, .none, .none, .none, .none]) fun pre p post e => by
    obtain ⟨hr, _, h1, h2⟩ := mem_numR h (p := p) (by rw [e]; simp)
    obtain ⟨r, a, b⟩ := p
    dsimp only at hr h1 h2
    have h5 := num_length 0 w.rs
    rw [e] at h5
    have h6 := flat_len (nearAt w s) (nearAt_len w s) ((pre.filter (isUnl w s)).map (·.1))
    have h7 := List.length_filter_le (isUnl w s) pre
    simp only [List.length_append, List.length_cons, List.length_map] at h5 h6
    have e1 := get_int (sums w s) a (by omega)
    have e2 := get_int (sums w s) b (by omega)
    have e3 := get_intT s r (by omega)
    have e4 := get_intT w.ms r (by rw [h.len]; exact hr)
    have e5 : ((r : Int) + 1) = ((r + 1 : Nat) : Int) := by omega
    have lo := hs.lo r hr
    have hi := hs.hi r hr
    have e6 : ∀ v : Int, List.take r (s.map PyData.int) ++ [PyData.int v] ++ List.drop (r + 1) (s.map PyData.int) = (s.set r v).map PyData.int := fun v => by
      rw [List.set_eq_take_append_cons_drop, if_pos (by omega)]
      simp [List.map_take, List.map_drop]
    rw [List.filter_append, List.map_append, List.flatMap_append, List.map_append]
    by_cases c0 : (sums w s).getD a 0 = (sums w s).getD b 0
    · have cu : isUnl w s (r, a, b) = false := by simp only [isUnl, c0, decide_true, Bool.not_true]
      simp (disch := (first | omega | (simp only [List.length_cons, List.length_nil, List.length_map, List.length_append, List.length_set, List.length_take, List.length_drop, List.length_replicate, List.length_reverse, List.length_range]; omega))) only [run1, run2, run3, run4, run5, dInts, ixT0, ixT1, ixT2, ixT3, ixL0, ixL1, ixL2, ixT_last, ixL_last, cutD_take, cutD_drop, Kp_run, Fd_run, Wp_ok, Wp_exc, NcCl, if_true, if_false, Bool.false_eq_true, decide_true, decide_false, Bool.not_true, Bool.not_false, lenOk_le, addT', addL', muAppend', List.length_cons, List.length_nil, List.length_map, List.length_append, List.length_set, List.length_singleton, Nat.reduceAdd, Nat.reduceSub, Nat.zero_add, List.replicate_succ, List.replicate_zero, List.cons_append, List.nil_append, List.map_cons, List.map_nil, Nat.reduceLeDiff, e1, e2, c0, decide_true, Bool.not_true, cu, List.filter_cons, List.filter_nil, Bool.false_eq_true, if_false, List.flatMap_nil, List.append_nil]
    · have cu : isUnl w s (r, a, b) = true := by simp only [isUnl, c0, decide_false, Bool.not_false]
      by_cases c1 : 0 < s.getD r 0
      · have d1 : (0 ≤ s.getD r 0 + -1) = True := eq_true (by omega)
        have d2 : (s.getD r 0 + -1 ≤ w.ms.getD r 0) = True := eq_true (by omega)
        have d3 : (0 ≤ s.getD r 0 + 1) = True := eq_true (by omega)
        by_cases c2 : s.getD r 0 < w.ms.getD r 0
        · have d4 : (s.getD r 0 + 1 ≤ w.ms.getD r 0) = True := eq_true (by omega)
          simp (disch := (first | omega | (simp only [List.length_cons, List.length_nil, List.length_map, List.length_append, List.length_set, List.length_take, List.length_drop, List.length_replicate, List.length_reverse, List.length_range]; omega))) only [run1, run2, run3, run4, run5, dInts, ixT0, ixT1, ixT2, ixT3, ixL0, ixL1, ixL2, ixT_last, ixL_last, cutD_take, cutD_drop, Kp_run, Fd_run, Wp_ok, Wp_exc, NcCl, if_true, if_false, Bool.false_eq_true, decide_true, decide_false, Bool.not_true, Bool.not_false, lenOk_le, addT', addL', muAppend', List.length_cons, List.length_nil, List.length_map, List.length_append, List.length_set, List.length_singleton, Nat.reduceAdd, Nat.reduceSub, Nat.zero_add, List.replicate_succ, List.replicate_zero, List.cons_append, List.nil_append, List.map_cons, List.map_nil, Nat.reduceLeDiff, e1, e2, e3, e4, e5, e6, c0, d1, d2, d3, d4, forL_turn, forL_end, decide_true, decide_false, Bool.not_false, cu, List.filter_cons, List.filter_nil, if_true, List.flatMap_nil, List.append_nil]
          simp only [List.flatMap_cons, List.flatMap_nil, nearAt, downs, ups, c1, c2, if_true, List.append_assoc, List.cons_append, List.nil_append, List.append_nil, List.map_cons, List.map_nil]
          rfl
        · have d4 : (s.getD r 0 + 1 ≤ w.ms.getD r 0) = False := eq_false (by omega)
          simp (disch := (first | omega | (simp only [List.length_cons, List.length_nil, List.length_map, List.length_append, List.length_set, List.length_take, List.length_drop, List.length_replicate, List.length_reverse, List.length_range]; omega))) only [run1, run2, run3, run4, run5, dInts, ixT0, ixT1, ixT2, ixT3, ixL0, ixL1, ixL2, ixT_last, ixL_last, cutD_take, cutD_drop, Kp_run, Fd_run, Wp_ok, Wp_exc, NcCl, if_true, if_false, Bool.false_eq_true, decide_true, decide_false, Bool.not_true, Bool.not_false, lenOk_le, addT', addL', muAppend', List.length_cons, List.length_nil, List.length_map, List.length_append, List.length_set, List.length_singleton, Nat.reduceAdd, Nat.reduceSub, Nat.zero_add, List.replicate_succ, List.replicate_zero, List.cons_append, List.nil_append, List.map_cons, List.map_nil, Nat.reduceLeDiff, e1, e2, e3, e4, e5, e6, c0, d1, d2, d3, d4, forL_turn, forL_end, decide_true, decide_false, Bool.not_false, cu, List.filter_cons, List.filter_nil, if_true, List.flatMap_nil, List.append_nil]
          simp only [List.flatMap_cons, List.flatMap_nil, nearAt, downs, ups, c1, c2, if_true, if_false, List.append_assoc, List.cons_append, List.nil_append, List.append_nil, List.map_cons, List.map_nil]
          rfl
      · have d1 : (0 ≤ s.getD r 0 + -1) = False := eq_false (by omega)
        have d3 : (0 ≤ s.getD r 0 + 1) = True := eq_true (by omega)
        by_cases c2 : s.getD r 0 < w.ms.getD r 0
        · have d4 : (s.getD r 0 + 1 ≤ w.ms.getD r 0) = True := eq_true (by omega)
          simp (disch := (first | omega | (simp only [List.length_cons, List.length_nil, List.length_map, List.length_append, List.length_set, List.length_take, List.length_drop, List.length_replicate, List.length_reverse, List.length_range]; omega))) only [run1, run2, run3, run4, run5, dInts, ixT0, ixT1, ixT2, ixT3, ixL0, ixL1, ixL2, ixT_last, ixL_last, cutD_take, cutD_drop, Kp_run, Fd_run, Wp_ok, Wp_exc, NcCl, if_true, if_false, Bool.false_eq_true, decide_true, decide_false, Bool.not_true, Bool.not_false, lenOk_le, addT', addL', muAppend', List.length_cons, List.length_nil, List.length_map, List.length_append, List.length_set, List.length_singleton, Nat.reduceAdd, Nat.reduceSub, Nat.zero_add, List.replicate_succ, List.replicate_zero, List.cons_append, List.nil_append, List.map_cons, List.map_nil, Nat.reduceLeDiff, e1, e2, e3, e4, e5, e6, c0, d1, d3, d4, forL_turn, forL_end, decide_true, decide_false, Bool.not_false, cu, List.filter_cons, List.filter_nil, if_true, List.flatMap_nil, List.append_nil]
          simp only [List.flatMap_cons, List.flatMap_nil, nearAt, downs, ups, c1, c2, if_true, if_false, List.append_assoc, List.cons_append, List.nil_append, List.append_nil, List.map_cons, List.map_nil]
        · have d4 : (s.getD r 0 + 1 ≤ w.ms.getD r 0) = False := eq_false (by omega)
          simp (disch := (first | omega | (simp only [List.length_cons, List.length_nil, List.length_map, List.length_append, List.length_set, List.length_take, List.length_drop, List.length_replicate, List.length_reverse, List.length_range]; omega))) only [run1, run2, run3, run4, run5, dInts, ixT0, ixT1, ixT2, ixT3, ixL0, ixL1, ixL2, ixT_last, ixL_last, cutD_take, cutD_drop, Kp_run, Fd_run, Wp_ok, Wp_exc, NcCl, if_true, if_false, Bool.false_eq_true, decide_true, decide_false, Bool.not_true, Bool.not_false, lenOk_le, addT', addL', muAppend', List.length_cons, List.length_nil, List.length_map, List.length_append, List.length_set, List.length_singleton, Nat.reduceAdd, Nat.reduceSub, Nat.zero_add, List.replicate_succ, List.replicate_zero, List.cons_append, List.nil_append, List.map_cons, List.map_nil, Nat.reduceLeDiff, e1, e2, e3, e4, e5, e6, c0, d1, d3, d4, forL_turn, forL_end, decide_true, decide_false, Bool.not_false, cu, List.filter_cons, List.filter_nil, if_true, List.flatMap_nil, List.append_nil]
          simp only [List.flatMap_cons, List.flatMap_nil, nearAt, downs, ups, c1, c2, if_true, if_false, List.append_assoc, List.cons_append, List.nil_append, List.append_nil, List.map_cons, List.map_nil]
  simp only [List.filter_nil, List.flatMap_nil, List.map_nil] at l
  rw [m__law_near, defM_fr]
  simp (disch := (first | omega | (simp only [List.length_cons, List.length_nil, List.length_map, List.length_append, List.length_set, List.length_take, List.length_drop, List.length_replicate, List.length_reverse, List.length_range]; omega))) only [run1, run2, run3, run4, run5, dInts, ixT0, ixT1, ixT2, ixT3, ixL0, ixL1, ixL2, ixT_last, ixL_last, cutD_take, cutD_drop, Kp_run, Fd_run, Wp_ok, Wp_exc, NcCl, if_true, if_false, Bool.false_eq_true, decide_true, decide_false, Bool.not_true, Bool.not_false, lenOk_le, addT', addL', muAppend', List.length_cons, List.length_nil, List.length_map, List.length_append, List.length_set, List.length_singleton, Nat.reduceAdd, Nat.reduceSub, Nat.zero_add, List.replicate_succ, List.replicate_zero, List.cons_append, List.nil_append, List.map_cons, List.map_nil, Nat.reduceLeDiff, b__law_near, N__law_near, hu, z, l, near, unl]
end PJ

/-! P3: what is come to. -/
namespace PJ
open PySem (PyData Str)
open DL CJ
/-! ### deeds keep standings -/
theorem getD_set (s : List Int) (r i : Nat) (v : Int) (hr : r < s.length) : (s.set r v).getD i 0 = if i = r then v else s.getD i 0 := by
  rw [List.getD_eq_getElem?_getD, List.getD_eq_getElem?_getD, List.getElem?_set]
  by_cases h : r = i
  · subst h; simp [hr]
  · rw [if_neg h, if_neg (fun e => h e.symm)]
theorem near_mem {w : Web} (h : WOk w) {s t : Sta} {d : Deed} (hm : (d, t) ∈ near w s) : d.1 < w.rs.length ∧ d.1 ∈ unl w s ∧ ((d.2 = -1 ∧ 0 < s.getD d.1 0 ∧ t = s.set d.1 (s.getD d.1 0 - 1)) ∨ (d.2 = 1 ∧ s.getD d.1 0 < w.ms.getD d.1 0 ∧ t = s.set d.1 (s.getD d.1 0 + 1))) := by
  unfold near at hm
  obtain ⟨r, hr, hx⟩ := List.mem_flatMap.mp hm
  have hl := unl_mem h hr
  unfold nearAt at hx
  rcases List.mem_append.mp hx with hx | hx
  · unfold downs at hx
    split at hx
    · rename_i c
      simp only [List.mem_singleton, Prod.mk.injEq] at hx
      obtain ⟨rfl, rfl⟩ := hx
      exact ⟨hl, hr, .inl ⟨rfl, c, rfl⟩⟩
    · simp at hx
  · unfold ups at hx
    split at hx
    · rename_i c
      simp only [List.mem_singleton, Prod.mk.injEq] at hx
      obtain ⟨rfl, rfl⟩ := hx
      exact ⟨hl, hr, .inr ⟨rfl, c, rfl⟩⟩
    · simp at hx
theorem near_ok {w : Web} (h : WOk w) {s t : Sta} {d : Deed} (hs : SOk w s) (hm : (d, t) ∈ near w s) : SOk w t := by
  obtain ⟨hr, _, hx⟩ := near_mem h hm
  have hl := hs.len
  rcases hx with ⟨_, c, rfl⟩ | ⟨_, c, rfl⟩
  · refine ⟨by simp [hl], fun i hi => ?_, fun i hi => ?_⟩
    · rw [getD_set _ _ _ _ (by omega)]
      have := hs.lo i hi
      split <;> omega
    · rw [getD_set _ _ _ _ (by omega)]
      have := hs.hi i hi
      split
      · rename_i e; subst e; omega
      · exact this
  · refine ⟨by simp [hl], fun i hi => ?_, fun i hi => ?_⟩
    · rw [getD_set _ _ _ _ (by omega)]
      have := hs.lo i hi
      split
      · rename_i e; subst e; omega
      · exact this
    · rw [getD_set _ _ _ _ (by omega)]
      have := hs.hi i hi
      split
      · rename_i e; subst e; omega
      · exact this
/-- an allowed step -/
def Stp (w : Web) (C : List Nat) (s t : Sta) : Prop := ∃ d : Deed, (d, t) ∈ near w s ∧ d.1 ∉ C
inductive Rch (w : Web) (C : List Nat) (s : Sta) : Sta → Prop
  | refl : Rch w C s s
  | step {t u : Sta} : Rch w C s t → Stp w C t u → Rch w C s u
theorem Rch.ok {w : Web} (h : WOk w) {C : List Nat} {s t : Sta} (hs : SOk w s) (r : Rch w C s t) : SOk w t := by
  induction r with
  | refl => exact hs
  | step _ st ih => obtain ⟨d, hd, _⟩ := st; exact near_ok h ih hd
/-- a way -/
def wayTo (w : Web) (C : List Nat) : Sta → List Deed → Sta → Prop
  | s, [], t => s = t
  | s, d :: ds, t => ∃ u, (d, u) ∈ near w s ∧ d.1 ∉ C ∧ wayTo w C u ds t
theorem wayTo_snoc {w : Web} {C : List Nat} : ∀ {ds : List Deed} {s t u : Sta} {d : Deed}, wayTo w C s ds t → (d, u) ∈ near w t → d.1 ∉ C → wayTo w C s (ds ++ [d]) u
  | [], s, t, u, d, h, hm, hc => by cases h; exact ⟨u, hm, hc, rfl⟩
  | e :: ds, s, t, u, d, ⟨v, h1, h2, h3⟩, hm, hc => ⟨v, h1, h2, wayTo_snoc h3 hm hc⟩
/-! ### what is known -/
abbrev Pred := Option (Sta × Deed)
def predD : Pred → PyData
  | none => .none
  | some p => .tuple [stD p.1, deedD p.2]
theorem predD_some (e : Sta) (d : Deed) : predD (some (e, d)) = .tuple [stD e, deedD d] := rfl
abbrev knD (kn : List (Sta × Pred)) : PyData := dcD (fun s : Sta => stD s) predD kn
structure KnOk (w : Web) (C : List Nat) (s : Sta) (kn : List (Sta × Pred)) : Prop where
  nd : (kn.map (·.1)).Nodup
  hd : kn[0]? = some (s, none)
  pr : ∀ (i : Nat) (t : Sta) (o : Pred), kn[i]? = some (t, o) → (i = 0 ∧ o = none) ∨ ∃ j e d o', j < i ∧ kn[j]? = some (e, o') ∧ o = some (e, d) ∧ (d, t) ∈ near w e ∧ d.1 ∉ C
theorem KnOk.rch {w : Web} {C : List Nat} {s : Sta} {kn : List (Sta × Pred)} (k : KnOk w C s kn) : ∀ (n i : Nat) (t : Sta) (o : Pred), i < n → kn[i]? = some (t, o) → Rch w C s t := by
  intro n
  induction n with
  | zero => intro i t o hi; omega
  | succ n ih =>
    intro i t o hi e
    rcases k.pr i t o e with ⟨rfl, rfl⟩ | ⟨j, e', d, o', hj, h1, rfl, h2, h3⟩
    · rw [k.hd] at e; cases e; exact .refl
    · exact .step (ih j e' o' (by omega) h1) ⟨d, h2, h3⟩
theorem KnOk.mem {w : Web} {C : List Nat} {s t : Sta} {kn : List (Sta × Pred)} (k : KnOk w C s kn) (h : t ∈ kn.map (·.1)) : Rch w C s t := by
  obtain ⟨p, hp, rfl⟩ := List.mem_map.mp h
  obtain ⟨i, hi, e⟩ := List.mem_iff_getElem.mp hp
  exact k.rch (i + 1) i p.1 p.2 (by omega) (by rw [List.getElem?_eq_getElem hi, e])
theorem KnOk.one (w : Web) (C : List Nat) (s : Sta) : KnOk w C s [(s, none)] where
  nd := by simp
  hd := rfl
  pr := fun i t o e => by
    cases i with
    | zero => simp at e; exact .inl ⟨rfl, e.2.symm⟩
    | succ i => simp at e
theorem KnOk.put {w : Web} {C : List Nat} {s t e : Sta} {d : Deed} {kn : List (Sta × Pred)} (k : KnOk w C s kn) (ht : t ∉ kn.map (·.1)) {j : Nat} {o' : Pred} (hj : kn[j]? = some (e, o')) (hm : (d, t) ∈ near w e) (hc : d.1 ∉ C) : KnOk w C s (kn ++ [(t, some (e, d))]) where
  nd := by
    rw [List.map_append, List.nodup_append]
    exact ⟨k.nd, by simp, fun a ha b hb => by simp at hb; subst hb; exact fun z => ht (z ▸ ha)⟩
  hd := by
    have : 0 < kn.length := by
      have := k.hd
      rcases kn with _ | ⟨x, r⟩
      · simp at this
      · simp
    rw [List.getElem?_append_left this]; exact k.hd
  pr := fun i u o h => by
    have jl : j < kn.length := (List.getElem?_eq_some_iff.mp hj).1
    by_cases hi : i < kn.length
    · rw [List.getElem?_append_left hi] at h
      rcases k.pr i u o h with z | ⟨j', e', d', o1, h1, h2, h3, h4, h5⟩
      · exact .inl z
      · exact .inr ⟨j', e', d', o1, h1, by rw [List.getElem?_append_left (by omega)]; exact h2, h3, h4, h5⟩
    · rw [List.getElem?_append_right (by omega)] at h
      have e0 : i - kn.length = 0 := by
        rcases Nat.eq_zero_or_pos (i - kn.length) with z | z
        · exact z
        · rw [List.getElem?_eq_none (by simp; omega)] at h; cases h
      rw [e0] at h
      simp at h
      obtain ⟨rfl, rfl⟩ := h
      exact .inr ⟨j, e, d, o', by omega, by rw [List.getElem?_append_left jl]; exact hj, rfl, hm, hc⟩
/-- all steps from the first ones are known -/
def Done (w : Web) (C : List Nat) (kn : List (Sta × Pred)) (n : Nat) : Prop := ∀ (i : Nat) (e : Sta) (o : Pred) (t : Sta), i < n → kn[i]? = some (e, o) → Stp w C e t → t ∈ kn.map (·.1)
theorem Done.all {w : Web} {C : List Nat} {s t : Sta} {kn : List (Sta × Pred)} (k : KnOk w C s kn) (h : Done w C kn kn.length) (r : Rch w C s t) : t ∈ kn.map (·.1) := by
  induction r with
  | refl => exact List.mem_map.mpr ⟨_, List.mem_of_getElem? k.hd, rfl⟩
  | step _ st ih =>
    obtain ⟨p, hp, rfl⟩ := List.mem_map.mp ih
    obtain ⟨i, hi, e⟩ := List.mem_iff_getElem.mp hp
    exact h i p.1 p.2 _ hi (by rw [List.getElem?_eq_getElem hi, e]) st
theorem Rch_many {w : Web} {C : List Nat} {s : Sta} {n : Nat} (h : ∀ ts : List Sta, ts.Nodup → (∀ t ∈ ts, Rch w C s t) → ts.length ≤ n) {kn : List (Sta × Pred)} (k : KnOk w C s kn) : kn.length ≤ n := by
  have := h (kn.map (·.1)) k.nd fun t ht => k.mem ht
  simpa using this
end PJ

/-! P4: going along deeds. -/
namespace PJ
open PySem (PyData Str)
open DL CJ
abbrev shutD (C : List Nat) : PyData := .tuple (C.map fun r : Nat => PyData.int (r : Int))
theorem reached_body {w : Web} (h : WOk w) {C : List Nat} {s : Sta} (hs : SOk w s) {lim : Nat} (hlim : lim ≤ 1000000) {kn : List (Sta × Pred)} {at_ : Nat} {el : Sta} {o : Pred} (k : KnOk w C s kn) (hl : kn.length ≤ lim) (ha : kn[at_]? = some (el, o)) (hd : Done w C kn at_)
    {Q : Fl → Env → Prop} {Er : Exn → Env → Prop}
    (hq : ∀ kn', KnOk w C s kn' → kn'.length ≤ lim → kn.length ≤ kn'.length → Done w C kn' (at_ + 1) → Q .nx [webD w, .none, shutD C, .int (lim : Int), knD kn', .list ((kn'.map (·.1)).map fun s : Sta => stD s), .int ((at_ + 1 : Nat) : Int), stD el, .none, .none])
    (he : ∀ (ρ : Env) (ts : List Sta), ts.Nodup → (∀ t ∈ ts, Rch w C s t) → ts.length = lim + 1 → Er ⟨"TooMany", [("limit", .int (lim : Int))]⟩ ρ) :
    Wp (forL (gTupM 2 (gsCons (gSet 8) (gsCons (gSet 9) gsNil)))
        (noCt (sIf (tAndM (tTru (eOp2 notInA (eOp2 ixA (eV 8) (eC (.int (0)))) (eV 2))) (tTru (eOp2 notInA (eV 9) (eV 4))))
        (sClr [8, 9] (sCons (sIf (tTru (eOp2 eqD (eOp1 lenD (eV 4)) (eV 3)))
        (sRaise "TooMany" ["limit"] (aCons (eV 3) aNil))
        sNil)
      (sCons (sPut 4 (eTup (aCons (eV 7) (aCons (eV 8) aNil))) (eV 9))
      (sExp (eMut 5 muAppend (aCons (eV 9) aNil))))))
        (sClr [8, 9] sNil))) ((near w el).map nearD) [webD w, .none, shutD C, .int (lim : Int), knD kn, .list ((kn.map (·.1)).map fun s : Sta => stD s), .int ((at_ + 1 : Nat) : Int), stD el, .none, .none]) Q Er := by
  have key : ∀ i e o t, i < at_ → kn[i]? = some (e, o) → Stp w C e t → t ∈ kn.map (·.1) := hd
  refine wp_for (near w el) (fun pre ρ => ∃ kn', ρ = [webD w, .none, shutD C, .int (lim : Int), knD kn', .list ((kn'.map (·.1)).map fun s : Sta => stD s), .int ((at_ + 1 : Nat) : Int), stD el, .none, .none] ∧ KnOk w C s kn' ∧ kn'.length ≤ lim ∧ (∃ more, kn' = kn ++ more) ∧
      ∀ p ∈ pre, p.1.1 ∉ C → p.2 ∈ kn'.map (·.1)) ⟨kn, rfl, k, hl, ⟨[], by simp⟩, by simp⟩ (fun pre p post ρ e ⟨kn', e1, k', hl', ⟨more, e2⟩, hp⟩ => ?_) (fun ρ ⟨kn', e1, k', hl', ⟨more, e2⟩, hp⟩ => ?_)
  · subst e1
    obtain ⟨⟨r, by_⟩, t⟩ := p
    have hm : ((r, by_), t) ∈ near w el := by rw [e]; simp
    have ha' : kn'[at_]? = some (el, o) := by rw [e2, List.getElem?_append_left (List.getElem?_eq_some_iff.mp ha).1]; exact ha
    have c1 := notInT_en (En.nat) (by decide) r C
    have c2 := notIn_dc (f := fun s : Sta => stD s) (g := predD) Ky.ints kn' t
    by_cases h1 : r ∈ C
    · simp (disch := (first | omega | (simp only [List.length_cons, List.length_nil, List.length_map, List.length_append, List.length_set, List.length_take, List.length_drop, List.length_replicate, List.length_reverse, List.length_range]; omega))) only [run1, run2, run3, run4, run5, dInts, ixT0, ixT1, ixT2, ixT3, ixL0, ixL1, ixL2, ixT_last, ixL_last, cutD_take, cutD_drop, Kp_run, Fd_run, Wp_ok, Wp_exc, NcCl, if_true, if_false, Bool.false_eq_true, decide_true, decide_false, Bool.not_true, Bool.not_false, lenOk_le, addT', addL', muAppend', List.length_cons, List.length_nil, List.length_map, List.length_append, List.length_set, List.length_singleton, Nat.reduceAdd, Nat.reduceSub, Nat.zero_add, List.replicate_succ, List.replicate_zero, List.cons_append, List.nil_append, List.map_cons, List.map_nil, Nat.reduceLeDiff, c1, h1, decide_true, Bool.not_true]
      exact ⟨kn', rfl, k', hl', ⟨more, e2⟩, fun q hq hc => (List.mem_append.mp hq).elim (fun z => hp q z hc) fun z => by simp at z; subst z; exact absurd h1 hc⟩
    · by_cases h2 : t ∈ kn'.map (·.1)
      · simp (disch := (first | omega | (simp only [List.length_cons, List.length_nil, List.length_map, List.length_append, List.length_set, List.length_take, List.length_drop, List.length_replicate, List.length_reverse, List.length_range]; omega))) only [run1, run2, run3, run4, run5, dInts, ixT0, ixT1, ixT2, ixT3, ixL0, ixL1, ixL2, ixT_last, ixL_last, cutD_take, cutD_drop, Kp_run, Fd_run, Wp_ok, Wp_exc, NcCl, if_true, if_false, Bool.false_eq_true, decide_true, decide_false, Bool.not_true, Bool.not_false, lenOk_le, addT', addL', muAppend', List.length_cons, List.length_nil, List.length_map, List.length_append, List.length_set, List.length_singleton, Nat.reduceAdd, Nat.reduceSub, Nat.zero_add, List.replicate_succ, List.replicate_zero, List.cons_append, List.nil_append, List.map_cons, List.map_nil, Nat.reduceLeDiff, c1, c2, h1, h2, decide_true, decide_false, Bool.not_true, Bool.not_false]
        exact ⟨kn', rfl, k', hl', ⟨more, e2⟩, fun q hq hc => (List.mem_append.mp hq).elim (fun z => hp q z hc) fun z => by simp at z; subst z; exact h2⟩
      · by_cases h3 : kn'.length = lim
        · have h3' : ((kn'.length : Nat) : Int) = (lim : Int) := by omega
          simp (disch := (first | omega | (simp only [List.length_cons, List.length_nil, List.length_map, List.length_append, List.length_set, List.length_take, List.length_drop, List.length_replicate, List.length_reverse, List.length_range]; omega))) only [run1, run2, run3, run4, run5, dInts, ixT0, ixT1, ixT2, ixT3, ixL0, ixL1, ixL2, ixT_last, ixL_last, cutD_take, cutD_drop, Kp_run, Fd_run, Wp_ok, Wp_exc, NcCl, if_true, if_false, Bool.false_eq_true, decide_true, decide_false, Bool.not_true, Bool.not_false, lenOk_le, addT', addL', muAppend', List.length_cons, List.length_nil, List.length_map, List.length_append, List.length_set, List.length_singleton, Nat.reduceAdd, Nat.reduceSub, Nat.zero_add, List.replicate_succ, List.replicate_zero, List.cons_append, List.nil_append, List.map_cons, List.map_nil, Nat.reduceLeDiff, c1, c2, h1, h2, h3', decide_true, decide_false, Bool.not_true, Bool.not_false]
          refine he _ (kn'.map (·.1) ++ [t]) ?_ (fun u hu => ?_) (by simp [h3])
          · rw [List.nodup_append]
            exact ⟨k'.nd, by simp, fun a ha b hb => by simp at hb; subst hb; exact fun z => h2 (z ▸ ha)⟩
          · rcases List.mem_append.mp hu with z | z
            · exact k'.mem z
            · simp at z; subst z
              exact .step (k'.rch (at_ + 1) at_ el o (by omega) ha') ⟨_, hm, h1⟩
        · have h3' : ¬ ((kn'.length : Nat) : Int) = (lim : Int) := by omega
          have c3 := put_dc (f := fun s : Sta => stD s) (g := predD) Ky.ints kn' t (some (el, (r, by_))) (by omega)
          rw [aput_new h2] at c3
          have c3' : setD (knD kn') (stD t) (.tuple [stD el, deedD (r, by_)]) = some (knD (kn' ++ [(t, some (el, (r, by_)))])) := c3
          simp (disch := (first | omega | (simp only [List.length_cons, List.length_nil, List.length_map, List.length_append, List.length_set, List.length_take, List.length_drop, List.length_replicate, List.length_reverse, List.length_range]; omega))) only [run1, run2, run3, run4, run5, dInts, ixT0, ixT1, ixT2, ixT3, ixL0, ixL1, ixL2, ixT_last, ixL_last, cutD_take, cutD_drop, Kp_run, Fd_run, Wp_ok, Wp_exc, NcCl, if_true, if_false, Bool.false_eq_true, decide_true, decide_false, Bool.not_true, Bool.not_false, lenOk_le, addT', addL', muAppend', List.length_cons, List.length_nil, List.length_map, List.length_append, List.length_set, List.length_singleton, Nat.reduceAdd, Nat.reduceSub, Nat.zero_add, List.replicate_succ, List.replicate_zero, List.cons_append, List.nil_append, List.map_cons, List.map_nil, Nat.reduceLeDiff, c1, c2, c3', h1, h2, h3', decide_true, decide_false, Bool.not_true, Bool.not_false, Option.map_some]
          refine ⟨kn' ++ [(t, some (el, (r, by_)))], ?_, k'.put h2 ha' hm h1, by simp; omega, ⟨more ++ [(t, some (el, (r, by_)))], by rw [e2]; simp⟩, fun q hq hc => ?_⟩
          · simp
          · rw [List.map_append, List.mem_append]
            exact (List.mem_append.mp hq).elim (fun z => .inl (hp q z hc)) fun z => .inr (by simp at z; subst z; simp)
  · subst e1
    refine hq kn' k' hl' (by rw [e2]; simp) fun i e o1 t hi h1 h2 => ?_
    by_cases hi' : i < at_
    · have z := key i e o1 t hi' (by rw [e2] at h1; rw [List.getElem?_append_left] at h1; exact h1; have := (List.getElem?_eq_some_iff.mp ha).1; omega) h2
      rw [e2, List.map_append]; exact List.mem_append_left _ z
    · have : i = at_ := by omega
      subst this
      rw [e2, List.getElem?_append_left (List.getElem?_eq_some_iff.mp ha).1, ha] at h1
      cases h1
      obtain ⟨d, hm, hc⟩ := h2
      exact hp _ hm hc
theorem reached_ok {w : Web} (h : WOk w) (C : List Nat) {s : Sta} (hs : SOk w s) {lim : Nat} (h1 : 1 ≤ lim) (hlim : lim ≤ 1000000) :
    FW (m_reached [webD w, stD s, shutD C, .int (lim : Int)]) (fun d ios => ios = [] ∧ ∃ kn, d = knD kn ∧ KnOk w C s kn ∧ kn.length ≤ lim ∧ Done w C kn kn.length)
      (fun x ios => ios = [] ∧ x = ⟨"TooMany", [("limit", .int (lim : Int))]⟩ ∧ ∃ ts : List Sta, ts.Nodup ∧ (∀ t ∈ ts, Rch w C s t) ∧ ts.length = lim + 1) := by
  refine fw_of ?_
  have hk : isKeyT (stD s) = true := (Ky.ints.kd).elim (fun z => absurd (z s) (by simp [isKeyK, dkey])) fun z => z s
  simp (disch := (first | omega | (simp only [List.length_cons, List.length_nil, List.length_map, List.length_append, List.length_set, List.length_take, List.length_drop, List.length_replicate, List.length_reverse, List.length_range]; omega))) only [run1, run2, run3, run4, run5, dInts, ixT0, ixT1, ixT2, ixT3, ixL0, ixL1, ixL2, ixT_last, ixL_last, cutD_take, cutD_drop, Kp_run, Fd_run, Wp_ok, Wp_exc, NcCl, if_true, if_false, Bool.false_eq_true, decide_true, decide_false, Bool.not_true, Bool.not_false, lenOk_le, addT', addL', muAppend', List.length_cons, List.length_nil, List.length_map, List.length_append, List.length_set, List.length_singleton, Nat.reduceAdd, Nat.reduceSub, Nat.zero_add, List.replicate_succ, List.replicate_zero, List.cons_append, List.nil_append, List.map_cons, List.map_nil, Nat.reduceLeDiff, N_reached, b_reached, hk]
  refine Wp.bind (wp_while (fun q : List (Sta × Pred) × Nat => [webD w, .none, shutD C, .int (lim : Int), knD q.1, .list ((q.1.map (·.1)).map fun s : Sta => stD s), .int (q.2 : Int), .none, .none, .none])
    (fun q => KnOk w C s q.1 ∧ q.1.length ≤ lim ∧ q.2 ≤ q.1.length ∧ Done w C q.1 q.2) (fun q => lim - q.2) ([(s, none)], 0) rfl ⟨KnOk.one w C s, h1, by simp, fun i e o t hi => by omega⟩ (by show lim - 0 < 1000000000; omega) ?_)
  rintro ⟨kn, at_⟩ ⟨k, hl, ha, hd⟩
  dsimp only at k hl ha hd ⊢
  by_cases c : at_ < kn.length
  · have c' : (at_ : Int) < (kn.length : Int) := by omega
    obtain ⟨p, hp⟩ : ∃ p, kn[at_]? = some p := ⟨kn[at_], List.getElem?_eq_getElem c⟩
    obtain ⟨el, o⟩ := p
    have e1 := ixL ((kn.map (·.1)).map fun s : Sta => stD s) at_
    rw [List.getElem?_map, List.getElem?_map, hp] at e1
    have hb := beside_ok h (Rch.ok h hs (k.rch (at_ + 1) at_ el o (by omega) hp))
    have e2 : ((at_ : Int) + 1) = ((at_ + 1 : Nat) : Int) := by omega
    simp (disch := (first | omega | (simp only [List.length_cons, List.length_nil, List.length_map, List.length_append, List.length_set, List.length_take, List.length_drop, List.length_replicate, List.length_reverse, List.length_range]; omega))) only [run1, run2, run3, run4, run5, dInts, ixT0, ixT1, ixT2, ixT3, ixL0, ixL1, ixL2, ixT_last, ixL_last, cutD_take, cutD_drop, Kp_run, Fd_run, Wp_ok, Wp_exc, NcCl, if_true, if_false, Bool.false_eq_true, decide_true, decide_false, Bool.not_true, Bool.not_false, lenOk_le, addT', addL', muAppend', List.length_cons, List.length_nil, List.length_map, List.length_append, List.length_set, List.length_singleton, Nat.reduceAdd, Nat.reduceSub, Nat.zero_add, List.replicate_succ, List.replicate_zero, List.cons_append, List.nil_append, List.map_cons, List.map_nil, Nat.reduceLeDiff, c', decide_true, e1, hb, e2, Option.map_some]
    refine wp_noCt (wp_clr (reached_body h hs hlim k hl hp hd (fun kn' k' hl' hk' hd' => ?_) fun ρ ts h1 h2 h3 => ?_))
    · simp (disch := (first | omega | (simp only [List.length_cons, List.length_nil, List.length_map, List.length_append, List.length_set, List.length_take, List.length_drop, List.length_replicate, List.length_reverse, List.length_range]; omega))) only [run1, run2, run3, run4, run5, dInts, ixT0, ixT1, ixT2, ixT3, ixL0, ixL1, ixL2, ixT_last, ixL_last, cutD_take, cutD_drop, Kp_run, Fd_run, Wp_ok, Wp_exc, NcCl, if_true, if_false, Bool.false_eq_true, decide_true, decide_false, Bool.not_true, Bool.not_false, lenOk_le, addT', addL', muAppend', List.length_cons, List.length_nil, List.length_map, List.length_append, List.length_set, List.length_singleton, Nat.reduceAdd, Nat.reduceSub, Nat.zero_add, List.replicate_succ, List.replicate_zero, List.cons_append, List.nil_append, List.map_cons, List.map_nil, Nat.reduceLeDiff]
      exact ⟨(kn', at_ + 1), rfl, ⟨k', hl', by dsimp only; omega, hd'⟩, by dsimp only; omega⟩
    · exact ⟨trivial, rfl, ts, h1, h2, h3⟩
  · have c' : ¬ (at_ : Int) < (kn.length : Int) := by omega
    simp (disch := (first | omega | (simp only [List.length_cons, List.length_nil, List.length_map, List.length_append, List.length_set, List.length_take, List.length_drop, List.length_replicate, List.length_reverse, List.length_range]; omega))) only [run1, run2, run3, run4, run5, dInts, ixT0, ixT1, ixT2, ixT3, ixL0, ixL1, ixL2, ixT_last, ixL_last, cutD_take, cutD_drop, Kp_run, Fd_run, Wp_ok, Wp_exc, NcCl, if_true, if_false, Bool.false_eq_true, decide_true, decide_false, Bool.not_true, Bool.not_false, lenOk_le, addT', addL', muAppend', List.length_cons, List.length_nil, List.length_map, List.length_append, List.length_set, List.length_singleton, Nat.reduceAdd, Nat.reduceSub, Nat.zero_add, List.replicate_succ, List.replicate_zero, List.cons_append, List.nil_append, List.map_cons, List.map_nil, Nat.reduceLeDiff, c', decide_false]
    have : at_ = kn.length := by omega
    subst this
    exact ⟨trivial, kn, rfl, k, hl, hd⟩
theorem way_to_ok {w : Web} {C : List Nat} {s t : Sta} {kn : List (Sta × Pred)} (k : KnOk w C s kn) (hl : kn.length ≤ 1000000) (ht : t ∈ kn.map (·.1)) :
    FW (m_way_to [knD kn, stD t]) (fun d ios => ios = [] ∧ ∃ ds : List Deed, d = .tuple (ds.map deedD) ∧ wayTo w C s ds t ∧ ds.length ≤ kn.length ∧ (t = s → ds = [])) (fun _ _ => False) := by
  refine fw_of ?_
  obtain ⟨p, hp, rfl⟩ := List.mem_map.mp ht
  obtain ⟨i0, hi0, e0⟩ := List.mem_iff_getElem.mp hp
  have e0' : kn[i0]? = some p := by rw [List.getElem?_eq_getElem hi0, e0]
  have g0 := get_dc (f := fun s : Sta => stD s) (g := predD) Ky.ints kn p.1
  rw [aget_of_mem k.nd (show (p.1, p.2) ∈ kn from hp)] at g0
  simp (disch := (first | omega | (simp only [List.length_cons, List.length_nil, List.length_map, List.length_append, List.length_set, List.length_take, List.length_drop, List.length_replicate, List.length_reverse, List.length_range]; omega))) only [run1, run2, run3, run4, run5, dInts, ixT0, ixT1, ixT2, ixT3, ixL0, ixL1, ixL2, ixT_last, ixL_last, cutD_take, cutD_drop, Kp_run, Fd_run, Wp_ok, Wp_exc, NcCl, if_true, if_false, Bool.false_eq_true, decide_true, decide_false, Bool.not_true, Bool.not_false, lenOk_le, addT', addL', muAppend', List.length_cons, List.length_nil, List.length_map, List.length_append, List.length_set, List.length_singleton, Nat.reduceAdd, Nat.reduceSub, Nat.zero_add, List.replicate_succ, List.replicate_zero, List.cons_append, List.nil_append, List.map_cons, List.map_nil, Nat.reduceLeDiff, N_way_to, b_way_to, g0, Option.map_some]
  refine Wp.bind (wp_while (fun q : List Deed × Nat => [knD kn, .none, .list (q.1.map deedD), predD (kn.getD q.2 ([], none)).2])
    (fun q => ∃ u o, kn[q.2]? = some (u, o) ∧ wayTo w C u q.1.reverse p.1 ∧ q.1.length + q.2 ≤ i0) (fun q => q.2) ([], i0) ?_ ⟨p.1, p.2, e0', rfl, by simp⟩ (by dsimp only; omega) ?_)
  · rw [List.getD_eq_getElem?_getD, e0']; rfl
  rintro ⟨fs, i⟩ ⟨u, o, e1, hw, hle⟩
  dsimp only at e1 hw hle ⊢
  have e2 : (kn.getD i ([], none)).2 = o := by rw [List.getD_eq_getElem?_getD, e1]; rfl
  rw [e2]
  rcases k.pr i u o e1 with ⟨rfl, rfl⟩ | ⟨j, e, d, o', hj, h1, rfl, h2, h3⟩
  · rw [k.hd] at e1
    cases e1
    simp (disch := (first | omega | (simp only [List.length_cons, List.length_nil, List.length_map, List.length_append, List.length_set, List.length_take, List.length_drop, List.length_replicate, List.length_reverse, List.length_range]; omega))) only [run1, run2, run3, run4, run5, dInts, ixT0, ixT1, ixT2, ixT3, ixL0, ixL1, ixL2, ixT_last, ixL_last, cutD_take, cutD_drop, Kp_run, Fd_run, Wp_ok, Wp_exc, NcCl, if_true, if_false, Bool.false_eq_true, decide_true, decide_false, Bool.not_true, Bool.not_false, lenOk_le, addT', addL', muAppend', List.length_cons, List.length_nil, List.length_map, List.length_append, List.length_set, List.length_singleton, Nat.reduceAdd, Nat.reduceSub, Nat.zero_add, List.replicate_succ, List.replicate_zero, List.cons_append, List.nil_append, List.map_cons, List.map_nil, Nat.reduceLeDiff, predD]
    refine ⟨trivial, fs.reverse, by rw [List.map_reverse], hw, by simp at hle ⊢; omega, fun es => ?_⟩
    have h0 : (kn.map (·.1))[i0]? = (kn.map (·.1))[0]? := by
      rw [List.getElem?_map, List.getElem?_map, e0', k.hd, Option.map_some, Option.map_some, es]
    have : i0 = 0 := (List.getElem?_inj (by simpa using hi0) k.nd).mp h0
    subst this
    have : fs = [] := List.length_eq_zero_iff.mp (by omega)
    rw [this]; rfl
  · have g1 := get_dc (f := fun s : Sta => stD s) (g := predD) Ky.ints kn e
    rw [aget_of_mem k.nd (List.mem_of_getElem? h1)] at g1
    have hl2 : fs.length + 1 ≤ 16777216 := by omega
    simp (disch := (first | omega | (simp only [List.length_cons, List.length_nil, List.length_map, List.length_append, List.length_set, List.length_take, List.length_drop, List.length_replicate, List.length_reverse, List.length_range]; omega))) only [run1, run2, run3, run4, run5, dInts, ixT0, ixT1, ixT2, ixT3, ixL0, ixL1, ixL2, ixT_last, ixL_last, cutD_take, cutD_drop, Kp_run, Fd_run, Wp_ok, Wp_exc, NcCl, if_true, if_false, Bool.false_eq_true, decide_true, decide_false, Bool.not_true, Bool.not_false, lenOk_le, addT', addL', muAppend', List.length_cons, List.length_nil, List.length_map, List.length_append, List.length_set, List.length_singleton, Nat.reduceAdd, Nat.reduceSub, Nat.zero_add, List.replicate_succ, List.replicate_zero, List.cons_append, List.nil_append, List.map_cons, List.map_nil, Nat.reduceLeDiff, predD_some, g1, Option.map_some]
    refine ⟨(fs ++ [d], j), ?_, ⟨e, o', h1, ?_, by simp; omega⟩, hj⟩
    · dsimp only
      rw [List.getD_eq_getElem?_getD, h1]
      simp
    · dsimp only
      rw [List.reverse_append]
      exact ⟨u, h2, h3, hw⟩
theorem closed_way_ok {w : Web} (h : WOk w) (C : List Nat) {s t : Sta} (hs : SOk w s) :
    FW (m_closed_way [webD w, stD s, stD t, shutD C]) (fun d ios => ios = [] ∧ (∀ ts : List Sta, ts.Nodup → (∀ t ∈ ts, Rch w C s t) → ts.length ≤ 2000) ∧ ((d = .none ∧ ¬ Rch w C s t) ∨ ∃ ds : List Deed, d = .tuple (ds.map deedD) ∧ wayTo w C s ds t ∧ ds.length ≤ 2000 ∧ (t = s → ds = [])))
      (fun x ios => ios = [] ∧ x = ⟨"TooMany", [("limit", .int 2000)]⟩ ∧ ∃ ts : List Sta, ts.Nodup ∧ (∀ t ∈ ts, Rch w C s t) ∧ ts.length = 2001) := by
  refine fw_of ?_
  have r := reached_ok h C hs (lim := 2000) (by omega) (by omega)
  simp (disch := (first | omega | (simp only [List.length_cons, List.length_nil, List.length_map, List.length_append, List.length_set, List.length_take, List.length_drop, List.length_replicate, List.length_reverse, List.length_range]; omega))) only [run1, run2, run3, run4, run5, dInts, ixT0, ixT1, ixT2, ixT3, ixL0, ixL1, ixL2, ixT_last, ixL_last, cutD_take, cutD_drop, Kp_run, Fd_run, Wp_ok, Wp_exc, NcCl, if_true, if_false, Bool.false_eq_true, decide_true, decide_false, Bool.not_true, Bool.not_false, lenOk_le, addT', addL', muAppend', List.length_cons, List.length_nil, List.length_map, List.length_append, List.length_set, List.length_singleton, Nat.reduceAdd, Nat.reduceSub, Nat.zero_add, List.replicate_succ, List.replicate_zero, List.cons_append, List.nil_append, List.map_cons, List.map_nil, Nat.reduceLeDiff, N_closed_way, b_closed_way]
  refine wp_call (P := _) (r.mono (fun _ _ z => z) ?_) ?_
  · rintro x ios ⟨rfl, rfl, z⟩
    exact ⟨trivial, rfl, z⟩
  · rintro d ios ⟨rfl, kn, rfl, k, hl, hd⟩
    have c2 := in_dc (f := fun s : Sta => stD s) (g := predD) Ky.ints kn t
    have few : ∀ ts : List Sta, ts.Nodup → (∀ t ∈ ts, Rch w C s t) → ts.length ≤ 2000 := fun ts h1 h2 =>
      Nat.le_trans (List.Nodup.length_le_of_subset h1 fun u hu => hd.all k (h2 u hu)) (by simpa using hl)
    by_cases hm : t ∈ kn.map (·.1)
    · obtain ⟨d, ios, e, rfl, ds, rfl, hw, hn, hz⟩ := (way_to_ok k (by omega) hm).ex
      simp (disch := (first | omega | (simp only [List.length_cons, List.length_nil, List.length_map, List.length_append, List.length_set, List.length_take, List.length_drop, List.length_replicate, List.length_reverse, List.length_range]; omega))) only [run1, run2, run3, run4, run5, dInts, ixT0, ixT1, ixT2, ixT3, ixL0, ixL1, ixL2, ixT_last, ixL_last, cutD_take, cutD_drop, Kp_run, Fd_run, Wp_ok, Wp_exc, NcCl, if_true, if_false, Bool.false_eq_true, decide_true, decide_false, Bool.not_true, Bool.not_false, lenOk_le, addT', addL', muAppend', List.length_cons, List.length_nil, List.length_map, List.length_append, List.length_set, List.length_singleton, Nat.reduceAdd, Nat.reduceSub, Nat.zero_add, List.replicate_succ, List.replicate_zero, List.cons_append, List.nil_append, List.map_cons, List.map_nil, Nat.reduceLeDiff, c2, hm, e]
      exact ⟨trivial, few, .inr ⟨ds, rfl, hw, by omega, hz⟩⟩
    · simp (disch := (first | omega | (simp only [List.length_cons, List.length_nil, List.length_map, List.length_append, List.length_set, List.length_take, List.length_drop, List.length_replicate, List.length_reverse, List.length_range]; omega))) only [run1, run2, run3, run4, run5, dInts, ixT0, ixT1, ixT2, ixT3, ixL0, ixL1, ixL2, ixT_last, ixL_last, cutD_take, cutD_drop, Kp_run, Fd_run, Wp_ok, Wp_exc, NcCl, if_true, if_false, Bool.false_eq_true, decide_true, decide_false, Bool.not_true, Bool.not_false, lenOk_le, addT', addL', muAppend', List.length_cons, List.length_nil, List.length_map, List.length_append, List.length_set, List.length_singleton, Nat.reduceAdd, Nat.reduceSub, Nat.zero_add, List.replicate_succ, List.replicate_zero, List.cons_append, List.nil_append, List.map_cons, List.map_nil, Nat.reduceLeDiff, c2, hm]
      exact ⟨trivial, few, .inl ⟨trivial, fun z => hm (hd.all k z)⟩⟩
end PJ

/-! P5: sorted; the law's own going. -/
namespace DL
open PySem (PyData Str)
mutual
theorem noDict_nb : ∀ d : PyData, nb d = true → noDict d = true
  | .none, _ => rfl
  | .int _, _ => rfl
  | .str x, h => rfl
  | .list ds, h => by simpa [noDict] using noDicts_nbs ds (by simpa [nb] using h)
  | .tuple ds, h => by simpa [noDict] using noDicts_nbs ds (by simpa [nb] using h)
  | .bool b, h => rfl
  | .dict b, h => by simp [nb] at h
theorem noDicts_nbs : ∀ ds : List PyData, nbs ds = true → noDicts ds = true
  | [], _ => rfl
  | d :: ds, h => by
    simp only [nbs, Bool.and_eq_true] at h
    simp only [noDicts, Bool.and_eq_true]
    exact ⟨noDict_nb d h.1, noDicts_nbs ds h.2⟩
end
def ordBy {α : Type} (f : α → PyData) (a b : α) : Bool := ordLe (f a) (f b)
theorem sort_en {α : Type} {k : Nat} {f : α → PyData} (h : En k f) (hk : k ≤ 40) (xs : List α) (h2 : ∀ a ∈ xs, ∀ b ∈ xs, PySem.W.alike (f a) (f b) = true) (h3 : (∀ a ∈ xs, nonEmptyT (f a) = true) ∨ (∀ a ∈ xs, plainS (f a) = true)) :
    sortD (.list (xs.map f)) = some (.list ((xs.mergeSort (ordBy f)).map f)) := by
  have ok : sortOk (xs.map f) = true := by
    simp only [sortOk, Bool.and_eq_true, List.all_eq_true, List.mem_map, Bool.or_eq_true, decide_eq_true_eq]
    refine ⟨⟨⟨noDicts_nbs _ (nbs_map h.ok xs), ?_⟩, ?_⟩, ?_⟩
    · rintro d ⟨a, ha, rfl⟩ e ⟨b, hb, rfl⟩
      exact h2 a ha b hb
    · rcases h3 with h3 | h3
      · left; rintro d ⟨a, ha, rfl⟩; exact h3 a ha
      · right; rintro d ⟨a, ha, rfl⟩; exact h3 a ha
    · rintro d ⟨a, ha, rfl⟩
      exact Nat.le_trans (h.dp a) hk
  simp only [sortD, ok, if_true]
  rw [List.map_mergeSort (r := ordBy f) (s := ordLe) (f := f) (fun a _ b _ => rfl)]
theorem sort_mem {α : Type} (f : α → PyData) (xs : List α) (a : α) : a ∈ xs.mergeSort (ordBy f) ↔ a ∈ xs := (List.mergeSort_perm xs (ordBy f)).mem_iff
theorem alikes_int : ∀ xs ys : List Int, PySem.W.alikeAll (xs.map PyData.int) (ys.map PyData.int) = true
  | [], _ => by simp [PySem.W.alikeAll]
  | _ :: _, [] => by simp [PySem.W.alikeAll]
  | x :: xs, y :: ys => by simp [PySem.W.alikeAll, PySem.W.alike, alikes_int xs ys]
end DL
namespace PJ
open PySem (PyData Str)
open DL CJ
theorem alike_st (a b : Sta) : PySem.W.alike (stD a) (stD b) = true := by simp only [stD, PySem.W.alike]; exact alikes_int a b
abbrev setD1 (ks : List Sta) : PyData := dcD (fun s : Sta => stD s) (fun _ : Unit => PyData.bool true) (ks.map fun k => (k, ()))
theorem keys_of (ks : List Sta) : (ks.map fun k => (k, ())).map (·.1) = ks := by
  rw [List.map_map]; exact List.map_id ks
theorem law_reach_body {w : Web} (h : WOk w) {C : List Nat} {s own : Sta} {N : Nat} (hN : ∀ ts : List Sta, ts.Nodup → (∀ t ∈ ts, Rch w C s t) → ts.length ≤ N) (hN2 : N ≤ 10000000) {ks l : List Sta} (nd : ks.Nodup) (rk : ∀ t ∈ ks, Rch w C s t) (ho : Rch w C s own) (hl : l.length ≤ ks.length)
    {Q : Fl → Env → Prop} {Er : Exn → Env → Prop}
    (hq : ∀ new : List Sta, (ks ++ new).Nodup → (∀ t ∈ new, Rch w C s t) → (∀ t, Stp w C own t → t ∈ ks ++ new) → Q .nx [webD w, .none, shutD C, setD1 (ks ++ new), .list ((l ++ new).map fun s : Sta => stD s), stD own, .none, .none]) :
    Wp (forL (gTupM 2 (gsCons (gSet 6) (gsCons (gSet 7) gsNil)))
        (noCt (sIf (tAndM (tTru (eOp2 notInA (eOp2 ixA (eV 6) (eC (.int (0)))) (eV 2))) (tTru (eOp2 notInA (eV 7) (eV 3))))
        (sClr [6, 7] (sCons (sPut 3 (eC (.bool true)) (eV 7))
      (sExp (eMut 4 muAppend (aCons (eV 7) aNil)))))
        (sClr [6, 7] sNil))) ((near w own).map nearD) [webD w, .none, shutD C, setD1 ks, .list (l.map fun s : Sta => stD s), stD own, .none, .none]) Q Er := by
  refine wp_for (near w own) (fun pre ρ => ∃ new : List Sta, ρ = [webD w, .none, shutD C, setD1 (ks ++ new), .list ((l ++ new).map fun s : Sta => stD s), stD own, .none, .none] ∧ (ks ++ new).Nodup ∧ (∀ t ∈ new, Rch w C s t) ∧ ∀ p ∈ pre, p.1.1 ∉ C → p.2 ∈ ks ++ new)
    ⟨[], by simp, by simpa using nd, by simp, by simp⟩ (fun pre p post ρ e ⟨new, e1, nd', rn, hp⟩ => ?_) (fun ρ ⟨new, e1, nd', rn, hp⟩ => ?_)
  · subst e1
    obtain ⟨⟨r, by_⟩, t⟩ := p
    have hm : ((r, by_), t) ∈ near w own := by rw [e]; simp
    have c1 := notInT_en (En.nat) (by decide) r C
    have c2 := notIn_dc (f := fun s : Sta => stD s) (g := fun _ : Unit => PyData.bool true) Ky.ints ((ks ++ new).map fun k => (k, ())) t
    rw [keys_of] at c2
    by_cases h1 : r ∈ C
    · simp (disch := (first | omega | (simp only [List.length_cons, List.length_nil, List.length_map, List.length_append, List.length_set, List.length_take, List.length_drop, List.length_replicate, List.length_reverse, List.length_range]; omega))) only [run1, run2, run3, run4, run5, dInts, ixT0, ixT1, ixT2, ixT3, ixL0, ixL1, ixL2, ixT_last, ixL_last, cutD_take, cutD_drop, Kp_run, Fd_run, Wp_ok, Wp_exc, NcCl, if_true, if_false, Bool.false_eq_true, decide_true, decide_false, Bool.not_true, Bool.not_false, lenOk_le, addT', addL', muAppend', List.length_cons, List.length_nil, List.length_map, List.length_append, List.length_set, List.length_singleton, Nat.reduceAdd, Nat.reduceSub, Nat.zero_add, List.replicate_succ, List.replicate_zero, List.cons_append, List.nil_append, List.map_cons, List.map_nil, Nat.reduceLeDiff, c1, h1]
      exact ⟨new, rfl, nd', rn, fun q hq hc => (List.mem_append.mp hq).elim (fun z => hp q z hc) fun z => by simp at z; subst z; exact absurd h1 hc⟩
    · by_cases h2 : t ∈ ks ++ new
      · simp (disch := (first | omega | (simp only [List.length_cons, List.length_nil, List.length_map, List.length_append, List.length_set, List.length_take, List.length_drop, List.length_replicate, List.length_reverse, List.length_range]; omega))) only [run1, run2, run3, run4, run5, dInts, ixT0, ixT1, ixT2, ixT3, ixL0, ixL1, ixL2, ixT_last, ixL_last, cutD_take, cutD_drop, Kp_run, Fd_run, Wp_ok, Wp_exc, NcCl, if_true, if_false, Bool.false_eq_true, decide_true, decide_false, Bool.not_true, Bool.not_false, lenOk_le, addT', addL', muAppend', List.length_cons, List.length_nil, List.length_map, List.length_append, List.length_set, List.length_singleton, Nat.reduceAdd, Nat.reduceSub, Nat.zero_add, List.replicate_succ, List.replicate_zero, List.cons_append, List.nil_append, List.map_cons, List.map_nil, Nat.reduceLeDiff, c1, c2, h1, h2]
        exact ⟨new, rfl, nd', rn, fun q hq hc => (List.mem_append.mp hq).elim (fun z => hp q z hc) fun z => by simp at z; subst z; exact h2⟩
      · have b := hN (ks ++ new) nd' fun u hu => (List.mem_append.mp hu).elim (rk u) (rn u)
        simp only [List.length_append] at b
        have c3 := put_dc (f := fun s : Sta => stD s) (g := fun _ : Unit => PyData.bool true) Ky.ints ((ks ++ new).map fun k => (k, ())) t () (by simp; omega)
        rw [aput_new (by rw [keys_of]; exact h2)] at c3
        simp (disch := (first | omega | (simp only [List.length_cons, List.length_nil, List.length_map, List.length_append, List.length_set, List.length_take, List.length_drop, List.length_replicate, List.length_reverse, List.length_range]; omega))) only [run1, run2, run3, run4, run5, dInts, ixT0, ixT1, ixT2, ixT3, ixL0, ixL1, ixL2, ixT_last, ixL_last, cutD_take, cutD_drop, Kp_run, Fd_run, Wp_ok, Wp_exc, NcCl, if_true, if_false, Bool.false_eq_true, decide_true, decide_false, Bool.not_true, Bool.not_false, lenOk_le, addT', addL', muAppend', List.length_cons, List.length_nil, List.length_map, List.length_append, List.length_set, List.length_singleton, Nat.reduceAdd, Nat.reduceSub, Nat.zero_add, List.replicate_succ, List.replicate_zero, List.cons_append, List.nil_append, List.map_cons, List.map_nil, Nat.reduceLeDiff, c1, c2, c3, h1, h2, Option.map_some]
        refine ⟨new ++ [t], ?_, ?_, ?_, fun q hq hc => ?_⟩
        · simp
        · rw [← List.append_assoc, List.nodup_append]
          exact ⟨nd', by simp, fun a ha b hb => by simp at hb; subst hb; exact fun z => h2 (z ▸ ha)⟩
        · intro u hu
          rcases List.mem_append.mp hu with z | z
          · exact rn u z
          · simp at z; subst z; exact .step ho ⟨_, hm, h1⟩
        · rw [← List.append_assoc, List.mem_append]
          exact (List.mem_append.mp hq).elim (fun z => .inl (hp q z hc)) fun z => .inr (by simp at z; subst z; simp)
  · subst e1
    exact hq new nd' rn fun t ⟨d, hd, hc⟩ => hp _ hd hc
theorem law_reach_ok {w : Web} (h : WOk w) (h0 : w.rs ≠ []) (C : List Nat) {s : Sta} (hs : SOk w s) {N : Nat} (hN : ∀ ts : List Sta, ts.Nodup → (∀ t ∈ ts, Rch w C s t) → ts.length ≤ N) (hN2 : N ≤ 10000000) :
    FW (m__law_reach [webD w, stD s, shutD C]) (fun d ios => ios = [] ∧ ∃ ts : List Sta, d = .list (ts.map fun s : Sta => stD s) ∧ ts.Nodup ∧ ts.length ≤ N ∧ ∀ t, t ∈ ts ↔ Rch w C s t) (fun _ _ => False) := by
  refine fw_of ?_
  have hk : isKeyT (stD s) = true := (Ky.ints.kd).elim (fun z => absurd (z s) (by simp [isKeyK, dkey])) fun z => z s
  simp (disch := (first | omega | (simp only [List.length_cons, List.length_nil, List.length_map, List.length_append, List.length_set, List.length_take, List.length_drop, List.length_replicate, List.length_reverse, List.length_range]; omega))) only [run1, run2, run3, run4, run5, dInts, ixT0, ixT1, ixT2, ixT3, ixL0, ixL1, ixL2, ixT_last, ixL_last, cutD_take, cutD_drop, Kp_run, Fd_run, Wp_ok, Wp_exc, NcCl, if_true, if_false, Bool.false_eq_true, decide_true, decide_false, Bool.not_true, Bool.not_false, lenOk_le, addT', addL', muAppend', List.length_cons, List.length_nil, List.length_map, List.length_append, List.length_set, List.length_singleton, Nat.reduceAdd, Nat.reduceSub, Nat.zero_add, List.replicate_succ, List.replicate_zero, List.cons_append, List.nil_append, List.map_cons, List.map_nil, Nat.reduceLeDiff, N__law_reach, b__law_reach, hk]
  refine Wp.bind (wp_while (fun q : List Sta × List Sta => [webD w, .none, shutD C, setD1 q.1, .list (q.2.map fun s : Sta => stD s), .none, .none, .none])
    (fun q => q.1.Nodup ∧ (∀ t ∈ q.1, Rch w C s t) ∧ s ∈ q.1 ∧ (∀ t ∈ q.2, t ∈ q.1) ∧ q.2.length ≤ q.1.length ∧ ∀ e ∈ q.1, e ∉ q.2 → ∀ t, Stp w C e t → t ∈ q.1)
    (fun q => N - q.1.length + q.2.length) ([s], [s]) rfl ⟨by simp, fun t ht => by simp at ht; subst ht; exact .refl, by simp, by simp, by simp, fun e he hn => absurd he hn⟩ ?_ ?_)
  · have := hN [s] (by simp) fun t ht => by simp at ht; subst ht; exact .refl
    dsimp only; simp at this ⊢; omega
  rintro ⟨ks, todo⟩ ⟨nd, rk, sk, tk, hl, hd⟩
  dsimp only at nd rk sk tk hl hd ⊢
  have b := hN ks nd rk
  have ne := neD_en (f := fun l : List Sta => PyData.list (l.map fun s : Sta => stD s)) (En.lst (En.tup En.int)) (by decide) todo []
  have ne : neD (.list (todo.map fun s : Sta => stD s)) (.list []) = some (.bool (!decide (todo = []))) := ne
  rcases List.eq_nil_or_concat todo with rfl | ⟨l, own, ee⟩
  · simp only [List.map_nil] at ne
    simp (disch := (first | omega | (simp only [List.length_cons, List.length_nil, List.length_map, List.length_append, List.length_set, List.length_take, List.length_drop, List.length_replicate, List.length_reverse, List.length_range]; omega))) only [run1, run2, run3, run4, run5, dInts, ixT0, ixT1, ixT2, ixT3, ixL0, ixL1, ixL2, ixT_last, ixL_last, cutD_take, cutD_drop, Kp_run, Fd_run, Wp_ok, Wp_exc, NcCl, if_true, if_false, Bool.false_eq_true, decide_true, decide_false, Bool.not_true, Bool.not_false, lenOk_le, addT', addL', muAppend', List.length_cons, List.length_nil, List.length_map, List.length_append, List.length_set, List.length_singleton, Nat.reduceAdd, Nat.reduceSub, Nat.zero_add, List.replicate_succ, List.replicate_zero, List.cons_append, List.nil_append, List.map_cons, List.map_nil, Nat.reduceLeDiff, ne]
    have al : ∀ t, t ∈ ks ↔ Rch w C s t := fun t => ⟨rk t, fun r => by
      induction r with
      | refl => exact sk
      | step _ st ih => exact hd _ ih (by simp) _ st⟩
    have ls : (List.map (fun p : PyData × PyData => p.1) (List.map (fun p : Sta × Unit => (stD p.1, PyData.bool true)) (List.map (fun k => (k, ())) ks))) = ks.map fun s : Sta => stD s := by
      rw [List.map_map, List.map_map]; rfl
    have len : ∀ t ∈ ks, t.length = w.rs.length := fun t ht => (Rch.ok h hs (rk t ht)).len
    have so := sort_en (f := fun s : Sta => stD s) (En.tup En.int) (by decide) ks (fun a _ b _ => alike_st a b) (.inl fun a ha => by
      have e := len a ha
      have : w.rs.length ≠ 0 := fun z => h0 (List.length_eq_zero_iff.mp z)
      cases a with
      | nil => simp at e; omega
      | cons x r => rfl)

    simp (disch := (first | omega | (simp only [List.length_cons, List.length_nil, List.length_map, List.length_append, List.length_set, List.length_take, List.length_drop, List.length_replicate, List.length_reverse, List.length_range]; omega))) only [run1, run2, run3, run4, run5, dInts, ixT0, ixT1, ixT2, ixT3, ixL0, ixL1, ixL2, ixT_last, ixL_last, cutD_take, cutD_drop, Kp_run, Fd_run, Wp_ok, Wp_exc, NcCl, if_true, if_false, Bool.false_eq_true, decide_true, decide_false, Bool.not_true, Bool.not_false, lenOk_le, addT', addL', muAppend', List.length_cons, List.length_nil, List.length_map, List.length_append, List.length_set, List.length_singleton, Nat.reduceAdd, Nat.reduceSub, Nat.zero_add, List.replicate_succ, List.replicate_zero, List.cons_append, List.nil_append, List.map_cons, List.map_nil, Nat.reduceLeDiff, ls, so]
    exact ⟨trivial, ks.mergeSort (ordBy fun s : Sta => stD s), rfl, (List.mergeSort_perm ks _).nodup_iff.mpr nd, by rw [(List.mergeSort_perm ks _).length_eq]; exact b, fun t => (sort_mem _ ks t).trans (al t)⟩
  · rw [List.concat_eq_append] at ee
    subst ee
    have hown : own ∈ ks := tk own (by simp)
    have nn : ¬ (l ++ [own] = []) := by simp
    have pp := muPop' (l.map fun s : Sta => stD s) (stD own)
    have pe : (l ++ [own]).map (fun s : Sta => stD s) = (l.map fun s : Sta => stD s) ++ [stD own] := by simp
    have nr := law_near_ok h (Rch.ok h hs (rk own hown))
    have hl : l.length + 1 ≤ ks.length := by simpa using hl
    simp (disch := (first | omega | (simp only [List.length_cons, List.length_nil, List.length_map, List.length_append, List.length_set, List.length_take, List.length_drop, List.length_replicate, List.length_reverse, List.length_range]; omega))) only [run1, run2, run3, run4, run5, dInts, ixT0, ixT1, ixT2, ixT3, ixL0, ixL1, ixL2, ixT_last, ixL_last, cutD_take, cutD_drop, Kp_run, Fd_run, Wp_ok, Wp_exc, NcCl, if_true, if_false, Bool.false_eq_true, decide_true, decide_false, Bool.not_true, Bool.not_false, lenOk_le, addT', addL', muAppend', List.length_cons, List.length_nil, List.length_map, List.length_append, List.length_set, List.length_singleton, Nat.reduceAdd, Nat.reduceSub, Nat.zero_add, List.replicate_succ, List.replicate_zero, List.cons_append, List.nil_append, List.map_cons, List.map_nil, Nat.reduceLeDiff, ne, nn]

    rw [pe]
    simp (disch := (first | omega | (simp only [List.length_cons, List.length_nil, List.length_map, List.length_append, List.length_set, List.length_take, List.length_drop, List.length_replicate, List.length_reverse, List.length_range]; omega))) only [run1, run2, run3, run4, run5, dInts, ixT0, ixT1, ixT2, ixT3, ixL0, ixL1, ixL2, ixT_last, ixL_last, cutD_take, cutD_drop, Kp_run, Fd_run, Wp_ok, Wp_exc, NcCl, if_true, if_false, Bool.false_eq_true, decide_true, decide_false, Bool.not_true, Bool.not_false, lenOk_le, addT', addL', muAppend', List.length_cons, List.length_nil, List.length_map, List.length_append, List.length_set, List.length_singleton, Nat.reduceAdd, Nat.reduceSub, Nat.zero_add, List.replicate_succ, List.replicate_zero, List.cons_append, List.nil_append, List.map_cons, List.map_nil, Nat.reduceLeDiff, pp, nr]
    refine wp_noCt (wp_clr (law_reach_body h hN hN2 nd rk (rk own hown) (by omega) fun new nd' rn dn => ?_))
    simp (disch := (first | omega | (simp only [List.length_cons, List.length_nil, List.length_map, List.length_append, List.length_set, List.length_take, List.length_drop, List.length_replicate, List.length_reverse, List.length_range]; omega))) only [run1, run2, run3, run4, run5, dInts, ixT0, ixT1, ixT2, ixT3, ixL0, ixL1, ixL2, ixT_last, ixL_last, cutD_take, cutD_drop, Kp_run, Fd_run, Wp_ok, Wp_exc, NcCl, if_true, if_false, Bool.false_eq_true, decide_true, decide_false, Bool.not_true, Bool.not_false, lenOk_le, addT', addL', muAppend', List.length_cons, List.length_nil, List.length_map, List.length_append, List.length_set, List.length_singleton, Nat.reduceAdd, Nat.reduceSub, Nat.zero_add, List.replicate_succ, List.replicate_zero, List.cons_append, List.nil_append, List.map_cons, List.map_nil, Nat.reduceLeDiff]
    have b' := hN (ks ++ new) nd' fun u hu => (List.mem_append.mp hu).elim (rk u) (rn u)
    simp only [List.length_append] at b'
    refine ⟨(ks ++ new, l ++ new), rfl, ⟨nd', fun t ht => (List.mem_append.mp ht).elim (rk t) (rn t), List.mem_append_left _ sk, fun t ht => ?_, by simp; omega, fun e he hn t st => ?_⟩, by simp; omega⟩
    · rcases List.mem_append.mp ht with z | z
      · exact List.mem_append_left _ (tk t (by simp [z]))
      · exact List.mem_append_right _ z
    · by_cases eo : e = own
      · subst eo; exact dn t st
      · rcases List.mem_append.mp he with z | z
        · refine List.mem_append_left _ (hd e z (fun y => ?_) t st)
          rcases List.mem_append.mp y with y | y
          · exact hn (List.mem_append_left _ y)
          · simp at y; exact eo y
        · exact absurd (List.mem_append_right _ z) hn
end PJ

/-! P6: how many standings; draws. -/
namespace PJ
open PySem (PyData Str)
open DL CJ
def allSt : List Int → List Sta
  | [] => [[]]
  | m :: ms => (List.range (m.toNat + 1)).flatMap fun i : Nat => (allSt ms).map fun s => (i : Int) :: s
def prodP : List Int → Nat
  | [] => 1
  | m :: ms => (m.toNat + 1) * prodP ms
theorem flatMap_len {α β : Type} (f : α → List β) (k : Nat) : ∀ xs : List α, (∀ x ∈ xs, (f x).length = k) → (xs.flatMap f).length = xs.length * k
  | [], _ => by simp
  | x :: xs, h => by
    rw [List.flatMap_cons, List.length_append, h x (by simp), flatMap_len f k xs (fun y hy => h y (by simp [hy])), List.length_cons, Nat.succ_mul, Nat.add_comm]
theorem allSt_len : ∀ ms : List Int, (allSt ms).length = prodP ms
  | [] => rfl
  | m :: ms => by
    unfold allSt prodP
    rw [flatMap_len _ (prodP ms) _ (fun i _ => by rw [List.length_map, allSt_len ms]), List.length_range]
theorem allSt_mem : ∀ (ms : List Int) (s : Sta), s.length = ms.length → (∀ i, i < ms.length → 0 ≤ s.getD i 0 ∧ s.getD i 0 ≤ ms.getD i 0) → s ∈ allSt ms
  | [], s, hl, _ => by
    have : s = [] := List.length_eq_zero_iff.mp (by simpa using hl)
    subst this; simp [allSt]
  | m :: ms, [], hl, _ => by simp at hl
  | m :: ms, x :: s, hl, h => by
    have h0 := h 0 (by simp)
    simp only [List.getD_cons_zero] at h0
    unfold allSt
    rw [List.mem_flatMap]
    refine ⟨x.toNat, by rw [List.mem_range]; omega, ?_⟩
    rw [List.mem_map]
    refine ⟨s, allSt_mem ms s (by simpa using hl) fun i hi => ?_, by congr 1; omega⟩
    have := h (i + 1) (by simpa using hi)
    simpa only [List.getD_cons_succ] using this
theorem few_all {w : Web} (h : WOk w) {ts : List Sta} (nd : ts.Nodup) (hs : ∀ t ∈ ts, SOk w t) : ts.length ≤ prodP w.ms := by
  rw [← allSt_len]
  refine List.Nodup.length_le_of_subset nd fun t ht => ?_
  have o := hs t ht
  exact allSt_mem w.ms t (by rw [o.len, h.len]) fun i hi => ⟨o.lo i (by rw [← h.len]; exact hi), o.hi i (by rw [← h.len]; exact hi)⟩
theorem few_rch {w : Web} (h : WOk w) {C : List Nat} {s : Sta} (hs : SOk w s) : ∀ ts : List Sta, ts.Nodup → (∀ t ∈ ts, Rch w C s t) → ts.length ≤ prodP w.ms := fun ts nd hr => few_all h nd fun t ht => (hr t ht).ok h hs
/-! ### the jar -/
structure Jar where
  fs : List Int
  cs : List Int
  s0 : Int
  c0 : Int
abbrev jD (j : Jar) : PyData := .tuple [.list (j.fs.map .int), .list (j.cs.map .int), .int j.s0, .int j.c0]
structure JOk (j : Jar) : Prop where
  fl : j.fs.length ≤ 1000
  cl : j.cs.length ≤ 1000
  ne : j.cs ≠ []
theorem fmod_nat (a : Int) {m : Nat} (h : 1 ≤ m) : ∃ k : Nat, a.fmod (m : Int) = (k : Int) ∧ k < m := by
  refine ⟨(a.fmod m).toNat, ?_, ?_⟩
  · have := Int.fmod_nonneg_of_pos a (show (0 : Int) < m by omega)
    omega
  · have := Int.fmod_nonneg_of_pos a (show (0 : Int) < m by omega)
    have := Int.fmod_lt_of_pos a (show (0 : Int) < m by omega)
    omega
theorem fmod_bd (a : Int) {m : Int} (h : 0 < m) : 0 ≤ a.fmod m ∧ a.fmod m < m := ⟨Int.fmod_nonneg_of_pos a h, Int.fmod_lt_of_pos a h⟩
abbrev JP (P : PyData → Jar → Prop) : PyData → List PyData → Prop := fun d ios => ∃ j', JOk j' ∧ ios = [jD j'] ∧ P d j'
abbrev NX : Exn → List PyData → Prop := fun _ _ => False
theorem draw_ok {j : Jar} (h : JOk j) {many : Nat} (h1 : 1 ≤ many) (h2 : many < 1073741824) : FW (m__law_draw [jD j, .int (many : Int)]) (JP fun d _ => ∃ k : Nat, d = .int (k : Int) ∧ k < many) NX := by
  refine fw_of ?_
  obtain ⟨fs, cs, s0, c0⟩ := j
  obtain ⟨fl, cl, ne⟩ := h
  dsimp only at fl cl ne
  have rest : ∀ Q : Fl → Env → Prop, (∀ (k : Nat) (c : Int) a b g, k < many → Q (.rt (.int (k : Int))) [jD ⟨fs, cs, s0, c⟩, .int (many : Int), .none, .none, a, .none, b, g]) →
      Wp ((sCons (sJput 0 (eOp2 addD (eJget 0 "count") (eC (.int (1)))))
      (sCons (sPar2 4 5 (eJget 0 "count") (eJget 0 "cells"))
      (sCons (sSet 6 (eOp2 modD (eOp1 intD (eOp2 addD (eOp2 addD (eOp2 mulI (eOp2 ixA (eV 5) (eOp2 modD (eOp1 intD (eOp2 mulI (eV 4) (eC (.int (5))))) (eOp1 lenD (eV 5)))) (eC (.int (2654435761)))) (eOp2 mulI (eJget 0 "seal") (eC (.int (3))))) (eOp2 mulI (eV 4) (eC (.int (40503)))))) (eC (.int (4294967291)))))
      (sPre [5] (sCons (sFor (iR (aCons (eC (.int (2))) aNil)) (gSet 7)
        (noCt (sClr [7] (sSet 6 (eOp2 modD (eOp1 intD (eOp2 addD (eOp2 addD (eOp2 mulI (eV 6) (eV 6)) (eJget 0 "seal")) (eOp2 mulI (eV 4) (eOp2 addD (eC (.int (17))) (eV 7))))) (eC (.int (4294967231))))))))
      (sRet (eOp2 modD (eOp1 intD (eOp2 fdivD (eV 6) (eC (.int (1024))))) (eV 1))))))))
        [jD ⟨fs, cs, s0, c0⟩, .int (many : Int), .none, .none, .none, .none, .none, .none]) Q (fun _ _ => False) := by
    intro Q hq
    have hq' : ∀ (x c : Int) (a b g : PyData), Q (.rt (.int (x.fmod (many : Int)))) [jD ⟨fs, cs, s0, c⟩, .int (many : Int), .none, .none, a, .none, b, g] := fun x c a b g => by
      obtain ⟨k, ek, hk⟩ := fmod_nat x h1
      rw [ek]; exact hq k c a b g hk
    have cl1 : 1 ≤ cs.length := by
      rcases cs with _ | ⟨x, r⟩
      · exact absurd rfl ne
      · simp
    obtain ⟨i, ei, hi⟩ := fmod_nat ((c0 + 1) * 5) cl1
    have e1 := get_int cs i hi
    have r2 := rgE1 2 (by omega)
    have m1 : ∀ x : Int, mulI (.int x) (.int 5) = some (.int (x * 5)) := fun x => mulI_r (by omega) (by omega)
    have m2 : ∀ x : Int, mulI (.int x) (.int 2654435761) = some (.int (x * 2654435761)) := fun x => mulI_r (by omega) (by omega)
    have m3 : ∀ x : Int, mulI (.int x) (.int 3) = some (.int (x * 3)) := fun x => mulI_r (by omega) (by omega)
    have m4 : ∀ x : Int, mulI (.int x) (.int 40503) = some (.int (x * 40503)) := fun x => mulI_r (by omega) (by omega)
    have m5 : ∀ x : Int, mulI (.int x) (.int 17) = some (.int (x * 17)) := fun x => mulI_r (by omega) (by omega)
    have m6 : ∀ x : Int, mulI (.int x) (.int 18) = some (.int (x * 18)) := fun x => mulI_r (by omega) (by omega)
    have d1 := modD_int (i := (c0 + 1) * 5) (j := (cs.length : Int)) (by omega)
    have d2 : ∀ x : Int, modD (.int x) (.int 4294967291) = some (.int (x.fmod 4294967291)) := fun x => modD_int (by omega)
    have d3 : ∀ x : Int, modD (.int x) (.int 4294967231) = some (.int (x.fmod 4294967231)) := fun x => modD_int (by omega)
    have d4 : ∀ x : Int, modD (.int x) (.int (many : Int)) = some (.int (x.fmod (many : Int))) := fun x => modD_int (by omega)
    have d5 : ∀ x : Int, fdivD (.int x) (.int 1024) = some (.int (x.fdiv 1024)) := fun x => fdivD_int (by omega) (by decide)
    have q1 : ∀ x : Int, mulI (.int (x.fmod 4294967291)) (.int (x.fmod 4294967291)) = some (.int (x.fmod 4294967291 * x.fmod 4294967291)) := fun x => by
      have := fmod_bd x (m := 4294967291) (by omega)
      exact mulI_r (by omega) (by omega)
    have q2 : ∀ x : Int, mulI (.int (x.fmod 4294967231)) (.int (x.fmod 4294967231)) = some (.int (x.fmod 4294967231 * x.fmod 4294967231)) := fun x => by
      have := fmod_bd x (m := 4294967231) (by omega)
      exact mulI_r (by omega) (by omega)
    have t0 : ((17 : Int) + ((0 : Nat) : Int)) = 17 := by omega
    have t1 : ((17 : Int) + ((1 : Nat) : Int)) = 18 := by omega
    have rr : List.range 2 = [0, 1] := rfl
    have r2 : rgE [.int 2] = M.pure [.int ((0 : Nat) : Int), .int ((1 : Nat) : Int)] := r2
    simp (disch := (first | omega | (simp only [List.length_cons, List.length_nil, List.length_map, List.length_append, List.length_set, List.length_take, List.length_drop, List.length_replicate, List.length_reverse, List.length_range]; omega))) only [run1, run2, run3, run4, run5, dInts, ixT0, ixT1, ixT2, ixT3, ixL0, ixL1, ixL2, ixT_last, ixL_last, cutD_take, cutD_drop, Kp_run, Fd_run, Wp_ok, Wp_exc, NcCl, if_true, if_false, Bool.false_eq_true, decide_true, decide_false, Bool.not_true, Bool.not_false, lenOk_le, addT', addL', muAppend', List.length_cons, List.length_nil, List.length_map, List.length_append, List.length_set, List.length_singleton, Nat.reduceAdd, Nat.reduceSub, Nat.zero_add, List.replicate_succ, List.replicate_zero, List.cons_append, List.nil_append, List.map_cons, List.map_nil, Nat.reduceLeDiff, m1, m2, m3, m4, m5, m6, d1, d2, d3, d4, d5, q1, q2, ei, e1, r2, forL_turn, forL_end, t0, t1, Option.map_some]
    exact hq' _ _ _ _ _
  simp (disch := (first | omega | (simp only [List.length_cons, List.length_nil, List.length_map, List.length_append, List.length_set, List.length_take, List.length_drop, List.length_replicate, List.length_reverse, List.length_range]; omega))) only [run1, run2, run3, run4, run5, dInts, ixT0, ixT1, ixT2, ixT3, ixL0, ixL1, ixL2, ixT_last, ixL_last, cutD_take, cutD_drop, Kp_run, Fd_run, Wp_ok, Wp_exc, NcCl, if_true, if_false, Bool.false_eq_true, decide_true, decide_false, Bool.not_true, Bool.not_false, lenOk_le, addT', addL', muAppend', List.length_cons, List.length_nil, List.length_map, List.length_append, List.length_set, List.length_singleton, Nat.reduceAdd, Nat.reduceSub, Nat.zero_add, List.replicate_succ, List.replicate_zero, List.cons_append, List.nil_append, List.map_cons, List.map_nil, Nat.reduceLeDiff, N__law_draw, b__law_draw]
  cases fs with
  | nil =>
    refine Wp.mono (rest _ fun k c a b g hk => ?_) (fun _ _ z => z) fun _ _ z => z
    simp (disch := (first | omega | (simp only [List.length_cons, List.length_nil, List.length_map, List.length_append, List.length_set, List.length_take, List.length_drop, List.length_replicate, List.length_reverse, List.length_range]; omega))) only [run1, run2, run3, run4, run5, dInts, ixT0, ixT1, ixT2, ixT3, ixL0, ixL1, ixL2, ixT_last, ixL_last, cutD_take, cutD_drop, Kp_run, Fd_run, Wp_ok, Wp_exc, NcCl, if_true, if_false, Bool.false_eq_true, decide_true, decide_false, Bool.not_true, Bool.not_false, lenOk_le, addT', addL', muAppend', List.length_cons, List.length_nil, List.length_map, List.length_append, List.length_set, List.length_singleton, Nat.reduceAdd, Nat.reduceSub, Nat.zero_add, List.replicate_succ, List.replicate_zero, List.cons_append, List.nil_append, List.map_cons, List.map_nil, Nat.reduceLeDiff]
    exact ⟨⟨[], cs, s0, c⟩, ⟨fl, cl, ne⟩, rfl, k, rfl, hk⟩
  | cons own fs =>
    show Wp (if 1 < (many : Int) then _ else _) _ _
    by_cases hm : 1 < (many : Int)
    · rw [if_pos hm]
      have ok : (decide ((many : Int) < 1073741824) && lenOk ((fs.map PyData.int).length + 1)) = true := by
        rw [Bool.and_eq_true, decide_eq_true_eq]
        exact ⟨by omega, lenOk_le (by simp at fl ⊢; omega)⟩
      rw [if_pos ok]
      obtain ⟨k, ek, hk⟩ := fmod_nat own h1
      rw [ek]
      by_cases c : (many : Int) ≤ own
      · rw [if_pos c]
        simp (disch := (first | omega | (simp only [List.length_cons, List.length_nil, List.length_map, List.length_append, List.length_set, List.length_take, List.length_drop, List.length_replicate, List.length_reverse, List.length_range]; omega))) only [run1, run2, run3, run4, run5, dInts, ixT0, ixT1, ixT2, ixT3, ixL0, ixL1, ixL2, ixT_last, ixL_last, cutD_take, cutD_drop, Kp_run, Fd_run, Wp_ok, Wp_exc, NcCl, if_true, if_false, Bool.false_eq_true, decide_true, decide_false, Bool.not_true, Bool.not_false, lenOk_le, addT', addL', muAppend', List.length_cons, List.length_nil, List.length_map, List.length_append, List.length_set, List.length_singleton, Nat.reduceAdd, Nat.reduceSub, Nat.zero_add, List.replicate_succ, List.replicate_zero, List.cons_append, List.nil_append, List.map_cons, List.map_nil, Nat.reduceLeDiff]
        exact ⟨⟨own.fdiv many :: fs, cs, s0, c0⟩, ⟨by simpa using fl, cl, ne⟩, rfl, k, rfl, hk⟩
      · rw [if_neg c]
        simp (disch := (first | omega | (simp only [List.length_cons, List.length_nil, List.length_map, List.length_append, List.length_set, List.length_take, List.length_drop, List.length_replicate, List.length_reverse, List.length_range]; omega))) only [run1, run2, run3, run4, run5, dInts, ixT0, ixT1, ixT2, ixT3, ixL0, ixL1, ixL2, ixT_last, ixL_last, cutD_take, cutD_drop, Kp_run, Fd_run, Wp_ok, Wp_exc, NcCl, if_true, if_false, Bool.false_eq_true, decide_true, decide_false, Bool.not_true, Bool.not_false, lenOk_le, addT', addL', muAppend', List.length_cons, List.length_nil, List.length_map, List.length_append, List.length_set, List.length_singleton, Nat.reduceAdd, Nat.reduceSub, Nat.zero_add, List.replicate_succ, List.replicate_zero, List.cons_append, List.nil_append, List.map_cons, List.map_nil, Nat.reduceLeDiff]
        exact ⟨⟨fs, cs, s0, c0⟩, ⟨by simp at fl ⊢; omega, cl, ne⟩, rfl, k, rfl, hk⟩
    · rw [if_neg hm]
      refine Wp.mono (rest _ fun k c a b g hk => ?_) (fun _ _ z => z) fun _ _ z => z
      simp (disch := (first | omega | (simp only [List.length_cons, List.length_nil, List.length_map, List.length_append, List.length_set, List.length_take, List.length_drop, List.length_replicate, List.length_reverse, List.length_range]; omega))) only [run1, run2, run3, run4, run5, dInts, ixT0, ixT1, ixT2, ixT3, ixL0, ixL1, ixL2, ixT_last, ixL_last, cutD_take, cutD_drop, Kp_run, Fd_run, Wp_ok, Wp_exc, NcCl, if_true, if_false, Bool.false_eq_true, decide_true, decide_false, Bool.not_true, Bool.not_false, lenOk_le, addT', addL', muAppend', List.length_cons, List.length_nil, List.length_map, List.length_append, List.length_set, List.length_singleton, Nat.reduceAdd, Nat.reduceSub, Nat.zero_add, List.replicate_succ, List.replicate_zero, List.cons_append, List.nil_append, List.map_cons, List.map_nil, Nat.reduceLeDiff]
      exact ⟨⟨own :: fs, cs, s0, c⟩, ⟨fl, cl, ne⟩, rfl, k, rfl, hk⟩
end PJ

/-! P7: picks, mixtures, the jar. -/
namespace PJ
open PySem (PyData Str)
open DL CJ
theorem map_erase {α β : Type} (f : α → β) : ∀ (xs : List α) (k : Nat), (xs.map f).eraseIdx k = (xs.eraseIdx k).map f
  | [], _ => rfl
  | _ :: _, 0 => rfl
  | x :: xs, k + 1 => by simp [map_erase f xs k]
theorem erase_perm {α : Type} : ∀ (xs : List α) (k : Nat) (h : k < xs.length), (xs[k] :: xs.eraseIdx k).Perm xs
  | [], _, h => by simp at h
  | x :: xs, 0, _ => by simp
  | x :: xs, k + 1, h => by
    have ih := erase_perm xs k (by simpa using h)
    simp only [List.getElem_cons_succ, List.eraseIdx_cons_succ]
    exact (List.Perm.swap x _ _).trans (ih.cons x)
theorem pick_ok {j : Jar} (h : JOk j) {ds : List PyData} (h1 : ds ≠ []) (h2 : ds.length < 1073741824) : FW (m__law_pick [jD j, .list ds]) (JP fun d _ => d ∈ ds) NX := by
  refine fw_of ?_
  have l1 : 1 ≤ ds.length := by
    rcases ds with _ | ⟨x, r⟩
    · exact absurd rfl h1
    · simp
  simp (disch := (first | omega | (simp only [List.length_cons, List.length_nil, List.length_map, List.length_append, List.length_set, List.length_take, List.length_drop, List.length_replicate, List.length_reverse, List.length_range]; omega))) only [run1, run2, run3, run4, run5, dInts, ixT0, ixT1, ixT2, ixT3, ixL0, ixL1, ixL2, ixT_last, ixL_last, cutD_take, cutD_drop, Kp_run, Fd_run, Wp_ok, Wp_exc, NcCl, if_true, if_false, Bool.false_eq_true, decide_true, decide_false, Bool.not_true, Bool.not_false, lenOk_le, addT', addL', muAppend', List.length_cons, List.length_nil, List.length_map, List.length_append, List.length_set, List.length_singleton, Nat.reduceAdd, Nat.reduceSub, Nat.zero_add, List.replicate_succ, List.replicate_zero, List.cons_append, List.nil_append, List.map_cons, List.map_nil, Nat.reduceLeDiff, N__law_pick, b__law_pick]
  refine wp_call (draw_ok h l1 h2) ?_
  rintro d ios ⟨j', h', rfl, k, rfl, hk⟩
  have e := ixL ds k
  rw [List.getElem?_eq_getElem hk] at e
  simp (disch := (first | omega | (simp only [List.length_cons, List.length_nil, List.length_map, List.length_append, List.length_set, List.length_take, List.length_drop, List.length_replicate, List.length_reverse, List.length_range]; omega))) only [run1, run2, run3, run4, run5, dInts, ixT0, ixT1, ixT2, ixT3, ixL0, ixL1, ixL2, ixT_last, ixL_last, cutD_take, cutD_drop, Kp_run, Fd_run, Wp_ok, Wp_exc, NcCl, if_true, if_false, Bool.false_eq_true, decide_true, decide_false, Bool.not_true, Bool.not_false, lenOk_le, addT', addL', muAppend', List.length_cons, List.length_nil, List.length_map, List.length_append, List.length_set, List.length_singleton, Nat.reduceAdd, Nat.reduceSub, Nat.zero_add, List.replicate_succ, List.replicate_zero, List.cons_append, List.nil_append, List.map_cons, List.map_nil, Nat.reduceLeDiff, e]
  exact ⟨j', h', rfl, List.getElem_mem hk⟩
theorem mixed_ok {α : Type} {f : α → PyData} {j : Jar} (h : JOk j) (xs : List α) (h2 : xs.length < 10000000) {row : PyData} (hr : row = .list (xs.map f) ∨ row = .tuple (xs.map f)) :
    FW (m__law_mixed [jD j, row]) (JP fun d _ => ∃ ys : List α, d = .list (ys.map f) ∧ ys.Perm xs) NX := by
  refine fw_of ?_
  have el : listD row = some (.list (xs.map f)) := by rcases hr with rfl | rfl <;> rfl
  have rg := rgE1 xs.length (by omega)
  simp (disch := (first | omega | (simp only [List.length_cons, List.length_nil, List.length_map, List.length_append, List.length_set, List.length_take, List.length_drop, List.length_replicate, List.length_reverse, List.length_range]; omega))) only [run1, run2, run3, run4, run5, dInts, ixT0, ixT1, ixT2, ixT3, ixL0, ixL1, ixL2, ixT_last, ixL_last, cutD_take, cutD_drop, Kp_run, Fd_run, Wp_ok, Wp_exc, NcCl, if_true, if_false, Bool.false_eq_true, decide_true, decide_false, Bool.not_true, Bool.not_false, lenOk_le, addT', addL', muAppend', List.length_cons, List.length_nil, List.length_map, List.length_append, List.length_set, List.length_singleton, Nat.reduceAdd, Nat.reduceSub, Nat.zero_add, List.replicate_succ, List.replicate_zero, List.cons_append, List.nil_append, List.map_cons, List.map_nil, Nat.reduceLeDiff, N__law_mixed, b__law_mixed, el, rg]
  refine Wp.bind (wp_for (f := fun i : Nat => PyData.int (i : Int)) (List.range xs.length) (fun pre ρ => ∃ j' rest found, ρ = [jD j', .none, .list (rest.map f), .list (found.map f), .none] ∧ JOk j' ∧ (found ++ rest).Perm xs ∧ rest.length + pre.length = xs.length)
    ⟨j, xs, [], rfl, h, by simp, by simp⟩ (fun pre i post ρ e ⟨j', rest, found, e1, h', hp, hl⟩ => ?_) (fun ρ ⟨j', rest, found, e1, h', hp, hl⟩ => ?_))
  · subst e1
    have e2 := congrArg List.length e
    simp only [List.length_range, List.length_append, List.length_cons] at e2
    have hr : 1 ≤ rest.length := by omega
    have hf := hp.length_eq
    simp only [List.length_append] at hf
    simp (disch := (first | omega | (simp only [List.length_cons, List.length_nil, List.length_map, List.length_append, List.length_set, List.length_take, List.length_drop, List.length_replicate, List.length_reverse, List.length_range]; omega))) only [run1, run2, run3, run4, run5, dInts, ixT0, ixT1, ixT2, ixT3, ixL0, ixL1, ixL2, ixT_last, ixL_last, cutD_take, cutD_drop, Kp_run, Fd_run, Wp_ok, Wp_exc, NcCl, if_true, if_false, Bool.false_eq_true, decide_true, decide_false, Bool.not_true, Bool.not_false, lenOk_le, addT', addL', muAppend', List.length_cons, List.length_nil, List.length_map, List.length_append, List.length_set, List.length_singleton, Nat.reduceAdd, Nat.reduceSub, Nat.zero_add, List.replicate_succ, List.replicate_zero, List.cons_append, List.nil_append, List.map_cons, List.map_nil, Nat.reduceLeDiff]
    refine wp_noCt (wp_clr (wp_call (draw_ok h' hr (by omega)) ?_))
    rintro d ios ⟨j2, h2', rfl, k, rfl, hk⟩
    have e3 := muPopAt' (rest.map f) k (f rest[k]) (by simp [hk]) (by simp; omega)
    simp (disch := (first | omega | (simp only [List.length_cons, List.length_nil, List.length_map, List.length_append, List.length_set, List.length_take, List.length_drop, List.length_replicate, List.length_reverse, List.length_range]; omega))) only [run1, run2, run3, run4, run5, dInts, ixT0, ixT1, ixT2, ixT3, ixL0, ixL1, ixL2, ixT_last, ixL_last, cutD_take, cutD_drop, Kp_run, Fd_run, Wp_ok, Wp_exc, NcCl, if_true, if_false, Bool.false_eq_true, decide_true, decide_false, Bool.not_true, Bool.not_false, lenOk_le, addT', addL', muAppend', List.length_cons, List.length_nil, List.length_map, List.length_append, List.length_set, List.length_singleton, Nat.reduceAdd, Nat.reduceSub, Nat.zero_add, List.replicate_succ, List.replicate_zero, List.cons_append, List.nil_append, List.map_cons, List.map_nil, Nat.reduceLeDiff, e3]
    refine ⟨j2, rest.eraseIdx k, found ++ [rest[k]], ?_, h2', ?_, ?_⟩
    · simp [map_erase]
    · refine List.Perm.trans ?_ hp
      rw [List.append_assoc]
      refine List.Perm.append_left found ?_
      exact erase_perm rest k hk
    · have := (erase_perm rest k hk).length_eq
      simp only [List.length_cons, List.length_append, List.length_nil] at this ⊢; omega
  · subst e1
    simp (disch := (first | omega | (simp only [List.length_cons, List.length_nil, List.length_map, List.length_append, List.length_set, List.length_take, List.length_drop, List.length_replicate, List.length_reverse, List.length_range]; omega))) only [run1, run2, run3, run4, run5, dInts, ixT0, ixT1, ixT2, ixT3, ixL0, ixL1, ixL2, ixT_last, ixL_last, cutD_take, cutD_drop, Kp_run, Fd_run, Wp_ok, Wp_exc, NcCl, if_true, if_false, Bool.false_eq_true, decide_true, decide_false, Bool.not_true, Bool.not_false, lenOk_le, addT', addL', muAppend', List.length_cons, List.length_nil, List.length_map, List.length_append, List.length_set, List.length_singleton, Nat.reduceAdd, Nat.reduceSub, Nat.zero_add, List.replicate_succ, List.replicate_zero, List.cons_append, List.nil_append, List.map_cons, List.map_nil, Nat.reduceLeDiff]
    simp only [List.length_range] at hl
    have : rest = [] := List.length_eq_zero_iff.mp (by omega)
    subst this
    exact ⟨j', h', rfl, found, rfl, by simpa using hp⟩
theorem ints_map : ∀ xs : List Int, ints? (xs.map PyData.int) = some xs
  | [] => rfl
  | x :: xs => by simp [ints?, ints_map xs]
theorem jarOf_ints (fs cs : List Int) (s n : Int) : jarOf (.list (fs.map .int)) (.list (cs.map .int)) (.int s) (.int n) = some (jD ⟨fs, cs, s, n⟩) := by
  simp only [jarOf, ints_map, Option.bind_some]; rfl
theorem law_jar_ok (ns : List Int) (h : ns.length ≤ 63) : FW (m__law_jar [.list (ns.map .int)]) (fun d ios => ios = [] ∧ ∃ j, JOk j ∧ d = jD j) NX := by
  refine fw_of ?_
  have m1 : ∀ x : Int, mulI (.int 2) (.int x) = some (.int (2 * x)) := fun x => mulI_l (by omega) (by omega)
  have m2 : ∀ x : Int, mulI (.int (-2)) (.int x) = some (.int (-2 * x)) := fun x => mulI_l (by omega) (by omega)
  have m3 : ∀ x : Int, mulI (.int 3) (.int x) = some (.int (3 * x)) := fun x => mulI_l (by omega) (by omega)
  have m4 : ∀ x : Int, mulI (.int x) (.int 16807) = some (.int (x * 16807)) := fun x => mulI_r (by omega) (by omega)
  have m5 : ∀ x : Int, mulI (.int x) (.int 3) = some (.int (x * 3)) := fun x => mulI_r (by omega) (by omega)
  have m6 : ∀ x : Int, mulI (.int 5) (.int x) = some (.int (5 * x)) := fun x => mulI_l (by omega) (by omega)
  have d3 : ∀ x : Int, modD (.int x) (.int 4294967279) = some (.int (x.fmod 4294967279)) := fun x => modD_int (by omega)
  have pw : powD (.int 10) (.int 18) = some (.int (10 ^ 18)) := by simp [powD]
  have tk : ∀ k : Nat, cutD (ns.map PyData.int) none (some (k : Int)) = (ns.take k).map PyData.int := fun k => by rw [cutD_take, List.map_take]
  have tk : cutD (ns.map PyData.int) none (some 63) = (ns.take 63).map PyData.int := tk 63
  have c1 := lc_all (f := PyData.int) (tg := gSet 1) (test := tYesM) (elt := eIf (tTru (eOp2 geI (eV 1) (eC (.int (0))))) (eOp2 mulI (eC (.int (2))) (eV 1)) (eOp2 subD (eOp2 mulI (eOp1 negD (eC (.int (2)))) (eV 1)) (eC (.int (1)))))
    (fun v : PyData => [.list (ns.map .int), v, .none, .none, .none]) [1] (fun x => PyData.int (if 0 ≤ x then 2 * x else -2 * x - 1)) (ns.take 63) .none (fun v => by simp (disch := (first | omega | (simp only [List.length_cons, List.length_nil, List.length_map, List.length_append, List.length_set, List.length_take, List.length_drop, List.length_replicate, List.length_reverse, List.length_range]; omega))) only [run1, run2, run3, run4, run5, dInts, ixT0, ixT1, ixT2, ixT3, ixL0, ixL1, ixL2, ixT_last, ixL_last, cutD_take, cutD_drop, Kp_run, Fd_run, Wp_ok, Wp_exc, NcCl, if_true, if_false, Bool.false_eq_true, decide_true, decide_false, Bool.not_true, Bool.not_false, lenOk_le, addT', addL', muAppend', List.length_cons, List.length_nil, List.length_map, List.length_append, List.length_set, List.length_singleton, Nat.reduceAdd, Nat.reduceSub, Nat.zero_add, List.replicate_succ, List.replicate_zero, List.cons_append, List.nil_append, List.map_cons, List.map_nil, Nat.reduceLeDiff]) fun x _ v => ⟨.int x, by simp (disch := (first | omega | (simp only [List.length_cons, List.length_nil, List.length_map, List.length_append, List.length_set, List.length_take, List.length_drop, List.length_replicate, List.length_reverse, List.length_range]; omega))) only [run1, run2, run3, run4, run5, dInts, ixT0, ixT1, ixT2, ixT3, ixL0, ixL1, ixL2, ixT_last, ixL_last, cutD_take, cutD_drop, Kp_run, Fd_run, Wp_ok, Wp_exc, NcCl, if_true, if_false, Bool.false_eq_true, decide_true, decide_false, Bool.not_true, Bool.not_false, lenOk_le, addT', addL', muAppend', List.length_cons, List.length_nil, List.length_map, List.length_append, List.length_set, List.length_singleton, Nat.reduceAdd, Nat.reduceSub, Nat.zero_add, List.replicate_succ, List.replicate_zero, List.cons_append, List.nil_append, List.map_cons, List.map_nil, Nat.reduceLeDiff], by
      by_cases c : 0 ≤ x
      · simp (disch := (first | omega | (simp only [List.length_cons, List.length_nil, List.length_map, List.length_append, List.length_set, List.length_take, List.length_drop, List.length_replicate, List.length_reverse, List.length_range]; omega))) only [run1, run2, run3, run4, run5, dInts, ixT0, ixT1, ixT2, ixT3, ixL0, ixL1, ixL2, ixT_last, ixL_last, cutD_take, cutD_drop, Kp_run, Fd_run, Wp_ok, Wp_exc, NcCl, if_true, if_false, Bool.false_eq_true, decide_true, decide_false, Bool.not_true, Bool.not_false, lenOk_le, addT', addL', muAppend', List.length_cons, List.length_nil, List.length_map, List.length_append, List.length_set, List.length_singleton, Nat.reduceAdd, Nat.reduceSub, Nat.zero_add, List.replicate_succ, List.replicate_zero, List.cons_append, List.nil_append, List.map_cons, List.map_nil, Nat.reduceLeDiff, m1, c]
      · simp (disch := (first | omega | (simp only [List.length_cons, List.length_nil, List.length_map, List.length_append, List.length_set, List.length_take, List.length_drop, List.length_replicate, List.length_reverse, List.length_range]; omega))) only [run1, run2, run3, run4, run5, dInts, ixT0, ixT1, ixT2, ixT3, ixL0, ixL1, ixL2, ixT_last, ixL_last, cutD_take, cutD_drop, Kp_run, Fd_run, Wp_ok, Wp_exc, NcCl, if_true, if_false, Bool.false_eq_true, decide_true, decide_false, Bool.not_true, Bool.not_false, lenOk_le, addT', addL', muAppend', List.length_cons, List.length_nil, List.length_map, List.length_append, List.length_set, List.length_singleton, Nat.reduceAdd, Nat.reduceSub, Nat.zero_add, List.replicate_succ, List.replicate_zero, List.cons_append, List.nil_append, List.map_cons, List.map_nil, Nat.reduceLeDiff, m2, c]⟩
  have c2 := fun (cs : List Int) (s : Int) => lc_ok (f := PyData.int) (tg := gSet 1) (test := tTru (eOp2 geI (eV 1) (eOp2 powD (eC (.int (10))) (eC (.int (18)))))) (elt := eV 1)
    (fun v : PyData => [.none, v, .list (cs.map .int), .int s, .none]) [1] (fun x => decide (10 ^ 18 ≤ x)) (fun x => PyData.int x) cs .none (fun v => by simp (disch := (first | omega | (simp only [List.length_cons, List.length_nil, List.length_map, List.length_append, List.length_set, List.length_take, List.length_drop, List.length_replicate, List.length_reverse, List.length_range]; omega))) only [run1, run2, run3, run4, run5, dInts, ixT0, ixT1, ixT2, ixT3, ixL0, ixL1, ixL2, ixT_last, ixL_last, cutD_take, cutD_drop, Kp_run, Fd_run, Wp_ok, Wp_exc, NcCl, if_true, if_false, Bool.false_eq_true, decide_true, decide_false, Bool.not_true, Bool.not_false, lenOk_le, addT', addL', muAppend', List.length_cons, List.length_nil, List.length_map, List.length_append, List.length_set, List.length_singleton, Nat.reduceAdd, Nat.reduceSub, Nat.zero_add, List.replicate_succ, List.replicate_zero, List.cons_append, List.nil_append, List.map_cons, List.map_nil, Nat.reduceLeDiff]) fun x _ v => ⟨.int x, by simp (disch := (first | omega | (simp only [List.length_cons, List.length_nil, List.length_map, List.length_append, List.length_set, List.length_take, List.length_drop, List.length_replicate, List.length_reverse, List.length_range]; omega))) only [run1, run2, run3, run4, run5, dInts, ixT0, ixT1, ixT2, ixT3, ixL0, ixL1, ixL2, ixT_last, ixL_last, cutD_take, cutD_drop, Kp_run, Fd_run, Wp_ok, Wp_exc, NcCl, if_true, if_false, Bool.false_eq_true, decide_true, decide_false, Bool.not_true, Bool.not_false, lenOk_le, addT', addL', muAppend', List.length_cons, List.length_nil, List.length_map, List.length_append, List.length_set, List.length_singleton, Nat.reduceAdd, Nat.reduceSub, Nat.zero_add, List.replicate_succ, List.replicate_zero, List.cons_append, List.nil_append, List.map_cons, List.map_nil, Nat.reduceLeDiff, pw], fun _ => by simp (disch := (first | omega | (simp only [List.length_cons, List.length_nil, List.length_map, List.length_append, List.length_set, List.length_take, List.length_drop, List.length_replicate, List.length_reverse, List.length_range]; omega))) only [run1, run2, run3, run4, run5, dInts, ixT0, ixT1, ixT2, ixT3, ixL0, ixL1, ixL2, ixT_last, ixL_last, cutD_take, cutD_drop, Kp_run, Fd_run, Wp_ok, Wp_exc, NcCl, if_true, if_false, Bool.false_eq_true, decide_true, decide_false, Bool.not_true, Bool.not_false, lenOk_le, addT', addL', muAppend', List.length_cons, List.length_nil, List.length_map, List.length_append, List.length_set, List.length_singleton, Nat.reduceAdd, Nat.reduceSub, Nat.zero_add, List.replicate_succ, List.replicate_zero, List.cons_append, List.nil_append, List.map_cons, List.map_nil, Nat.reduceLeDiff]⟩
  simp (disch := (first | omega | (simp only [List.length_cons, List.length_nil, List.length_map, List.length_append, List.length_set, List.length_take, List.length_drop, List.length_replicate, List.length_reverse, List.length_range]; omega))) only [run1, run2, run3, run4, run5, dInts, ixT0, ixT1, ixT2, ixT3, ixL0, ixL1, ixL2, ixT_last, ixL_last, cutD_take, cutD_drop, Kp_run, Fd_run, Wp_ok, Wp_exc, NcCl, if_true, if_false, Bool.false_eq_true, decide_true, decide_false, Bool.not_true, Bool.not_false, lenOk_le, addT', addL', muAppend', List.length_cons, List.length_nil, List.length_map, List.length_append, List.length_set, List.length_singleton, Nat.reduceAdd, Nat.reduceSub, Nat.zero_add, List.replicate_succ, List.replicate_zero, List.cons_append, List.nil_append, List.map_cons, List.map_nil, Nat.reduceLeDiff, N__law_jar, b__law_jar, tk, List.length_take]
  obtain ⟨cs, hcs, hl⟩ : ∃ cs : List Int, ((ns.take 63).map fun x => PyData.int (if 0 ≤ x then 2 * x else -2 * x - 1)) = cs.map .int ∧ cs.length ≤ 63 := ⟨(ns.take 63).map fun x => if 0 ≤ x then 2 * x else -2 * x - 1, by rw [List.map_map]; rfl, by simp; omega⟩
  rw [hcs] at c1
  simp (disch := (first | omega | (simp only [List.length_cons, List.length_nil, List.length_map, List.length_append, List.length_set, List.length_take, List.length_drop, List.length_replicate, List.length_reverse, List.length_range]; omega))) only [run1, run2, run3, run4, run5, dInts, ixT0, ixT1, ixT2, ixT3, ixL0, ixL1, ixL2, ixT_last, ixL_last, cutD_take, cutD_drop, Kp_run, Fd_run, Wp_ok, Wp_exc, NcCl, if_true, if_false, Bool.false_eq_true, decide_true, decide_false, Bool.not_true, Bool.not_false, lenOk_le, addT', addL', muAppend', List.length_cons, List.length_nil, List.length_map, List.length_append, List.length_set, List.length_singleton, Nat.reduceAdd, Nat.reduceSub, Nat.zero_add, List.replicate_succ, List.replicate_zero, List.cons_append, List.nil_append, List.map_cons, List.map_nil, Nat.reduceLeDiff, c1, m3]
  refine Wp.bind (wp_for (f := PyData.int) cs (fun pre ρ => ∃ s : Int, ρ = [.none, .none, .list (cs.map .int), .int s, .none]) ⟨_, rfl⟩ (fun pre x post ρ e ⟨s, e1⟩ => ?_) (fun ρ ⟨s, e1⟩ => ?_))
  · subst e1
    simp (disch := (first | omega | (simp only [List.length_cons, List.length_nil, List.length_map, List.length_append, List.length_set, List.length_take, List.length_drop, List.length_replicate, List.length_reverse, List.length_range]; omega))) only [run1, run2, run3, run4, run5, dInts, ixT0, ixT1, ixT2, ixT3, ixL0, ixL1, ixL2, ixT_last, ixL_last, cutD_take, cutD_drop, Kp_run, Fd_run, Wp_ok, Wp_exc, NcCl, if_true, if_false, Bool.false_eq_true, decide_true, decide_false, Bool.not_true, Bool.not_false, lenOk_le, addT', addL', muAppend', List.length_cons, List.length_nil, List.length_map, List.length_append, List.length_set, List.length_singleton, Nat.reduceAdd, Nat.reduceSub, Nat.zero_add, List.replicate_succ, List.replicate_zero, List.cons_append, List.nil_append, List.map_cons, List.map_nil, Nat.reduceLeDiff, m4, m5, d3]
    exact ⟨_, rfl⟩
  · subst e1
    have c2 := c2 cs s
    simp (disch := (first | omega | (simp only [List.length_cons, List.length_nil, List.length_map, List.length_append, List.length_set, List.length_take, List.length_drop, List.length_replicate, List.length_reverse, List.length_range]; omega))) only [run1, run2, run3, run4, run5, dInts, ixT0, ixT1, ixT2, ixT3, ixL0, ixL1, ixL2, ixT_last, ixL_last, cutD_take, cutD_drop, Kp_run, Fd_run, Wp_ok, Wp_exc, NcCl, if_true, if_false, Bool.false_eq_true, decide_true, decide_false, Bool.not_true, Bool.not_false, lenOk_le, addT', addL', muAppend', List.length_cons, List.length_nil, List.length_map, List.length_append, List.length_set, List.length_singleton, Nat.reduceAdd, Nat.reduceSub, Nat.zero_add, List.replicate_succ, List.replicate_zero, List.cons_append, List.nil_append, List.map_cons, List.map_nil, Nat.reduceLeDiff]
    simp (disch := (first | omega | (simp only [List.length_cons, List.length_nil, List.length_map, List.length_append, List.length_set, List.length_take, List.length_drop, List.length_replicate, List.length_reverse, List.length_range]; omega))) only [run1, run2, run3, run4, run5, dInts, ixT0, ixT1, ixT2, ixT3, ixL0, ixL1, ixL2, ixT_last, ixL_last, cutD_take, cutD_drop, Kp_run, Fd_run, Wp_ok, Wp_exc, NcCl, if_true, if_false, Bool.false_eq_true, decide_true, decide_false, Bool.not_true, Bool.not_false, lenOk_le, addT', addL', muAppend', List.length_cons, List.length_nil, List.length_map, List.length_append, List.length_set, List.length_singleton, Nat.reduceAdd, Nat.reduceSub, Nat.zero_add, List.replicate_succ, List.replicate_zero, List.cons_append, List.nil_append, List.map_cons, List.map_nil, Nat.reduceLeDiff, c2, m6]
    have e4 : cs.map PyData.int ++ [PyData.int (5 * (cs.length : Int) + 3)] = (cs ++ [5 * (cs.length : Int) + 3]).map .int := by simp
    rw [e4, jarOf_ints]
    simp (disch := (first | omega | (simp only [List.length_cons, List.length_nil, List.length_map, List.length_append, List.length_set, List.length_take, List.length_drop, List.length_replicate, List.length_reverse, List.length_range]; omega))) only [run1, run2, run3, run4, run5, dInts, ixT0, ixT1, ixT2, ixT3, ixL0, ixL1, ixL2, ixT_last, ixL_last, cutD_take, cutD_drop, Kp_run, Fd_run, Wp_ok, Wp_exc, NcCl, if_true, if_false, Bool.false_eq_true, decide_true, decide_false, Bool.not_true, Bool.not_false, lenOk_le, addT', addL', muAppend', List.length_cons, List.length_nil, List.length_map, List.length_append, List.length_set, List.length_singleton, Nat.reduceAdd, Nat.reduceSub, Nat.zero_add, List.replicate_succ, List.replicate_zero, List.cons_append, List.nil_append, List.map_cons, List.map_nil, Nat.reduceLeDiff]
    have := List.length_filter_le (fun x : Int => decide (10 ^ 18 ≤ x)) cs
    exact ⟨trivial, ⟨_, _, _, _⟩, ⟨by dsimp only; omega, by simp; omega, by simp⟩, rfl⟩
end PJ

/-! P8: trees, more roads, webs under drawn names, standings. -/
namespace PJ
open PySem (PyData Str)
open DL CJ
theorem tree_ok {j : Jar} (h : JOk j) {n : Nat} (h1 : 1 ≤ n) (h2 : n ≤ 1000) : FW (m__law_tree [jD j, .int (n : Int)]) (JP fun d _ => ∃ ps : List Road, d = .list (ps.map roadD) ∧ ps.length = n - 1 ∧ ∀ p ∈ ps, p.1 < p.2 ∧ p.2 < n) NX := by
  refine fw_of ?_
  have r : rgE [.int 1, .int (n : Int)] = _ := rgE2 1 n (by omega) h1
  simp (disch := (first | omega | (simp only [List.length_cons, List.length_nil, List.length_map, List.length_append, List.length_set, List.length_take, List.length_drop, List.length_replicate, List.length_reverse, List.length_range]; omega))) only [run1, run2, run3, run4, run5, dInts, ixT0, ixT1, ixT2, ixT3, ixL0, ixL1, ixL2, ixT_last, ixL_last, cutD_take, cutD_drop, Kp_run, Fd_run, Wp_ok, Wp_exc, NcCl, if_true, if_false, Bool.false_eq_true, decide_true, decide_false, Bool.not_true, Bool.not_false, lenOk_le, addT', addL', muAppend', List.length_cons, List.length_nil, List.length_map, List.length_append, List.length_set, List.length_singleton, Nat.reduceAdd, Nat.reduceSub, Nat.zero_add, List.replicate_succ, List.replicate_zero, List.cons_append, List.nil_append, List.map_cons, List.map_nil, Nat.reduceLeDiff, N__law_tree, b__law_tree, r, List.length_range]
  refine Wp.bind (wp_lcE (wp_lc (g := roadD) (f := fun i : Nat => PyData.int ((1 + i : Nat) : Int)) (List.range (n - 1)) (fun pre ys ρ => ∃ j' a, ρ = [jD j', .int (n : Int), a] ∧ JOk j' ∧ ys.length = pre.length ∧ ∀ p ∈ ys, p.1 < p.2 ∧ p.2 < n)
    ⟨j, .none, rfl, h, rfl, by simp⟩ (fun pre i post ys ρ e ⟨j', a, e1, h', hl, hp⟩ => ?_) (fun ys ρ ⟨j', a, e1, h', hl, hp⟩ => ?_)))
  · subst e1
    have hi : i < n - 1 := by have : i ∈ List.range (n - 1) := by rw [e]; simp
                              simpa using this
    simp (disch := (first | omega | (simp only [List.length_cons, List.length_nil, List.length_map, List.length_append, List.length_set, List.length_take, List.length_drop, List.length_replicate, List.length_reverse, List.length_range]; omega))) only [run1, run2, run3, run4, run5, dInts, ixT0, ixT1, ixT2, ixT3, ixL0, ixL1, ixL2, ixT_last, ixL_last, cutD_take, cutD_drop, Kp_run, Fd_run, Wp_ok, Wp_exc, NcCl, if_true, if_false, Bool.false_eq_true, decide_true, decide_false, Bool.not_true, Bool.not_false, lenOk_le, addT', addL', muAppend', List.length_cons, List.length_nil, List.length_map, List.length_append, List.length_set, List.length_singleton, Nat.reduceAdd, Nat.reduceSub, Nat.zero_add, List.replicate_succ, List.replicate_zero, List.cons_append, List.nil_append, List.map_cons, List.map_nil, Nat.reduceLeDiff]
    refine wp_call (draw_ok h' (show 1 ≤ 1 + i by omega) (by omega)) ?_
    rintro d ios ⟨j2, h2', rfl, k, rfl, hk⟩
    simp (disch := (first | omega | (simp only [List.length_cons, List.length_nil, List.length_map, List.length_append, List.length_set, List.length_take, List.length_drop, List.length_replicate, List.length_reverse, List.length_range]; omega))) only [run1, run2, run3, run4, run5, dInts, ixT0, ixT1, ixT2, ixT3, ixL0, ixL1, ixL2, ixT_last, ixL_last, cutD_take, cutD_drop, Kp_run, Fd_run, Wp_ok, Wp_exc, NcCl, if_true, if_false, Bool.false_eq_true, decide_true, decide_false, Bool.not_true, Bool.not_false, lenOk_le, addT', addL', muAppend', List.length_cons, List.length_nil, List.length_map, List.length_append, List.length_set, List.length_singleton, Nat.reduceAdd, Nat.reduceSub, Nat.zero_add, List.replicate_succ, List.replicate_zero, List.cons_append, List.nil_append, List.map_cons, List.map_nil, Nat.reduceLeDiff]
    refine ⟨(k, 1 + i), rfl, j2, _, rfl, h2', by omega, fun p hq => ?_⟩
    rcases List.mem_append.mp hq with z | z
    · exact hp p z
    · simp at z; subst z; exact ⟨by dsimp only; omega, by dsimp only; omega⟩
  · subst e1
    simp (disch := (first | omega | (simp only [List.length_cons, List.length_nil, List.length_map, List.length_append, List.length_set, List.length_take, List.length_drop, List.length_replicate, List.length_reverse, List.length_range]; omega))) only [run1, run2, run3, run4, run5, dInts, ixT0, ixT1, ixT2, ixT3, ixL0, ixL1, ixL2, ixT_last, ixL_last, cutD_take, cutD_drop, Kp_run, Fd_run, Wp_ok, Wp_exc, NcCl, if_true, if_false, Bool.false_eq_true, decide_true, decide_false, Bool.not_true, Bool.not_false, lenOk_le, addT', addL', muAppend', List.length_cons, List.length_nil, List.length_map, List.length_append, List.length_set, List.length_singleton, Nat.reduceAdd, Nat.reduceSub, Nat.zero_add, List.replicate_succ, List.replicate_zero, List.cons_append, List.nil_append, List.map_cons, List.map_nil, Nat.reduceLeDiff]
    exact ⟨j', h', rfl, ys, rfl, by simpa using hl, hp⟩
theorem more_ok {j : Jar} (h : JOk j) {n : Nat} (h2 : n ≤ 100) (ps : List Road) (hp : ps.length ≤ 1000) (many : Nat) : FW (m__law_more [jD j, .int (n : Int), .list (ps.map roadD), .int (many : Int)])
    (JP fun d _ => ∃ qs : List Road, d = .list ((ps ++ qs).map roadD) ∧ qs.length ≤ many ∧ ∀ p ∈ qs, p.1 < p.2 ∧ p.2 < n) NX := by
  refine fw_of ?_
  have rg := rgE1 n (by omega)
  simp (disch := (first | omega | (simp only [List.length_cons, List.length_nil, List.length_map, List.length_append, List.length_set, List.length_take, List.length_drop, List.length_replicate, List.length_reverse, List.length_range]; omega))) only [run1, run2, run3, run4, run5, dInts, ixT0, ixT1, ixT2, ixT3, ixL0, ixL1, ixL2, ixT_last, ixL_last, cutD_take, cutD_drop, Kp_run, Fd_run, Wp_ok, Wp_exc, NcCl, if_true, if_false, Bool.false_eq_true, decide_true, decide_false, Bool.not_true, Bool.not_false, lenOk_le, addT', addL', muAppend', List.length_cons, List.length_nil, List.length_map, List.length_append, List.length_set, List.length_singleton, Nat.reduceAdd, Nat.reduceSub, Nat.zero_add, List.replicate_succ, List.replicate_zero, List.cons_append, List.nil_append, List.map_cons, List.map_nil, Nat.reduceLeDiff, N__law_more, b__law_more, rg]
  refine Wp.bind (wp_for (f := fun i : Nat => PyData.int (i : Int)) (List.range n) (fun pre ρ => ∃ rest : List Road, ρ = [jD j, .int (n : Int), .list (ps.map roadD), .int (many : Int), .list (rest.map roadD), .none, .none] ∧ rest.length ≤ pre.length * n ∧ ∀ p ∈ rest, p.1 < p.2 ∧ p.2 < n)
    ⟨[], rfl, by simp, by simp⟩ (fun pre a post ρ e ⟨rest, e1, hl, hr⟩ => ?_) (fun ρ ⟨rest, e1, hl, hr⟩ => ?_))
  · subst e1
    have ha : a < n := by have : a ∈ List.range n := by rw [e]; simp
                          simpa using this
    have hpre : pre.length ≤ 100 := by
      have := congrArg List.length e
      simp at this; omega
    have r : rgE [.int ((a : Int) + 1), .int (n : Int)] = _ := rgE2 (a + 1) n (by omega) (by omega)
    have c := lc_ok (f := fun i : Nat => PyData.int ((a + 1 + i : Nat) : Int)) (tg := gSet 6) (test := tTru (eOp2 notInA (eTup (aCons (eV 5) (aCons (eV 6) aNil))) (eV 2))) (elt := eTup (aCons (eV 5) (aCons (eV 6) aNil)))
      (fun v : PyData => [jD j, .int (n : Int), .list (ps.map roadD), .int (many : Int), .list (rest.map roadD), .int (a : Int), v]) [6] (fun i => !decide ((a, a + 1 + i) ∈ ps)) (fun i => roadD (a, a + 1 + i)) (List.range (n - (a + 1))) .none (fun v => by simp (disch := (first | omega | (simp only [List.length_cons, List.length_nil, List.length_map, List.length_append, List.length_set, List.length_take, List.length_drop, List.length_replicate, List.length_reverse, List.length_range]; omega))) only [run1, run2, run3, run4, run5, dInts, ixT0, ixT1, ixT2, ixT3, ixL0, ixL1, ixL2, ixT_last, ixL_last, cutD_take, cutD_drop, Kp_run, Fd_run, Wp_ok, Wp_exc, NcCl, if_true, if_false, Bool.false_eq_true, decide_true, decide_false, Bool.not_true, Bool.not_false, lenOk_le, addT', addL', muAppend', List.length_cons, List.length_nil, List.length_map, List.length_append, List.length_set, List.length_singleton, Nat.reduceAdd, Nat.reduceSub, Nat.zero_add, List.replicate_succ, List.replicate_zero, List.cons_append, List.nil_append, List.map_cons, List.map_nil, Nat.reduceLeDiff]) fun i _ v => ⟨.int ((a + 1 + i : Nat) : Int), by
        have e2 : notInA (PyData.tuple [.int (a : Int), .int ((a + 1 + i : Nat) : Int)]) (.list (ps.map roadD)) = some (.bool (!decide ((a, a + 1 + i) ∈ ps))) := notInL_en (En.pr En.nat En.nat) (by decide) (a, a + 1 + i) ps
        simp (disch := (first | omega | (simp only [List.length_cons, List.length_nil, List.length_map, List.length_append, List.length_set, List.length_take, List.length_drop, List.length_replicate, List.length_reverse, List.length_range]; omega))) only [run1, run2, run3, run4, run5, dInts, ixT0, ixT1, ixT2, ixT3, ixL0, ixL1, ixL2, ixT_last, ixL_last, cutD_take, cutD_drop, Kp_run, Fd_run, Wp_ok, Wp_exc, NcCl, if_true, if_false, Bool.false_eq_true, decide_true, decide_false, Bool.not_true, Bool.not_false, lenOk_le, addT', addL', muAppend', List.length_cons, List.length_nil, List.length_map, List.length_append, List.length_set, List.length_singleton, Nat.reduceAdd, Nat.reduceSub, Nat.zero_add, List.replicate_succ, List.replicate_zero, List.cons_append, List.nil_append, List.map_cons, List.map_nil, Nat.reduceLeDiff, e2], fun _ => by first | rfl | simp (disch := (first | omega | (simp only [List.length_cons, List.length_nil, List.length_map, List.length_append, List.length_set, List.length_take, List.length_drop, List.length_replicate, List.length_reverse, List.length_range]; omega))) only [run1, run2, run3, run4, run5, dInts, ixT0, ixT1, ixT2, ixT3, ixL0, ixL1, ixL2, ixT_last, ixL_last, cutD_take, cutD_drop, Kp_run, Fd_run, Wp_ok, Wp_exc, NcCl, if_true, if_false, Bool.false_eq_true, decide_true, decide_false, Bool.not_true, Bool.not_false, lenOk_le, addT', addL', muAppend', List.length_cons, List.length_nil, List.length_map, List.length_append, List.length_set, List.length_singleton, Nat.reduceAdd, Nat.reduceSub, Nat.zero_add, List.replicate_succ, List.replicate_zero, List.cons_append, List.nil_append, List.map_cons, List.map_nil, Nat.reduceLeDiff]⟩
    have hl3 : ((List.range (n - (a + 1))).filter fun i => !decide ((a, a + 1 + i) ∈ ps)).length ≤ n := Nat.le_trans (List.length_filter_le _ _) (by rw [List.length_range]; omega)
    have hl4 : pre.length * n ≤ 100 * 100 := Nat.mul_le_mul hpre h2
    simp (disch := (first | omega | (simp only [List.length_cons, List.length_nil, List.length_map, List.length_append, List.length_set, List.length_take, List.length_drop, List.length_replicate, List.length_reverse, List.length_range]; omega))) only [run1, run2, run3, run4, run5, dInts, ixT0, ixT1, ixT2, ixT3, ixL0, ixL1, ixL2, ixT_last, ixL_last, cutD_take, cutD_drop, Kp_run, Fd_run, Wp_ok, Wp_exc, NcCl, if_true, if_false, Bool.false_eq_true, decide_true, decide_false, Bool.not_true, Bool.not_false, lenOk_le, addT', addL', muAppend', List.length_cons, List.length_nil, List.length_map, List.length_append, List.length_set, List.length_singleton, Nat.reduceAdd, Nat.reduceSub, Nat.zero_add, List.replicate_succ, List.replicate_zero, List.cons_append, List.nil_append, List.map_cons, List.map_nil, Nat.reduceLeDiff, r, List.length_range]
    simp (disch := (first | omega | (simp only [List.length_cons, List.length_nil, List.length_map, List.length_append, List.length_set, List.length_take, List.length_drop, List.length_replicate, List.length_reverse, List.length_range]; omega))) only [run1, run2, run3, run4, run5, dInts, ixT0, ixT1, ixT2, ixT3, ixL0, ixL1, ixL2, ixT_last, ixL_last, cutD_take, cutD_drop, Kp_run, Fd_run, Wp_ok, Wp_exc, NcCl, if_true, if_false, Bool.false_eq_true, decide_true, decide_false, Bool.not_true, Bool.not_false, lenOk_le, addT', addL', muAppend', List.length_cons, List.length_nil, List.length_map, List.length_append, List.length_set, List.length_singleton, Nat.reduceAdd, Nat.reduceSub, Nat.zero_add, List.replicate_succ, List.replicate_zero, List.cons_append, List.nil_append, List.map_cons, List.map_nil, Nat.reduceLeDiff, c]
    refine ⟨rest ++ ((List.range (n - (a + 1))).filter fun i => !decide ((a, a + 1 + i) ∈ ps)).map fun i => (a, a + 1 + i), ?_, ?_, fun p hq => ?_⟩
    · rw [List.map_append, List.map_map]; rfl
    · simp only [List.length_append, List.length_map, List.length_singleton, Nat.add_mul, Nat.one_mul]; omega
    · rcases List.mem_append.mp hq with z | z
      · exact hr p z
      · obtain ⟨i, hi, rfl⟩ := List.mem_map.mp z
        have := (List.mem_filter.mp hi).1
        rw [List.mem_range] at this
        exact ⟨by dsimp only; omega, by dsimp only; omega⟩
  · subst e1
    simp only [List.length_range] at hl
    have hl4 : n * n ≤ 100 * 100 := Nat.mul_le_mul h2 h2
    simp (disch := (first | omega | (simp only [List.length_cons, List.length_nil, List.length_map, List.length_append, List.length_set, List.length_take, List.length_drop, List.length_replicate, List.length_reverse, List.length_range]; omega))) only [run1, run2, run3, run4, run5, dInts, ixT0, ixT1, ixT2, ixT3, ixL0, ixL1, ixL2, ixT_last, ixL_last, cutD_take, cutD_drop, Kp_run, Fd_run, Wp_ok, Wp_exc, NcCl, if_true, if_false, Bool.false_eq_true, decide_true, decide_false, Bool.not_true, Bool.not_false, lenOk_le, addT', addL', muAppend', List.length_cons, List.length_nil, List.length_map, List.length_append, List.length_set, List.length_singleton, Nat.reduceAdd, Nat.reduceSub, Nat.zero_add, List.replicate_succ, List.replicate_zero, List.cons_append, List.nil_append, List.map_cons, List.map_nil, Nat.reduceLeDiff]
    refine wp_call (mixed_ok (f := roadD) h rest (by omega) (.inl rfl)) ?_
    rintro d ios ⟨j2, h2', rfl, ys, rfl, py⟩
    have e5 : List.take many (ys.map roadD) = (ys.take many).map roadD := by rw [List.map_take]
    have := py.length_eq
    simp (disch := (first | omega | (simp only [List.length_cons, List.length_nil, List.length_map, List.length_append, List.length_set, List.length_take, List.length_drop, List.length_replicate, List.length_reverse, List.length_range]; omega))) only [run1, run2, run3, run4, run5, dInts, ixT0, ixT1, ixT2, ixT3, ixL0, ixL1, ixL2, ixT_last, ixL_last, cutD_take, cutD_drop, Kp_run, Fd_run, Wp_ok, Wp_exc, NcCl, if_true, if_false, Bool.false_eq_true, decide_true, decide_false, Bool.not_true, Bool.not_false, lenOk_le, addT', addL', muAppend', List.length_cons, List.length_nil, List.length_map, List.length_append, List.length_set, List.length_singleton, Nat.reduceAdd, Nat.reduceSub, Nat.zero_add, List.replicate_succ, List.replicate_zero, List.cons_append, List.nil_append, List.map_cons, List.map_nil, Nat.reduceLeDiff, e5, List.length_take]
    refine ⟨j2, h2', rfl, ys.take many, by rw [List.map_append], by simp; omega, fun p hq => hr p (py.mem_iff.mp (List.mem_of_mem_take hq))⟩
end PJ

/-! P9: webs under drawn names, standings. -/
namespace PJ
open PySem (PyData Str)
open DL CJ
abbrev Tri := Nat × Nat × Int
abbrev triD (t : Tri) : PyData := .tuple [.int (t.1 : Int), .int (t.2.1 : Int), .int t.2.2]
theorem alike_tri (a b : Tri) : PySem.W.alike (triD a) (triD b) = true := by simp [PySem.W.alike, PySem.W.alikeAll]
theorem min_nat (a b : Nat) : (if (b : Int) < (a : Int) then (b : Int) else (a : Int)) = ((min a b : Nat) : Int) := by
  by_cases h : b < a
  · rw [if_pos (by omega)]; omega
  · rw [if_neg (by omega)]; omega
theorem max_nat (a b : Nat) : (if (b : Int) > (a : Int) then (b : Int) else (a : Int)) = ((max a b : Nat) : Int) := by
  by_cases h : a < b
  · rw [if_pos (by omega)]; omega
  · rw [if_neg (by omega)]; omega
theorem get_nat (fs : List Nat) (i : Nat) (h : i < fs.length) : ixA (.list (fs.map fun i : Nat => PyData.int (i : Int))) (.int (i : Int)) = some (.int ((fs.getD i 0 : Nat) : Int)) := by
  rw [ixL, map_get _ _ _ h, getD_at _ _ _ h]
/-- the triples of named pairs -/
def named (ys : List Nat) (p : Road × Int) : Tri := (min (ys.getD p.1.1 0) (ys.getD p.1.2 0), max (ys.getD p.1.1 0) (ys.getD p.1.2 0), p.2)
theorem made_ok {j : Jar} (h : JOk j) {n : Nat} (h2 : n ≤ 1000) (ps : List Road) (hp : ps.length ≤ 1000) (hpn : ∀ p ∈ ps, p.1 < n ∧ p.2 < n) (ls : List Int) :
    FW (m__law_made [jD j, .int (n : Int), .list (ps.map roadD), .list (ls.map .int)])
    (JP fun d _ => ∃ (ys : List Nat) (ts : List Tri), ys.Perm (List.range n) ∧ ts.Perm ((ps.zip ls).map (named ys)) ∧ ts = ((ps.zip ls).map (named ys)).mergeSort (ordBy triD) ∧ d = webD ⟨n, ts.map fun t => (t.1, t.2.1), ts.map fun t => t.2.2⟩) NX := by
  refine fw_of ?_
  have rg := rg1E1 n (by omega)
  simp (disch := (first | omega | (simp only [List.length_cons, List.length_nil, List.length_map, List.length_append, List.length_set, List.length_take, List.length_drop, List.length_replicate, List.length_reverse, List.length_range]; omega))) only [run1, run2, run3, run4, run5, dInts, ixT0, ixT1, ixT2, ixT3, ixL0, ixL1, ixL2, ixT_last, ixL_last, cutD_take, cutD_drop, Kp_run, Fd_run, Wp_ok, Wp_exc, NcCl, if_true, if_false, Bool.false_eq_true, decide_true, decide_false, Bool.not_true, Bool.not_false, lenOk_le, addT', addL', muAppend', List.length_cons, List.length_nil, List.length_map, List.length_append, List.length_set, List.length_singleton, Nat.reduceAdd, Nat.reduceSub, Nat.zero_add, List.replicate_succ, List.replicate_zero, List.cons_append, List.nil_append, List.map_cons, List.map_nil, Nat.reduceLeDiff, N__law_made, b__law_made, rg]
  refine wp_call (mixed_ok (f := fun i : Nat => PyData.int (i : Int)) h (List.range n) (by simp; omega) (.inl rfl)) ?_
  rintro d ios ⟨j2, h2', rfl, ys, rfl, py⟩
  have hy : ys.length = n := by have := py.length_eq; simpa using this
  have z := zipL_map roadD PyData.int ps ls
  have hz : (ps.zip ls).length ≤ 1000 := by rw [List.length_zip]; omega
  simp (disch := (first | omega | (simp only [List.length_cons, List.length_nil, List.length_map, List.length_append, List.length_set, List.length_take, List.length_drop, List.length_replicate, List.length_reverse, List.length_range]; omega))) only [run1, run2, run3, run4, run5, dInts, ixT0, ixT1, ixT2, ixT3, ixL0, ixL1, ixL2, ixT_last, ixL_last, cutD_take, cutD_drop, Kp_run, Fd_run, Wp_ok, Wp_exc, NcCl, if_true, if_false, Bool.false_eq_true, decide_true, decide_false, Bool.not_true, Bool.not_false, lenOk_le, addT', addL', muAppend', List.length_cons, List.length_nil, List.length_map, List.length_append, List.length_set, List.length_singleton, Nat.reduceAdd, Nat.reduceSub, Nat.zero_add, List.replicate_succ, List.replicate_zero, List.cons_append, List.nil_append, List.map_cons, List.map_nil, Nat.reduceLeDiff, z]
  refine Wp.bind ?_
  have l := forL_eq (f := fun p : Road × Int => PyData.tuple [roadD p.1, .int p.2]) (tg := gTupM 2 (gsCons (gTupM 2 (gsCons (gSet 6) (gsCons (gSet 7) gsNil))) (gsCons (gSet 8) gsNil)))
    (body := noCt (sClr [6, 7, 8] (sExp (eMut 5 muAppend (aCons (eTup (aCons (eOp2 min2D (eOp2 ixA (eV 4) (eV 6)) (eOp2 ixA (eV 4) (eV 7))) (aCons (eOp2 max2D (eOp2 ixA (eV 4) (eV 6)) (eOp2 ixA (eV 4) (eV 7))) (aCons (eV 8) aNil)))) aNil))))) (ps.zip ls)
    (fun pre => [jD j2, .int (n : Int), .list (ps.map roadD), .list (ls.map .int), .list (ys.map fun i : Nat => PyData.int (i : Int)), .list ((pre.map (named ys)).map triD), .none, .none, .none]) fun pre p post e => by
      have hm : p ∈ ps.zip ls := by rw [e]; simp
      have hb := hpn _ (List.of_mem_zip hm).1
      have e1 := get_nat ys p.1.1 (by omega)
      have e2 := get_nat ys p.1.2 (by omega)
      have := congrArg List.length e
      simp only [List.length_append, List.length_cons] at this
      simp (disch := (first | omega | (simp only [List.length_cons, List.length_nil, List.length_map, List.length_append, List.length_set, List.length_take, List.length_drop, List.length_replicate, List.length_reverse, List.length_range]; omega))) only [run1, run2, run3, run4, run5, dInts, ixT0, ixT1, ixT2, ixT3, ixL0, ixL1, ixL2, ixT_last, ixL_last, cutD_take, cutD_drop, Kp_run, Fd_run, Wp_ok, Wp_exc, NcCl, if_true, if_false, Bool.false_eq_true, decide_true, decide_false, Bool.not_true, Bool.not_false, lenOk_le, addT', addL', muAppend', List.length_cons, List.length_nil, List.length_map, List.length_append, List.length_set, List.length_singleton, Nat.reduceAdd, Nat.reduceSub, Nat.zero_add, List.replicate_succ, List.replicate_zero, List.cons_append, List.nil_append, List.map_cons, List.map_nil, Nat.reduceLeDiff, roadD, e1, e2, min_nat, max_nat]
      simp [named]
  simp only [List.map_nil] at l
  simp (disch := (first | omega | (simp only [List.length_cons, List.length_nil, List.length_map, List.length_append, List.length_set, List.length_take, List.length_drop, List.length_replicate, List.length_reverse, List.length_range]; omega))) only [run1, run2, run3, run4, run5, dInts, ixT0, ixT1, ixT2, ixT3, ixL0, ixL1, ixL2, ixT_last, ixL_last, cutD_take, cutD_drop, Kp_run, Fd_run, Wp_ok, Wp_exc, NcCl, if_true, if_false, Bool.false_eq_true, decide_true, decide_false, Bool.not_true, Bool.not_false, lenOk_le, addT', addL', muAppend', List.length_cons, List.length_nil, List.length_map, List.length_append, List.length_set, List.length_singleton, Nat.reduceAdd, Nat.reduceSub, Nat.zero_add, List.replicate_succ, List.replicate_zero, List.cons_append, List.nil_append, List.map_cons, List.map_nil, Nat.reduceLeDiff, l]
  have hs := sort_en (f := triD) (En.tr En.nat En.nat En.int) (by decide) ((ps.zip ls).map (named ys)) (fun a _ b _ => alike_tri a b) (.inl fun a _ => rfl)
  have pm := List.mergeSort_perm ((ps.zip ls).map (named ys)) (ordBy triD)
  have pl := pm.length_eq
  simp only [List.length_map] at pl
  generalize hts : ((ps.zip ls).map (named ys)).mergeSort (ordBy triD) = ts at hs pm pl
  have c1 := lc_all (f := triD) (tg := gTupM 3 (gsCons (gSet 6) (gsCons (gSet 7) (gsCons (gSet 8) gsNil)))) (test := tYesM) (elt := eTup (aCons (eV 6) (aCons (eV 7) aNil)))
    (fun v : PyData × PyData × PyData => [jD j2, .int (n : Int), .list (ps.map roadD), .list (ls.map .int), .list (ys.map fun i : Nat => PyData.int (i : Int)), .list (ts.map triD), v.1, v.2.1, v.2.2]) [6, 7, 8] (fun t => roadD (t.1, t.2.1)) ts (.none, .none, .none)
    (fun v => by simp (disch := (first | omega | (simp only [List.length_cons, List.length_nil, List.length_map, List.length_append, List.length_set, List.length_take, List.length_drop, List.length_replicate, List.length_reverse, List.length_range]; omega))) only [run1, run2, run3, run4, run5, dInts, ixT0, ixT1, ixT2, ixT3, ixL0, ixL1, ixL2, ixT_last, ixL_last, cutD_take, cutD_drop, Kp_run, Fd_run, Wp_ok, Wp_exc, NcCl, if_true, if_false, Bool.false_eq_true, decide_true, decide_false, Bool.not_true, Bool.not_false, lenOk_le, addT', addL', muAppend', List.length_cons, List.length_nil, List.length_map, List.length_append, List.length_set, List.length_singleton, Nat.reduceAdd, Nat.reduceSub, Nat.zero_add, List.replicate_succ, List.replicate_zero, List.cons_append, List.nil_append, List.map_cons, List.map_nil, Nat.reduceLeDiff]) fun t _ v => ⟨(.int (t.1 : Int), .int (t.2.1 : Int), .int t.2.2), by simp (disch := (first | omega | (simp only [List.length_cons, List.length_nil, List.length_map, List.length_append, List.length_set, List.length_take, List.length_drop, List.length_replicate, List.length_reverse, List.length_range]; omega))) only [run1, run2, run3, run4, run5, dInts, ixT0, ixT1, ixT2, ixT3, ixL0, ixL1, ixL2, ixT_last, ixL_last, cutD_take, cutD_drop, Kp_run, Fd_run, Wp_ok, Wp_exc, NcCl, if_true, if_false, Bool.false_eq_true, decide_true, decide_false, Bool.not_true, Bool.not_false, lenOk_le, addT', addL', muAppend', List.length_cons, List.length_nil, List.length_map, List.length_append, List.length_set, List.length_singleton, Nat.reduceAdd, Nat.reduceSub, Nat.zero_add, List.replicate_succ, List.replicate_zero, List.cons_append, List.nil_append, List.map_cons, List.map_nil, Nat.reduceLeDiff, triD], by first | rfl | simp (disch := (first | omega | (simp only [List.length_cons, List.length_nil, List.length_map, List.length_append, List.length_set, List.length_take, List.length_drop, List.length_replicate, List.length_reverse, List.length_range]; omega))) only [run1, run2, run3, run4, run5, dInts, ixT0, ixT1, ixT2, ixT3, ixL0, ixL1, ixL2, ixT_last, ixL_last, cutD_take, cutD_drop, Kp_run, Fd_run, Wp_ok, Wp_exc, NcCl, if_true, if_false, Bool.false_eq_true, decide_true, decide_false, Bool.not_true, Bool.not_false, lenOk_le, addT', addL', muAppend', List.length_cons, List.length_nil, List.length_map, List.length_append, List.length_set, List.length_singleton, Nat.reduceAdd, Nat.reduceSub, Nat.zero_add, List.replicate_succ, List.replicate_zero, List.cons_append, List.nil_append, List.map_cons, List.map_nil, Nat.reduceLeDiff]⟩
  have c2 := lc_all (f := triD) (tg := gTupM 3 (gsCons (gSet 6) (gsCons (gSet 7) (gsCons (gSet 8) gsNil)))) (test := tYesM) (elt := eV 8)
    (fun v : PyData × PyData × PyData => [jD j2, .int (n : Int), .list (ps.map roadD), .list (ls.map .int), .list (ys.map fun i : Nat => PyData.int (i : Int)), .list (ts.map triD), v.1, v.2.1, v.2.2]) [6, 7, 8] (fun t => PyData.int t.2.2) ts (.none, .none, .none)
    (fun v => by simp (disch := (first | omega | (simp only [List.length_cons, List.length_nil, List.length_map, List.length_append, List.length_set, List.length_take, List.length_drop, List.length_replicate, List.length_reverse, List.length_range]; omega))) only [run1, run2, run3, run4, run5, dInts, ixT0, ixT1, ixT2, ixT3, ixL0, ixL1, ixL2, ixT_last, ixL_last, cutD_take, cutD_drop, Kp_run, Fd_run, Wp_ok, Wp_exc, NcCl, if_true, if_false, Bool.false_eq_true, decide_true, decide_false, Bool.not_true, Bool.not_false, lenOk_le, addT', addL', muAppend', List.length_cons, List.length_nil, List.length_map, List.length_append, List.length_set, List.length_singleton, Nat.reduceAdd, Nat.reduceSub, Nat.zero_add, List.replicate_succ, List.replicate_zero, List.cons_append, List.nil_append, List.map_cons, List.map_nil, Nat.reduceLeDiff]) fun t _ v => ⟨(.int (t.1 : Int), .int (t.2.1 : Int), .int t.2.2), by simp (disch := (first | omega | (simp only [List.length_cons, List.length_nil, List.length_map, List.length_append, List.length_set, List.length_take, List.length_drop, List.length_replicate, List.length_reverse, List.length_range]; omega))) only [run1, run2, run3, run4, run5, dInts, ixT0, ixT1, ixT2, ixT3, ixL0, ixL1, ixL2, ixT_last, ixL_last, cutD_take, cutD_drop, Kp_run, Fd_run, Wp_ok, Wp_exc, NcCl, if_true, if_false, Bool.false_eq_true, decide_true, decide_false, Bool.not_true, Bool.not_false, lenOk_le, addT', addL', muAppend', List.length_cons, List.length_nil, List.length_map, List.length_append, List.length_set, List.length_singleton, Nat.reduceAdd, Nat.reduceSub, Nat.zero_add, List.replicate_succ, List.replicate_zero, List.cons_append, List.nil_append, List.map_cons, List.map_nil, Nat.reduceLeDiff, triD], by first | rfl | simp (disch := (first | omega | (simp only [List.length_cons, List.length_nil, List.length_map, List.length_append, List.length_set, List.length_take, List.length_drop, List.length_replicate, List.length_reverse, List.length_range]; omega))) only [run1, run2, run3, run4, run5, dInts, ixT0, ixT1, ixT2, ixT3, ixL0, ixL1, ixL2, ixT_last, ixL_last, cutD_take, cutD_drop, Kp_run, Fd_run, Wp_ok, Wp_exc, NcCl, if_true, if_false, Bool.false_eq_true, decide_true, decide_false, Bool.not_true, Bool.not_false, lenOk_le, addT', addL', muAppend', List.length_cons, List.length_nil, List.length_map, List.length_append, List.length_set, List.length_singleton, Nat.reduceAdd, Nat.reduceSub, Nat.zero_add, List.replicate_succ, List.replicate_zero, List.cons_append, List.nil_append, List.map_cons, List.map_nil, Nat.reduceLeDiff]⟩
  simp (disch := (first | omega | (simp only [List.length_cons, List.length_nil, List.length_map, List.length_append, List.length_set, List.length_take, List.length_drop, List.length_replicate, List.length_reverse, List.length_range]; omega))) only [run1, run2, run3, run4, run5, dInts, ixT0, ixT1, ixT2, ixT3, ixL0, ixL1, ixL2, ixT_last, ixL_last, cutD_take, cutD_drop, Kp_run, Fd_run, Wp_ok, Wp_exc, NcCl, if_true, if_false, Bool.false_eq_true, decide_true, decide_false, Bool.not_true, Bool.not_false, lenOk_le, addT', addL', muAppend', List.length_cons, List.length_nil, List.length_map, List.length_append, List.length_set, List.length_singleton, Nat.reduceAdd, Nat.reduceSub, Nat.zero_add, List.replicate_succ, List.replicate_zero, List.cons_append, List.nil_append, List.map_cons, List.map_nil, Nat.reduceLeDiff, hs]
  simp (disch := (first | omega | (simp only [List.length_cons, List.length_nil, List.length_map, List.length_append, List.length_set, List.length_take, List.length_drop, List.length_replicate, List.length_reverse, List.length_range]; omega))) only [run1, run2, run3, run4, run5, dInts, ixT0, ixT1, ixT2, ixT3, ixL0, ixL1, ixL2, ixT_last, ixL_last, cutD_take, cutD_drop, Kp_run, Fd_run, Wp_ok, Wp_exc, NcCl, if_true, if_false, Bool.false_eq_true, decide_true, decide_false, Bool.not_true, Bool.not_false, lenOk_le, addT', addL', muAppend', List.length_cons, List.length_nil, List.length_map, List.length_append, List.length_set, List.length_singleton, Nat.reduceAdd, Nat.reduceSub, Nat.zero_add, List.replicate_succ, List.replicate_zero, List.cons_append, List.nil_append, List.map_cons, List.map_nil, Nat.reduceLeDiff, c1]
  simp (disch := (first | omega | (simp only [List.length_cons, List.length_nil, List.length_map, List.length_append, List.length_set, List.length_take, List.length_drop, List.length_replicate, List.length_reverse, List.length_range]; omega))) only [run1, run2, run3, run4, run5, dInts, ixT0, ixT1, ixT2, ixT3, ixL0, ixL1, ixL2, ixT_last, ixL_last, cutD_take, cutD_drop, Kp_run, Fd_run, Wp_ok, Wp_exc, NcCl, if_true, if_false, Bool.false_eq_true, decide_true, decide_false, Bool.not_true, Bool.not_false, lenOk_le, addT', addL', muAppend', List.length_cons, List.length_nil, List.length_map, List.length_append, List.length_set, List.length_singleton, Nat.reduceAdd, Nat.reduceSub, Nat.zero_add, List.replicate_succ, List.replicate_zero, List.cons_append, List.nil_append, List.map_cons, List.map_nil, Nat.reduceLeDiff, c2]
  refine ⟨j2, h2', rfl, ys, ts, py, pm, hts.symm, ?_⟩
  simp only [webD, List.map_map]; rfl
end PJ

/-! P10: made webs are webs; drawn standings. -/
namespace PJ
open PySem (PyData Str)
open DL CJ
theorem made_web {n : Nat} (h2 : n ≤ 1000) {ps : List Road} (hp : ps.length ≤ 1000) (hpn : ∀ p ∈ ps, p.1 < n ∧ p.2 < n) {ls : List Int} {ys : List Nat} {ts : List Tri} (py : ys.Perm (List.range n)) (pt : ts.Perm ((ps.zip ls).map (named ys))) :
    WOk ⟨n, ts.map fun t => (t.1, t.2.1), ts.map fun t => t.2.2⟩ ∧ ts.length = min ps.length ls.length ∧ ∀ t ∈ ts, t.2.2 ∈ ls := by
  have hl := pt.length_eq
  simp only [List.length_map, List.length_zip] at hl
  have yl := py.length_eq
  simp only [List.length_range] at yl
  have yb : ∀ i, i < n → ys.getD i 0 < n := fun i hi => by
    rw [getD_at ys i 0 (by omega)]
    have : ys[i] ∈ List.range n := py.mem_iff.mp (List.getElem_mem _)
    simpa using this
  refine ⟨⟨h2, by simp, by simp; omega, fun p hp0 => ?_⟩, hl, fun t ht => ?_⟩
  · obtain ⟨t, ht, rfl⟩ := List.mem_map.mp hp0
    obtain ⟨q, hq1, hq2⟩ := List.mem_map.mp (pt.mem_iff.mp ht)
    subst hq2
    have hb := hpn _ (List.of_mem_zip (a := q.1) (b := q.2) hq1).1
    have := yb _ hb.1; have := yb _ hb.2
    unfold named
    dsimp only
    omega
  · obtain ⟨q, hq1, hq2⟩ := List.mem_map.mp (pt.mem_iff.mp ht)
    subst hq2
    exact (List.of_mem_zip (a := q.1) (b := q.2) hq1).2
theorem standing_ok {j : Jar} (h : JOk j) {w : Web} (hw : WOk w) (h0 : w.rs ≠ []) (hm : ∀ m ∈ w.ms, 0 ≤ m ∧ m < 1000000) : FW (m__law_standing [jD j, webD w]) (JP fun d _ => ∃ s, d = stD s ∧ SOk w s) NX := by
  refine fw_of ?_
  have rl := hw.rl
  have ml := hw.len
  have r0 : 1 ≤ w.rs.length := by
    rcases hr : w.rs with _ | ⟨x, r⟩
    · exact absurd hr h0
    · simp
  simp (disch := (first | omega | (simp only [List.length_cons, List.length_nil, List.length_map, List.length_append, List.length_set, List.length_take, List.length_drop, List.length_replicate, List.length_reverse, List.length_range]; omega))) only [run1, run2, run3, run4, run5, dInts, ixT0, ixT1, ixT2, ixT3, ixL0, ixL1, ixL2, ixT_last, ixL_last, cutD_take, cutD_drop, Kp_run, Fd_run, Wp_ok, Wp_exc, NcCl, if_true, if_false, Bool.false_eq_true, decide_true, decide_false, Bool.not_true, Bool.not_false, lenOk_le, addT', addL', muAppend', List.length_cons, List.length_nil, List.length_map, List.length_append, List.length_set, List.length_singleton, Nat.reduceAdd, Nat.reduceSub, Nat.zero_add, List.replicate_succ, List.replicate_zero, List.cons_append, List.nil_append, List.map_cons, List.map_nil, Nat.reduceLeDiff, N__law_standing, b__law_standing]
  refine wp_call (draw_ok h (many := 4) (by omega) (by omega)) ?_
  rintro d ios ⟨j1, h1, rfl, way, rfl, hway⟩
  simp (disch := (first | omega | (simp only [List.length_cons, List.length_nil, List.length_map, List.length_append, List.length_set, List.length_take, List.length_drop, List.length_replicate, List.length_reverse, List.length_range]; omega))) only [run1, run2, run3, run4, run5, dInts, ixT0, ixT1, ixT2, ixT3, ixL0, ixL1, ixL2, ixT_last, ixL_last, cutD_take, cutD_drop, Kp_run, Fd_run, Wp_ok, Wp_exc, NcCl, if_true, if_false, Bool.false_eq_true, decide_true, decide_false, Bool.not_true, Bool.not_false, lenOk_le, addT', addL', muAppend', List.length_cons, List.length_nil, List.length_map, List.length_append, List.length_set, List.length_singleton, Nat.reduceAdd, Nat.reduceSub, Nat.zero_add, List.replicate_succ, List.replicate_zero, List.cons_append, List.nil_append, List.map_cons, List.map_nil, Nat.reduceLeDiff]
  refine Wp.bind (wp_lcE (wp_lc (g := PyData.int) (f := PyData.int) w.ms (fun pre ys ρ => ∃ j' a, ρ = [jD j', webD w, .int (way : Int), .none, .none, a, .none, .none] ∧ JOk j' ∧ ys.length = pre.length ∧ ∀ i, i < ys.length → 0 ≤ ys.getD i 0 ∧ ys.getD i 0 ≤ w.ms.getD i 0)
    ⟨j1, .none, rfl, h1, rfl, by simp⟩ (fun pre m post ys ρ e ⟨j', a, e1, h', hl, hp⟩ => ?_) (fun ys ρ ⟨j', a, e1, h', hl, hp⟩ => ?_)))
  · subst e1
    have hmm := hm m (by rw [e]; simp)
    have em : m + 1 = ((m.toNat + 1 : Nat) : Int) := by omega
    simp (disch := (first | omega | (simp only [List.length_cons, List.length_nil, List.length_map, List.length_append, List.length_set, List.length_take, List.length_drop, List.length_replicate, List.length_reverse, List.length_range]; omega))) only [run1, run2, run3, run4, run5, dInts, ixT0, ixT1, ixT2, ixT3, ixL0, ixL1, ixL2, ixT_last, ixL_last, cutD_take, cutD_drop, Kp_run, Fd_run, Wp_ok, Wp_exc, NcCl, if_true, if_false, Bool.false_eq_true, decide_true, decide_false, Bool.not_true, Bool.not_false, lenOk_le, addT', addL', muAppend', List.length_cons, List.length_nil, List.length_map, List.length_append, List.length_set, List.length_singleton, Nat.reduceAdd, Nat.reduceSub, Nat.zero_add, List.replicate_succ, List.replicate_zero, List.cons_append, List.nil_append, List.map_cons, List.map_nil, Nat.reduceLeDiff, em]
    refine wp_callE (draw_ok h' (many := m.toNat + 1) (by omega) (by omega)) ?_
    rintro d ios ⟨j2, h2', rfl, k, rfl, hk⟩
    simp (disch := (first | omega | (simp only [List.length_cons, List.length_nil, List.length_map, List.length_append, List.length_set, List.length_take, List.length_drop, List.length_replicate, List.length_reverse, List.length_range]; omega))) only [run1, run2, run3, run4, run5, dInts, ixT0, ixT1, ixT2, ixT3, ixL0, ixL1, ixL2, ixT_last, ixL_last, cutD_take, cutD_drop, Kp_run, Fd_run, Wp_ok, Wp_exc, NcCl, if_true, if_false, Bool.false_eq_true, decide_true, decide_false, Bool.not_true, Bool.not_false, lenOk_le, addT', addL', muAppend', List.length_cons, List.length_nil, List.length_map, List.length_append, List.length_set, List.length_singleton, Nat.reduceAdd, Nat.reduceSub, Nat.zero_add, List.replicate_succ, List.replicate_zero, List.cons_append, List.nil_append, List.map_cons, List.map_nil, Nat.reduceLeDiff]
    refine ⟨(k : Int), rfl, j2, _, rfl, h2', by omega, fun i hi => ?_⟩
    by_cases hi' : i < ys.length
    · have := hp i hi'
      simp only [List.getD_eq_getElem?_getD, List.getElem?_append_left hi'] at this ⊢
      exact this
    · have hi2 : i = ys.length := by omega
      subst hi2
      have e3 : w.ms.getD ys.length 0 = m := by rw [e, hl, List.getD_eq_getElem?_getD]; simp
      rw [e3]
      simp only [List.getD_eq_getElem?_getD, List.getElem?_append_right (Nat.le_refl _), Nat.sub_self, List.getElem?_cons_zero, Option.getD_some]
      omega
  · subst e1
    have fin : ∀ {zs : List Int}, zs.length = w.ms.length → (∀ i, i < zs.length → 0 ≤ zs.getD i 0 ∧ zs.getD i 0 ≤ w.ms.getD i 0) → SOk w zs := fun {zs} hz hq => ⟨by omega, fun i hi => (hq i (by omega)).1, fun i hi => (hq i (by omega)).2⟩
    simp (disch := (first | omega | (simp only [List.length_cons, List.length_nil, List.length_map, List.length_append, List.length_set, List.length_take, List.length_drop, List.length_replicate, List.length_reverse, List.length_range]; omega))) only [run1, run2, run3, run4, run5, dInts, ixT0, ixT1, ixT2, ixT3, ixL0, ixL1, ixL2, ixT_last, ixL_last, cutD_take, cutD_drop, Kp_run, Fd_run, Wp_ok, Wp_exc, NcCl, if_true, if_false, Bool.false_eq_true, decide_true, decide_false, Bool.not_true, Bool.not_false, lenOk_le, addT', addL', muAppend', List.length_cons, List.length_nil, List.length_map, List.length_append, List.length_set, List.length_singleton, Nat.reduceAdd, Nat.reduceSub, Nat.zero_add, List.replicate_succ, List.replicate_zero, List.cons_append, List.nil_append, List.map_cons, List.map_nil, Nat.reduceLeDiff]
    by_cases c : (1 : Int) < (way : Int)
    · simp (disch := (first | omega | (simp only [List.length_cons, List.length_nil, List.length_map, List.length_append, List.length_set, List.length_take, List.length_drop, List.length_replicate, List.length_reverse, List.length_range]; omega))) only [run1, run2, run3, run4, run5, dInts, ixT0, ixT1, ixT2, ixT3, ixL0, ixL1, ixL2, ixT_last, ixL_last, cutD_take, cutD_drop, Kp_run, Fd_run, Wp_ok, Wp_exc, NcCl, if_true, if_false, Bool.false_eq_true, decide_true, decide_false, Bool.not_true, Bool.not_false, lenOk_le, addT', addL', muAppend', List.length_cons, List.length_nil, List.length_map, List.length_append, List.length_set, List.length_singleton, Nat.reduceAdd, Nat.reduceSub, Nat.zero_add, List.replicate_succ, List.replicate_zero, List.cons_append, List.nil_append, List.map_cons, List.map_nil, Nat.reduceLeDiff, c]
      refine Wp.bind (wp_clr (wp_call (draw_ok h' (many := ys.length) (by omega) (by omega)) ?_))
      rintro d ios ⟨j2, h2', rfl, road, rfl, hroad⟩
      have z := enumL_num PyData.int 0 ys
      have c1 := lc_all (f := fun p : Nat × Int => PyData.tuple [.int (p.1 : Int), .int p.2]) (tg := gTupM 2 (gsCons (gSet 6) (gsCons (gSet 7) gsNil))) (test := tYesM)
        (elt := eIf (tTru (eOp2 eqD (eV 6) (eV 4))) (eV 7) (eIf (tTru (eOp2 eqD (eV 2) (eC (.int (2))))) (eC (.int (0))) (eOp2 ixA (eOp2 ixA (eV 1) (eC (.int (2)))) (eV 6))))
        (fun v : PyData × PyData => [jD j2, webD w, .int (way : Int), .list (ys.map .int), .int (road : Int), .none, v.1, v.2]) [6, 7] (fun p => PyData.int (if ((p.1 : Nat) : Int) = (road : Int) then p.2 else if (way : Int) = 2 then 0 else w.ms.getD p.1 0)) (num 0 ys) (.none, .none)
        (fun v => by simp (disch := (first | omega | (simp only [List.length_cons, List.length_nil, List.length_map, List.length_append, List.length_set, List.length_take, List.length_drop, List.length_replicate, List.length_reverse, List.length_range]; omega))) only [run1, run2, run3, run4, run5, dInts, ixT0, ixT1, ixT2, ixT3, ixL0, ixL1, ixL2, ixT_last, ixL_last, cutD_take, cutD_drop, Kp_run, Fd_run, Wp_ok, Wp_exc, NcCl, if_true, if_false, Bool.false_eq_true, decide_true, decide_false, Bool.not_true, Bool.not_false, lenOk_le, addT', addL', muAppend', List.length_cons, List.length_nil, List.length_map, List.length_append, List.length_set, List.length_singleton, Nat.reduceAdd, Nat.reduceSub, Nat.zero_add, List.replicate_succ, List.replicate_zero, List.cons_append, List.nil_append, List.map_cons, List.map_nil, Nat.reduceLeDiff]) fun p hpm v => ⟨(.int (p.1 : Int), .int p.2), by simp (disch := (first | omega | (simp only [List.length_cons, List.length_nil, List.length_map, List.length_append, List.length_set, List.length_take, List.length_drop, List.length_replicate, List.length_reverse, List.length_range]; omega))) only [run1, run2, run3, run4, run5, dInts, ixT0, ixT1, ixT2, ixT3, ixL0, ixL1, ixL2, ixT_last, ixL_last, cutD_take, cutD_drop, Kp_run, Fd_run, Wp_ok, Wp_exc, NcCl, if_true, if_false, Bool.false_eq_true, decide_true, decide_false, Bool.not_true, Bool.not_false, lenOk_le, addT', addL', muAppend', List.length_cons, List.length_nil, List.length_map, List.length_append, List.length_set, List.length_singleton, Nat.reduceAdd, Nat.reduceSub, Nat.zero_add, List.replicate_succ, List.replicate_zero, List.cons_append, List.nil_append, List.map_cons, List.map_nil, Nat.reduceLeDiff], by
          have h3 := (mem_num.mp hpm).2
          have h4 := (List.getElem?_eq_some_iff.mp h3).1
          have e1 := get_intT w.ms p.1 (by omega)
          by_cases c1' : ((p.1 : Nat) : Int) = (road : Int)
          · simp (disch := (first | omega | (simp only [List.length_cons, List.length_nil, List.length_map, List.length_append, List.length_set, List.length_take, List.length_drop, List.length_replicate, List.length_reverse, List.length_range]; omega))) only [run1, run2, run3, run4, run5, dInts, ixT0, ixT1, ixT2, ixT3, ixL0, ixL1, ixL2, ixT_last, ixL_last, cutD_take, cutD_drop, Kp_run, Fd_run, Wp_ok, Wp_exc, NcCl, if_true, if_false, Bool.false_eq_true, decide_true, decide_false, Bool.not_true, Bool.not_false, lenOk_le, addT', addL', muAppend', List.length_cons, List.length_nil, List.length_map, List.length_append, List.length_set, List.length_singleton, Nat.reduceAdd, Nat.reduceSub, Nat.zero_add, List.replicate_succ, List.replicate_zero, List.cons_append, List.nil_append, List.map_cons, List.map_nil, Nat.reduceLeDiff, c1']
          · by_cases c2' : (way : Int) = 2
            · simp (disch := (first | omega | (simp only [List.length_cons, List.length_nil, List.length_map, List.length_append, List.length_set, List.length_take, List.length_drop, List.length_replicate, List.length_reverse, List.length_range]; omega))) only [run1, run2, run3, run4, run5, dInts, ixT0, ixT1, ixT2, ixT3, ixL0, ixL1, ixL2, ixT_last, ixL_last, cutD_take, cutD_drop, Kp_run, Fd_run, Wp_ok, Wp_exc, NcCl, if_true, if_false, Bool.false_eq_true, decide_true, decide_false, Bool.not_true, Bool.not_false, lenOk_le, addT', addL', muAppend', List.length_cons, List.length_nil, List.length_map, List.length_append, List.length_set, List.length_singleton, Nat.reduceAdd, Nat.reduceSub, Nat.zero_add, List.replicate_succ, List.replicate_zero, List.cons_append, List.nil_append, List.map_cons, List.map_nil, Nat.reduceLeDiff, c1', c2']
            · simp (disch := (first | omega | (simp only [List.length_cons, List.length_nil, List.length_map, List.length_append, List.length_set, List.length_take, List.length_drop, List.length_replicate, List.length_reverse, List.length_range]; omega))) only [run1, run2, run3, run4, run5, dInts, ixT0, ixT1, ixT2, ixT3, ixL0, ixL1, ixL2, ixT_last, ixL_last, cutD_take, cutD_drop, Kp_run, Fd_run, Wp_ok, Wp_exc, NcCl, if_true, if_false, Bool.false_eq_true, decide_true, decide_false, Bool.not_true, Bool.not_false, lenOk_le, addT', addL', muAppend', List.length_cons, List.length_nil, List.length_map, List.length_append, List.length_set, List.length_singleton, Nat.reduceAdd, Nat.reduceSub, Nat.zero_add, List.replicate_succ, List.replicate_zero, List.cons_append, List.nil_append, List.map_cons, List.map_nil, Nat.reduceLeDiff, c1', c2', e1]⟩
      have nl := num_length 0 ys
      simp (disch := (first | omega | (simp only [List.length_cons, List.length_nil, List.length_map, List.length_append, List.length_set, List.length_take, List.length_drop, List.length_replicate, List.length_reverse, List.length_range]; omega))) only [run1, run2, run3, run4, run5, dInts, ixT0, ixT1, ixT2, ixT3, ixL0, ixL1, ixL2, ixT_last, ixL_last, cutD_take, cutD_drop, Kp_run, Fd_run, Wp_ok, Wp_exc, NcCl, if_true, if_false, Bool.false_eq_true, decide_true, decide_false, Bool.not_true, Bool.not_false, lenOk_le, addT', addL', muAppend', List.length_cons, List.length_nil, List.length_map, List.length_append, List.length_set, List.length_singleton, Nat.reduceAdd, Nat.reduceSub, Nat.zero_add, List.replicate_succ, List.replicate_zero, List.cons_append, List.nil_append, List.map_cons, List.map_nil, Nat.reduceLeDiff, z]
      simp (disch := (first | omega | (simp only [List.length_cons, List.length_nil, List.length_map, List.length_append, List.length_set, List.length_take, List.length_drop, List.length_replicate, List.length_reverse, List.length_range]; omega))) only [run1, run2, run3, run4, run5, dInts, ixT0, ixT1, ixT2, ixT3, ixL0, ixL1, ixL2, ixT_last, ixL_last, cutD_take, cutD_drop, Kp_run, Fd_run, Wp_ok, Wp_exc, NcCl, if_true, if_false, Bool.false_eq_true, decide_true, decide_false, Bool.not_true, Bool.not_false, lenOk_le, addT', addL', muAppend', List.length_cons, List.length_nil, List.length_map, List.length_append, List.length_set, List.length_singleton, Nat.reduceAdd, Nat.reduceSub, Nat.zero_add, List.replicate_succ, List.replicate_zero, List.cons_append, List.nil_append, List.map_cons, List.map_nil, Nat.reduceLeDiff, c1]
      refine ⟨j2, h2', rfl, (num 0 ys).map fun p => if ((p.1 : Nat) : Int) = (road : Int) then p.2 else if (way : Int) = 2 then 0 else w.ms.getD p.1 0, by simp only [stD, List.map_map]; rfl, fin (by simp; omega) fun i hi => ?_⟩
      rw [List.length_map, nl] at hi
      have hn : (num 0 ys)[i]? = some (i, ys.getD i 0) := by
        have key : ∀ (k : Nat) (zs : List Int) (i : Nat), i < zs.length → (num k zs)[i]? = some (k + i, zs.getD i 0) := by
          intro k zs
          induction zs generalizing k with
          | nil => intro i hi; simp at hi
          | cons z zs ih =>
            intro i hi
            cases i with
            | zero => simp [num]
            | succ i => simp only [num, List.getElem?_cons_succ, List.getD_cons_succ]; rw [ih (k + 1) i (by simpa using hi)]; congr 2; omega
        simpa using key 0 ys i hi
      rw [List.getD_eq_getElem?_getD, List.getElem?_map, hn]
      have := hp i hi
      have hmi : w.ms.getD i 0 ∈ w.ms := by rw [getD_at _ _ _ (by omega)]; exact List.getElem_mem _
      have := hm _ hmi
      simp only [Option.map_some, Option.getD_some]
      split
      · omega
      · split <;> omega
    · simp (disch := (first | omega | (simp only [List.length_cons, List.length_nil, List.length_map, List.length_append, List.length_set, List.length_take, List.length_drop, List.length_replicate, List.length_reverse, List.length_range]; omega))) only [run1, run2, run3, run4, run5, dInts, ixT0, ixT1, ixT2, ixT3, ixL0, ixL1, ixL2, ixT_last, ixL_last, cutD_take, cutD_drop, Kp_run, Fd_run, Wp_ok, Wp_exc, NcCl, if_true, if_false, Bool.false_eq_true, decide_true, decide_false, Bool.not_true, Bool.not_false, lenOk_le, addT', addL', muAppend', List.length_cons, List.length_nil, List.length_map, List.length_append, List.length_set, List.length_singleton, Nat.reduceAdd, Nat.reduceSub, Nat.zero_add, List.replicate_succ, List.replicate_zero, List.cons_append, List.nil_append, List.map_cons, List.map_nil, Nat.reduceLeDiff, c]
      exact ⟨j', h', rfl, ys, rfl, fin (by omega) hp⟩
end PJ

/-! P11: the small webs of the jar. -/
namespace PJ
open PySem (PyData Str)
open DL CJ
structure WebG (w : Web) : Prop where
  ok : WOk w
  ne : w.rs ≠ []
  n2 : 2 ≤ w.n
  n8 : w.n ≤ 8
  r7 : w.rs.length ≤ 7
  ms : ∀ m ∈ w.ms, 1 ≤ m ∧ m ≤ 3
  few : prodP w.ms ≤ 128
theorem prodP_le (M : Nat) : ∀ ms : List Int, (∀ m ∈ ms, m ≤ (M : Int)) → prodP ms ≤ (M + 1) ^ ms.length
  | [], _ => by simp [prodP]
  | m :: ms, h => by
    have h1 := h m (by simp)
    have ih := prodP_le M ms fun x hx => h x (by simp [hx])
    unfold prodP
    rw [List.length_cons, Nat.pow_succ, Nat.mul_comm]
    exact Nat.mul_le_mul ih (by omega)
theorem pow_le_pow_r {a m n : Nat} (h : 1 ≤ a) (hmn : m ≤ n) : a ^ m ≤ a ^ n := Nat.pow_le_pow_right h hmn
structure PO (way n : Nat) (ps : List Road) : Prop where
  n2 : 2 ≤ n
  n8 : n ≤ 8
  ends : ∀ p ∈ ps, p.1 < n ∧ p.2 < n
  l1 : 1 ≤ ps.length
  l7 : ps.length ≤ 7
  six : way = 6 → ps.length ≤ 4
theorem web_end {j : Jar} (h : JOk j) {way n : Nat} {ps : List Road} (po : PO way n ps) {most : Nat} (hm : 1 ≤ most) (hm2 : most ≤ 3) (hf : (most + 1) ^ ps.length ≤ 128) {ls : List Int} (hl : ls.length = ps.length) (hb : ∀ l ∈ ls, 1 ≤ l ∧ l ≤ (most : Int)) :
    FW (m__law_made [jD j, .int (n : Int), .list (ps.map roadD), .list (ls.map .int)]) (JP fun d _ => ∃ w, d = webD w ∧ WebG w) NX := by
  have n8 := po.n8
  have l7 := po.l7
  refine (made_ok h (by omega) ps (by omega) po.ends ls).mono ?_ fun _ _ z => z
  rintro d ios ⟨j', h', rfl, ys, ts, py, pt, _, rfl⟩
  obtain ⟨w1, w2, w3⟩ := made_web (by omega) (by omega) po.ends py pt
  have tl : ts.length = ps.length := by omega
  refine ⟨j', h', rfl, _, rfl, w1, ?_, po.n2, po.n8, by simp; omega, fun m hm => ?_, ?_⟩
  · intro e
    have e2 := congrArg List.length e
    have := po.l1
    dsimp only at e2
    rw [List.length_map, List.length_nil] at e2
    omega
  · obtain ⟨t, ht, rfl⟩ := List.mem_map.mp hm
    have := hb _ (w3 t ht)
    omega
  · refine Nat.le_trans (prodP_le most _ fun m hm => ?_) (by simpa [tl] using hf)
    obtain ⟨t, ht, rfl⟩ := List.mem_map.mp hm
    exact (hb _ (w3 t ht)).2
theorem web_ok {j : Jar} (h : JOk j) : FW (m__law_web [jD j]) (JP fun d _ => ∃ w, d = webD w ∧ WebG w) NX := by
  refine fw_of ?_
  simp (disch := (first | omega | (simp only [List.length_cons, List.length_nil, List.length_map, List.length_append, List.length_set, List.length_take, List.length_drop, List.length_replicate, List.length_reverse, List.length_range]; omega))) only [run1, run2, run3, run4, run5, dInts, ixT0, ixT1, ixT2, ixT3, ixL0, ixL1, ixL2, ixT_last, ixL_last, cutD_take, cutD_drop, Kp_run, Fd_run, Wp_ok, Wp_exc, NcCl, if_true, if_false, Bool.false_eq_true, decide_true, decide_false, Bool.not_true, Bool.not_false, lenOk_le, addT', addL', muAppend', List.length_cons, List.length_nil, List.length_map, List.length_append, List.length_set, List.length_singleton, Nat.reduceAdd, Nat.reduceSub, Nat.zero_add, List.replicate_succ, List.replicate_zero, List.cons_append, List.nil_append, List.map_cons, List.map_nil, Nat.reduceLeDiff, N__law_web, b__law_web]
  refine wp_call (draw_ok h (many := 8) (by omega) (by omega)) ?_
  rintro d ios ⟨j1, h1, rfl, way, rfl, hway⟩
  simp (disch := (first | omega | (simp only [List.length_cons, List.length_nil, List.length_map, List.length_append, List.length_set, List.length_take, List.length_drop, List.length_replicate, List.length_reverse, List.length_range]; omega))) only [run1, run2, run3, run4, run5, dInts, ixT0, ixT1, ixT2, ixT3, ixL0, ixL1, ixL2, ixT_last, ixL_last, cutD_take, cutD_drop, Kp_run, Fd_run, Wp_ok, Wp_exc, NcCl, if_true, if_false, Bool.false_eq_true, decide_true, decide_false, Bool.not_true, Bool.not_false, lenOk_le, addT', addL', muAppend', List.length_cons, List.length_nil, List.length_map, List.length_append, List.length_set, List.length_singleton, Nat.reduceAdd, Nat.reduceSub, Nat.zero_add, List.replicate_succ, List.replicate_zero, List.cons_append, List.nil_append, List.map_cons, List.map_nil, Nat.reduceLeDiff]
  refine wp_call (draw_ok h1 (many := 3) (by omega) (by omega)) ?_
  rintro d ios ⟨j2, h2, rfl, f3, rfl, hf3⟩
  have r0 : rgE [.int (5 + (f3 : Int) - 1)] = M.pure ((List.range (4 + f3)).map fun i : Nat => PyData.int (i : Int)) := by
    rw [show (5 + (f3 : Int) - 1) = ((4 + f3 : Nat) : Int) by omega]; exact rgE1 (4 + f3) (by omega)
  have c0 := lc_all (f := fun i : Nat => PyData.int (i : Int)) (tg := gSet 3) (test := tYesM) (elt := eTup (aCons (eV 3) (aCons (eOp2 addD (eV 3) (eC (.int (1)))) aNil)))
    (fun v : PyData => [jD j2, .int (way : Int), .int (5 + (f3 : Int)), v, .none, .none, .none, .none, .none, .none, .none]) [3] (fun i => roadD (i, i + 1)) (List.range (4 + f3)) .none (fun v => by simp (disch := (first | omega | (simp only [List.length_cons, List.length_nil, List.length_map, List.length_append, List.length_set, List.length_take, List.length_drop, List.length_replicate, List.length_reverse, List.length_range]; omega))) only [run1, run2, run3, run4, run5, dInts, ixT0, ixT1, ixT2, ixT3, ixL0, ixL1, ixL2, ixT_last, ixL_last, cutD_take, cutD_drop, Kp_run, Fd_run, Wp_ok, Wp_exc, NcCl, if_true, if_false, Bool.false_eq_true, decide_true, decide_false, Bool.not_true, Bool.not_false, lenOk_le, addT', addL', muAppend', List.length_cons, List.length_nil, List.length_map, List.length_append, List.length_set, List.length_singleton, Nat.reduceAdd, Nat.reduceSub, Nat.zero_add, List.replicate_succ, List.replicate_zero, List.cons_append, List.nil_append, List.map_cons, List.map_nil, Nat.reduceLeDiff]) fun i _ v => ⟨.int (i : Int), by simp (disch := (first | omega | (simp only [List.length_cons, List.length_nil, List.length_map, List.length_append, List.length_set, List.length_take, List.length_drop, List.length_replicate, List.length_reverse, List.length_range]; omega))) only [run1, run2, run3, run4, run5, dInts, ixT0, ixT1, ixT2, ixT3, ixL0, ixL1, ixL2, ixT_last, ixL_last, cutD_take, cutD_drop, Kp_run, Fd_run, Wp_ok, Wp_exc, NcCl, if_true, if_false, Bool.false_eq_true, decide_true, decide_false, Bool.not_true, Bool.not_false, lenOk_le, addT', addL', muAppend', List.length_cons, List.length_nil, List.length_map, List.length_append, List.length_set, List.length_singleton, Nat.reduceAdd, Nat.reduceSub, Nat.zero_add, List.replicate_succ, List.replicate_zero, List.cons_append, List.nil_append, List.map_cons, List.map_nil, Nat.reduceLeDiff], by
      have : ((i : Int) + 1) = ((i + 1 : Nat) : Int) := by omega
      simp (disch := (first | omega | (simp only [List.length_cons, List.length_nil, List.length_map, List.length_append, List.length_set, List.length_take, List.length_drop, List.length_replicate, List.length_reverse, List.length_range]; omega))) only [run1, run2, run3, run4, run5, dInts, ixT0, ixT1, ixT2, ixT3, ixL0, ixL1, ixL2, ixT_last, ixL_last, cutD_take, cutD_drop, Kp_run, Fd_run, Wp_ok, Wp_exc, NcCl, if_true, if_false, Bool.false_eq_true, decide_true, decide_false, Bool.not_true, Bool.not_false, lenOk_le, addT', addL', muAppend', List.length_cons, List.length_nil, List.length_map, List.length_append, List.length_set, List.length_singleton, Nat.reduceAdd, Nat.reduceSub, Nat.zero_add, List.replicate_succ, List.replicate_zero, List.cons_append, List.nil_append, List.map_cons, List.map_nil, Nat.reduceLeDiff, this]⟩
  simp (disch := (first | omega | (simp only [List.length_cons, List.length_nil, List.length_map, List.length_append, List.length_set, List.length_take, List.length_drop, List.length_replicate, List.length_reverse, List.length_range]; omega))) only [run1, run2, run3, run4, run5, dInts, ixT0, ixT1, ixT2, ixT3, ixL0, ixL1, ixL2, ixT_last, ixL_last, cutD_take, cutD_drop, Kp_run, Fd_run, Wp_ok, Wp_exc, NcCl, if_true, if_false, Bool.false_eq_true, decide_true, decide_false, Bool.not_true, Bool.not_false, lenOk_le, addT', addL', muAppend', List.length_cons, List.length_nil, List.length_map, List.length_append, List.length_set, List.length_singleton, Nat.reduceAdd, Nat.reduceSub, Nat.zero_add, List.replicate_succ, List.replicate_zero, List.cons_append, List.nil_append, List.map_cons, List.map_nil, Nat.reduceLeDiff, r0, List.length_range]
  simp (disch := (first | omega | (simp only [List.length_cons, List.length_nil, List.length_map, List.length_append, List.length_set, List.length_take, List.length_drop, List.length_replicate, List.length_reverse, List.length_range]; omega))) only [run1, run2, run3, run4, run5, dInts, ixT0, ixT1, ixT2, ixT3, ixL0, ixL1, ixL2, ixT_last, ixL_last, cutD_take, cutD_drop, Kp_run, Fd_run, Wp_ok, Wp_exc, NcCl, if_true, if_false, Bool.false_eq_true, decide_true, decide_false, Bool.not_true, Bool.not_false, lenOk_le, addT', addL', muAppend', List.length_cons, List.length_nil, List.length_map, List.length_append, List.length_set, List.length_singleton, Nat.reduceAdd, Nat.reduceSub, Nat.zero_add, List.replicate_succ, List.replicate_zero, List.cons_append, List.nil_append, List.map_cons, List.map_nil, Nat.reduceLeDiff, c0]
  have pm : ((List.range (4 + f3)).map fun i => roadD (i, i + 1)) = ((List.range (4 + f3)).map fun i => (i, i + 1)).map roadD := by rw [List.map_map]; rfl
  rw [pm]
  generalize hps : ((List.range (4 + f3)).map fun i => (i, i + 1)) = path
  have pl : path.length = 4 + f3 := by rw [← hps]; simp
  have pb : ∀ p ∈ path, p.1 < 5 + f3 ∧ p.2 < 5 + f3 := by
    intro p hp
    rw [← hps] at hp
    obtain ⟨i, hi, rfl⟩ := List.mem_map.mp hp
    rw [List.mem_range] at hi
    dsimp only; omega
  refine Wp.bind (Wp.mono (Q := fun fl ρ => fl = .nx ∧ ∃ j n ps, ρ = [jD j, .int (way : Int), .none, .none, .list (ps.map roadD), .int ((n : Nat) : Int), .none, .none, .none, .none, .none] ∧ JOk j ∧ PO way n ps) (E := fun _ _ => False) ?_ ?_ fun _ _ z => z)
  · by_cases w1 : (way : Int) = 1
    · have e : (5 + (f3 : Int) - 1) = ((4 + f3 : Nat) : Int) := by omega
      simp (disch := (first | omega | (simp only [List.length_cons, List.length_nil, List.length_map, List.length_append, List.length_set, List.length_take, List.length_drop, List.length_replicate, List.length_reverse, List.length_range]; omega))) only [run1, run2, run3, run4, run5, dInts, ixT0, ixT1, ixT2, ixT3, ixL0, ixL1, ixL2, ixT_last, ixL_last, cutD_take, cutD_drop, Kp_run, Fd_run, Wp_ok, Wp_exc, NcCl, if_true, if_false, Bool.false_eq_true, decide_true, decide_false, Bool.not_true, Bool.not_false, lenOk_le, addT', addL', muAppend', List.length_cons, List.length_nil, List.length_map, List.length_append, List.length_set, List.length_singleton, Nat.reduceAdd, Nat.reduceSub, Nat.zero_add, List.replicate_succ, List.replicate_zero, List.cons_append, List.nil_append, List.map_cons, List.map_nil, Nat.reduceLeDiff, decide_eq_true w1, e]
      refine ⟨trivial, j2, 5 + f3, path ++ [(0, 4 + f3)], ?_, h2, ⟨by omega, by omega, fun p hp => ?_, by simp, by simp; omega, by omega⟩⟩
      · simp only [List.map_append, List.map_cons, List.map_nil]; rfl
      · rcases List.mem_append.mp hp with z | z
        · exact pb p z
        · simp at z; subst z; exact ⟨by dsimp only; omega, by dsimp only; omega⟩
    by_cases w2 : (way : Int) = 2
    · simp (disch := (first | omega | (simp only [List.length_cons, List.length_nil, List.length_map, List.length_append, List.length_set, List.length_take, List.length_drop, List.length_replicate, List.length_reverse, List.length_range]; omega))) only [run1, run2, run3, run4, run5, dInts, ixT0, ixT1, ixT2, ixT3, ixL0, ixL1, ixL2, ixT_last, ixL_last, cutD_take, cutD_drop, Kp_run, Fd_run, Wp_ok, Wp_exc, NcCl, if_true, if_false, Bool.false_eq_true, decide_true, decide_false, Bool.not_true, Bool.not_false, lenOk_le, addT', addL', muAppend', List.length_cons, List.length_nil, List.length_map, List.length_append, List.length_set, List.length_singleton, Nat.reduceAdd, Nat.reduceSub, Nat.zero_add, List.replicate_succ, List.replicate_zero, List.cons_append, List.nil_append, List.map_cons, List.map_nil, Nat.reduceLeDiff, decide_eq_false w1, decide_eq_true w2]
      refine wp_clr ?_
      refine wp_call (draw_ok h2 (many := 6) (by omega) (by omega)) ?_
      rintro d ios ⟨j3, h3, rfl, k, rfl, hk⟩
      have e : (3 + (k : Int)) = ((3 + k : Nat) : Int) := by omega
      simp (disch := (first | omega | (simp only [List.length_cons, List.length_nil, List.length_map, List.length_append, List.length_set, List.length_take, List.length_drop, List.length_replicate, List.length_reverse, List.length_range]; omega))) only [run1, run2, run3, run4, run5, dInts, ixT0, ixT1, ixT2, ixT3, ixL0, ixL1, ixL2, ixT_last, ixL_last, cutD_take, cutD_drop, Kp_run, Fd_run, Wp_ok, Wp_exc, NcCl, if_true, if_false, Bool.false_eq_true, decide_true, decide_false, Bool.not_true, Bool.not_false, lenOk_le, addT', addL', muAppend', List.length_cons, List.length_nil, List.length_map, List.length_append, List.length_set, List.length_singleton, Nat.reduceAdd, Nat.reduceSub, Nat.zero_add, List.replicate_succ, List.replicate_zero, List.cons_append, List.nil_append, List.map_cons, List.map_nil, Nat.reduceLeDiff, e]
      refine wp_call (tree_ok h3 (n := 3 + k) (by omega) (by omega)) ?_
      rintro d ios ⟨j4, h4, rfl, ps, rfl, l, hp⟩
      simp (disch := (first | omega | (simp only [List.length_cons, List.length_nil, List.length_map, List.length_append, List.length_set, List.length_take, List.length_drop, List.length_replicate, List.length_reverse, List.length_range]; omega))) only [run1, run2, run3, run4, run5, dInts, ixT0, ixT1, ixT2, ixT3, ixL0, ixL1, ixL2, ixT_last, ixL_last, cutD_take, cutD_drop, Kp_run, Fd_run, Wp_ok, Wp_exc, NcCl, if_true, if_false, Bool.false_eq_true, decide_true, decide_false, Bool.not_true, Bool.not_false, lenOk_le, addT', addL', muAppend', List.length_cons, List.length_nil, List.length_map, List.length_append, List.length_set, List.length_singleton, Nat.reduceAdd, Nat.reduceSub, Nat.zero_add, List.replicate_succ, List.replicate_zero, List.cons_append, List.nil_append, List.map_cons, List.map_nil, Nat.reduceLeDiff]
      exact ⟨trivial, j4, 3 + k, ps, rfl, h4, ⟨by omega, by omega, fun p z => by have := hp p z; omega, by omega, by omega, by omega⟩⟩
    by_cases w3 : (way : Int) = 3
    · simp (disch := (first | omega | (simp only [List.length_cons, List.length_nil, List.length_map, List.length_append, List.length_set, List.length_take, List.length_drop, List.length_replicate, List.length_reverse, List.length_range]; omega))) only [run1, run2, run3, run4, run5, dInts, ixT0, ixT1, ixT2, ixT3, ixL0, ixL1, ixL2, ixT_last, ixL_last, cutD_take, cutD_drop, Kp_run, Fd_run, Wp_ok, Wp_exc, NcCl, if_true, if_false, Bool.false_eq_true, decide_true, decide_false, Bool.not_true, Bool.not_false, lenOk_le, addT', addL', muAppend', List.length_cons, List.length_nil, List.length_map, List.length_append, List.length_set, List.length_singleton, Nat.reduceAdd, Nat.reduceSub, Nat.zero_add, List.replicate_succ, List.replicate_zero, List.cons_append, List.nil_append, List.map_cons, List.map_nil, Nat.reduceLeDiff, decide_eq_false w1, decide_eq_false w2, decide_eq_true w3]
      refine wp_clr ?_
      refine wp_call (draw_ok h2 (many := 3) (by omega) (by omega)) ?_
      rintro d ios ⟨j3, h3, rfl, k, rfl, hk⟩
      have e : (4 + (k : Int)) = ((4 + k : Nat) : Int) := by omega
      simp (disch := (first | omega | (simp only [List.length_cons, List.length_nil, List.length_map, List.length_append, List.length_set, List.length_take, List.length_drop, List.length_replicate, List.length_reverse, List.length_range]; omega))) only [run1, run2, run3, run4, run5, dInts, ixT0, ixT1, ixT2, ixT3, ixL0, ixL1, ixL2, ixT_last, ixL_last, cutD_take, cutD_drop, Kp_run, Fd_run, Wp_ok, Wp_exc, NcCl, if_true, if_false, Bool.false_eq_true, decide_true, decide_false, Bool.not_true, Bool.not_false, lenOk_le, addT', addL', muAppend', List.length_cons, List.length_nil, List.length_map, List.length_append, List.length_set, List.length_singleton, Nat.reduceAdd, Nat.reduceSub, Nat.zero_add, List.replicate_succ, List.replicate_zero, List.cons_append, List.nil_append, List.map_cons, List.map_nil, Nat.reduceLeDiff, e]
      refine wp_call (tree_ok h3 (n := 4 + k) (by omega) (by omega)) ?_
      rintro d ios ⟨j4, h4, rfl, ps, rfl, l, hp⟩
      simp (disch := (first | omega | (simp only [List.length_cons, List.length_nil, List.length_map, List.length_append, List.length_set, List.length_take, List.length_drop, List.length_replicate, List.length_reverse, List.length_range]; omega))) only [run1, run2, run3, run4, run5, dInts, ixT0, ixT1, ixT2, ixT3, ixL0, ixL1, ixL2, ixT_last, ixL_last, cutD_take, cutD_drop, Kp_run, Fd_run, Wp_ok, Wp_exc, NcCl, if_true, if_false, Bool.false_eq_true, decide_true, decide_false, Bool.not_true, Bool.not_false, lenOk_le, addT', addL', muAppend', List.length_cons, List.length_nil, List.length_map, List.length_append, List.length_set, List.length_singleton, Nat.reduceAdd, Nat.reduceSub, Nat.zero_add, List.replicate_succ, List.replicate_zero, List.cons_append, List.nil_append, List.map_cons, List.map_nil, Nat.reduceLeDiff]
      refine wp_call (draw_ok h4 (many := 2) (by omega) (by omega)) ?_
      rintro d ios ⟨j5, h5, rfl, m, rfl, hm⟩
      have e2 : (1 + (m : Int)) = ((1 + m : Nat) : Int) := by omega
      simp (disch := (first | omega | (simp only [List.length_cons, List.length_nil, List.length_map, List.length_append, List.length_set, List.length_take, List.length_drop, List.length_replicate, List.length_reverse, List.length_range]; omega))) only [run1, run2, run3, run4, run5, dInts, ixT0, ixT1, ixT2, ixT3, ixL0, ixL1, ixL2, ixT_last, ixL_last, cutD_take, cutD_drop, Kp_run, Fd_run, Wp_ok, Wp_exc, NcCl, if_true, if_false, Bool.false_eq_true, decide_true, decide_false, Bool.not_true, Bool.not_false, lenOk_le, addT', addL', muAppend', List.length_cons, List.length_nil, List.length_map, List.length_append, List.length_set, List.length_singleton, Nat.reduceAdd, Nat.reduceSub, Nat.zero_add, List.replicate_succ, List.replicate_zero, List.cons_append, List.nil_append, List.map_cons, List.map_nil, Nat.reduceLeDiff, e2]
      refine wp_call (more_ok h5 (n := 4 + k) (by omega) ps (by omega) (1 + m)) ?_
      rintro d ios ⟨j6, h6, rfl, qs, rfl, ql, hq⟩
      simp (disch := (first | omega | (simp only [List.length_cons, List.length_nil, List.length_map, List.length_append, List.length_set, List.length_take, List.length_drop, List.length_replicate, List.length_reverse, List.length_range]; omega))) only [run1, run2, run3, run4, run5, dInts, ixT0, ixT1, ixT2, ixT3, ixL0, ixL1, ixL2, ixT_last, ixL_last, cutD_take, cutD_drop, Kp_run, Fd_run, Wp_ok, Wp_exc, NcCl, if_true, if_false, Bool.false_eq_true, decide_true, decide_false, Bool.not_true, Bool.not_false, lenOk_le, addT', addL', muAppend', List.length_cons, List.length_nil, List.length_map, List.length_append, List.length_set, List.length_singleton, Nat.reduceAdd, Nat.reduceSub, Nat.zero_add, List.replicate_succ, List.replicate_zero, List.cons_append, List.nil_append, List.map_cons, List.map_nil, Nat.reduceLeDiff]
      refine ⟨trivial, j6, 4 + k, ps ++ qs, rfl, h6, ⟨by omega, by omega, fun p z => ?_, by simp; omega, by simp; omega, by omega⟩⟩
      rcases List.mem_append.mp z with z | z
      · have := hp p z; omega
      · have := hq p z; omega
    by_cases w4 : (way : Int) = 4
    · simp (disch := (first | omega | (simp only [List.length_cons, List.length_nil, List.length_map, List.length_append, List.length_set, List.length_take, List.length_drop, List.length_replicate, List.length_reverse, List.length_range]; omega))) only [run1, run2, run3, run4, run5, dInts, ixT0, ixT1, ixT2, ixT3, ixL0, ixL1, ixL2, ixT_last, ixL_last, cutD_take, cutD_drop, Kp_run, Fd_run, Wp_ok, Wp_exc, NcCl, if_true, if_false, Bool.false_eq_true, decide_true, decide_false, Bool.not_true, Bool.not_false, lenOk_le, addT', addL', muAppend', List.length_cons, List.length_nil, List.length_map, List.length_append, List.length_set, List.length_singleton, Nat.reduceAdd, Nat.reduceSub, Nat.zero_add, List.replicate_succ, List.replicate_zero, List.cons_append, List.nil_append, List.map_cons, List.map_nil, Nat.reduceLeDiff, decide_eq_false w1, decide_eq_false w2, decide_eq_false w3, decide_eq_true w4]
      refine wp_clr ?_
      refine wp_call (pick_ok h2 (by simp) (by simp)) ?_
      rintro d ios ⟨j3, h3, rfl, hd⟩
      have mm : ∀ x : Int, mulI (.int 2) (.int x) = some (.int (2 * x)) := fun x => mulI_l (by omega) (by omega)
      simp only [List.mem_cons, List.not_mem_nil, or_false] at hd
      have hd : d = .list [roadD (0, 1), roadD (0, 2), roadD (0, 3)] ∨ d = .list [roadD (0, 1), roadD (1, 2)] := by
        rcases hd with rfl | rfl | rfl
        · exact .inl rfl
        · exact .inl rfl
        · exact .inr rfl
      rcases hd with rfl | rfl
      · simp (disch := (first | omega | (simp only [List.length_cons, List.length_nil, List.length_map, List.length_append, List.length_set, List.length_take, List.length_drop, List.length_replicate, List.length_reverse, List.length_range]; omega))) only [run1, run2, run3, run4, run5, dInts, ixT0, ixT1, ixT2, ixT3, ixL0, ixL1, ixL2, ixT_last, ixL_last, cutD_take, cutD_drop, Kp_run, Fd_run, Wp_ok, Wp_exc, NcCl, if_true, if_false, Bool.false_eq_true, decide_true, decide_false, Bool.not_true, Bool.not_false, lenOk_le, addT', addL', muAppend', List.length_cons, List.length_nil, List.length_map, List.length_append, List.length_set, List.length_singleton, Nat.reduceAdd, Nat.reduceSub, Nat.zero_add, List.replicate_succ, List.replicate_zero, List.cons_append, List.nil_append, List.map_cons, List.map_nil, Nat.reduceLeDiff, mm, enumL, forL_turn, forL_end]
        exact ⟨trivial, j3, 7, [(0, 4), (1, 4), (0, 5), (2, 5), (0, 6), (3, 6)], rfl, h3, ⟨by omega, by omega, by decide, by decide, by decide, by omega⟩⟩
      · simp (disch := (first | omega | (simp only [List.length_cons, List.length_nil, List.length_map, List.length_append, List.length_set, List.length_take, List.length_drop, List.length_replicate, List.length_reverse, List.length_range]; omega))) only [run1, run2, run3, run4, run5, dInts, ixT0, ixT1, ixT2, ixT3, ixL0, ixL1, ixL2, ixT_last, ixL_last, cutD_take, cutD_drop, Kp_run, Fd_run, Wp_ok, Wp_exc, NcCl, if_true, if_false, Bool.false_eq_true, decide_true, decide_false, Bool.not_true, Bool.not_false, lenOk_le, addT', addL', muAppend', List.length_cons, List.length_nil, List.length_map, List.length_append, List.length_set, List.length_singleton, Nat.reduceAdd, Nat.reduceSub, Nat.zero_add, List.replicate_succ, List.replicate_zero, List.cons_append, List.nil_append, List.map_cons, List.map_nil, Nat.reduceLeDiff, mm, enumL, forL_turn, forL_end]
        exact ⟨trivial, j3, 5, [(0, 3), (1, 3), (1, 4), (2, 4)], rfl, h3, ⟨by omega, by omega, by decide, by decide, by decide, by omega⟩⟩
    by_cases w5 : (way : Int) = 5
    · simp (disch := (first | omega | (simp only [List.length_cons, List.length_nil, List.length_map, List.length_append, List.length_set, List.length_take, List.length_drop, List.length_replicate, List.length_reverse, List.length_range]; omega))) only [run1, run2, run3, run4, run5, dInts, ixT0, ixT1, ixT2, ixT3, ixL0, ixL1, ixL2, ixT_last, ixL_last, cutD_take, cutD_drop, Kp_run, Fd_run, Wp_ok, Wp_exc, NcCl, if_true, if_false, Bool.false_eq_true, decide_true, decide_false, Bool.not_true, Bool.not_false, lenOk_le, addT', addL', muAppend', List.length_cons, List.length_nil, List.length_map, List.length_append, List.length_set, List.length_singleton, Nat.reduceAdd, Nat.reduceSub, Nat.zero_add, List.replicate_succ, List.replicate_zero, List.cons_append, List.nil_append, List.map_cons, List.map_nil, Nat.reduceLeDiff, decide_eq_false w1, decide_eq_false w2, decide_eq_false w3, decide_eq_false w4, decide_eq_true w5]
      refine wp_clr ?_
      refine wp_call (pick_ok h2 (by simp) (by simp)) ?_
      rintro d ios ⟨j3, h3, rfl, hd⟩
      obtain ⟨n, rfl, n2, n4⟩ : ∃ n : Nat, d = .int (n : Int) ∧ 2 ≤ n ∧ n ≤ 4 := by
        simp only [List.mem_cons, List.not_mem_nil, or_false] at hd
        rcases hd with rfl | rfl | rfl | rfl | rfl | rfl
        · exact ⟨2, rfl, by omega, by omega⟩
        · exact ⟨3, rfl, by omega, by omega⟩
        · exact ⟨3, rfl, by omega, by omega⟩
        · exact ⟨4, rfl, by omega, by omega⟩
        · exact ⟨4, rfl, by omega, by omega⟩
        · exact ⟨4, rfl, by omega, by omega⟩
      simp (disch := (first | omega | (simp only [List.length_cons, List.length_nil, List.length_map, List.length_append, List.length_set, List.length_take, List.length_drop, List.length_replicate, List.length_reverse, List.length_range]; omega))) only [run1, run2, run3, run4, run5, dInts, ixT0, ixT1, ixT2, ixT3, ixL0, ixL1, ixL2, ixT_last, ixL_last, cutD_take, cutD_drop, Kp_run, Fd_run, Wp_ok, Wp_exc, NcCl, if_true, if_false, Bool.false_eq_true, decide_true, decide_false, Bool.not_true, Bool.not_false, lenOk_le, addT', addL', muAppend', List.length_cons, List.length_nil, List.length_map, List.length_append, List.length_set, List.length_singleton, Nat.reduceAdd, Nat.reduceSub, Nat.zero_add, List.replicate_succ, List.replicate_zero, List.cons_append, List.nil_append, List.map_cons, List.map_nil, Nat.reduceLeDiff]
      refine wp_call (tree_ok h3 (n := n) (by omega) (by omega)) ?_
      rintro d ios ⟨j4, h4, rfl, ps, rfl, l, hp⟩
      simp (disch := (first | omega | (simp only [List.length_cons, List.length_nil, List.length_map, List.length_append, List.length_set, List.length_take, List.length_drop, List.length_replicate, List.length_reverse, List.length_range]; omega))) only [run1, run2, run3, run4, run5, dInts, ixT0, ixT1, ixT2, ixT3, ixL0, ixL1, ixL2, ixT_last, ixL_last, cutD_take, cutD_drop, Kp_run, Fd_run, Wp_ok, Wp_exc, NcCl, if_true, if_false, Bool.false_eq_true, decide_true, decide_false, Bool.not_true, Bool.not_false, lenOk_le, addT', addL', muAppend', List.length_cons, List.length_nil, List.length_map, List.length_append, List.length_set, List.length_singleton, Nat.reduceAdd, Nat.reduceSub, Nat.zero_add, List.replicate_succ, List.replicate_zero, List.cons_append, List.nil_append, List.map_cons, List.map_nil, Nat.reduceLeDiff]
      refine wp_call (draw_ok h4 (many := 3) (by omega) (by omega)) ?_
      rintro d ios ⟨j5, h5, rfl, m, rfl, hm⟩
      simp (disch := (first | omega | (simp only [List.length_cons, List.length_nil, List.length_map, List.length_append, List.length_set, List.length_take, List.length_drop, List.length_replicate, List.length_reverse, List.length_range]; omega))) only [run1, run2, run3, run4, run5, dInts, ixT0, ixT1, ixT2, ixT3, ixL0, ixL1, ixL2, ixT_last, ixL_last, cutD_take, cutD_drop, Kp_run, Fd_run, Wp_ok, Wp_exc, NcCl, if_true, if_false, Bool.false_eq_true, decide_true, decide_false, Bool.not_true, Bool.not_false, lenOk_le, addT', addL', muAppend', List.length_cons, List.length_nil, List.length_map, List.length_append, List.length_set, List.length_singleton, Nat.reduceAdd, Nat.reduceSub, Nat.zero_add, List.replicate_succ, List.replicate_zero, List.cons_append, List.nil_append, List.map_cons, List.map_nil, Nat.reduceLeDiff]
      refine wp_call (more_ok h5 (n := n) (by omega) ps (by omega) m) ?_
      rintro d ios ⟨j6, h6, rfl, qs, rfl, ql, hq⟩
      simp (disch := (first | omega | (simp only [List.length_cons, List.length_nil, List.length_map, List.length_append, List.length_set, List.length_take, List.length_drop, List.length_replicate, List.length_reverse, List.length_range]; omega))) only [run1, run2, run3, run4, run5, dInts, ixT0, ixT1, ixT2, ixT3, ixL0, ixL1, ixL2, ixT_last, ixL_last, cutD_take, cutD_drop, Kp_run, Fd_run, Wp_ok, Wp_exc, NcCl, if_true, if_false, Bool.false_eq_true, decide_true, decide_false, Bool.not_true, Bool.not_false, lenOk_le, addT', addL', muAppend', List.length_cons, List.length_nil, List.length_map, List.length_append, List.length_set, List.length_singleton, Nat.reduceAdd, Nat.reduceSub, Nat.zero_add, List.replicate_succ, List.replicate_zero, List.cons_append, List.nil_append, List.map_cons, List.map_nil, Nat.reduceLeDiff]
      refine ⟨trivial, j6, n, ps ++ qs, rfl, h6, ⟨by omega, by omega, fun p z => ?_, by simp; omega, by simp; omega, by omega⟩⟩
      rcases List.mem_append.mp z with z | z
      · have := hp p z; omega
      · have := hq p z; omega
    by_cases w6 : (way : Int) = 6
    · simp (disch := (first | omega | (simp only [List.length_cons, List.length_nil, List.length_map, List.length_append, List.length_set, List.length_take, List.length_drop, List.length_replicate, List.length_reverse, List.length_range]; omega))) only [run1, run2, run3, run4, run5, dInts, ixT0, ixT1, ixT2, ixT3, ixL0, ixL1, ixL2, ixT_last, ixL_last, cutD_take, cutD_drop, Kp_run, Fd_run, Wp_ok, Wp_exc, NcCl, if_true, if_false, Bool.false_eq_true, decide_true, decide_false, Bool.not_true, Bool.not_false, lenOk_le, addT', addL', muAppend', List.length_cons, List.length_nil, List.length_map, List.length_append, List.length_set, List.length_singleton, Nat.reduceAdd, Nat.reduceSub, Nat.zero_add, List.replicate_succ, List.replicate_zero, List.cons_append, List.nil_append, List.map_cons, List.map_nil, Nat.reduceLeDiff, decide_eq_false w1, decide_eq_false w2, decide_eq_false w3, decide_eq_false w4, decide_eq_false w5, decide_eq_true w6]
      refine wp_clr ?_
      refine wp_call (draw_ok h2 (many := 2) (by omega) (by omega)) ?_
      rintro d ios ⟨j3, h3, rfl, k, rfl, hk⟩
      have e : (3 + (k : Int)) = ((3 + k : Nat) : Int) := by omega
      simp (disch := (first | omega | (simp only [List.length_cons, List.length_nil, List.length_map, List.length_append, List.length_set, List.length_take, List.length_drop, List.length_replicate, List.length_reverse, List.length_range]; omega))) only [run1, run2, run3, run4, run5, dInts, ixT0, ixT1, ixT2, ixT3, ixL0, ixL1, ixL2, ixT_last, ixL_last, cutD_take, cutD_drop, Kp_run, Fd_run, Wp_ok, Wp_exc, NcCl, if_true, if_false, Bool.false_eq_true, decide_true, decide_false, Bool.not_true, Bool.not_false, lenOk_le, addT', addL', muAppend', List.length_cons, List.length_nil, List.length_map, List.length_append, List.length_set, List.length_singleton, Nat.reduceAdd, Nat.reduceSub, Nat.zero_add, List.replicate_succ, List.replicate_zero, List.cons_append, List.nil_append, List.map_cons, List.map_nil, Nat.reduceLeDiff, e]
      refine wp_call (tree_ok h3 (n := 3 + k) (by omega) (by omega)) ?_
      rintro d ios ⟨j4, h4, rfl, ps, rfl, l, hp⟩
      simp (disch := (first | omega | (simp only [List.length_cons, List.length_nil, List.length_map, List.length_append, List.length_set, List.length_take, List.length_drop, List.length_replicate, List.length_reverse, List.length_range]; omega))) only [run1, run2, run3, run4, run5, dInts, ixT0, ixT1, ixT2, ixT3, ixL0, ixL1, ixL2, ixT_last, ixL_last, cutD_take, cutD_drop, Kp_run, Fd_run, Wp_ok, Wp_exc, NcCl, if_true, if_false, Bool.false_eq_true, decide_true, decide_false, Bool.not_true, Bool.not_false, lenOk_le, addT', addL', muAppend', List.length_cons, List.length_nil, List.length_map, List.length_append, List.length_set, List.length_singleton, Nat.reduceAdd, Nat.reduceSub, Nat.zero_add, List.replicate_succ, List.replicate_zero, List.cons_append, List.nil_append, List.map_cons, List.map_nil, Nat.reduceLeDiff]
      refine wp_call (draw_ok h4 (many := 2) (by omega) (by omega)) ?_
      rintro d ios ⟨j5, h5, rfl, m, rfl, hm⟩
      simp (disch := (first | omega | (simp only [List.length_cons, List.length_nil, List.length_map, List.length_append, List.length_set, List.length_take, List.length_drop, List.length_replicate, List.length_reverse, List.length_range]; omega))) only [run1, run2, run3, run4, run5, dInts, ixT0, ixT1, ixT2, ixT3, ixL0, ixL1, ixL2, ixT_last, ixL_last, cutD_take, cutD_drop, Kp_run, Fd_run, Wp_ok, Wp_exc, NcCl, if_true, if_false, Bool.false_eq_true, decide_true, decide_false, Bool.not_true, Bool.not_false, lenOk_le, addT', addL', muAppend', List.length_cons, List.length_nil, List.length_map, List.length_append, List.length_set, List.length_singleton, Nat.reduceAdd, Nat.reduceSub, Nat.zero_add, List.replicate_succ, List.replicate_zero, List.cons_append, List.nil_append, List.map_cons, List.map_nil, Nat.reduceLeDiff]
      refine wp_call (more_ok h5 (n := 3 + k) (by omega) ps (by omega) m) ?_
      rintro d ios ⟨j6, h6, rfl, qs, rfl, ql, hq⟩
      simp (disch := (first | omega | (simp only [List.length_cons, List.length_nil, List.length_map, List.length_append, List.length_set, List.length_take, List.length_drop, List.length_replicate, List.length_reverse, List.length_range]; omega))) only [run1, run2, run3, run4, run5, dInts, ixT0, ixT1, ixT2, ixT3, ixL0, ixL1, ixL2, ixT_last, ixL_last, cutD_take, cutD_drop, Kp_run, Fd_run, Wp_ok, Wp_exc, NcCl, if_true, if_false, Bool.false_eq_true, decide_true, decide_false, Bool.not_true, Bool.not_false, lenOk_le, addT', addL', muAppend', List.length_cons, List.length_nil, List.length_map, List.length_append, List.length_set, List.length_singleton, Nat.reduceAdd, Nat.reduceSub, Nat.zero_add, List.replicate_succ, List.replicate_zero, List.cons_append, List.nil_append, List.map_cons, List.map_nil, Nat.reduceLeDiff]
      refine ⟨trivial, j6, 3 + k, ps ++ qs, rfl, h6, ⟨by omega, by omega, fun p z => ?_, by simp; omega, by simp; omega, fun _ => by simp; omega⟩⟩
      rcases List.mem_append.mp z with z | z
      · have := hp p z; omega
      · have := hq p z; omega
    by_cases w7 : (way : Int) = 7
    · simp (disch := (first | omega | (simp only [List.length_cons, List.length_nil, List.length_map, List.length_append, List.length_set, List.length_take, List.length_drop, List.length_replicate, List.length_reverse, List.length_range]; omega))) only [run1, run2, run3, run4, run5, dInts, ixT0, ixT1, ixT2, ixT3, ixL0, ixL1, ixL2, ixT_last, ixL_last, cutD_take, cutD_drop, Kp_run, Fd_run, Wp_ok, Wp_exc, NcCl, if_true, if_false, Bool.false_eq_true, decide_true, decide_false, Bool.not_true, Bool.not_false, lenOk_le, addT', addL', muAppend', List.length_cons, List.length_nil, List.length_map, List.length_append, List.length_set, List.length_singleton, Nat.reduceAdd, Nat.reduceSub, Nat.zero_add, List.replicate_succ, List.replicate_zero, List.cons_append, List.nil_append, List.map_cons, List.map_nil, Nat.reduceLeDiff, decide_eq_false w1, decide_eq_false w2, decide_eq_false w3, decide_eq_false w4, decide_eq_false w5, decide_eq_false w6, decide_eq_true w7]
      refine wp_clr ?_
      refine wp_call (draw_ok h2 (many := 2) (by omega) (by omega)) ?_
      rintro d ios ⟨j3, h3, rfl, k, rfl, hk⟩
      have e : (4 + (k : Int)) = ((4 + k : Nat) : Int) := by omega
      by_cases k0 : ((4 + k : Nat) : Int) = 4
      · simp (disch := (first | omega | (simp only [List.length_cons, List.length_nil, List.length_map, List.length_append, List.length_set, List.length_take, List.length_drop, List.length_replicate, List.length_reverse, List.length_range]; omega))) only [run1, run2, run3, run4, run5, dInts, ixT0, ixT1, ixT2, ixT3, ixL0, ixL1, ixL2, ixT_last, ixL_last, cutD_take, cutD_drop, Kp_run, Fd_run, Wp_ok, Wp_exc, NcCl, if_true, if_false, Bool.false_eq_true, decide_true, decide_false, Bool.not_true, Bool.not_false, lenOk_le, addT', addL', muAppend', List.length_cons, List.length_nil, List.length_map, List.length_append, List.length_set, List.length_singleton, Nat.reduceAdd, Nat.reduceSub, Nat.zero_add, List.replicate_succ, List.replicate_zero, List.cons_append, List.nil_append, List.map_cons, List.map_nil, Nat.reduceLeDiff, e, k0]
        exact ⟨trivial, j3, 4, [(0, 2), (0, 3), (1, 2), (1, 3), (0, 1), (2, 3)], rfl, h3, ⟨by omega, by omega, by decide, by decide, by decide, by omega⟩⟩
      · simp (disch := (first | omega | (simp only [List.length_cons, List.length_nil, List.length_map, List.length_append, List.length_set, List.length_take, List.length_drop, List.length_replicate, List.length_reverse, List.length_range]; omega))) only [run1, run2, run3, run4, run5, dInts, ixT0, ixT1, ixT2, ixT3, ixL0, ixL1, ixL2, ixT_last, ixL_last, cutD_take, cutD_drop, Kp_run, Fd_run, Wp_ok, Wp_exc, NcCl, if_true, if_false, Bool.false_eq_true, decide_true, decide_false, Bool.not_true, Bool.not_false, lenOk_le, addT', addL', muAppend', List.length_cons, List.length_nil, List.length_map, List.length_append, List.length_set, List.length_singleton, Nat.reduceAdd, Nat.reduceSub, Nat.zero_add, List.replicate_succ, List.replicate_zero, List.cons_append, List.nil_append, List.map_cons, List.map_nil, Nat.reduceLeDiff, e, k0]
        have : k = 1 := by omega
        subst this
        exact ⟨trivial, j3, 5, [(0, 2), (0, 3), (1, 2), (1, 3), (0, 4), (1, 4)], rfl, h3, ⟨by omega, by omega, by decide, by decide, by decide, by omega⟩⟩
    · simp (disch := (first | omega | (simp only [List.length_cons, List.length_nil, List.length_map, List.length_append, List.length_set, List.length_take, List.length_drop, List.length_replicate, List.length_reverse, List.length_range]; omega))) only [run1, run2, run3, run4, run5, dInts, ixT0, ixT1, ixT2, ixT3, ixL0, ixL1, ixL2, ixT_last, ixL_last, cutD_take, cutD_drop, Kp_run, Fd_run, Wp_ok, Wp_exc, NcCl, if_true, if_false, Bool.false_eq_true, decide_true, decide_false, Bool.not_true, Bool.not_false, lenOk_le, addT', addL', muAppend', List.length_cons, List.length_nil, List.length_map, List.length_append, List.length_set, List.length_singleton, Nat.reduceAdd, Nat.reduceSub, Nat.zero_add, List.replicate_succ, List.replicate_zero, List.cons_append, List.nil_append, List.map_cons, List.map_nil, Nat.reduceLeDiff, decide_eq_false w1, decide_eq_false w2, decide_eq_false w3, decide_eq_false w4, decide_eq_false w5, decide_eq_false w6, decide_eq_false w7]
      exact ⟨trivial, j2, 5 + f3, path, by rfl, h2, ⟨by omega, by omega, pb, by omega, by omega, by omega⟩⟩
  · rintro fl ρ ⟨rfl, j3, n, ps, rfl, h3, po⟩
    have l7 := po.l7
    obtain ⟨most, hm1, hm3, hf, hA⟩ : ∃ most : Nat, 1 ≤ most ∧ most ≤ 3 ∧ (most + 1) ^ ps.length ≤ 128 ∧
        (sSet 9 (eOp2 addD (eOp2 addD (eC (.int (1))) (eOp1 intD (eOp2 eqD (eV 1) (eC (.int (6)))))) (eOp1 intD (eAndV (eOp2 eqD (eV 1) (eC (.int (6)))) (eOp2 ltI (eOp1 lenD (eV 4)) (eC (.int (4)))))))) [jD j3, .int (way : Int), .none, .none, .list (ps.map roadD), .int ((n : Nat) : Int), .none, .none, .none, .none, .none]
          = .ok .nx [jD j3, .int (way : Int), .none, .none, .list (ps.map roadD), .int ((n : Nat) : Int), .none, .none, .none, .int (most : Int), .none] := by
      by_cases w6 : (way : Int) = 6
      · by_cases l4 : (ps.length : Int) < 4
        · refine ⟨3, by omega, by omega, Nat.le_trans (Nat.pow_le_pow_right (by omega) (show ps.length ≤ 3 by omega)) (by decide), ?_⟩
          simp (disch := (first | omega | (simp only [List.length_cons, List.length_nil, List.length_map, List.length_append, List.length_set, List.length_take, List.length_drop, List.length_replicate, List.length_reverse, List.length_range]; omega))) only [run1, run2, run3, run4, run5, dInts, ixT0, ixT1, ixT2, ixT3, ixL0, ixL1, ixL2, ixT_last, ixL_last, cutD_take, cutD_drop, Kp_run, Fd_run, Wp_ok, Wp_exc, NcCl, if_true, if_false, Bool.false_eq_true, decide_true, decide_false, Bool.not_true, Bool.not_false, lenOk_le, addT', addL', muAppend', List.length_cons, List.length_nil, List.length_map, List.length_append, List.length_set, List.length_singleton, Nat.reduceAdd, Nat.reduceSub, Nat.zero_add, List.replicate_succ, List.replicate_zero, List.cons_append, List.nil_append, List.map_cons, List.map_nil, Nat.reduceLeDiff, decide_eq_true w6, decide_eq_true l4]
          rfl
        · refine ⟨2, by omega, by omega, Nat.le_trans (Nat.pow_le_pow_right (by omega) (po.six (by omega))) (by decide), ?_⟩
          simp (disch := (first | omega | (simp only [List.length_cons, List.length_nil, List.length_map, List.length_append, List.length_set, List.length_take, List.length_drop, List.length_replicate, List.length_reverse, List.length_range]; omega))) only [run1, run2, run3, run4, run5, dInts, ixT0, ixT1, ixT2, ixT3, ixL0, ixL1, ixL2, ixT_last, ixL_last, cutD_take, cutD_drop, Kp_run, Fd_run, Wp_ok, Wp_exc, NcCl, if_true, if_false, Bool.false_eq_true, decide_true, decide_false, Bool.not_true, Bool.not_false, lenOk_le, addT', addL', muAppend', List.length_cons, List.length_nil, List.length_map, List.length_append, List.length_set, List.length_singleton, Nat.reduceAdd, Nat.reduceSub, Nat.zero_add, List.replicate_succ, List.replicate_zero, List.cons_append, List.nil_append, List.map_cons, List.map_nil, Nat.reduceLeDiff, decide_eq_true w6, decide_eq_false l4]
          rfl
      · refine ⟨1, by omega, by omega, Nat.le_trans (Nat.pow_le_pow_right (by omega) l7) (by decide), ?_⟩
        simp (disch := (first | omega | (simp only [List.length_cons, List.length_nil, List.length_map, List.length_append, List.length_set, List.length_take, List.length_drop, List.length_replicate, List.length_reverse, List.length_range]; omega))) only [run1, run2, run3, run4, run5, dInts, ixT0, ixT1, ixT2, ixT3, ixL0, ixL1, ixL2, ixT_last, ixL_last, cutD_take, cutD_drop, Kp_run, Fd_run, Wp_ok, Wp_exc, NcCl, if_true, if_false, Bool.false_eq_true, decide_true, decide_false, Bool.not_true, Bool.not_false, lenOk_le, addT', addL', muAppend', List.length_cons, List.length_nil, List.length_map, List.length_append, List.length_set, List.length_singleton, Nat.reduceAdd, Nat.reduceSub, Nat.zero_add, List.replicate_succ, List.replicate_zero, List.cons_append, List.nil_append, List.map_cons, List.map_nil, Nat.reduceLeDiff, decide_eq_false w6]
        rfl
    refine wp_sCons hA ?_
    simp (disch := (first | omega | (simp only [List.length_cons, List.length_nil, List.length_map, List.length_append, List.length_set, List.length_take, List.length_drop, List.length_replicate, List.length_reverse, List.length_range]; omega))) only [run1, run2, run3, run4, run5, dInts, ixT0, ixT1, ixT2, ixT3, ixL0, ixL1, ixL2, ixT_last, ixL_last, cutD_take, cutD_drop, Kp_run, Fd_run, Wp_ok, Wp_exc, NcCl, if_true, if_false, Bool.false_eq_true, decide_true, decide_false, Bool.not_true, Bool.not_false, lenOk_le, addT', addL', muAppend', List.length_cons, List.length_nil, List.length_map, List.length_append, List.length_set, List.length_singleton, Nat.reduceAdd, Nat.reduceSub, Nat.zero_add, List.replicate_succ, List.replicate_zero, List.cons_append, List.nil_append, List.map_cons, List.map_nil, Nat.reduceLeDiff]
    refine Wp.bind (wp_lcE (wp_lc (g := PyData.int) (f := roadD) ps (fun pre ys ρ => ∃ j' a, ρ = [jD j', .int (way : Int), .none, .none, .list (ps.map roadD), .int ((n : Nat) : Int), .none, .none, .none, .int (most : Int), a] ∧ JOk j' ∧ ys.length = pre.length ∧ ∀ l ∈ ys, 1 ≤ l ∧ l ≤ (most : Int))
      ⟨j3, .none, rfl, h3, rfl, by simp⟩ (fun pre x post ys ρ e ⟨j', a, e1, h', hl, hb⟩ => ?_) (fun ys ρ ⟨j', a, e1, h', hl, hb⟩ => ?_)))
    · subst e1
      simp (disch := (first | omega | (simp only [List.length_cons, List.length_nil, List.length_map, List.length_append, List.length_set, List.length_take, List.length_drop, List.length_replicate, List.length_reverse, List.length_range]; omega))) only [run1, run2, run3, run4, run5, dInts, ixT0, ixT1, ixT2, ixT3, ixL0, ixL1, ixL2, ixT_last, ixL_last, cutD_take, cutD_drop, Kp_run, Fd_run, Wp_ok, Wp_exc, NcCl, if_true, if_false, Bool.false_eq_true, decide_true, decide_false, Bool.not_true, Bool.not_false, lenOk_le, addT', addL', muAppend', List.length_cons, List.length_nil, List.length_map, List.length_append, List.length_set, List.length_singleton, Nat.reduceAdd, Nat.reduceSub, Nat.zero_add, List.replicate_succ, List.replicate_zero, List.cons_append, List.nil_append, List.map_cons, List.map_nil, Nat.reduceLeDiff]
      refine wp_call (draw_ok h' (many := most) hm1 (by omega)) ?_
      rintro d ios ⟨j4, h4, rfl, k, rfl, hk⟩
      simp (disch := (first | omega | (simp only [List.length_cons, List.length_nil, List.length_map, List.length_append, List.length_set, List.length_take, List.length_drop, List.length_replicate, List.length_reverse, List.length_range]; omega))) only [run1, run2, run3, run4, run5, dInts, ixT0, ixT1, ixT2, ixT3, ixL0, ixL1, ixL2, ixT_last, ixL_last, cutD_take, cutD_drop, Kp_run, Fd_run, Wp_ok, Wp_exc, NcCl, if_true, if_false, Bool.false_eq_true, decide_true, decide_false, Bool.not_true, Bool.not_false, lenOk_le, addT', addL', muAppend', List.length_cons, List.length_nil, List.length_map, List.length_append, List.length_set, List.length_singleton, Nat.reduceAdd, Nat.reduceSub, Nat.zero_add, List.replicate_succ, List.replicate_zero, List.cons_append, List.nil_append, List.map_cons, List.map_nil, Nat.reduceLeDiff]
      refine ⟨1 + (k : Int), rfl, j4, _, rfl, h4, by omega, fun l hl => ?_⟩
      rcases List.mem_append.mp hl with z | z
      · exact hb l z
      · simp at z; subst z; omega
    · subst e1
      simp (disch := (first | omega | (simp only [List.length_cons, List.length_nil, List.length_map, List.length_append, List.length_set, List.length_take, List.length_drop, List.length_replicate, List.length_reverse, List.length_range]; omega))) only [run1, run2, run3, run4, run5, dInts, ixT0, ixT1, ixT2, ixT3, ixL0, ixL1, ixL2, ixT_last, ixL_last, cutD_take, cutD_drop, Kp_run, Fd_run, Wp_ok, Wp_exc, NcCl, if_true, if_false, Bool.false_eq_true, decide_true, decide_false, Bool.not_true, Bool.not_false, lenOk_le, addT', addL', muAppend', List.length_cons, List.length_nil, List.length_map, List.length_append, List.length_set, List.length_singleton, Nat.reduceAdd, Nat.reduceSub, Nat.zero_add, List.replicate_succ, List.replicate_zero, List.cons_append, List.nil_append, List.map_cons, List.map_nil, Nat.reduceLeDiff]
      refine wp_call (web_end h' po hm1 hm3 hf (by simpa using hl) hb) ?_
      rintro d ios ⟨j4, h4, rfl, w, rfl, g⟩
      simp (disch := (first | omega | (simp only [List.length_cons, List.length_nil, List.length_map, List.length_append, List.length_set, List.length_take, List.length_drop, List.length_replicate, List.length_reverse, List.length_range]; omega))) only [run1, run2, run3, run4, run5, dInts, ixT0, ixT1, ixT2, ixT3, ixL0, ixL1, ixL2, ixT_last, ixL_last, cutD_take, cutD_drop, Kp_run, Fd_run, Wp_ok, Wp_exc, NcCl, if_true, if_false, Bool.false_eq_true, decide_true, decide_false, Bool.not_true, Bool.not_false, lenOk_le, addT', addL', muAppend', List.length_cons, List.length_nil, List.length_map, List.length_append, List.length_set, List.length_singleton, Nat.reduceAdd, Nat.reduceSub, Nat.zero_add, List.replicate_succ, List.replicate_zero, List.cons_append, List.nil_append, List.map_cons, List.map_nil, Nat.reduceLeDiff]
      exact ⟨j4, h4, rfl, w, rfl, g⟩
end PJ

/-! P12: ways past closed roads, in small webs. -/
namespace PJ
open PySem (PyData Str)
open DL CJ
theorem WebG.few_rch {w : Web} (g : WebG w) {C : List Nat} {s : Sta} (hs : SOk w s) : ∀ ts : List Sta, ts.Nodup → (∀ t ∈ ts, Rch w C s t) → ts.length ≤ 128 := fun ts h1 h2 => Nat.le_trans (PJ.few_rch g.ok hs ts h1 h2) g.few
/-- what is told of a way -/
def Told (w : Web) (C : List Nat) (s t : Sta) (d : PyData) : Prop := (d = .none ∧ ¬ Rch w C s t) ∨ ∃ ds : List Deed, d = .tuple (ds.map deedD) ∧ wayTo w C s ds t ∧ ds.length ≤ 2000 ∧ (t = s → ds = [])
theorem closed_small {w : Web} (g : WebG w) (C : List Nat) {s t : Sta} (hs : SOk w s) : ∃ d, m_closed_way [webD w, stD s, stD t, shutD C] = .ok d [] ∧ Told w C s t d := by
  have h := closed_way_ok g.ok C (t := t) hs
  cases e : m_closed_way [webD w, stD s, stD t, shutD C] with
  | bad => rw [e] at h; exact h.h.elim
  | exc x ios =>
    rw [e] at h
    obtain ⟨_, _, ts, h1, h2, h3⟩ := h.h
    have := g.few_rch hs ts h1 h2
    omega
  | ok d ios =>
    rw [e] at h
    obtain ⟨rfl, _, h2⟩ := h.h
    exact ⟨d, rfl, h2⟩
theorem wayTo_lt {w : Web} (hw : WOk w) {C : List Nat} : ∀ {ds : List Deed} {s t : Sta}, wayTo w C s ds t → ∀ d ∈ ds, d.1 < 1000 ∧ (d.2 = 1 ∨ d.2 = -1)
  | [], _, _, _, d, hd => by simp at hd
  | e :: ds, s, t, ⟨u, h1, h2, h3⟩, d, hd => by
    rcases List.mem_cons.mp hd with rfl | z
    · have := near_mem hw h1
      have := hw.rl
      refine ⟨by omega, ?_⟩
      rcases (near_mem hw h1).2.2 with ⟨z, _⟩ | ⟨z, _⟩
      · exact .inr z
      · exact .inl z
    · exact wayTo_lt hw h3 d z
theorem sz_deed {d : Deed} (h : d.1 < 1000 ∧ (d.2 = 1 ∨ d.2 = -1)) : Sz (deedD d) 1 82 := by
  refine Sz.tup2 (Sz.int ?_) (Sz.int ?_)
  · omega
  · omega
theorem told_rp {w : Web} (hw : WOk w) {C : List Nat} {s t : Sta} {d : PyData} (h : Told w C s t d) : Rp d := by
  rcases h with ⟨rfl, _⟩ | ⟨ds, rfl, h1, h2, _⟩
  · exact Sz.none.rp (by decide) (by decide)
  · exact (Sz.tup ds fun a ha => sz_deed (wayTo_lt hw h1 a ha)).rp (by decide) (by omega)
theorem near_det {w : Web} (hw : WOk w) {s t u : Sta} {d : Deed} (h1 : (d, t) ∈ near w s) (h2 : (d, u) ∈ near w s) : t = u := by
  rcases (near_mem hw h1).2.2 with ⟨z, _, rfl⟩ | ⟨z, _, rfl⟩ <;> rcases (near_mem hw h2).2.2 with ⟨y, _, rfl⟩ | ⟨y, _, rfl⟩
  · rfl
  · omega
  · omega
  · rfl
theorem wayTo_rch {w : Web} {C : List Nat} : ∀ {ds : List Deed} {r s t : Sta}, Rch w C r s → wayTo w C s ds t → Rch w C r t
  | [], _, _, _, h, e => by cases e; exact h
  | d :: ds, r, s, t, h, ⟨u, h1, h2, h3⟩ => wayTo_rch (.step h ⟨d, h1, h2⟩) h3
theorem sz_st {w : Web} (g : WebG w) {s : Sta} (hs : SOk w s) : Sz (stD s) 1 287 := by
  have hb : ∀ x ∈ s, Sz (PyData.int x) 0 40 := fun x hx => Sz.int (by
    obtain ⟨i, hi, rfl⟩ := List.mem_iff_getElem.mp hx
    have h1 := hs.lo i (by rw [← hs.len]; exact hi)
    have h2 := hs.hi i (by rw [← hs.len]; exact hi)
    have h3 : w.ms.getD i 0 ∈ w.ms := by rw [getD_at _ _ _ (by rw [g.ok.len, ← hs.len]; exact hi)]; exact List.getElem_mem _
    have h4 := g.ms _ h3
    rw [getD_at _ _ _ hi] at h1 h2
    omega)
  have := Sz.tup s hb
  have hl := hs.len
  have h7 := g.r7
  exact ⟨this.sm, this.dp, Nat.le_trans this.wt (by omega)⟩
theorem sz_web {w : Web} (g : WebG w) : Sz (webD w) 3 911 := by
  have h7 := g.r7
  have n8 := g.n8
  have h1 := Sz.tup (f := roadD) w.rs fun p hp => Sz.tup2 (Sz.int (i := (p.1 : Int)) (by have := g.ok.ends p hp; omega)) (Sz.int (i := (p.2 : Int)) (by have := g.ok.ends p hp; omega))
  have h2 := Sz.tup (f := PyData.int) w.ms fun m hm => Sz.int (by have := g.ms m hm; omega)
  have h3 := Sz.tup3 (Sz.int (i := (w.n : Int)) (by omega)) h1 h2
  have hl := g.ok.len
  exact ⟨h3.sm, h3.dp, Nat.le_trans h3.wt (by rw [hl]; omega)⟩
end PJ

namespace K83
open PySem PySem.Spec PyProof.Rows L2 DL CJ
def top (i : Nat) : Stmt := PySem.Challenge.pw_unevenroads_k83_whole_ways_past_closed_r.main.body.getD i (.Pass ⟨0, 0, 0, 0⟩)
/-! ### sums_of -/
abbrev s_sums_of : Stmt := top 5
theorem sc_sums_of : FnScope N_sums_of ["web", "standing"] (defScope s_sums_of) := ⟨rfl, rfl, rfl, by decide +kernel, rfl, by decide +kernel, by decide +kernel⟩
def t_sums_of : Tab := ⟨[0, 1, 2, 3, 4, 5], [0, 1, 2, 3, 4, 5], [0, 1, 2, 3, 4, 5], ["zip", "tuple"]⟩
theorem t_sums_of_ok : t_sums_of.ok N_sums_of (defScope s_sums_of) (fun _ => true) = true := by decide +kernel
theorem d_sums_of {g : GC} {ex : Str → Option Addr} (z_zip : g.mg "zip" = none) (z_tuple : g.mg "tuple" = none) (J : Jc) (hX : XOk g J.X N_sums_of (defScope s_sums_of) (fun _ => true) 0) (hp : ∀ σ, PassesAt (L2.CX g.P g.w) J.X σ (WE J.W σ)) (htk : L2.Takes J.X J.W) (hown : PassesOwn (model J.X.prog J.X.w) J.X.A J.X.env J.X.xe) (hex : J.ex = ex) (hTh : J.Th = tagE N_sums_of.length [.fz, .fz]) (hTr : J.Tr = tagE N_sums_of.length [.fz, .fz]) (hτ : J.τr = .fz) :
    SSs J (defBody s_sums_of) (tag0 N_sums_of.length [.fz, .fz]) [.fz, .fz, .un, .un, .un, .un] b_sums_of := by
  subst hex
  exact (sss_cons (ss_set hX t_sums_of_ok 2 rfl rfl (se_repO (se_lstO (n := 1) (sa_cons se_int sa_nil rfl)) (se_ix (ix_A hX.u1) ops_ixA (se_var (hX.pv t_sums_of_ok 0 rfl rfl) rfl) (seb_fz se_int) (fun _ _ => rfl))) rfl rfl rfl rfl rfl)
      (sss_cons (ss_for1 hX hown (si_zip hX t_sums_of_ok (j := 0) rfl z_zip (sa_cons (se_ix (ix_A hX.u1) ops_ixA (se_var (hX.pv t_sums_of_ok 0 rfl rfl) rfl) (seb_fz se_int) (fun _ _ => rfl)) (sa_cons (se_var (hX.pv t_sums_of_ok 1 rfl rfl) rfl) sa_nil rfl) rfl) rfl rfl)
        (sg_tup hX.c (sgs_cons (sg_tup hX.c (sgs_cons (sg_name hX t_sums_of_ok 3 rfl rfl rfl rfl rfl) (sgs_cons (sg_name hX t_sums_of_ok 4 rfl rfl rfl rfl rfl) sgs_nil rfl) rfl) rfl rfl) (sgs_cons (sg_name hX t_sums_of_ok 5 rfl rfl rfl rfl rfl) sgs_nil rfl) rfl) rfl rfl)
        (sss_clr_end [true, true, true, false, false, false] [3, 4, 5] rfl (by rfl) rfl (sss_cons (ss_put hX (.inl rfl) (hX.pv t_sums_of_ok 2 rfl rfl) (se_op2 op_addD ops_addD (se_ixL (ix_A hX.u1) ops_ixA (hX.pv t_sums_of_ok 2 rfl rfl) rfl (seb_fz (se_var (hX.pv t_sums_of_ok 3 rfl rfl) rfl)) rfl @shr_owL (fun _ _ => rfl)) (seb_fz (se_var (hX.pv t_sums_of_ok 5 rfl rfl) rfl))) (se_var (hX.pv t_sums_of_ok 3 rfl rfl) rfl) (.inl rfl) rfl (fun _ => rfl) rfl rfl rfl)
      (sss_one (ss_put hX (.inl rfl) (hX.pv t_sums_of_ok 2 rfl rfl) (se_op2 op_addD ops_addD (se_ixL (ix_A hX.u1) ops_ixA (hX.pv t_sums_of_ok 2 rfl rfl) rfl (seb_fz (se_var (hX.pv t_sums_of_ok 4 rfl rfl) rfl)) rfl @shr_owL (fun _ _ => rfl)) (seb_fz (se_var (hX.pv t_sums_of_ok 5 rfl rfl) rfl))) (se_var (hX.pv t_sums_of_ok 4 rfl rfl) rfl) (.inl rfl) rfl (fun _ => rfl) rfl rfl rfl)))) (fun _ => rfl))
      (sss_one (ss_ret [false, false, false, false, false, false] (by rw [hτ]; exact (se_t1 hX t_sums_of_ok (j := 1) rfl z_tuple bb_tuple call_tuple_of ops_tup (seb_var (hX.pv t_sums_of_ok 2 rfl rfl) rfl @shr_owL) rfl)) rfl (Eq.trans (by rfl) hTr.symm)))))
theorem ok_sums_of {g : GC} {ex : Str → Option Addr} (z_zip : g.mg "zip" = none) (z_tuple : g.mg "tuple" = none) {f : Addr} {fd : FuncData} (Fu : L2.Fun g.K "sums_of" "sums_of" s_sums_of f fd) : FnG g (L2.CX g.P g.w) 1 f fd ["web", "standing"] (spF g.K ex [.fz, .fz] (.fz) m_sums_of) :=
  fn_ok Fu sc_sums_of rfl (by rfl) (fun J hX hp htk hown _ h1 h2 h3 h4 => d_sums_of z_zip z_tuple J hX hp htk hown h1 h2 h3 h4) (.inl rfl) ⟨[false, false, false, false, false, false], rfl, by rfl⟩ (.inl rfl)
/-! ### unlike_roads -/
abbrev s_unlike_roads : Stmt := top 6
theorem sc_unlike_roads : FnScope N_unlike_roads ["web", "standing"] (defScope s_unlike_roads) := ⟨rfl, rfl, rfl, by decide +kernel, rfl, by decide +kernel, by decide +kernel⟩
def t_unlike_roads : Tab := ⟨[0, 1, 2], [0, 1, 2], [0, 1], ["sums_of", "tuple", "enumerate"]⟩
theorem t_unlike_roads_ok : t_unlike_roads.ok N_unlike_roads (defScope s_unlike_roads) (fun _ => true) = true := by decide +kernel
def t_unlike_roads_1 : Tab := ⟨[2, 3, 4, 5], [3, 4, 5], [3, 4, 5], []⟩
theorem t_unlike_roads_1_ok : t_unlike_roads_1.ok N_unlike_roads (relS { kind := PySem.ScopeKind.function, names := [(PySem.Str.ofString ".0", PySem.NameKind.local), (PySem.Str.ofString "road", PySem.NameKind.local), (PySem.Str.ofString "one", PySem.NameKind.local), (PySem.Str.ofString "other", PySem.NameKind.local), (PySem.Str.ofString "sums", PySem.NameKind.free)], isGenerator := false, isCoroutine := false, more := [] } (defScope s_unlike_roads)) (fun x => ({ kind := PySem.ScopeKind.function, names := [(PySem.Str.ofString ".0", PySem.NameKind.local), (PySem.Str.ofString "road", PySem.NameKind.local), (PySem.Str.ofString "one", PySem.NameKind.local), (PySem.Str.ofString "other", PySem.NameKind.local), (PySem.Str.ofString "sums", PySem.NameKind.free)], isGenerator := false, isCoroutine := false, more := [] } : Scope).names.lookup x == some .cell) = true := by decide +kernel
theorem d_unlike_roads {g : GC} {ex : Str → Option Addr} (c_sums_of : Cal g (L2.CX g.P g.w) ex "sums_of" s_sums_of 1 ["web", "standing"] [.fz, .fz] (.fz) m_sums_of) (z_tuple : g.mg "tuple" = none) (z_enumerate : g.mg "enumerate" = none) (J : Jc) (hX : XOk g J.X N_unlike_roads (defScope s_unlike_roads) (fun _ => true) 1) (hp : ∀ σ, PassesAt (L2.CX g.P g.w) J.X σ (WE J.W σ)) (htk : L2.Takes J.X J.W) (hown : PassesOwn (model J.X.prog J.X.w) J.X.A J.X.env J.X.xe) (hex : J.ex = ex) (hTh : J.Th = tagE N_unlike_roads.length [.fz, .fz]) (hTr : J.Tr = tagE N_unlike_roads.length [.fz, .fz]) (hτ : J.τr = .fz) :
    SSs J (defBody s_unlike_roads) (tag0 N_unlike_roads.length [.fz, .fz]) [.fz, .fz, .un, .un, .un, .un] b_unlike_roads := by
  subst hex
  exact (sss_cons (ss_set hX t_unlike_roads_ok 2 rfl rfl (se_call (J := J) hX t_unlike_roads_ok hp c_sums_of (by decide) (j := 0) rfl (sa_cons (se_var (hX.pv t_unlike_roads_ok 0 rfl rfl) rfl) (sa_cons (se_var (hX.pv t_unlike_roads_ok 1 rfl rfl) rfl) sa_nil rfl) rfl) (.val (.val .nil)) (by decide) [false, false, false, false, false, false] rfl (Eq.trans (by rfl) hTh.symm) rfl rfl) rfl rfl rfl rfl rfl)
      (sss_one (ss_ret [false, false, false, false, false, false] (by rw [hτ]; exact (se_t1 hX t_unlike_roads_ok (j := 1) rfl z_tuple bb_tuple call_tuple_of ops_tup (seb_fz (se_freeze (se_lcO hX [(PySem.Str.ofString "road", 3), (PySem.Str.ofString "one", 4), (PySem.Str.ofString "other", 5)] (si_enum hX t_unlike_roads_ok (j := 2) rfl z_enumerate (sa_cons (se_ix (ix_A hX.u1) ops_ixA (se_var (hX.pv t_unlike_roads_ok 0 rfl rfl) rfl) (seb_fz se_int) (fun _ _ => rfl)) sa_nil rfl) rfl) (by decide +kernel) (by intro i hi; simp only [List.map_cons, List.map_nil, List.mem_cons, List.not_mem_nil, or_false] at hi; rcases hi with rfl | rfl | rfl <;> exact ⟨_, rfl, rfl⟩) rfl (fun Y1 h1 => (sg_tup h1.c (sgs_cons (sg_name h1 t_unlike_roads_1_ok 3 rfl rfl rfl rfl rfl) (sgs_cons (sg_tup h1.c (sgs_cons (sg_name h1 t_unlike_roads_1_ok 4 rfl rfl rfl rfl rfl) (sgs_cons (sg_name h1 t_unlike_roads_1_ok 5 rfl rfl rfl rfl rfl) sgs_nil rfl) rfl) rfl rfl) sgs_nil rfl) rfl) rfl rfl)) (fun Y1 h1 => (sts_one (st_cmp (op_neD h1.u64) ops_ne (se_ix (ix_A h1.u1) ops_ixA (se_var (h1.pv t_unlike_roads_1_ok 2 rfl rfl) rfl) (seb_fz (se_var (h1.pv t_unlike_roads_1_ok 4 rfl rfl) rfl)) (fun _ _ => rfl)) (seb_fz (se_ix (ix_A h1.u1) ops_ixA (se_var (h1.pv t_unlike_roads_1_ok 2 rfl rfl) rfl) (seb_fz (se_var (h1.pv t_unlike_roads_1_ok 5 rfl rfl) rfl)) (fun _ _ => rfl))) rfl))) (fun Y1 h1 => (se_var (h1.pv t_unlike_roads_1_ok 3 rfl rfl) rfl)) (by decide) rfl (by intro i hi; simp only [List.map_cons, List.map_nil, List.mem_cons, List.not_mem_nil, or_false] at hi; rcases hi with rfl | rfl | rfl <;> exact ⟨_, rfl, rfl⟩) (fun _ => rfl)) @OL.frz)) rfl)) rfl (Eq.trans (by rfl) hTr.symm))))
theorem ok_unlike_roads {g : GC} {ex : Str → Option Addr} (c_sums_of : Cal g (L2.CX g.P g.w) ex "sums_of" s_sums_of 1 ["web", "standing"] [.fz, .fz] (.fz) m_sums_of) (z_tuple : g.mg "tuple" = none) (z_enumerate : g.mg "enumerate" = none) {f : Addr} {fd : FuncData} (Fu : L2.Fun g.K "unlike_roads" "unlike_roads" s_unlike_roads f fd) : FnG g (L2.CX g.P g.w) 2 f fd ["web", "standing"] (spF g.K ex [.fz, .fz] (.fz) m_unlike_roads) :=
  fn_ok Fu sc_unlike_roads rfl (by rfl) (fun J hX hp htk hown _ h1 h2 h3 h4 => d_unlike_roads c_sums_of z_tuple z_enumerate J hX hp htk hown h1 h2 h3 h4) (.inl rfl) ⟨[false, false, false, false, false, false], rfl, by rfl⟩ (.inl rfl)
/-! ### with_load -/
abbrev s_with_load : Stmt := top 8
theorem sc_with_load : FnScope N_with_load ["standing", "road", "load"] (defScope s_with_load) := ⟨rfl, rfl, rfl, by decide +kernel, rfl, by decide +kernel, by decide +kernel⟩
def t_with_load : Tab := ⟨[0, 1, 2], [0, 1, 2], [0, 1, 2], []⟩
theorem t_with_load_ok : t_with_load.ok N_with_load (defScope s_with_load) (fun _ => true) = true := by decide +kernel
theorem d_with_load {g : GC} {ex : Str → Option Addr} (J : Jc) (hX : XOk g J.X N_with_load (defScope s_with_load) (fun _ => true) 0) (hp : ∀ σ, PassesAt (L2.CX g.P g.w) J.X σ (WE J.W σ)) (htk : L2.Takes J.X J.W) (hown : PassesOwn (model J.X.prog J.X.w) J.X.A J.X.env J.X.xe) (hex : J.ex = ex) (hTh : J.Th = tagE N_with_load.length [.fz, .fz, .fz]) (hTr : J.Tr = tagE N_with_load.length [.fz, .fz, .fz]) (hτ : J.τr = .fz) :
    SSs J (defBody s_with_load) (tag0 N_with_load.length [.fz, .fz, .fz]) [.fz, .fz, .fz] b_with_load := by
  subst hex
  exact (sss_one (ss_ret [false, false, false] (by rw [hτ]; exact (se_op2 op_addD ops_addD (se_op2 op_addD ops_addD (se_slice (se_var (hX.pv t_with_load_ok 0 rfl rfl) rfl) sp_none (sp_some (se_var (hX.pv t_with_load_ok 1 rfl rfl) rfl))) (seb_fz (se_tup (n := 1) (sa_cons (se_var (hX.pv t_with_load_ok 2 rfl rfl) rfl) sa_nil rfl)))) (seb_fz (se_slice (se_var (hX.pv t_with_load_ok 0 rfl rfl) rfl) (sp_some (se_op2 op_addD ops_addD (se_var (hX.pv t_with_load_ok 1 rfl rfl) rfl) (seb_fz se_int))) sp_none)))) rfl (Eq.trans (by rfl) hTr.symm)))
theorem ok_with_load {g : GC} {ex : Str → Option Addr} {f : Addr} {fd : FuncData} (Fu : L2.Fun g.K "with_load" "with_load" s_with_load f fd) : FnG g (L2.CX g.P g.w) 1 f fd ["standing", "road", "load"] (spF g.K ex [.fz, .fz, .fz] (.fz) m_with_load) :=
  fn_ok Fu sc_with_load rfl (by rfl) (fun J hX hp htk hown _ h1 h2 h3 h4 => d_with_load  J hX hp htk hown h1 h2 h3 h4) (.inl rfl) ⟨[false, false, false], rfl, by rfl⟩ (.inl rfl)
/-! ### beside -/
abbrev s_beside : Stmt := top 9
theorem sc_beside : FnScope N_beside ["web", "standing"] (defScope s_beside) := ⟨rfl, rfl, rfl, by decide +kernel, rfl, by decide +kernel, by decide +kernel⟩
def t_beside : Tab := ⟨[0, 1, 2, 3, 4, 5, 6, 7], [0, 1, 2, 3, 4, 5, 6, 7], [0, 1, 2, 3, 4, 5, 6, 7], ["unlike_roads", "with_load"]⟩
theorem t_beside_ok : t_beside.ok N_beside (defScope s_beside) (fun _ => true) = true := by decide +kernel
theorem d_beside {g : GC} {ex : Str → Option Addr} (c_unlike_roads : Cal g (L2.CX g.P g.w) ex "unlike_roads" s_unlike_roads 2 ["web", "standing"] [.fz, .fz] (.fz) m_unlike_roads) (c_with_load : Cal g (L2.CX g.P g.w) ex "with_load" s_with_load 1 ["standing", "road", "load"] [.fz, .fz, .fz] (.fz) m_with_load) (J : Jc) (hX : XOk g J.X N_beside (defScope s_beside) (fun _ => true) 2) (hp : ∀ σ, PassesAt (L2.CX g.P g.w) J.X σ (WE J.W σ)) (htk : L2.Takes J.X J.W) (hown : PassesOwn (model J.X.prog J.X.w) J.X.A J.X.env J.X.xe) (hex : J.ex = ex) (hTh : J.Th = tagE N_beside.length [.fz, .fz]) (hTr : J.Tr = tagE N_beside.length [.fz, .fz]) (hτ : J.τr = .fz) :
    SSs J (defBody s_beside) (tag0 N_beside.length [.fz, .fz]) [.fz, .fz, .un, .un, .un, .un, .un, .un] b_beside := by
  subst hex
  exact (sss_cons (ss_asg (se_var (hX.pv t_beside_ok 0 rfl rfl) rfl) (sg_tup hX.c (sgs_cons (sg_name hX t_beside_ok 2 rfl rfl rfl rfl rfl) (sgs_cons (sg_name hX t_beside_ok 3 rfl rfl rfl rfl rfl) (sgs_cons (sg_name hX t_beside_ok 4 rfl rfl rfl rfl rfl) sgs_nil rfl) rfl) rfl) rfl rfl) rfl (swp_ hX (by rfl)) rfl)
      (sss_cons (ss_set hX t_beside_ok 5 rfl rfl (se_lstO (n := 0) sa_nil) rfl rfl rfl rfl rfl)
      (sss_clr [true, true, false, false, true, true, false, false] [2, 3] rfl rfl rfl (sss_cons (ss_for1 hX hown (si_seq (se_call (J := J) hX t_beside_ok hp c_unlike_roads (by decide) (j := 0) rfl (sa_cons (se_var (hX.pv t_beside_ok 0 rfl rfl) rfl) (sa_cons (se_var (hX.pv t_beside_ok 1 rfl rfl) rfl) sa_nil rfl) rfl) (.val (.val .nil)) (by decide) [false, false, false, false, false, false, false, false] rfl (Eq.trans (by rfl) hTh.symm) rfl rfl))
        (sg_name hX t_beside_ok 6 rfl rfl rfl rfl rfl)
        (sss_cons (ss_set hX t_beside_ok 7 rfl rfl (se_ix (ix_A hX.u1) ops_ixA (se_var (hX.pv t_beside_ok 1 rfl rfl) rfl) (seb_fz (se_var (hX.pv t_beside_ok 6 rfl rfl) rfl)) (fun _ _ => rfl)) rfl rfl rfl rfl rfl)
      (sss_cons (ss_if (st_cmp op_gt (ops_cmpI _) (se_var (hX.pv t_beside_ok 7 rfl rfl) rfl) (seb_fz se_int) rfl)
        (sss_one (ss_exp (se_mut (n := 1) (hX.pv t_beside_ok 5 rfl rfl) ⟨_, rfl, fun z => by cases z⟩ PySem.F.slot_list_append PySem.F.type_list_append mt_append mu_append (sa_cons (se_tup (n := 2) (sa_cons (se_tup (n := 2) (sa_cons (se_var (hX.pv t_beside_ok 6 rfl rfl) rfl) (sa_cons (se_neg se_int) sa_nil rfl) rfl)) (sa_cons (se_call (J := J) hX t_beside_ok hp c_with_load (by decide) (j := 1) rfl (sa_cons (se_var (hX.pv t_beside_ok 1 rfl rfl) rfl) (sa_cons (se_var (hX.pv t_beside_ok 6 rfl rfl) rfl) (sa_cons (se_op2 op_sub ops_sub (se_var (hX.pv t_beside_ok 7 rfl rfl) rfl) (seb_fz se_int)) sa_nil rfl) rfl) rfl) (.val (.val (.val .nil))) (by decide) [false, false, false, false, false, false, false, false] rfl (Eq.trans (by rfl) hTh.symm) rfl rfl) sa_nil rfl) rfl)) sa_nil rfl) (.inl rfl) rfl rfl rfl rfl rfl rfl) rfl))
        sss_nil)
      (sss_one (ss_if (st_cmp op_lt (ops_cmpI _) (se_var (hX.pv t_beside_ok 7 rfl rfl) rfl) (seb_fz (se_ix (ix_A hX.u1) ops_ixA (se_var (hX.pv t_beside_ok 4 rfl rfl) rfl) (seb_fz (se_var (hX.pv t_beside_ok 6 rfl rfl) rfl)) (fun _ _ => rfl))) rfl)
        (sss_clr_end [true, true, false, false, true, true, false, false] [6, 7] rfl (by rfl) rfl (sss_one (ss_exp (se_mut (n := 1) (hX.pv t_beside_ok 5 rfl rfl) ⟨_, rfl, fun z => by cases z⟩ PySem.F.slot_list_append PySem.F.type_list_append mt_append mu_append (sa_cons (se_tup (n := 2) (sa_cons (se_tup (n := 2) (sa_cons (se_var (hX.pv t_beside_ok 6 rfl rfl) rfl) (sa_cons se_int sa_nil rfl) rfl)) (sa_cons (se_call (J := J) hX t_beside_ok hp c_with_load (by decide) (j := 1) rfl (sa_cons (se_var (hX.pv t_beside_ok 1 rfl rfl) rfl) (sa_cons (se_var (hX.pv t_beside_ok 6 rfl rfl) rfl) (sa_cons (se_op2 op_addD ops_addD (se_var (hX.pv t_beside_ok 7 rfl rfl) rfl) (seb_fz se_int)) sa_nil rfl) rfl) rfl) (.val (.val (.val .nil))) (by decide) [false, false, false, false, false, false, false, false] rfl (Eq.trans (by rfl) hTh.symm) rfl rfl) sa_nil rfl) rfl)) sa_nil rfl) (.inl rfl) rfl rfl rfl rfl rfl rfl) rfl)))
        (sss_clr_end [true, true, false, false, true, true, false, false] [6, 7] rfl (by rfl) rfl sss_nil))))) (fun _ => rfl))
      (sss_one (ss_ret [false, false, false, false, false, false, false, false] (by rw [hτ]; exact (se_varO (hX.pv t_beside_ok 5 rfl rfl) rfl @OL.frz rfl)) rfl (Eq.trans (by rfl) hTr.symm)))))))
theorem ok_beside {g : GC} {ex : Str → Option Addr} (c_unlike_roads : Cal g (L2.CX g.P g.w) ex "unlike_roads" s_unlike_roads 2 ["web", "standing"] [.fz, .fz] (.fz) m_unlike_roads) (c_with_load : Cal g (L2.CX g.P g.w) ex "with_load" s_with_load 1 ["standing", "road", "load"] [.fz, .fz, .fz] (.fz) m_with_load) {f : Addr} {fd : FuncData} (Fu : L2.Fun g.K "beside" "beside" s_beside f fd) : FnG g (L2.CX g.P g.w) 3 f fd ["web", "standing"] (spF g.K ex [.fz, .fz] (.fz) m_beside) :=
  fn_ok Fu sc_beside rfl (by rfl) (fun J hX hp htk hown _ h1 h2 h3 h4 => d_beside c_unlike_roads c_with_load J hX hp htk hown h1 h2 h3 h4) (.inl rfl) ⟨[false, false, false, false, false, false, false, false], rfl, by rfl⟩ (.inl rfl)
/-! ### reached -/
abbrev s_reached : Stmt := top 10
theorem sc_reached : FnScope N_reached ["web", "start", "closed", "limit"] (defScope s_reached) := ⟨rfl, rfl, rfl, by decide +kernel, rfl, by decide +kernel, by decide +kernel⟩
def t_reached : Tab := ⟨[0, 1, 2, 3, 4, 5, 6, 7, 8, 9], [0, 1, 2, 3, 4, 5, 6, 7, 8, 9], [0, 1, 2, 3, 4, 5, 6, 7, 8, 9], ["len", "beside", "TooMany"]⟩
theorem t_reached_ok : t_reached.ok N_reached (defScope s_reached) (fun _ => true) = true := by decide +kernel
theorem d_reached {g : GC} {ex : Str → Option Addr} (c_beside : Cal g (L2.CX g.P g.w) ex "beside" s_beside 3 ["web", "standing"] [.fz, .fz] (.fz) m_beside) (z_len : g.mg "len" = none) (x_TooMany : Ecl g ex "TooMany" ["limit"]) (J : Jc) (hX : XOk g J.X N_reached (defScope s_reached) (fun _ => true) 3) (hp : ∀ σ, PassesAt (L2.CX g.P g.w) J.X σ (WE J.W σ)) (htk : L2.Takes J.X J.W) (hown : PassesOwn (model J.X.prog J.X.w) J.X.A J.X.env J.X.xe) (hex : J.ex = ex) (hTh : J.Th = tagE N_reached.length [.fz, .fz, .fz, .fz]) (hTr : J.Tr = tagE N_reached.length [.fz, .fz, .fz, .fz]) (hτ : J.τr = .fz) :
    SSs J (defBody s_reached) (tag0 N_reached.length [.fz, .fz, .fz, .fz]) [.fz, .fz, .fz, .fz, .un, .un, .un, .un, .un, .un] b_reached := by
  subst hex
  exact (sss_cons (ss_par3 hX t_reached_ok 4 5 6  rfl rfl rfl rfl rfl rfl (by decide) (by decide) (by decide) (se_disp1T hX (se_var (hX.pv t_reached_ok 1 rfl rfl) rfl) se_non) (se_lstO (n := 1) (sa_cons (se_var (hX.pv t_reached_ok 1 rfl rfl) rfl) sa_nil rfl)) se_int rfl rfl rfl rfl rfl rfl rfl rfl rfl rfl rfl rfl rfl (swp_ hX (by rfl)) rfl)
      (sss_clr [true, false, true, true, true, true, true, false, false, false] [1] rfl rfl rfl (sss_cons (ss_while1 hX hown (st_cmp op_lt (ops_cmpI _) (se_var (hX.pv t_reached_ok 6 rfl rfl) rfl) (seb_fz (se_b1 hX t_reached_ok (j := 0) rfl z_len bb_len call_lenA ops_len (seb_var (hX.pv t_reached_ok 5 rfl rfl) rfl @shr_owL) rfl)) rfl)
        (sss_clr_end [true, false, true, true, true, true, true, false, false, false] [7] rfl (by rfl) rfl (sss_cons (ss_set hX t_reached_ok 7 rfl rfl (se_ixL (ix_A hX.u1) ops_ixA (hX.pv t_reached_ok 5 rfl rfl) rfl (seb_fz (se_var (hX.pv t_reached_ok 6 rfl rfl) rfl)) rfl @shr_owL (fun _ _ => rfl)) rfl rfl rfl rfl rfl)
      (sss_cons (ss_set hX t_reached_ok 6 rfl rfl (se_op2 op_addD ops_addD (se_var (hX.pv t_reached_ok 6 rfl rfl) rfl) (seb_fz se_int)) rfl rfl rfl rfl rfl)
      (sss_one (ss_for1 hX hown (si_seq (se_call (J := J) hX t_reached_ok hp c_beside (by decide) (j := 1) rfl (sa_cons (se_var (hX.pv t_reached_ok 0 rfl rfl) rfl) (sa_cons (se_var (hX.pv t_reached_ok 7 rfl rfl) rfl) sa_nil rfl) rfl) (.val (.val .nil)) (by decide) [false, false, false, false, false, false, false, false, false, false] rfl (Eq.trans (by rfl) hTh.symm) rfl rfl))
        (sg_tup hX.c (sgs_cons (sg_name hX t_reached_ok 8 rfl rfl rfl rfl rfl) (sgs_cons (sg_name hX t_reached_ok 9 rfl rfl rfl rfl rfl) sgs_nil rfl) rfl) rfl rfl)
        (sss_one (ss_if (stw (st_and (st_cmp (op_notInA hX.u65) ops_notInA (se_ix (ix_A hX.u1) ops_ixA (se_var (hX.pv t_reached_ok 8 rfl rfl) rfl) (seb_fz se_int) (fun _ _ => rfl)) (seb_fz (se_var (hX.pv t_reached_ok 2 rfl rfl) rfl)) rfl) (st_and1 (st_cmp (op_notInA hX.u65) ops_notInA (se_var (hX.pv t_reached_ok 9 rfl rfl) rfl) (seb_var (hX.pv t_reached_ok 4 rfl rfl) rfl @shr_owD) rfl))))
        (sss_clr_end [true, false, true, true, true, true, true, true, false, false] [8, 9] rfl (by rfl) rfl (sss_cons (ss_if (st_cmp (op_eqD hX.u64) ops_eq (se_b1 hX t_reached_ok (j := 0) rfl z_len bb_len call_lenA ops_len (seb_var (hX.pv t_reached_ok 4 rfl rfl) rfl @shr_owD) rfl) (seb_fz (se_var (hX.pv t_reached_ok 3 rfl rfl) rfl)) rfl)
        (sss_one (ss_raise1 (J := J) hX t_reached_ok htk x_TooMany (by decide) (j := 2) rfl (sa_cons (se_var (hX.pv t_reached_ok 3 rfl rfl) rfl) sa_nil rfl) rfl [false, false, false, false, false, false, false, false, false, false] rfl (Eq.trans (by rfl) hTh.symm)))
        sss_nil)
      (sss_cons (ss_put hX (.inr rfl) (hX.pv t_reached_ok 4 rfl rfl) (se_tup (n := 2) (sa_cons (se_var (hX.pv t_reached_ok 7 rfl rfl) rfl) (sa_cons (se_var (hX.pv t_reached_ok 8 rfl rfl) rfl) sa_nil rfl) rfl)) (se_var (hX.pv t_reached_ok 9 rfl rfl) rfl) (.inl rfl) rfl (fun _ => rfl) rfl rfl rfl)
      (sss_one (ss_exp (se_mut (n := 1) (hX.pv t_reached_ok 5 rfl rfl) ⟨_, rfl, fun z => by cases z⟩ PySem.F.slot_list_append PySem.F.type_list_append mt_append mu_append (sa_cons (se_var (hX.pv t_reached_ok 9 rfl rfl) rfl) sa_nil rfl) (.inl rfl) rfl rfl rfl rfl rfl rfl) rfl)))))
        (sss_clr_end [true, false, true, true, true, true, true, true, false, false] [8, 9] rfl (by rfl) rfl sss_nil))) (fun _ => rfl)))))))
      (sss_one (ss_ret [false, false, false, false, false, false, false, false, false, false] (by rw [hτ]; exact (se_varO (hX.pv t_reached_ok 4 rfl rfl) rfl @OD.frz rfl)) rfl (Eq.trans (by rfl) hTr.symm))))))
theorem ok_reached {g : GC} {ex : Str → Option Addr} (c_beside : Cal g (L2.CX g.P g.w) ex "beside" s_beside 3 ["web", "standing"] [.fz, .fz] (.fz) m_beside) (z_len : g.mg "len" = none) (x_TooMany : Ecl g ex "TooMany" ["limit"]) {f : Addr} {fd : FuncData} (Fu : L2.Fun g.K "reached" "reached" s_reached f fd) : FnG g (L2.CX g.P g.w) 4 f fd ["web", "start", "closed", "limit"] (spF g.K ex [.fz, .fz, .fz, .fz] (.fz) m_reached) :=
  fn_ok Fu sc_reached rfl (by rfl) (fun J hX hp htk hown _ h1 h2 h3 h4 => d_reached c_beside z_len x_TooMany J hX hp htk hown h1 h2 h3 h4) (.inl rfl) ⟨[false, false, false, false, false, false, false, false, false, false], rfl, by rfl⟩ (.inl rfl)
/-! ### way_to -/
abbrev s_way_to : Stmt := top 11
theorem sc_way_to : FnScope N_way_to ["known", "standing"] (defScope s_way_to) := ⟨rfl, rfl, rfl, by decide +kernel, rfl, by decide +kernel, by decide +kernel⟩
def t_way_to : Tab := ⟨[0, 1, 2, 3], [0, 1, 2, 3], [0, 1, 2, 3], ["tuple"]⟩
theorem t_way_to_ok : t_way_to.ok N_way_to (defScope s_way_to) (fun _ => true) = true := by decide +kernel
theorem d_way_to {g : GC} {ex : Str → Option Addr} (z_tuple : g.mg "tuple" = none) (J : Jc) (hX : XOk g J.X N_way_to (defScope s_way_to) (fun _ => true) 0) (hp : ∀ σ, PassesAt (L2.CX g.P g.w) J.X σ (WE J.W σ)) (htk : L2.Takes J.X J.W) (hown : PassesOwn (model J.X.prog J.X.w) J.X.A J.X.env J.X.xe) (hex : J.ex = ex) (hTh : J.Th = tagE N_way_to.length [.fz, .fz]) (hTr : J.Tr = tagE N_way_to.length [.fz, .fz]) (hτ : J.τr = .fz) :
    SSs J (defBody s_way_to) (tag0 N_way_to.length [.fz, .fz]) [.fz, .fz, .un, .un] b_way_to := by
  subst hex
  exact (sss_cons (ss_set hX t_way_to_ok 2 rfl rfl (se_lstO (n := 0) sa_nil) rfl rfl rfl rfl rfl)
      (sss_cons (ss_set hX t_way_to_ok 3 rfl rfl (se_ix (ix_A hX.u1) ops_ixA (se_var (hX.pv t_way_to_ok 0 rfl rfl) rfl) (seb_fz (se_var (hX.pv t_way_to_ok 1 rfl rfl) rfl)) (fun _ _ => rfl)) rfl rfl rfl rfl rfl)
      (sss_clr [true, false, true, true] [1] rfl rfl rfl (sss_cons (ss_while1 hX hown (st_cmp op_notN ops_isNot (se_var (hX.pv t_way_to_ok 3 rfl rfl) rfl) (seb_fz se_non) rfl)
        (sss_cons (ss_exp (se_mut (n := 1) (hX.pv t_way_to_ok 2 rfl rfl) ⟨_, rfl, fun z => by cases z⟩ PySem.F.slot_list_append PySem.F.type_list_append mt_append mu_append (sa_cons (se_ix (ix_A hX.u1) ops_ixA (se_var (hX.pv t_way_to_ok 3 rfl rfl) rfl) (seb_fz se_int) (fun _ _ => rfl)) sa_nil rfl) (.inl rfl) rfl rfl rfl rfl rfl rfl) rfl)
      (sss_one (ss_set hX t_way_to_ok 3 rfl rfl (se_ix (ix_A hX.u1) ops_ixA (se_var (hX.pv t_way_to_ok 0 rfl rfl) rfl) (seb_fz (se_ix (ix_A hX.u1) ops_ixA (se_var (hX.pv t_way_to_ok 3 rfl rfl) rfl) (seb_fz se_int) (fun _ _ => rfl))) (fun _ _ => rfl)) rfl rfl rfl rfl rfl))))
      (sss_one (ss_ret [false, false, false, false] (by rw [hτ]; exact (se_t1 hX t_way_to_ok (j := 0) rfl z_tuple bb_tuple call_tuple_of ops_tup (seb_fz (se_freeze (se_rev (seb_var (hX.pv t_way_to_ok 2 rfl rfl) rfl @shr_owL)) @OL.frz)) rfl)) rfl (Eq.trans (by rfl) hTr.symm)))))))
theorem ok_way_to {g : GC} {ex : Str → Option Addr} (z_tuple : g.mg "tuple" = none) {f : Addr} {fd : FuncData} (Fu : L2.Fun g.K "way_to" "way_to" s_way_to f fd) : FnG g (L2.CX g.P g.w) 1 f fd ["known", "standing"] (spF g.K ex [.fz, .fz] (.fz) m_way_to) :=
  fn_ok Fu sc_way_to rfl (by rfl) (fun J hX hp htk hown _ h1 h2 h3 h4 => d_way_to z_tuple J hX hp htk hown h1 h2 h3 h4) (.inl rfl) ⟨[false, false, false, false], rfl, by rfl⟩ (.inl rfl)
/-! ### closed_way -/
abbrev s_closed_way : Stmt := top 13
theorem sc_closed_way : FnScope N_closed_way ["web", "one", "other", "closed"] (defScope s_closed_way) := ⟨rfl, rfl, rfl, by decide +kernel, rfl, by decide +kernel, by decide +kernel⟩
def t_closed_way : Tab := ⟨[0, 1, 2, 3, 4], [0, 1, 2, 3, 4], [0, 1, 2, 3, 4], ["reached", "MAX_SEEN", "way_to"]⟩
theorem t_closed_way_ok : t_closed_way.ok N_closed_way (defScope s_closed_way) (fun _ => true) = true := by decide +kernel
theorem d_closed_way {g : GC} {ex : Str → Option Addr} (c_reached : Cal g (L2.CX g.P g.w) ex "reached" s_reached 4 ["web", "start", "closed", "limit"] [.fz, .fz, .fz, .fz] (.fz) m_reached) (c_way_to : Cal g (L2.CX g.P g.w) ex "way_to" s_way_to 1 ["known", "standing"] [.fz, .fz] (.fz) m_way_to) (k_MAX_SEEN : ∃ tk, g.mg "MAX_SEEN" = some (.int (2000) tk)) (J : Jc) (hX : XOk g J.X N_closed_way (defScope s_closed_way) (fun _ => true) 4) (hp : ∀ σ, PassesAt (L2.CX g.P g.w) J.X σ (WE J.W σ)) (htk : L2.Takes J.X J.W) (hown : PassesOwn (model J.X.prog J.X.w) J.X.A J.X.env J.X.xe) (hex : J.ex = ex) (hTh : J.Th = tagE N_closed_way.length [.fz, .fz, .fz, .fz]) (hTr : J.Tr = tagE N_closed_way.length [.fz, .fz, .fz, .fz]) (hτ : J.τr = .fz) :
    SSs J (defBody s_closed_way) (tag0 N_closed_way.length [.fz, .fz, .fz, .fz]) [.fz, .fz, .fz, .fz, .un] b_closed_way := by
  subst hex
  exact (sss_cons (ss_set hX t_closed_way_ok 4 rfl rfl (se_call (J := J) hX t_closed_way_ok hp c_reached (by decide) (j := 0) rfl (sa_cons (se_var (hX.pv t_closed_way_ok 0 rfl rfl) rfl) (sa_cons (se_var (hX.pv t_closed_way_ok 1 rfl rfl) rfl) (sa_cons (se_var (hX.pv t_closed_way_ok 3 rfl rfl) rfl) (sa_cons (se_kint hX t_closed_way_ok (j := 1) rfl k_MAX_SEEN) sa_nil rfl) rfl) rfl) rfl) (.val (.val (.val (.val .nil)))) (by decide) [false, false, false, false, false] rfl (Eq.trans (by rfl) hTh.symm) rfl rfl) rfl rfl rfl rfl rfl)
      (sss_one (ss_ret [false, false, false, false, false] (by rw [hτ]; exact (se_if (st_cmp (op_inA hX.u65) ops_inA (se_var (hX.pv t_closed_way_ok 2 rfl rfl) rfl) (seb_fz (se_var (hX.pv t_closed_way_ok 4 rfl rfl) rfl)) rfl) (se_call (J := J) hX t_closed_way_ok hp c_way_to (by decide) (j := 2) rfl (sa_cons (se_var (hX.pv t_closed_way_ok 4 rfl rfl) rfl) (sa_cons (se_var (hX.pv t_closed_way_ok 2 rfl rfl) rfl) sa_nil rfl) rfl) (.val (.val .nil)) (by decide) [false, false, false, false, false] rfl (Eq.trans (by rfl) hTh.symm) rfl rfl) se_non)) rfl (Eq.trans (by rfl) hTr.symm))))
theorem ok_closed_way {g : GC} {ex : Str → Option Addr} (c_reached : Cal g (L2.CX g.P g.w) ex "reached" s_reached 4 ["web", "start", "closed", "limit"] [.fz, .fz, .fz, .fz] (.fz) m_reached) (c_way_to : Cal g (L2.CX g.P g.w) ex "way_to" s_way_to 1 ["known", "standing"] [.fz, .fz] (.fz) m_way_to) (k_MAX_SEEN : ∃ tk, g.mg "MAX_SEEN" = some (.int (2000) tk)) {f : Addr} {fd : FuncData} (Fu : L2.Fun g.K "closed_way" "closed_way" s_closed_way f fd) : FnG g (L2.CX g.P g.w) 5 f fd ["web", "one", "other", "closed"] (spF g.K ex [.fz, .fz, .fz, .fz] (.fz) m_closed_way) :=
  fn_ok Fu sc_closed_way rfl (by rfl) (fun J hX hp htk hown _ h1 h2 h3 h4 => d_closed_way c_reached c_way_to k_MAX_SEEN J hX hp htk hown h1 h2 h3 h4) (.inl rfl) ⟨[false, false, false, false, false], rfl, by rfl⟩ (.inl rfl)
/-! ### _law_jar -/
abbrev s__law_jar : Stmt := top 15
theorem sc__law_jar : FnScope N__law_jar ["script"] (defScope s__law_jar) := ⟨rfl, rfl, rfl, by decide +kernel, rfl, by decide +kernel, by decide +kernel⟩
def t__law_jar : Tab := ⟨[0, 1, 2, 3, 4], [0, 1, 2, 3, 4], [0, 1, 2, 3, 4], ["len", "int"]⟩
theorem t__law_jar_ok : t__law_jar.ok N__law_jar (defScope s__law_jar) (fun _ => true) = true := by decide +kernel
def t__law_jar_1 : Tab := ⟨[1], [1], [1], []⟩
theorem t__law_jar_1_ok : t__law_jar_1.ok N__law_jar (relS { kind := PySem.ScopeKind.function, names := [(PySem.Str.ofString ".0", PySem.NameKind.local), (PySem.Str.ofString "own", PySem.NameKind.local)], isGenerator := false, isCoroutine := false, more := [] } (defScope s__law_jar)) (fun x => ({ kind := PySem.ScopeKind.function, names := [(PySem.Str.ofString ".0", PySem.NameKind.local), (PySem.Str.ofString "own", PySem.NameKind.local)], isGenerator := false, isCoroutine := false, more := [] } : Scope).names.lookup x == some .cell) = true := by decide +kernel
def t__law_jar_2 : Tab := ⟨[1], [1], [1], []⟩
theorem t__law_jar_2_ok : t__law_jar_2.ok N__law_jar (relS { kind := PySem.ScopeKind.function, names := [(PySem.Str.ofString ".0", PySem.NameKind.local), (PySem.Str.ofString "own", PySem.NameKind.local)], isGenerator := false, isCoroutine := false, more := [] } (defScope s__law_jar)) (fun x => ({ kind := PySem.ScopeKind.function, names := [(PySem.Str.ofString ".0", PySem.NameKind.local), (PySem.Str.ofString "own", PySem.NameKind.local)], isGenerator := false, isCoroutine := false, more := [] } : Scope).names.lookup x == some .cell) = true := by decide +kernel
theorem d__law_jar {g : GC} {ex : Str → Option Addr} (z_len : g.mg "len" = none) (z_int : g.mg "int" = none) (J : Jc) (hX : XOk g J.X N__law_jar (defScope s__law_jar) (fun _ => true) 0) (hp : ∀ σ, PassesAt (L2.CX g.P g.w) J.X σ (WE J.W σ)) (htk : L2.Takes J.X J.W) (hown : PassesOwn (model J.X.prog J.X.w) J.X.A J.X.env J.X.xe) (hex : J.ex = ex) (hTh : J.Th = tagE N__law_jar.length [.fz]) (hTr : J.Tr = tagE N__law_jar.length [.fz]) (hτ : J.τr = .ow JK) :
    SSs J (defBody s__law_jar) (tag0 N__law_jar.length [.fz]) [.fz, .un, .un, .un, .un] b__law_jar := by
  subst hex
  exact (sss_cons (ss_par2 hX t__law_jar_ok 2 3  rfl rfl rfl rfl (by decide) (se_freeze (se_lcO hX [(PySem.Str.ofString "own", 1)] (si_seq (se_slice (se_var (hX.pv t__law_jar_ok 0 rfl rfl) rfl) sp_none (sp_some se_int))) (by decide +kernel) (by intro i hi; simp only [List.map_cons, List.map_nil, List.mem_cons, List.not_mem_nil, or_false] at hi; rcases hi with rfl <;> exact ⟨_, rfl, rfl⟩) rfl (fun Y1 h1 => (sg_name h1 t__law_jar_1_ok 1 rfl rfl rfl rfl rfl)) (fun Y1 h1 => sts_nil) (fun Y1 h1 => (se_if (st_cmp op_ge (ops_cmpI _) (se_var (h1.pv t__law_jar_1_ok 1 rfl rfl) rfl) (seb_fz se_int) rfl) (se_op2 op_mul ops_mulI se_int (seb_fz (se_var (h1.pv t__law_jar_1_ok 1 rfl rfl) rfl))) (se_op2 op_sub ops_sub (se_op2 op_mul ops_mulI (se_neg se_int) (seb_fz (se_var (h1.pv t__law_jar_1_ok 1 rfl rfl) rfl))) (seb_fz se_int)))) (by decide) rfl (by intro i hi; simp only [List.map_cons, List.map_nil, List.mem_cons, List.not_mem_nil, or_false] at hi; rcases hi with rfl <;> exact ⟨_, rfl, rfl⟩) (fun _ => rfl)) @OL.frz) (se_op2 op_addD ops_addD (se_op2 op_mul ops_mulI se_int (seb_fz (se_b1 hX t__law_jar_ok (j := 0) rfl z_len bb_len call_lenA ops_len (seb_fz (se_var (hX.pv t__law_jar_ok 0 rfl rfl) rfl)) rfl))) (seb_fz se_int)) rfl rfl rfl rfl rfl rfl rfl rfl rfl (swp_ hX (by rfl)) rfl)
      (sss_clr [false, false, true, true, false] [0] rfl rfl rfl (sss_cons (ss_for1 hX hown (si_seq (se_var (hX.pv t__law_jar_ok 2 rfl rfl) rfl))
        (sg_name hX t__law_jar_ok 1 rfl rfl rfl rfl rfl)
        (sss_clr_end [false, false, true, true, false] [1] rfl (by rfl) rfl (sss_one (ss_set hX t__law_jar_ok 3 rfl rfl (se_op2 op_modN ops_mod (se_t1 hX t__law_jar_ok (j := 1) rfl z_int bb_int call_int1 ops_int (seb_fz (se_op2 op_addD ops_addD (se_op2 op_addD ops_addD (se_op2 op_mul ops_mulI (se_var (hX.pv t__law_jar_ok 3 rfl rfl) rfl) (seb_fz se_int)) (seb_fz (se_op2 op_mul ops_mulI (se_var (hX.pv t__law_jar_ok 1 rfl rfl) rfl) (seb_fz se_int)))) (seb_fz se_int))) rfl) (seb_fz se_int)) rfl rfl rfl rfl rfl))) (fun _ => rfl))
      (sss_cons (ss_setLc hX t__law_jar_ok 4 [(PySem.Str.ofString "own", 1)] rfl rfl (si_seq (se_var (hX.pv t__law_jar_ok 2 rfl rfl) rfl)) (by decide +kernel) (by intro i hi; simp only [List.map_cons, List.map_nil, List.mem_cons, List.not_mem_nil, or_false] at hi; rcases hi with rfl <;> exact ⟨_, rfl, rfl⟩) rfl (fun Y1 h1 => (sg_name h1 t__law_jar_2_ok 1 rfl rfl rfl rfl rfl)) (fun Y1 h1 => (sts_one (st_cmp op_ge (ops_cmpI _) (se_var (h1.pv t__law_jar_2_ok 1 rfl rfl) rfl) (seb_fz (se_op2 op_pow ops_pow se_int (seb_fz se_int))) rfl))) (fun Y1 h1 => (se_var (h1.pv t__law_jar_2_ok 1 rfl rfl) rfl)) (by decide) rfl (by intro i hi; simp only [List.map_cons, List.map_nil, List.mem_cons, List.not_mem_nil, or_false] at hi; rcases hi with rfl <;> exact ⟨_, rfl, rfl⟩) rfl rfl rfl (fun _ => rfl) (sw_true_ hX rfl rfl rfl (by decide +kernel)))
      (sss_one (ss_ret [false, false, false, false, false] (by rw [hτ]; exact (se_jar (hX.pv t__law_jar_ok 4 rfl rfl) rfl (se_op2 op_addD ops_addD (se_var (hX.pv t__law_jar_ok 2 rfl rfl) rfl) (seb_fz (se_freeze (se_lstO (n := 1) (sa_cons (se_op2 op_addD ops_addD (se_op2 op_mul ops_mulI se_int (seb_fz (se_b1 hX t__law_jar_ok (j := 0) rfl z_len bb_len call_lenA ops_len (seb_fz (se_var (hX.pv t__law_jar_ok 2 rfl rfl) rfl)) rfl))) (seb_fz se_int)) sa_nil rfl)) @OL.frz))) (se_var (hX.pv t__law_jar_ok 3 rfl rfl) rfl) se_int rfl rfl)) rfl (Eq.trans (by rfl) hTr.symm)))))))
theorem n__law_jar : ∀ ρ ρ', b__law_jar ρ ≠ .ok .nx ρ' := n_cons _ (n_cons _ (n_cons _ (n_ret _)))
theorem ok__law_jar {g : GC} {ex : Str → Option Addr} (z_len : g.mg "len" = none) (z_int : g.mg "int" = none) {f : Addr} {fd : FuncData} (Fu : L2.Fun g.K "_law_jar" "_law_jar" s__law_jar f fd) : FnG g (L2.CX g.P g.w) 1 f fd ["script"] (spF g.K ex [.fz] (.ow JK) m__law_jar) :=
  fn_ok Fu sc__law_jar rfl (by rfl) (fun J hX hp htk hown _ h1 h2 h3 h4 => d__law_jar z_len z_int J hX hp htk hown h1 h2 h3 h4) (.inr ⟨_, rfl⟩) ⟨[false, false, false, false, false], rfl, by rfl⟩ (.inr n__law_jar)
/-! ### _law_draw -/
abbrev s__law_draw : Stmt := top 16
theorem sc__law_draw : FnScope N__law_draw ["jar", "many"] (defScope s__law_draw) := ⟨rfl, rfl, rfl, by decide +kernel, rfl, by decide +kernel, by decide +kernel⟩
def t__law_draw : Tab := ⟨[0, 1, 2, 3, 4, 5, 6, 7], [0, 1, 2, 3, 4, 5, 6, 7], [0, 1, 2, 3, 4, 5, 6, 7], ["int", "len", "range"]⟩
theorem t__law_draw_ok : t__law_draw.ok N__law_draw (defScope s__law_draw) (fun _ => true) = true := by decide +kernel
theorem d__law_draw {g : GC} {ex : Str → Option Addr} (z_int : g.mg "int" = none) (z_len : g.mg "len" = none) (z_range : g.mg "range" = none) (J : Jc) (hX : XOk g J.X N__law_draw (defScope s__law_draw) (fun _ => true) 0) (hp : ∀ σ, PassesAt (L2.CX g.P g.w) J.X σ (WE J.W σ)) (htk : L2.Takes J.X J.W) (hown : PassesOwn (model J.X.prog J.X.w) J.X.A J.X.env J.X.xe) (hex : J.ex = ex) (hTh : J.Th = tagE N__law_draw.length [.io JK, .fz]) (hTr : J.Tr = tagE N__law_draw.length [.io JK, .fz]) (hτ : J.τr = .fz) :
    SSs J (defBody s__law_draw) (tag0 N__law_draw.length [.io JK, .fz]) [.io JK, .fz, .un, .un, .un, .un, .un, .un] b__law_draw := by
  subst hex
  exact (sss_jfar hX t__law_draw_ok (i := 0) (m := 1) (jf := 2) (jo := 3) (ji := 0) rfl rfl rfl rfl rfl rfl rfl rfl rfl rfl rfl z_int rfl rfl rfl rfl (by decide) (by decide) (by decide) (by decide) (by decide) [true, false, false, false, false, false, false, false] rfl (Eq.trans (by rfl) hTr.symm) hτ (sss_cons (ss_jput hX (hX.pv t__law_draw_ok 0 rfl rfl) (se_op2 op_addD ops_addD (se_jget hX (hX.pv t__law_draw_ok 0 rfl rfl) (.inr rfl)) (seb_fz se_int)) (.inr rfl) rfl)
      (sss_cons (ss_par2 hX t__law_draw_ok 4 5  rfl rfl rfl rfl (by decide) (se_jget hX (hX.pv t__law_draw_ok 0 rfl rfl) (.inr rfl)) (se_jget hX (hX.pv t__law_draw_ok 0 rfl rfl) (.inr rfl)) rfl rfl rfl rfl rfl rfl rfl rfl rfl (swp_ hX (by rfl)) rfl)
      (sss_cons (ss_set hX t__law_draw_ok 6 rfl rfl (se_op2 op_modN ops_mod (se_t1 hX t__law_draw_ok (j := 0) rfl z_int bb_int call_int1 ops_int (seb_fz (se_op2 op_addD ops_addD (se_op2 op_addD ops_addD (se_op2 op_mul ops_mulI (se_ix (ix_A hX.u1) ops_ixA (se_var (hX.pv t__law_draw_ok 5 rfl rfl) rfl) (seb_fz (se_op2 op_modN ops_mod (se_t1 hX t__law_draw_ok (j := 0) rfl z_int bb_int call_int1 ops_int (seb_fz (se_op2 op_mul ops_mulI (se_var (hX.pv t__law_draw_ok 4 rfl rfl) rfl) (seb_fz se_int))) rfl) (seb_fz (se_b1 hX t__law_draw_ok (j := 1) rfl z_len bb_len call_lenA ops_len (seb_fz (se_var (hX.pv t__law_draw_ok 5 rfl rfl) rfl)) rfl)))) (fun _ _ => rfl)) (seb_fz se_int)) (seb_fz (se_op2 op_mul ops_mulI (se_jget hX (hX.pv t__law_draw_ok 0 rfl rfl) (.inr rfl)) (seb_fz se_int)))) (seb_fz (se_op2 op_mul ops_mulI (se_var (hX.pv t__law_draw_ok 4 rfl rfl) rfl) (seb_fz se_int))))) rfl) (seb_fz se_int)) rfl rfl rfl rfl rfl)
      (sss_clr [true, true, false, false, true, false, true, false] [5] rfl rfl rfl (sss_cons (ss_for1 hX hown (si_range1 hX t__law_draw_ok (j := 2) rfl z_range (sa_cons se_int sa_nil rfl) rfl)
        (sg_name hX t__law_draw_ok 7 rfl rfl rfl rfl rfl)
        (sss_clr_end [true, true, false, false, true, false, true, false] [7] rfl (by rfl) rfl (sss_one (ss_set hX t__law_draw_ok 6 rfl rfl (se_op2 op_modN ops_mod (se_t1 hX t__law_draw_ok (j := 0) rfl z_int bb_int call_int1 ops_int (seb_fz (se_op2 op_addD ops_addD (se_op2 op_addD ops_addD (se_op2 op_mul ops_mulI (se_var (hX.pv t__law_draw_ok 6 rfl rfl) rfl) (seb_fz (se_var (hX.pv t__law_draw_ok 6 rfl rfl) rfl))) (seb_fz (se_jget hX (hX.pv t__law_draw_ok 0 rfl rfl) (.inr rfl)))) (seb_fz (se_op2 op_mul ops_mulI (se_var (hX.pv t__law_draw_ok 4 rfl rfl) rfl) (seb_fz (se_op2 op_addD ops_addD se_int (seb_fz (se_var (hX.pv t__law_draw_ok 7 rfl rfl) rfl)))))))) rfl) (seb_fz se_int)) rfl rfl rfl rfl rfl))) (fun _ => rfl))
      (sss_one (ss_ret [true, false, false, false, false, false, false, false] (by rw [hτ]; exact (se_op2 op_modN ops_mod (se_t1 hX t__law_draw_ok (j := 0) rfl z_int bb_int call_int1 ops_int (seb_fz (se_op2 op_fdivN ops_fdiv (se_var (hX.pv t__law_draw_ok 6 rfl rfl) rfl) (seb_fz se_int))) rfl) (seb_fz (se_var (hX.pv t__law_draw_ok 1 rfl rfl) rfl)))) rfl (Eq.trans (by rfl) hTr.symm)))))))) rfl rfl)
theorem ok__law_draw {g : GC} {ex : Str → Option Addr} (z_int : g.mg "int" = none) (z_len : g.mg "len" = none) (z_range : g.mg "range" = none) {f : Addr} {fd : FuncData} (Fu : L2.Fun g.K "_law_draw" "_law_draw" s__law_draw f fd) : FnG g (L2.CX g.P g.w) 1 f fd ["jar", "many"] (spF g.K ex [.io JK, .fz] (.fz) m__law_draw) :=
  fn_ok Fu sc__law_draw rfl (by rfl) (fun J hX hp htk hown _ h1 h2 h3 h4 => d__law_draw z_int z_len z_range J hX hp htk hown h1 h2 h3 h4) (.inl rfl) ⟨[true, false, false, false, false, false, false, false], rfl, by rfl⟩ (.inl rfl)
/-! ### _law_pick -/
abbrev s__law_pick : Stmt := top 17
theorem sc__law_pick : FnScope N__law_pick ["jar", "row"] (defScope s__law_pick) := ⟨rfl, rfl, rfl, by decide +kernel, rfl, by decide +kernel, by decide +kernel⟩
def t__law_pick : Tab := ⟨[0, 1], [0, 1], [0, 1], ["_law_draw", "len"]⟩
theorem t__law_pick_ok : t__law_pick.ok N__law_pick (defScope s__law_pick) (fun _ => true) = true := by decide +kernel
theorem d__law_pick {g : GC} {ex : Str → Option Addr} (c__law_draw : Cal g (L2.CX g.P g.w) ex "_law_draw" s__law_draw 1 ["jar", "many"] [.io JK, .fz] (.fz) m__law_draw) (z_len : g.mg "len" = none) (J : Jc) (hX : XOk g J.X N__law_pick (defScope s__law_pick) (fun _ => true) 1) (hp : ∀ σ, PassesAt (L2.CX g.P g.w) J.X σ (WE J.W σ)) (htk : L2.Takes J.X J.W) (hown : PassesOwn (model J.X.prog J.X.w) J.X.A J.X.env J.X.xe) (hex : J.ex = ex) (hTh : J.Th = tagE N__law_pick.length [.io JK, .fz]) (hTr : J.Tr = tagE N__law_pick.length [.io JK, .fz]) (hτ : J.τr = .fz) :
    SSs J (defBody s__law_pick) (tag0 N__law_pick.length [.io JK, .fz]) [.io JK, .fz] b__law_pick := by
  subst hex
  exact (sss_one (ss_ret [true, false] (by rw [hτ]; exact (se_ix (ix_A hX.u1) ops_ixA (se_var (hX.pv t__law_pick_ok 1 rfl rfl) rfl) (seb_fz (se_call (J := J) hX t__law_pick_ok hp c__law_draw (by decide) (j := 0) rfl (sa_lend (hX.pv t__law_pick_ok 0 rfl rfl) (.inr rfl) (sa_cons (se_b1 hX t__law_pick_ok (j := 1) rfl z_len bb_len call_lenA ops_len (seb_fz (se_var (hX.pv t__law_pick_ok 1 rfl rfl) rfl)) rfl) sa_nil rfl)) (.lendI rfl (.val .nil)) (by decide) [true, false] rfl (Eq.trans (by rfl) hTh.symm) rfl rfl)) (fun _ _ => rfl))) rfl (Eq.trans (by rfl) hTr.symm)))
theorem ok__law_pick {g : GC} {ex : Str → Option Addr} (c__law_draw : Cal g (L2.CX g.P g.w) ex "_law_draw" s__law_draw 1 ["jar", "many"] [.io JK, .fz] (.fz) m__law_draw) (z_len : g.mg "len" = none) {f : Addr} {fd : FuncData} (Fu : L2.Fun g.K "_law_pick" "_law_pick" s__law_pick f fd) : FnG g (L2.CX g.P g.w) 2 f fd ["jar", "row"] (spF g.K ex [.io JK, .fz] (.fz) m__law_pick) :=
  fn_ok Fu sc__law_pick rfl (by rfl) (fun J hX hp htk hown _ h1 h2 h3 h4 => d__law_pick c__law_draw z_len J hX hp htk hown h1 h2 h3 h4) (.inl rfl) ⟨[true, false], rfl, by rfl⟩ (.inl rfl)
/-! ### _law_mixed -/
abbrev s__law_mixed : Stmt := top 18
theorem sc__law_mixed : FnScope N__law_mixed ["jar", "row"] (defScope s__law_mixed) := ⟨rfl, rfl, rfl, by decide +kernel, rfl, by decide +kernel, by decide +kernel⟩
def t__law_mixed : Tab := ⟨[0, 1, 2, 3, 4], [0, 1, 2, 3, 4], [0, 1, 2, 3, 4], ["list", "range", "len", "_law_draw"]⟩
theorem t__law_mixed_ok : t__law_mixed.ok N__law_mixed (defScope s__law_mixed) (fun _ => true) = true := by decide +kernel
theorem d__law_mixed {g : GC} {ex : Str → Option Addr} (c__law_draw : Cal g (L2.CX g.P g.w) ex "_law_draw" s__law_draw 1 ["jar", "many"] [.io JK, .fz] (.fz) m__law_draw) (z_list : g.mg "list" = none) (z_range : g.mg "range" = none) (z_len : g.mg "len" = none) (J : Jc) (hX : XOk g J.X N__law_mixed (defScope s__law_mixed) (fun _ => true) 1) (hp : ∀ σ, PassesAt (L2.CX g.P g.w) J.X σ (WE J.W σ)) (htk : L2.Takes J.X J.W) (hown : PassesOwn (model J.X.prog J.X.w) J.X.A J.X.env J.X.xe) (hex : J.ex = ex) (hTh : J.Th = tagE N__law_mixed.length [.io JK, .fz]) (hTr : J.Tr = tagE N__law_mixed.length [.io JK, .fz]) (hτ : J.τr = .fz) :
    SSs J (defBody s__law_mixed) (tag0 N__law_mixed.length [.io JK, .fz]) [.io JK, .fz, .un, .un, .un] b__law_mixed := by
  subst hex
  exact (sss_cons (ss_par2 hX t__law_mixed_ok 2 3  rfl rfl rfl rfl (by decide) (se_t1O hX t__law_mixed_ok (j := 0) rfl z_list bb_list (call_listA hX.c) ops_listO (seb_fz (se_var (hX.pv t__law_mixed_ok 1 rfl rfl) rfl)) rfl) (se_lstO (n := 0) sa_nil) rfl rfl rfl rfl rfl rfl rfl rfl rfl (swp_ hX (by rfl)) rfl)
      (sss_clr [true, false, true, true, false] [1] rfl rfl rfl (sss_cons (ss_for1 hX hown (si_range1 hX t__law_mixed_ok (j := 1) rfl z_range (sa_cons (se_b1 hX t__law_mixed_ok (j := 2) rfl z_len bb_len call_lenA ops_len (seb_var (hX.pv t__law_mixed_ok 2 rfl rfl) rfl @shr_owL) rfl) sa_nil rfl) rfl)
        (sg_name hX t__law_mixed_ok 4 rfl rfl rfl rfl rfl)
        (sss_clr_end [true, false, true, true, false] [4] rfl (by rfl) rfl (sss_one (ss_exp (se_mut (n := 1) (hX.pv t__law_mixed_ok 3 rfl rfl) ⟨_, rfl, fun z => by cases z⟩ PySem.F.slot_list_append PySem.F.type_list_append mt_append mu_append (sa_cons (se_mut (n := 1) (hX.pv t__law_mixed_ok 2 rfl rfl) ⟨_, rfl, fun z => by cases z⟩ PySem.F.slot_list_pop PySem.F.type_list_pop mt_popAt mu_popAt (sa_cons (se_call (J := J) hX t__law_mixed_ok hp c__law_draw (by decide) (j := 3) rfl (sa_lend (hX.pv t__law_mixed_ok 0 rfl rfl) (.inr rfl) (sa_cons (se_b1 hX t__law_mixed_ok (j := 2) rfl z_len bb_len call_lenA ops_len (seb_var (hX.pv t__law_mixed_ok 2 rfl rfl) rfl @shr_owL) rfl) sa_nil rfl)) (.lendI rfl (.val .nil)) (by decide) [true, false, false, false, false] rfl (Eq.trans (by rfl) hTh.symm) rfl rfl) sa_nil rfl) (.inl rfl) rfl rfl rfl rfl rfl rfl) sa_nil rfl) (.inl rfl) rfl rfl rfl rfl rfl rfl) rfl))) (fun _ => rfl))
      (sss_one (ss_ret [true, false, false, false, false] (by rw [hτ]; exact (se_varO (hX.pv t__law_mixed_ok 3 rfl rfl) rfl @OL.frz rfl)) rfl (Eq.trans (by rfl) hTr.symm))))))
theorem ok__law_mixed {g : GC} {ex : Str → Option Addr} (c__law_draw : Cal g (L2.CX g.P g.w) ex "_law_draw" s__law_draw 1 ["jar", "many"] [.io JK, .fz] (.fz) m__law_draw) (z_list : g.mg "list" = none) (z_range : g.mg "range" = none) (z_len : g.mg "len" = none) {f : Addr} {fd : FuncData} (Fu : L2.Fun g.K "_law_mixed" "_law_mixed" s__law_mixed f fd) : FnG g (L2.CX g.P g.w) 2 f fd ["jar", "row"] (spF g.K ex [.io JK, .fz] (.fz) m__law_mixed) :=
  fn_ok Fu sc__law_mixed rfl (by rfl) (fun J hX hp htk hown _ h1 h2 h3 h4 => d__law_mixed c__law_draw z_list z_range z_len J hX hp htk hown h1 h2 h3 h4) (.inl rfl) ⟨[true, false, false, false, false], rfl, by rfl⟩ (.inl rfl)
/-! ### _law_made -/
abbrev s__law_made : Stmt := top 19
theorem sc__law_made : FnScope N__law_made ["jar", "n", "pairs", "loads"] (defScope s__law_made) := ⟨rfl, rfl, rfl, by decide +kernel, rfl, by decide +kernel, by decide +kernel⟩
def t__law_made : Tab := ⟨[0, 1, 2, 3, 4, 5, 6, 7, 8], [0, 1, 2, 3, 4, 5, 6, 7, 8], [0, 1, 2, 3, 4, 5, 6, 7, 8], ["_law_mixed", "list", "range", "zip", "min", "max", "sorted", "tuple"]⟩
theorem t__law_made_ok : t__law_made.ok N__law_made (defScope s__law_made) (fun _ => true) = true := by decide +kernel
def t__law_made_1 : Tab := ⟨[6, 7, 8], [6, 7, 8], [6, 7, 8], []⟩
theorem t__law_made_1_ok : t__law_made_1.ok N__law_made (relS { kind := PySem.ScopeKind.function, names := [(PySem.Str.ofString ".0", PySem.NameKind.local), (PySem.Str.ofString "a", PySem.NameKind.local), (PySem.Str.ofString "b", PySem.NameKind.local), (PySem.Str.ofString "load", PySem.NameKind.local)], isGenerator := false, isCoroutine := false, more := [] } (defScope s__law_made)) (fun x => ({ kind := PySem.ScopeKind.function, names := [(PySem.Str.ofString ".0", PySem.NameKind.local), (PySem.Str.ofString "a", PySem.NameKind.local), (PySem.Str.ofString "b", PySem.NameKind.local), (PySem.Str.ofString "load", PySem.NameKind.local)], isGenerator := false, isCoroutine := false, more := [] } : Scope).names.lookup x == some .cell) = true := by decide +kernel
def t__law_made_2 : Tab := ⟨[6, 7, 8], [6, 7, 8], [6, 7, 8], []⟩
theorem t__law_made_2_ok : t__law_made_2.ok N__law_made (relS { kind := PySem.ScopeKind.function, names := [(PySem.Str.ofString ".0", PySem.NameKind.local), (PySem.Str.ofString "a", PySem.NameKind.local), (PySem.Str.ofString "b", PySem.NameKind.local), (PySem.Str.ofString "load", PySem.NameKind.local)], isGenerator := false, isCoroutine := false, more := [] } (defScope s__law_made)) (fun x => ({ kind := PySem.ScopeKind.function, names := [(PySem.Str.ofString ".0", PySem.NameKind.local), (PySem.Str.ofString "a", PySem.NameKind.local), (PySem.Str.ofString "b", PySem.NameKind.local), (PySem.Str.ofString "load", PySem.NameKind.local)], isGenerator := false, isCoroutine := false, more := [] } : Scope).names.lookup x == some .cell) = true := by decide +kernel
theorem d__law_made {g : GC} {ex : Str → Option Addr} (c__law_mixed : Cal g (L2.CX g.P g.w) ex "_law_mixed" s__law_mixed 2 ["jar", "row"] [.io JK, .fz] (.fz) m__law_mixed) (z_list : g.mg "list" = none) (z_range : g.mg "range" = none) (z_zip : g.mg "zip" = none) (z_min : g.mg "min" = none) (z_max : g.mg "max" = none) (z_sorted : g.mg "sorted" = none) (z_tuple : g.mg "tuple" = none) (J : Jc) (hX : XOk g J.X N__law_made (defScope s__law_made) (fun _ => true) 2) (hp : ∀ σ, PassesAt (L2.CX g.P g.w) J.X σ (WE J.W σ)) (htk : L2.Takes J.X J.W) (hown : PassesOwn (model J.X.prog J.X.w) J.X.A J.X.env J.X.xe) (hex : J.ex = ex) (hTh : J.Th = tagE N__law_made.length [.io JK, .fz, .fz, .fz]) (hTr : J.Tr = tagE N__law_made.length [.io JK, .fz, .fz, .fz]) (hτ : J.τr = .fz) :
    SSs J (defBody s__law_made) (tag0 N__law_made.length [.io JK, .fz, .fz, .fz]) [.io JK, .fz, .fz, .fz, .un, .un, .un, .un, .un] b__law_made := by
  subst hex
  exact (sss_cons (ss_par2 hX t__law_made_ok 4 5  rfl rfl rfl rfl (by decide) (se_call (J := J) hX t__law_made_ok hp c__law_mixed (by decide) (j := 0) rfl (sa_lend (hX.pv t__law_made_ok 0 rfl rfl) (.inr rfl) (sa_cons (se_freeze (se_lrg1 hX t__law_made_ok (j := 1) rfl z_list (j2 := 2) rfl z_range (se_var (hX.pv t__law_made_ok 1 rfl rfl) rfl) rfl) @OL.frz) sa_nil rfl)) (.lendI rfl (.val .nil)) (by decide) [true, false, false, false, false, false, false, false, false] rfl (Eq.trans (by rfl) hTh.symm) rfl rfl) (se_lstO (n := 0) sa_nil) rfl rfl rfl rfl rfl rfl rfl rfl rfl (swp_ hX (by rfl)) rfl)
      (sss_cons (ss_for1 hX hown (si_zip hX t__law_made_ok (j := 3) rfl z_zip (sa_cons (se_var (hX.pv t__law_made_ok 2 rfl rfl) rfl) (sa_cons (se_var (hX.pv t__law_made_ok 3 rfl rfl) rfl) sa_nil rfl) rfl) rfl rfl)
        (sg_tup hX.c (sgs_cons (sg_tup hX.c (sgs_cons (sg_name hX t__law_made_ok 6 rfl rfl rfl rfl rfl) (sgs_cons (sg_name hX t__law_made_ok 7 rfl rfl rfl rfl rfl) sgs_nil rfl) rfl) rfl rfl) (sgs_cons (sg_name hX t__law_made_ok 8 rfl rfl rfl rfl rfl) sgs_nil rfl) rfl) rfl rfl)
        (sss_clr_end [true, true, true, true, true, true, false, false, false] [6, 7, 8] rfl (by rfl) rfl (sss_one (ss_exp (se_mut (n := 1) (hX.pv t__law_made_ok 5 rfl rfl) ⟨_, rfl, fun z => by cases z⟩ PySem.F.slot_list_append PySem.F.type_list_append mt_append mu_append (sa_cons (se_tup (n := 3) (sa_cons (se_b2 hX t__law_made_ok (j := 4) rfl z_min bb_min (call_min2 hX.c) ops_min2 (se_ix (ix_A hX.u1) ops_ixA (se_var (hX.pv t__law_made_ok 4 rfl rfl) rfl) (seb_fz (se_var (hX.pv t__law_made_ok 6 rfl rfl) rfl)) (fun _ _ => rfl)) (seb_fz (se_ix (ix_A hX.u1) ops_ixA (se_var (hX.pv t__law_made_ok 4 rfl rfl) rfl) (seb_fz (se_var (hX.pv t__law_made_ok 7 rfl rfl) rfl)) (fun _ _ => rfl))) rfl rfl) (sa_cons (se_b2 hX t__law_made_ok (j := 5) rfl z_max bb_max (call_max2 hX.c) ops_max2 (se_ix (ix_A hX.u1) ops_ixA (se_var (hX.pv t__law_made_ok 4 rfl rfl) rfl) (seb_fz (se_var (hX.pv t__law_made_ok 6 rfl rfl) rfl)) (fun _ _ => rfl)) (seb_fz (se_ix (ix_A hX.u1) ops_ixA (se_var (hX.pv t__law_made_ok 4 rfl rfl) rfl) (seb_fz (se_var (hX.pv t__law_made_ok 7 rfl rfl) rfl)) (fun _ _ => rfl))) rfl rfl) (sa_cons (se_var (hX.pv t__law_made_ok 8 rfl rfl) rfl) sa_nil rfl) rfl) rfl)) sa_nil rfl) (.inl rfl) rfl rfl rfl rfl rfl rfl) rfl))) (fun _ => rfl))
      (sss_cons (ss_set hX t__law_made_ok 5 rfl rfl (se_b1O hX t__law_made_ok (j := 6) rfl z_sorted bb_sorted (call_sortG hX.u64) ops_sortO (seb_var (hX.pv t__law_made_ok 5 rfl rfl) rfl @shr_owL) rfl) rfl rfl rfl rfl rfl)
      (sss_one (ss_ret [true, false, false, false, false, false, false, false, false] (by rw [hτ]; exact (se_tup (n := 3) (sa_cons (se_var (hX.pv t__law_made_ok 1 rfl rfl) rfl) (sa_cons (se_t1 hX t__law_made_ok (j := 7) rfl z_tuple bb_tuple call_tuple_of ops_tup (seb_fz (se_freeze (se_lcO hX [(PySem.Str.ofString "a", 6), (PySem.Str.ofString "b", 7), (PySem.Str.ofString "load", 8)] (si_seq (se_varO (hX.pv t__law_made_ok 5 rfl rfl) rfl @OL.frz rfl)) (by decide +kernel) (by intro i hi; simp only [List.map_cons, List.map_nil, List.mem_cons, List.not_mem_nil, or_false] at hi; rcases hi with rfl | rfl | rfl <;> exact ⟨_, rfl, rfl⟩) rfl (fun Y1 h1 => (sg_tup h1.c (sgs_cons (sg_name h1 t__law_made_1_ok 6 rfl rfl rfl rfl rfl) (sgs_cons (sg_name h1 t__law_made_1_ok 7 rfl rfl rfl rfl rfl) (sgs_cons (sg_name h1 t__law_made_1_ok 8 rfl rfl rfl rfl rfl) sgs_nil rfl) rfl) rfl) rfl rfl)) (fun Y1 h1 => sts_nil) (fun Y1 h1 => (se_tup (n := 2) (sa_cons (se_var (h1.pv t__law_made_1_ok 6 rfl rfl) rfl) (sa_cons (se_var (h1.pv t__law_made_1_ok 7 rfl rfl) rfl) sa_nil rfl) rfl))) (by decide) rfl (by intro i hi; simp only [List.map_cons, List.map_nil, List.mem_cons, List.not_mem_nil, or_false] at hi; rcases hi with rfl | rfl | rfl <;> exact ⟨_, rfl, rfl⟩) (fun _ => rfl)) @OL.frz)) rfl) (sa_cons (se_t1 hX t__law_made_ok (j := 7) rfl z_tuple bb_tuple call_tuple_of ops_tup (seb_fz (se_freeze (se_lcO hX [(PySem.Str.ofString "a", 6), (PySem.Str.ofString "b", 7), (PySem.Str.ofString "load", 8)] (si_seq (se_var (hX.pv t__law_made_ok 5 rfl rfl) rfl)) (by decide +kernel) (by intro i hi; simp only [List.map_cons, List.map_nil, List.mem_cons, List.not_mem_nil, or_false] at hi; rcases hi with rfl | rfl | rfl <;> exact ⟨_, rfl, rfl⟩) rfl (fun Y1 h1 => (sg_tup h1.c (sgs_cons (sg_name h1 t__law_made_2_ok 6 rfl rfl rfl rfl rfl) (sgs_cons (sg_name h1 t__law_made_2_ok 7 rfl rfl rfl rfl rfl) (sgs_cons (sg_name h1 t__law_made_2_ok 8 rfl rfl rfl rfl rfl) sgs_nil rfl) rfl) rfl) rfl rfl)) (fun Y1 h1 => sts_nil) (fun Y1 h1 => (se_var (h1.pv t__law_made_2_ok 8 rfl rfl) rfl)) (by decide) rfl (by intro i hi; simp only [List.map_cons, List.map_nil, List.mem_cons, List.not_mem_nil, or_false] at hi; rcases hi with rfl | rfl | rfl <;> exact ⟨_, rfl, rfl⟩) (fun _ => rfl)) @OL.frz)) rfl) sa_nil rfl) rfl) rfl))) rfl (Eq.trans (by rfl) hTr.symm))))))
theorem ok__law_made {g : GC} {ex : Str → Option Addr} (c__law_mixed : Cal g (L2.CX g.P g.w) ex "_law_mixed" s__law_mixed 2 ["jar", "row"] [.io JK, .fz] (.fz) m__law_mixed) (z_list : g.mg "list" = none) (z_range : g.mg "range" = none) (z_zip : g.mg "zip" = none) (z_min : g.mg "min" = none) (z_max : g.mg "max" = none) (z_sorted : g.mg "sorted" = none) (z_tuple : g.mg "tuple" = none) {f : Addr} {fd : FuncData} (Fu : L2.Fun g.K "_law_made" "_law_made" s__law_made f fd) : FnG g (L2.CX g.P g.w) 3 f fd ["jar", "n", "pairs", "loads"] (spF g.K ex [.io JK, .fz, .fz, .fz] (.fz) m__law_made) :=
  fn_ok Fu sc__law_made rfl (by rfl) (fun J hX hp htk hown _ h1 h2 h3 h4 => d__law_made c__law_mixed z_list z_range z_zip z_min z_max z_sorted z_tuple J hX hp htk hown h1 h2 h3 h4) (.inl rfl) ⟨[true, false, false, false, false, false, false, false, false], rfl, by rfl⟩ (.inl rfl)
/-! ### _law_tree -/
abbrev s__law_tree : Stmt := top 20
theorem sc__law_tree : FnScope N__law_tree ["jar", "n"] (defScope s__law_tree) := ⟨rfl, rfl, rfl, by decide +kernel, rfl, by decide +kernel, by decide +kernel⟩
def t__law_tree : Tab := ⟨[0, 1], [0, 1], [1], ["range"]⟩
theorem t__law_tree_ok : t__law_tree.ok N__law_tree (defScope s__law_tree) (fun _ => true) = true := by decide +kernel
def t__law_tree_1 : Tab := ⟨[0, 2], [2], [2], ["_law_draw"]⟩
theorem t__law_tree_1_ok : t__law_tree_1.ok N__law_tree (relS { kind := PySem.ScopeKind.function, names := [(PySem.Str.ofString ".0", PySem.NameKind.local), (PySem.Str.ofString "place", PySem.NameKind.local), (PySem.Str.ofString "_law_draw", PySem.NameKind.globalImplicit), (PySem.Str.ofString "jar", PySem.NameKind.free)], isGenerator := false, isCoroutine := false, more := [] } (defScope s__law_tree)) (fun x => ({ kind := PySem.ScopeKind.function, names := [(PySem.Str.ofString ".0", PySem.NameKind.local), (PySem.Str.ofString "place", PySem.NameKind.local), (PySem.Str.ofString "_law_draw", PySem.NameKind.globalImplicit), (PySem.Str.ofString "jar", PySem.NameKind.free)], isGenerator := false, isCoroutine := false, more := [] } : Scope).names.lookup x == some .cell) = true := by decide +kernel
theorem d__law_tree {g : GC} {ex : Str → Option Addr} (c__law_draw : Cal g (L2.CX g.P g.w) ex "_law_draw" s__law_draw 1 ["jar", "many"] [.io JK, .fz] (.fz) m__law_draw) (z_range : g.mg "range" = none) (J : Jc) (hX : XOk g J.X N__law_tree (defScope s__law_tree) (fun _ => true) 1) (hp : ∀ σ, PassesAt (L2.CX g.P g.w) J.X σ (WE J.W σ)) (htk : L2.Takes J.X J.W) (hown : PassesOwn (model J.X.prog J.X.w) J.X.A J.X.env J.X.xe) (hex : J.ex = ex) (hTh : J.Th = tagE N__law_tree.length [.io JK, .fz]) (hTr : J.Tr = tagE N__law_tree.length [.io JK, .fz]) (hτ : J.τr = .fz) :
    SSs J (defBody s__law_tree) (tag0 N__law_tree.length [.io JK, .fz]) [.io JK, .fz, .un] b__law_tree := by
  subst hex
  exact (sss_one (ss_ret [true, false, false] (by rw [hτ]; exact (se_freeze (se_lcO hX [(PySem.Str.ofString "place", 2)] (si_range2 hX t__law_tree_ok (j := 0) rfl z_range (sa_cons se_int (sa_cons (se_var (hX.pv t__law_tree_ok 1 rfl rfl) rfl) sa_nil rfl) rfl) rfl rfl) (by decide +kernel) (by intro i hi; simp only [List.map_cons, List.map_nil, List.mem_cons, List.not_mem_nil, or_false] at hi; rcases hi with rfl <;> exact ⟨_, rfl, rfl⟩) rfl (fun Y1 h1 => (sg_name h1 t__law_tree_1_ok 2 rfl rfl rfl rfl rfl)) (fun Y1 h1 => sts_nil) (fun Y1 h1 => (se_tup (n := 2) (sa_cons (se_call (J := (JB J Y1)) h1 t__law_tree_1_ok passes_no c__law_draw (by decide) (j := 0) rfl (sa_lend (h1.pv t__law_tree_1_ok 0 rfl rfl) (.inr rfl) (sa_cons (se_var (h1.pv t__law_tree_1_ok 2 rfl rfl) rfl) sa_nil rfl)) (.lendI rfl (.val .nil)) (by decide) [true, false, false] rfl (Eq.trans (by rfl) hTh.symm) rfl rfl) (sa_cons (se_var (h1.pv t__law_tree_1_ok 2 rfl rfl) rfl) sa_nil rfl) rfl))) (by decide) rfl (by intro i hi; simp only [List.map_cons, List.map_nil, List.mem_cons, List.not_mem_nil, or_false] at hi; rcases hi with rfl <;> exact ⟨_, rfl, rfl⟩) (fun _ => rfl)) @OL.frz)) rfl (Eq.trans (by rfl) hTr.symm)))
theorem ok__law_tree {g : GC} {ex : Str → Option Addr} (c__law_draw : Cal g (L2.CX g.P g.w) ex "_law_draw" s__law_draw 1 ["jar", "many"] [.io JK, .fz] (.fz) m__law_draw) (z_range : g.mg "range" = none) {f : Addr} {fd : FuncData} (Fu : L2.Fun g.K "_law_tree" "_law_tree" s__law_tree f fd) : FnG g (L2.CX g.P g.w) 2 f fd ["jar", "n"] (spF g.K ex [.io JK, .fz] (.fz) m__law_tree) :=
  fn_ok Fu sc__law_tree rfl (by rfl) (fun J hX hp htk hown _ h1 h2 h3 h4 => d__law_tree c__law_draw z_range J hX hp htk hown h1 h2 h3 h4) (.inl rfl) ⟨[true, false, false], rfl, by rfl⟩ (.inl rfl)
/-! ### _law_more -/
abbrev s__law_more : Stmt := top 21
theorem sc__law_more : FnScope N__law_more ["jar", "n", "pairs", "many"] (defScope s__law_more) := ⟨rfl, rfl, rfl, by decide +kernel, rfl, by decide +kernel, by decide +kernel⟩
def t__law_more : Tab := ⟨[0, 1, 2, 3, 4, 5], [0, 1, 2, 3, 4, 5], [0, 1, 3, 4], ["range", "_law_mixed"]⟩
theorem t__law_more_ok : t__law_more.ok N__law_more (defScope s__law_more) (fun _ => true) = true := by decide +kernel
def t__law_more_1 : Tab := ⟨[2, 5, 6], [6], [6], []⟩
theorem t__law_more_1_ok : t__law_more_1.ok N__law_more (relS { kind := PySem.ScopeKind.function, names := [(PySem.Str.ofString ".0", PySem.NameKind.local), (PySem.Str.ofString "b", PySem.NameKind.local), (PySem.Str.ofString "a", PySem.NameKind.free), (PySem.Str.ofString "pairs", PySem.NameKind.free)], isGenerator := false, isCoroutine := false, more := [] } (defScope s__law_more)) (fun x => ({ kind := PySem.ScopeKind.function, names := [(PySem.Str.ofString ".0", PySem.NameKind.local), (PySem.Str.ofString "b", PySem.NameKind.local), (PySem.Str.ofString "a", PySem.NameKind.free), (PySem.Str.ofString "pairs", PySem.NameKind.free)], isGenerator := false, isCoroutine := false, more := [] } : Scope).names.lookup x == some .cell) = true := by decide +kernel
theorem d__law_more {g : GC} {ex : Str → Option Addr} (c__law_mixed : Cal g (L2.CX g.P g.w) ex "_law_mixed" s__law_mixed 2 ["jar", "row"] [.io JK, .fz] (.fz) m__law_mixed) (z_range : g.mg "range" = none) (J : Jc) (hX : XOk g J.X N__law_more (defScope s__law_more) (fun _ => true) 2) (hp : ∀ σ, PassesAt (L2.CX g.P g.w) J.X σ (WE J.W σ)) (htk : L2.Takes J.X J.W) (hown : PassesOwn (model J.X.prog J.X.w) J.X.A J.X.env J.X.xe) (hex : J.ex = ex) (hTh : J.Th = tagE N__law_more.length [.io JK, .fz, .fz, .fz]) (hTr : J.Tr = tagE N__law_more.length [.io JK, .fz, .fz, .fz]) (hτ : J.τr = .fz) :
    SSs J (defBody s__law_more) (tag0 N__law_more.length [.io JK, .fz, .fz, .fz]) [.io JK, .fz, .fz, .fz, .un, .un, .un] b__law_more := by
  subst hex
  exact (sss_cons (ss_set hX t__law_more_ok 4 rfl rfl (se_freeze (se_lstO (n := 0) sa_nil) @OL.frz) rfl rfl rfl rfl rfl)
      (sss_cons (ss_for1 hX hown (si_range1 hX t__law_more_ok (j := 0) rfl z_range (sa_cons (se_var (hX.pv t__law_more_ok 1 rfl rfl) rfl) sa_nil rfl) rfl)
        (sg_name hX t__law_more_ok 5 rfl rfl rfl rfl rfl)
        (sss_clr_end [true, true, true, true, true, false, false] [5] rfl (by rfl) rfl (sss_one (ss_set hX t__law_more_ok 4 rfl rfl (se_op2 op_addD ops_addD (se_var (hX.pv t__law_more_ok 4 rfl rfl) rfl) (seb_fz (se_freeze (se_lcO hX [(PySem.Str.ofString "b", 6)] (si_range2 hX t__law_more_ok (j := 0) rfl z_range (sa_cons (se_op2 op_addD ops_addD (se_var (hX.pv t__law_more_ok 5 rfl rfl) rfl) (seb_fz se_int)) (sa_cons (se_var (hX.pv t__law_more_ok 1 rfl rfl) rfl) sa_nil rfl) rfl) rfl rfl) (by decide +kernel) (by intro i hi; simp only [List.map_cons, List.map_nil, List.mem_cons, List.not_mem_nil, or_false] at hi; rcases hi with rfl <;> exact ⟨_, rfl, rfl⟩) rfl (fun Y1 h1 => (sg_name h1 t__law_more_1_ok 6 rfl rfl rfl rfl rfl)) (fun Y1 h1 => (sts_one (st_cmp (op_notInA h1.u65) ops_notInA (se_tup (n := 2) (sa_cons (se_var (h1.pv t__law_more_1_ok 5 rfl rfl) rfl) (sa_cons (se_var (h1.pv t__law_more_1_ok 6 rfl rfl) rfl) sa_nil rfl) rfl)) (seb_fz (se_var (h1.pv t__law_more_1_ok 2 rfl rfl) rfl)) rfl))) (fun Y1 h1 => (se_tup (n := 2) (sa_cons (se_var (h1.pv t__law_more_1_ok 5 rfl rfl) rfl) (sa_cons (se_var (h1.pv t__law_more_1_ok 6 rfl rfl) rfl) sa_nil rfl) rfl))) (by decide) rfl (by intro i hi; simp only [List.map_cons, List.map_nil, List.mem_cons, List.not_mem_nil, or_false] at hi; rcases hi with rfl <;> exact ⟨_, rfl, rfl⟩) (fun _ => rfl)) @OL.frz))) rfl rfl rfl rfl rfl))) (fun _ => rfl))
      (sss_one (ss_ret [true, false, false, false, false, false, false] (by rw [hτ]; exact (se_op2 op_addD ops_addD (se_var (hX.pv t__law_more_ok 2 rfl rfl) rfl) (seb_fz (se_slice (se_call (J := J) hX t__law_more_ok hp c__law_mixed (by decide) (j := 1) rfl (sa_lend (hX.pv t__law_more_ok 0 rfl rfl) (.inr rfl) (sa_cons (se_var (hX.pv t__law_more_ok 4 rfl rfl) rfl) sa_nil rfl)) (.lendI rfl (.val .nil)) (by decide) [true, false, false, false, false, false, false] rfl (Eq.trans (by rfl) hTh.symm) rfl rfl) sp_none (sp_some (se_var (hX.pv t__law_more_ok 3 rfl rfl) rfl)))))) rfl (Eq.trans (by rfl) hTr.symm)))))
theorem ok__law_more {g : GC} {ex : Str → Option Addr} (c__law_mixed : Cal g (L2.CX g.P g.w) ex "_law_mixed" s__law_mixed 2 ["jar", "row"] [.io JK, .fz] (.fz) m__law_mixed) (z_range : g.mg "range" = none) {f : Addr} {fd : FuncData} (Fu : L2.Fun g.K "_law_more" "_law_more" s__law_more f fd) : FnG g (L2.CX g.P g.w) 3 f fd ["jar", "n", "pairs", "many"] (spF g.K ex [.io JK, .fz, .fz, .fz] (.fz) m__law_more) :=
  fn_ok Fu sc__law_more rfl (by rfl) (fun J hX hp htk hown _ h1 h2 h3 h4 => d__law_more c__law_mixed z_range J hX hp htk hown h1 h2 h3 h4) (.inl rfl) ⟨[true, false, false, false, false, false, false], rfl, by rfl⟩ (.inl rfl)
/-! ### _law_web -/
abbrev s__law_web : Stmt := top 22
theorem sc__law_web : FnScope N__law_web ["jar"] (defScope s__law_web) := ⟨rfl, rfl, rfl, by decide +kernel, rfl, by decide +kernel, by decide +kernel⟩
def t__law_web : Tab := ⟨[0, 1, 2, 3, 4, 5, 6, 7, 8, 9], [0, 1, 2, 3, 4, 5, 6, 7, 8, 9], [1, 2, 3, 4, 5, 6, 7, 8], ["_law_draw", "range", "_law_tree", "_law_more", "_law_pick", "len", "enumerate", "int", "_law_made"]⟩
theorem t__law_web_ok : t__law_web.ok N__law_web (defScope s__law_web) (fun _ => true) = true := by decide +kernel
def t__law_web_1 : Tab := ⟨[3], [3], [3], []⟩
theorem t__law_web_1_ok : t__law_web_1.ok N__law_web (relS { kind := PySem.ScopeKind.function, names := [(PySem.Str.ofString ".0", PySem.NameKind.local), (PySem.Str.ofString "k", PySem.NameKind.local)], isGenerator := false, isCoroutine := false, more := [] } (defScope s__law_web)) (fun x => ({ kind := PySem.ScopeKind.function, names := [(PySem.Str.ofString ".0", PySem.NameKind.local), (PySem.Str.ofString "k", PySem.NameKind.local)], isGenerator := false, isCoroutine := false, more := [] } : Scope).names.lookup x == some .cell) = true := by decide +kernel
def t__law_web_2 : Tab := ⟨[0, 9, 10], [10], [10], ["_law_draw"]⟩
theorem t__law_web_2_ok : t__law_web_2.ok N__law_web (relS { kind := PySem.ScopeKind.function, names := [(PySem.Str.ofString ".0", PySem.NameKind.local), (PySem.Str.ofString "pair", PySem.NameKind.local), (PySem.Str.ofString "_law_draw", PySem.NameKind.globalImplicit), (PySem.Str.ofString "jar", PySem.NameKind.free), (PySem.Str.ofString "most", PySem.NameKind.free)], isGenerator := false, isCoroutine := false, more := [] } (defScope s__law_web)) (fun x => ({ kind := PySem.ScopeKind.function, names := [(PySem.Str.ofString ".0", PySem.NameKind.local), (PySem.Str.ofString "pair", PySem.NameKind.local), (PySem.Str.ofString "_law_draw", PySem.NameKind.globalImplicit), (PySem.Str.ofString "jar", PySem.NameKind.free), (PySem.Str.ofString "most", PySem.NameKind.free)], isGenerator := false, isCoroutine := false, more := [] } : Scope).names.lookup x == some .cell) = true := by decide +kernel
theorem d__law_web {g : GC} {ex : Str → Option Addr} (c__law_draw : Cal g (L2.CX g.P g.w) ex "_law_draw" s__law_draw 1 ["jar", "many"] [.io JK, .fz] (.fz) m__law_draw) (c__law_tree : Cal g (L2.CX g.P g.w) ex "_law_tree" s__law_tree 2 ["jar", "n"] [.io JK, .fz] (.fz) m__law_tree) (c__law_more : Cal g (L2.CX g.P g.w) ex "_law_more" s__law_more 3 ["jar", "n", "pairs", "many"] [.io JK, .fz, .fz, .fz] (.fz) m__law_more) (c__law_pick : Cal g (L2.CX g.P g.w) ex "_law_pick" s__law_pick 2 ["jar", "row"] [.io JK, .fz] (.fz) m__law_pick) (c__law_made : Cal g (L2.CX g.P g.w) ex "_law_made" s__law_made 3 ["jar", "n", "pairs", "loads"] [.io JK, .fz, .fz, .fz] (.fz) m__law_made) (z_range : g.mg "range" = none) (z_len : g.mg "len" = none) (z_enumerate : g.mg "enumerate" = none) (z_int : g.mg "int" = none) (J : Jc) (hX : XOk g J.X N__law_web (defScope s__law_web) (fun _ => true) 3) (hp : ∀ σ, PassesAt (L2.CX g.P g.w) J.X σ (WE J.W σ)) (htk : L2.Takes J.X J.W) (hown : PassesOwn (model J.X.prog J.X.w) J.X.A J.X.env J.X.xe) (hex : J.ex = ex) (hTh : J.Th = tagE N__law_web.length [.io JK]) (hTr : J.Tr = tagE N__law_web.length [.io JK]) (hτ : J.τr = .fz) :
    SSs J (defBody s__law_web) (tag0 N__law_web.length [.io JK]) [.io JK, .un, .un, .un, .un, .un, .un, .un, .un, .un, .un] b__law_web := by
  subst hex
  exact (sss_cons (ss_par2 hX t__law_web_ok 1 2  rfl rfl rfl rfl (by decide) (se_call (J := J) hX t__law_web_ok hp c__law_draw (by decide) (j := 0) rfl (sa_lend (hX.pv t__law_web_ok 0 rfl rfl) (.inr rfl) (sa_cons se_int sa_nil rfl)) (.lendI rfl (.val .nil)) (by decide) [true, false, false, false, false, false, false, false, false, false, false] rfl (Eq.trans (by rfl) hTh.symm) rfl rfl) (se_op2 op_addD ops_addD se_int (seb_fz (se_call (J := J) hX t__law_web_ok hp c__law_draw (by decide) (j := 0) rfl (sa_lend (hX.pv t__law_web_ok 0 rfl rfl) (.inr rfl) (sa_cons se_int sa_nil rfl)) (.lendI rfl (.val .nil)) (by decide) [true, false, false, false, false, false, false, false, false, false, false] rfl (Eq.trans (by rfl) hTh.symm) rfl rfl))) rfl rfl rfl rfl rfl rfl rfl rfl rfl (swp_ hX (by rfl)) rfl)
      (sss_cons (ss_par2 hX t__law_web_ok 4 5  rfl rfl rfl rfl (by decide) (se_freeze (se_lcO hX [(PySem.Str.ofString "k", 3)] (si_range1 hX t__law_web_ok (j := 1) rfl z_range (sa_cons (se_op2 op_sub ops_sub (se_var (hX.pv t__law_web_ok 2 rfl rfl) rfl) (seb_fz se_int)) sa_nil rfl) rfl) (by decide +kernel) (by intro i hi; simp only [List.map_cons, List.map_nil, List.mem_cons, List.not_mem_nil, or_false] at hi; rcases hi with rfl <;> exact ⟨_, rfl, rfl⟩) rfl (fun Y1 h1 => (sg_name h1 t__law_web_1_ok 3 rfl rfl rfl rfl rfl)) (fun Y1 h1 => sts_nil) (fun Y1 h1 => (se_tup (n := 2) (sa_cons (se_var (h1.pv t__law_web_1_ok 3 rfl rfl) rfl) (sa_cons (se_op2 op_addD ops_addD (se_var (h1.pv t__law_web_1_ok 3 rfl rfl) rfl) (seb_fz se_int)) sa_nil rfl) rfl))) (by decide) rfl (by intro i hi; simp only [List.map_cons, List.map_nil, List.mem_cons, List.not_mem_nil, or_false] at hi; rcases hi with rfl <;> exact ⟨_, rfl, rfl⟩) (fun _ => rfl)) @OL.frz) (se_var (hX.pv t__law_web_ok 2 rfl rfl) rfl) rfl rfl rfl rfl rfl rfl rfl rfl rfl (swp_ hX (by rfl)) rfl)
      (sss_cons (ss_if (st_cmp (op_eqD hX.u64) ops_eq (se_var (hX.pv t__law_web_ok 1 rfl rfl) rfl) (seb_fz se_int) rfl)
        (sss_clr_end [true, true, false, false, true, true, false, false, false, false, false] [2] rfl (by rfl) rfl (sss_one (ss_set hX t__law_web_ok 4 rfl rfl (se_op2 op_addD ops_addD (se_var (hX.pv t__law_web_ok 4 rfl rfl) rfl) (seb_fz (se_freeze (se_lstO (n := 1) (sa_cons (se_tup (n := 2) (sa_cons se_int (sa_cons (se_op2 op_sub ops_sub (se_var (hX.pv t__law_web_ok 2 rfl rfl) rfl) (seb_fz se_int)) sa_nil rfl) rfl)) sa_nil rfl)) @OL.frz))) rfl rfl rfl rfl rfl)))
        (sss_one (ss_if (st_cmp (op_eqD hX.u64) ops_eq (se_var (hX.pv t__law_web_ok 1 rfl rfl) rfl) (seb_fz se_int) rfl)
        (sss_clr_end [true, true, false, false, true, true, false, false, false, false, false] [2] rfl (by rfl) rfl (sss_cons (ss_set hX t__law_web_ok 5 rfl rfl (se_op2 op_addD ops_addD se_int (seb_fz (se_call (J := J) hX t__law_web_ok hp c__law_draw (by decide) (j := 0) rfl (sa_lend (hX.pv t__law_web_ok 0 rfl rfl) (.inr rfl) (sa_cons se_int sa_nil rfl)) (.lendI rfl (.val .nil)) (by decide) [true, false, false, false, false, false, false, false, false, false, false] rfl (Eq.trans (by rfl) hTh.symm) rfl rfl))) rfl rfl rfl rfl rfl)
      (sss_one (ss_set hX t__law_web_ok 4 rfl rfl (se_call (J := J) hX t__law_web_ok hp c__law_tree (by decide) (j := 2) rfl (sa_lend (hX.pv t__law_web_ok 0 rfl rfl) (.inr rfl) (sa_cons (se_var (hX.pv t__law_web_ok 5 rfl rfl) rfl) sa_nil rfl)) (.lendI rfl (.val .nil)) (by decide) [true, false, false, false, false, false, false, false, false, false, false] rfl (Eq.trans (by rfl) hTh.symm) rfl rfl) rfl rfl rfl rfl rfl))))
        (sss_one (ss_if (st_cmp (op_eqD hX.u64) ops_eq (se_var (hX.pv t__law_web_ok 1 rfl rfl) rfl) (seb_fz se_int) rfl)
        (sss_clr_end [true, true, false, false, true, true, false, false, false, false, false] [2] rfl (by rfl) rfl (sss_cons (ss_set hX t__law_web_ok 5 rfl rfl (se_op2 op_addD ops_addD se_int (seb_fz (se_call (J := J) hX t__law_web_ok hp c__law_draw (by decide) (j := 0) rfl (sa_lend (hX.pv t__law_web_ok 0 rfl rfl) (.inr rfl) (sa_cons se_int sa_nil rfl)) (.lendI rfl (.val .nil)) (by decide) [true, false, false, false, false, false, false, false, false, false, false] rfl (Eq.trans (by rfl) hTh.symm) rfl rfl))) rfl rfl rfl rfl rfl)
      (sss_one (ss_set hX t__law_web_ok 4 rfl rfl (se_call (J := J) hX t__law_web_ok hp c__law_more (by decide) (j := 3) rfl (sa_lend (hX.pv t__law_web_ok 0 rfl rfl) (.inr rfl) (sa_cons (se_var (hX.pv t__law_web_ok 5 rfl rfl) rfl) (sa_cons (se_call (J := J) hX t__law_web_ok hp c__law_tree (by decide) (j := 2) rfl (sa_lend (hX.pv t__law_web_ok 0 rfl rfl) (.inr rfl) (sa_cons (se_var (hX.pv t__law_web_ok 5 rfl rfl) rfl) sa_nil rfl)) (.lendI rfl (.val .nil)) (by decide) [true, false, false, false, false, false, false, false, false, false, false] rfl (Eq.trans (by rfl) hTh.symm) rfl rfl) (sa_cons (se_op2 op_addD ops_addD se_int (seb_fz (se_call (J := J) hX t__law_web_ok hp c__law_draw (by decide) (j := 0) rfl (sa_lend (hX.pv t__law_web_ok 0 rfl rfl) (.inr rfl) (sa_cons se_int sa_nil rfl)) (.lendI rfl (.val .nil)) (by decide) [true, false, false, false, false, false, false, false, false, false, false] rfl (Eq.trans (by rfl) hTh.symm) rfl rfl))) sa_nil rfl) rfl) rfl)) (.lendI rfl (.val (.val (.val .nil)))) (by decide) [true, false, false, false, false, false, false, false, false, false, false] rfl (Eq.trans (by rfl) hTh.symm) rfl rfl) rfl rfl rfl rfl rfl))))
        (sss_one (ss_if (st_cmp (op_eqD hX.u64) ops_eq (se_var (hX.pv t__law_web_ok 1 rfl rfl) rfl) (seb_fz se_int) rfl)
        (sss_clr_end [true, true, false, false, true, true, false, false, false, false, false] [6] rfl (by rfl) rfl (sss_cons (ss_set hX t__law_web_ok 6 rfl rfl (se_call (J := J) hX t__law_web_ok hp c__law_pick (by decide) (j := 4) rfl (sa_lend (hX.pv t__law_web_ok 0 rfl rfl) (.inr rfl) (sa_cons (se_freeze (se_lstO (n := 3) (sa_cons (se_freeze (se_lstO (n := 3) (sa_cons (se_tup (n := 2) (sa_cons se_int (sa_cons se_int sa_nil rfl) rfl)) (sa_cons (se_tup (n := 2) (sa_cons se_int (sa_cons se_int sa_nil rfl) rfl)) (sa_cons (se_tup (n := 2) (sa_cons se_int (sa_cons se_int sa_nil rfl) rfl)) sa_nil rfl) rfl) rfl)) @OL.frz) (sa_cons (se_freeze (se_lstO (n := 3) (sa_cons (se_tup (n := 2) (sa_cons se_int (sa_cons se_int sa_nil rfl) rfl)) (sa_cons (se_tup (n := 2) (sa_cons se_int (sa_cons se_int sa_nil rfl) rfl)) (sa_cons (se_tup (n := 2) (sa_cons se_int (sa_cons se_int sa_nil rfl) rfl)) sa_nil rfl) rfl) rfl)) @OL.frz) (sa_cons (se_freeze (se_lstO (n := 2) (sa_cons (se_tup (n := 2) (sa_cons se_int (sa_cons se_int sa_nil rfl) rfl)) (sa_cons (se_tup (n := 2) (sa_cons se_int (sa_cons se_int sa_nil rfl) rfl)) sa_nil rfl) rfl)) @OL.frz) sa_nil rfl) rfl) rfl)) @OL.frz) sa_nil rfl)) (.lendI rfl (.val .nil)) (by decide) [true, false, false, false, false, false, false, false, false, false, false] rfl (Eq.trans (by rfl) hTh.symm) rfl rfl) rfl rfl rfl rfl rfl)
      (sss_cons (ss_par2 hX t__law_web_ok 5 4  rfl rfl rfl rfl (by decide) (se_op2 op_addD ops_addD (se_op2 op_mul ops_mulI se_int (seb_fz (se_b1 hX t__law_web_ok (j := 5) rfl z_len bb_len call_lenA ops_len (seb_fz (se_var (hX.pv t__law_web_ok 6 rfl rfl) rfl)) rfl))) (seb_fz se_int)) (se_freeze (se_lstO (n := 0) sa_nil) @OL.frz) rfl rfl rfl rfl rfl rfl rfl rfl rfl (swp_ hX (by rfl)) rfl)
      (sss_clr [true, true, false, false, true, true, true, false, false, false, false] [2] rfl rfl rfl (sss_one (ss_for1 hX hown (si_enum hX t__law_web_ok (j := 6) rfl z_enumerate (sa_cons (se_var (hX.pv t__law_web_ok 6 rfl rfl) rfl) sa_nil rfl) rfl)
        (sg_tup hX.c (sgs_cons (sg_name hX t__law_web_ok 3 rfl rfl rfl rfl rfl) (sgs_cons (sg_tup hX.c (sgs_cons (sg_name hX t__law_web_ok 7 rfl rfl rfl rfl rfl) (sgs_cons (sg_name hX t__law_web_ok 8 rfl rfl rfl rfl rfl) sgs_nil rfl) rfl) rfl rfl) sgs_nil rfl) rfl) rfl rfl)
        (sss_clr_end [true, true, false, false, true, true, true, false, false, false, false] [3, 7, 8] rfl (by rfl) rfl (sss_one (ss_set hX t__law_web_ok 4 rfl rfl (se_op2 op_addD ops_addD (se_var (hX.pv t__law_web_ok 4 rfl rfl) rfl) (seb_fz (se_freeze (se_lstO (n := 2) (sa_cons (se_tup (n := 2) (sa_cons (se_var (hX.pv t__law_web_ok 7 rfl rfl) rfl) (sa_cons (se_op2 op_addD ops_addD (se_op2 op_addD ops_addD (se_b1 hX t__law_web_ok (j := 5) rfl z_len bb_len call_lenA ops_len (seb_fz (se_var (hX.pv t__law_web_ok 6 rfl rfl) rfl)) rfl) (seb_fz se_int)) (seb_fz (se_var (hX.pv t__law_web_ok 3 rfl rfl) rfl))) sa_nil rfl) rfl)) (sa_cons (se_tup (n := 2) (sa_cons (se_var (hX.pv t__law_web_ok 8 rfl rfl) rfl) (sa_cons (se_op2 op_addD ops_addD (se_op2 op_addD ops_addD (se_b1 hX t__law_web_ok (j := 5) rfl z_len bb_len call_lenA ops_len (seb_fz (se_var (hX.pv t__law_web_ok 6 rfl rfl) rfl)) rfl) (seb_fz se_int)) (seb_fz (se_var (hX.pv t__law_web_ok 3 rfl rfl) rfl))) sa_nil rfl) rfl)) sa_nil rfl) rfl)) @OL.frz))) rfl rfl rfl rfl rfl))) (fun _ => rfl)))))))
        (sss_one (ss_if (st_cmp (op_eqD hX.u64) ops_eq (se_var (hX.pv t__law_web_ok 1 rfl rfl) rfl) (seb_fz se_int) rfl)
        (sss_clr_end [true, true, false, false, true, true, false, false, false, false, false] [2] rfl (by rfl) rfl (sss_cons (ss_set hX t__law_web_ok 5 rfl rfl (se_call (J := J) hX t__law_web_ok hp c__law_pick (by decide) (j := 4) rfl (sa_lend (hX.pv t__law_web_ok 0 rfl rfl) (.inr rfl) (sa_cons (se_freeze (se_lstO (n := 6) (sa_cons se_int (sa_cons se_int (sa_cons se_int (sa_cons se_int (sa_cons se_int (sa_cons se_int sa_nil rfl) rfl) rfl) rfl) rfl) rfl)) @OL.frz) sa_nil rfl)) (.lendI rfl (.val .nil)) (by decide) [true, false, false, false, false, false, false, false, false, false, false] rfl (Eq.trans (by rfl) hTh.symm) rfl rfl) rfl rfl rfl rfl rfl)
      (sss_one (ss_set hX t__law_web_ok 4 rfl rfl (se_call (J := J) hX t__law_web_ok hp c__law_more (by decide) (j := 3) rfl (sa_lend (hX.pv t__law_web_ok 0 rfl rfl) (.inr rfl) (sa_cons (se_var (hX.pv t__law_web_ok 5 rfl rfl) rfl) (sa_cons (se_call (J := J) hX t__law_web_ok hp c__law_tree (by decide) (j := 2) rfl (sa_lend (hX.pv t__law_web_ok 0 rfl rfl) (.inr rfl) (sa_cons (se_var (hX.pv t__law_web_ok 5 rfl rfl) rfl) sa_nil rfl)) (.lendI rfl (.val .nil)) (by decide) [true, false, false, false, false, false, false, false, false, false, false] rfl (Eq.trans (by rfl) hTh.symm) rfl rfl) (sa_cons (se_call (J := J) hX t__law_web_ok hp c__law_draw (by decide) (j := 0) rfl (sa_lend (hX.pv t__law_web_ok 0 rfl rfl) (.inr rfl) (sa_cons se_int sa_nil rfl)) (.lendI rfl (.val .nil)) (by decide) [true, false, false, false, false, false, false, false, false, false, false] rfl (Eq.trans (by rfl) hTh.symm) rfl rfl) sa_nil rfl) rfl) rfl)) (.lendI rfl (.val (.val (.val .nil)))) (by decide) [true, false, false, false, false, false, false, false, false, false, false] rfl (Eq.trans (by rfl) hTh.symm) rfl rfl) rfl rfl rfl rfl rfl))))
        (sss_one (ss_if (st_cmp (op_eqD hX.u64) ops_eq (se_var (hX.pv t__law_web_ok 1 rfl rfl) rfl) (seb_fz se_int) rfl)
        (sss_clr_end [true, true, false, false, true, true, false, false, false, false, false] [2] rfl (by rfl) rfl (sss_cons (ss_set hX t__law_web_ok 5 rfl rfl (se_op2 op_addD ops_addD se_int (seb_fz (se_call (J := J) hX t__law_web_ok hp c__law_draw (by decide) (j := 0) rfl (sa_lend (hX.pv t__law_web_ok 0 rfl rfl) (.inr rfl) (sa_cons se_int sa_nil rfl)) (.lendI rfl (.val .nil)) (by decide) [true, false, false, false, false, false, false, false, false, false, false] rfl (Eq.trans (by rfl) hTh.symm) rfl rfl))) rfl rfl rfl rfl rfl)
      (sss_one (ss_set hX t__law_web_ok 4 rfl rfl (se_call (J := J) hX t__law_web_ok hp c__law_more (by decide) (j := 3) rfl (sa_lend (hX.pv t__law_web_ok 0 rfl rfl) (.inr rfl) (sa_cons (se_var (hX.pv t__law_web_ok 5 rfl rfl) rfl) (sa_cons (se_call (J := J) hX t__law_web_ok hp c__law_tree (by decide) (j := 2) rfl (sa_lend (hX.pv t__law_web_ok 0 rfl rfl) (.inr rfl) (sa_cons (se_var (hX.pv t__law_web_ok 5 rfl rfl) rfl) sa_nil rfl)) (.lendI rfl (.val .nil)) (by decide) [true, false, false, false, false, false, false, false, false, false, false] rfl (Eq.trans (by rfl) hTh.symm) rfl rfl) (sa_cons (se_call (J := J) hX t__law_web_ok hp c__law_draw (by decide) (j := 0) rfl (sa_lend (hX.pv t__law_web_ok 0 rfl rfl) (.inr rfl) (sa_cons se_int sa_nil rfl)) (.lendI rfl (.val .nil)) (by decide) [true, false, false, false, false, false, false, false, false, false, false] rfl (Eq.trans (by rfl) hTh.symm) rfl rfl) sa_nil rfl) rfl) rfl)) (.lendI rfl (.val (.val (.val .nil)))) (by decide) [true, false, false, false, false, false, false, false, false, false, false] rfl (Eq.trans (by rfl) hTh.symm) rfl rfl) rfl rfl rfl rfl rfl))))
        (sss_one (ss_if (st_cmp (op_eqD hX.u64) ops_eq (se_var (hX.pv t__law_web_ok 1 rfl rfl) rfl) (seb_fz se_int) rfl)
        (sss_clr_end [true, true, false, false, true, true, false, false, false, false, false] [2] rfl (by rfl) rfl (sss_cons (ss_set hX t__law_web_ok 5 rfl rfl (se_op2 op_addD ops_addD se_int (seb_fz (se_call (J := J) hX t__law_web_ok hp c__law_draw (by decide) (j := 0) rfl (sa_lend (hX.pv t__law_web_ok 0 rfl rfl) (.inr rfl) (sa_cons se_int sa_nil rfl)) (.lendI rfl (.val .nil)) (by decide) [true, false, false, false, false, false, false, false, false, false, false] rfl (Eq.trans (by rfl) hTh.symm) rfl rfl))) rfl rfl rfl rfl rfl)
      (sss_one (ss_set hX t__law_web_ok 4 rfl rfl (se_op2 op_addD ops_addD (se_freeze (se_lstO (n := 4) (sa_cons (se_tup (n := 2) (sa_cons se_int (sa_cons se_int sa_nil rfl) rfl)) (sa_cons (se_tup (n := 2) (sa_cons se_int (sa_cons se_int sa_nil rfl) rfl)) (sa_cons (se_tup (n := 2) (sa_cons se_int (sa_cons se_int sa_nil rfl) rfl)) (sa_cons (se_tup (n := 2) (sa_cons se_int (sa_cons se_int sa_nil rfl) rfl)) sa_nil rfl) rfl) rfl) rfl)) @OL.frz) (seb_fz (se_freeze (se_if (st_cmp (op_eqD hX.u64) ops_eq (se_var (hX.pv t__law_web_ok 5 rfl rfl) rfl) (seb_fz se_int) rfl) (se_lstO (n := 2) (sa_cons (se_tup (n := 2) (sa_cons se_int (sa_cons se_int sa_nil rfl) rfl)) (sa_cons (se_tup (n := 2) (sa_cons se_int (sa_cons se_int sa_nil rfl) rfl)) sa_nil rfl) rfl)) (se_lstO (n := 2) (sa_cons (se_tup (n := 2) (sa_cons se_int (sa_cons se_int sa_nil rfl) rfl)) (sa_cons (se_tup (n := 2) (sa_cons se_int (sa_cons se_int sa_nil rfl) rfl)) sa_nil rfl) rfl))) @OL.frz))) rfl rfl rfl rfl rfl))))
        (sss_clr_end [true, true, false, false, true, true, false, false, false, false, false] [2] rfl (by rfl) rfl sss_nil))))))))))))))
      (sss_cons (ss_set hX t__law_web_ok 9 rfl rfl (se_op2 op_addD ops_addD (se_op2 op_addD ops_addD se_int (seb_fz (se_t1 hX t__law_web_ok (j := 7) rfl z_int bb_int call_int1 ops_int (seb_fz (se_cmp (op_eqD hX.u64) ops_eq (se_var (hX.pv t__law_web_ok 1 rfl rfl) rfl) (seb_fz se_int) rfl)) rfl))) (seb_fz (se_t1 hX t__law_web_ok (j := 7) rfl z_int bb_int call_int1 ops_int (seb_fz (se_and (se_cmp (op_eqD hX.u64) ops_eq (se_var (hX.pv t__law_web_ok 1 rfl rfl) rfl) (seb_fz se_int) rfl) (se_one (se_cmp op_lt (ops_cmpI _) (se_b1 hX t__law_web_ok (j := 5) rfl z_len bb_len call_lenA ops_len (seb_fz (se_var (hX.pv t__law_web_ok 4 rfl rfl) rfl)) rfl) (seb_fz se_int) rfl)))) rfl))) rfl rfl rfl rfl rfl)
      (sss_one (ss_ret [true, false, false, false, false, false, false, false, false, false, false] (by rw [hτ]; exact (se_call (J := J) hX t__law_web_ok hp c__law_made (by decide) (j := 8) rfl (sa_lend (hX.pv t__law_web_ok 0 rfl rfl) (.inr rfl) (sa_cons (se_var (hX.pv t__law_web_ok 5 rfl rfl) rfl) (sa_cons (se_var (hX.pv t__law_web_ok 4 rfl rfl) rfl) (sa_cons (se_freeze (se_lcO hX [(PySem.Str.ofString "pair", 10)] (si_seq (se_var (hX.pv t__law_web_ok 4 rfl rfl) rfl)) (by decide +kernel) (by intro i hi; simp only [List.map_cons, List.map_nil, List.mem_cons, List.not_mem_nil, or_false] at hi; rcases hi with rfl <;> exact ⟨_, rfl, rfl⟩) rfl (fun Y1 h1 => (sg_name h1 t__law_web_2_ok 10 rfl rfl rfl rfl rfl)) (fun Y1 h1 => sts_nil) (fun Y1 h1 => (se_op2 op_addD ops_addD se_int (seb_fz (se_call (J := (JB J Y1)) h1 t__law_web_2_ok passes_no c__law_draw (by decide) (j := 0) rfl (sa_lend (h1.pv t__law_web_2_ok 0 rfl rfl) (.inr rfl) (sa_cons (se_var (h1.pv t__law_web_2_ok 9 rfl rfl) rfl) sa_nil rfl)) (.lendI rfl (.val .nil)) (by decide) [true, false, false, false, false, false, false, false, false, false, false] rfl (Eq.trans (by rfl) hTh.symm) rfl rfl)))) (by decide) rfl (by intro i hi; simp only [List.map_cons, List.map_nil, List.mem_cons, List.not_mem_nil, or_false] at hi; rcases hi with rfl <;> exact ⟨_, rfl, rfl⟩) (fun _ => rfl)) @OL.frz) sa_nil rfl) rfl) rfl)) (.lendI rfl (.val (.val (.val .nil)))) (by decide) [true, false, false, false, false, false, false, false, false, false, false] rfl (Eq.trans (by rfl) hTh.symm) rfl rfl)) rfl (Eq.trans (by rfl) hTr.symm)))))))
theorem ok__law_web {g : GC} {ex : Str → Option Addr} (c__law_draw : Cal g (L2.CX g.P g.w) ex "_law_draw" s__law_draw 1 ["jar", "many"] [.io JK, .fz] (.fz) m__law_draw) (c__law_tree : Cal g (L2.CX g.P g.w) ex "_law_tree" s__law_tree 2 ["jar", "n"] [.io JK, .fz] (.fz) m__law_tree) (c__law_more : Cal g (L2.CX g.P g.w) ex "_law_more" s__law_more 3 ["jar", "n", "pairs", "many"] [.io JK, .fz, .fz, .fz] (.fz) m__law_more) (c__law_pick : Cal g (L2.CX g.P g.w) ex "_law_pick" s__law_pick 2 ["jar", "row"] [.io JK, .fz] (.fz) m__law_pick) (c__law_made : Cal g (L2.CX g.P g.w) ex "_law_made" s__law_made 3 ["jar", "n", "pairs", "loads"] [.io JK, .fz, .fz, .fz] (.fz) m__law_made) (z_range : g.mg "range" = none) (z_len : g.mg "len" = none) (z_enumerate : g.mg "enumerate" = none) (z_int : g.mg "int" = none) {f : Addr} {fd : FuncData} (Fu : L2.Fun g.K "_law_web" "_law_web" s__law_web f fd) : FnG g (L2.CX g.P g.w) 4 f fd ["jar"] (spF g.K ex [.io JK] (.fz) m__law_web) :=
  fn_ok Fu sc__law_web rfl (by rfl) (fun J hX hp htk hown _ h1 h2 h3 h4 => d__law_web c__law_draw c__law_tree c__law_more c__law_pick c__law_made z_range z_len z_enumerate z_int J hX hp htk hown h1 h2 h3 h4) (.inl rfl) ⟨[true, false, false, false, false, false, false, false, false, false, false], rfl, by rfl⟩ (.inl rfl)
/-! ### _law_sums -/
abbrev s__law_sums : Stmt := top 23
theorem sc__law_sums : FnScope N__law_sums ["web", "standing"] (defScope s__law_sums) := ⟨rfl, rfl, rfl, by decide +kernel, rfl, by decide +kernel, by decide +kernel⟩
def t__law_sums : Tab := ⟨[0, 1, 2, 3, 4, 5], [0, 1, 2, 3, 4, 5], [0, 1, 2, 3, 4, 5], ["zip"]⟩
theorem t__law_sums_ok : t__law_sums.ok N__law_sums (defScope s__law_sums) (fun _ => true) = true := by decide +kernel
theorem d__law_sums {g : GC} {ex : Str → Option Addr} (z_zip : g.mg "zip" = none) (J : Jc) (hX : XOk g J.X N__law_sums (defScope s__law_sums) (fun _ => true) 0) (hp : ∀ σ, PassesAt (L2.CX g.P g.w) J.X σ (WE J.W σ)) (htk : L2.Takes J.X J.W) (hown : PassesOwn (model J.X.prog J.X.w) J.X.A J.X.env J.X.xe) (hex : J.ex = ex) (hTh : J.Th = tagE N__law_sums.length [.fz, .fz]) (hTr : J.Tr = tagE N__law_sums.length [.fz, .fz]) (hτ : J.τr = .fz) :
    SSs J (defBody s__law_sums) (tag0 N__law_sums.length [.fz, .fz]) [.fz, .fz, .un, .un, .un, .un] b__law_sums := by
  subst hex
  exact (sss_cons (ss_set hX t__law_sums_ok 2 rfl rfl (se_repO (se_lstO (n := 1) (sa_cons se_int sa_nil rfl)) (se_ix (ix_A hX.u1) ops_ixA (se_var (hX.pv t__law_sums_ok 0 rfl rfl) rfl) (seb_fz se_int) (fun _ _ => rfl))) rfl rfl rfl rfl rfl)
      (sss_cons (ss_for1 hX hown (si_zip hX t__law_sums_ok (j := 0) rfl z_zip (sa_cons (se_ix (ix_A hX.u1) ops_ixA (se_var (hX.pv t__law_sums_ok 0 rfl rfl) rfl) (seb_fz se_int) (fun _ _ => rfl)) (sa_cons (se_var (hX.pv t__law_sums_ok 1 rfl rfl) rfl) sa_nil rfl) rfl) rfl rfl)
        (sg_tup hX.c (sgs_cons (sg_tup hX.c (sgs_cons (sg_name hX t__law_sums_ok 3 rfl rfl rfl rfl rfl) (sgs_cons (sg_name hX t__law_sums_ok 4 rfl rfl rfl rfl rfl) sgs_nil rfl) rfl) rfl rfl) (sgs_cons (sg_name hX t__law_sums_ok 5 rfl rfl rfl rfl rfl) sgs_nil rfl) rfl) rfl rfl)
        (sss_clr_end [true, true, true, false, false, false] [3, 4, 5] rfl (by rfl) rfl (sss_cons (ss_put hX (.inl rfl) (hX.pv t__law_sums_ok 2 rfl rfl) (se_op2 op_addD ops_addD (se_ixL (ix_A hX.u1) ops_ixA (hX.pv t__law_sums_ok 2 rfl rfl) rfl (seb_fz (se_var (hX.pv t__law_sums_ok 3 rfl rfl) rfl)) rfl @shr_owL (fun _ _ => rfl)) (seb_fz (se_var (hX.pv t__law_sums_ok 5 rfl rfl) rfl))) (se_var (hX.pv t__law_sums_ok 3 rfl rfl) rfl) (.inl rfl) rfl (fun _ => rfl) rfl rfl rfl)
      (sss_one (ss_put hX (.inl rfl) (hX.pv t__law_sums_ok 2 rfl rfl) (se_op2 op_addD ops_addD (se_ixL (ix_A hX.u1) ops_ixA (hX.pv t__law_sums_ok 2 rfl rfl) rfl (seb_fz (se_var (hX.pv t__law_sums_ok 4 rfl rfl) rfl)) rfl @shr_owL (fun _ _ => rfl)) (seb_fz (se_var (hX.pv t__law_sums_ok 5 rfl rfl) rfl))) (se_var (hX.pv t__law_sums_ok 4 rfl rfl) rfl) (.inl rfl) rfl (fun _ => rfl) rfl rfl rfl)))) (fun _ => rfl))
      (sss_one (ss_ret [false, false, false, false, false, false] (by rw [hτ]; exact (se_varO (hX.pv t__law_sums_ok 2 rfl rfl) rfl @OL.frz rfl)) rfl (Eq.trans (by rfl) hTr.symm)))))
theorem ok__law_sums {g : GC} {ex : Str → Option Addr} (z_zip : g.mg "zip" = none) {f : Addr} {fd : FuncData} (Fu : L2.Fun g.K "_law_sums" "_law_sums" s__law_sums f fd) : FnG g (L2.CX g.P g.w) 1 f fd ["web", "standing"] (spF g.K ex [.fz, .fz] (.fz) m__law_sums) :=
  fn_ok Fu sc__law_sums rfl (by rfl) (fun J hX hp htk hown _ h1 h2 h3 h4 => d__law_sums z_zip J hX hp htk hown h1 h2 h3 h4) (.inl rfl) ⟨[false, false, false, false, false, false], rfl, by rfl⟩ (.inl rfl)
/-! ### _law_near -/
abbrev s__law_near : Stmt := top 24
theorem sc__law_near : FnScope N__law_near ["web", "standing"] (defScope s__law_near) := ⟨rfl, rfl, rfl, by decide +kernel, rfl, by decide +kernel, by decide +kernel⟩
def t__law_near : Tab := ⟨[0, 1, 2, 3, 4, 5, 6, 7, 8], [0, 1, 2, 3, 4, 5, 6, 7, 8], [0, 1, 2, 3, 4, 5, 6, 7, 8], ["_law_sums", "enumerate"]⟩
theorem t__law_near_ok : t__law_near.ok N__law_near (defScope s__law_near) (fun _ => true) = true := by decide +kernel
theorem d__law_near {g : GC} {ex : Str → Option Addr} (c__law_sums : Cal g (L2.CX g.P g.w) ex "_law_sums" s__law_sums 1 ["web", "standing"] [.fz, .fz] (.fz) m__law_sums) (z_enumerate : g.mg "enumerate" = none) (J : Jc) (hX : XOk g J.X N__law_near (defScope s__law_near) (fun _ => true) 1) (hp : ∀ σ, PassesAt (L2.CX g.P g.w) J.X σ (WE J.W σ)) (htk : L2.Takes J.X J.W) (hown : PassesOwn (model J.X.prog J.X.w) J.X.A J.X.env J.X.xe) (hex : J.ex = ex) (hTh : J.Th = tagE N__law_near.length [.fz, .fz]) (hTr : J.Tr = tagE N__law_near.length [.fz, .fz]) (hτ : J.τr = .fz) :
    SSs J (defBody s__law_near) (tag0 N__law_near.length [.fz, .fz]) [.fz, .fz, .un, .un, .un, .un, .un, .un, .un] b__law_near := by
  subst hex
  exact (sss_cons (ss_par2 hX t__law_near_ok 2 3  rfl rfl rfl rfl (by decide) (se_call (J := J) hX t__law_near_ok hp c__law_sums (by decide) (j := 0) rfl (sa_cons (se_var (hX.pv t__law_near_ok 0 rfl rfl) rfl) (sa_cons (se_var (hX.pv t__law_near_ok 1 rfl rfl) rfl) sa_nil rfl) rfl) (.val (.val .nil)) (by decide) [false, false, false, false, false, false, false, false, false] rfl (Eq.trans (by rfl) hTh.symm) rfl rfl) (se_lstO (n := 0) sa_nil) rfl rfl rfl rfl rfl rfl rfl rfl rfl (swp_ hX (by rfl)) rfl)
      (sss_cons (ss_for1 hX hown (si_enum hX t__law_near_ok (j := 1) rfl z_enumerate (sa_cons (se_ix (ix_A hX.u1) ops_ixA (se_var (hX.pv t__law_near_ok 0 rfl rfl) rfl) (seb_fz se_int) (fun _ _ => rfl)) sa_nil rfl) rfl)
        (sg_tup hX.c (sgs_cons (sg_name hX t__law_near_ok 4 rfl rfl rfl rfl rfl) (sgs_cons (sg_tup hX.c (sgs_cons (sg_name hX t__law_near_ok 5 rfl rfl rfl rfl rfl) (sgs_cons (sg_name hX t__law_near_ok 6 rfl rfl rfl rfl rfl) sgs_nil rfl) rfl) rfl rfl) sgs_nil rfl) rfl) rfl rfl)
        (sss_one (ss_if (st_cmp (op_neD hX.u64) ops_ne (se_ix (ix_A hX.u1) ops_ixA (se_var (hX.pv t__law_near_ok 2 rfl rfl) rfl) (seb_fz (se_var (hX.pv t__law_near_ok 5 rfl rfl) rfl)) (fun _ _ => rfl)) (seb_fz (se_ix (ix_A hX.u1) ops_ixA (se_var (hX.pv t__law_near_ok 2 rfl rfl) rfl) (seb_fz (se_var (hX.pv t__law_near_ok 6 rfl rfl) rfl)) (fun _ _ => rfl))) rfl)
        (sss_clr_end [true, true, true, true, false, false, false, false, false] [4] rfl (by rfl) rfl (sss_clr [true, true, true, true, true, false, false, false, false] [5, 6] rfl rfl rfl (sss_one (ss_for1 hX hown (si_seq (se_tup (n := 2) (sa_cons (se_neg se_int) (sa_cons se_int sa_nil rfl) rfl)))
        (sg_name hX t__law_near_ok 7 rfl rfl rfl rfl rfl)
        (sss_cons (ss_set hX t__law_near_ok 8 rfl rfl (se_op2 op_addD ops_addD (se_ix (ix_A hX.u1) ops_ixA (se_var (hX.pv t__law_near_ok 1 rfl rfl) rfl) (seb_fz (se_var (hX.pv t__law_near_ok 4 rfl rfl) rfl)) (fun _ _ => rfl)) (seb_fz (se_var (hX.pv t__law_near_ok 7 rfl rfl) rfl))) rfl rfl rfl rfl rfl)
      (sss_one (ss_if (st_chain op_le (ops_cmpI _) op_le (ops_cmpI _) se_int (se_var (hX.pv t__law_near_ok 8 rfl rfl) rfl) (se_ix (ix_A hX.u1) ops_ixA (se_ix (ix_A hX.u1) ops_ixA (se_var (hX.pv t__law_near_ok 0 rfl rfl) rfl) (seb_fz se_int) (fun _ _ => rfl)) (seb_fz (se_var (hX.pv t__law_near_ok 4 rfl rfl) rfl)) (fun _ _ => rfl)) rfl)
        (sss_clr_end [true, true, true, true, true, false, false, false, false] [7, 8] rfl (by rfl) rfl (sss_one (ss_exp (se_mut (n := 1) (hX.pv t__law_near_ok 3 rfl rfl) ⟨_, rfl, fun z => by cases z⟩ PySem.F.slot_list_append PySem.F.type_list_append mt_append mu_append (sa_cons (se_tup (n := 2) (sa_cons (se_tup (n := 2) (sa_cons (se_var (hX.pv t__law_near_ok 4 rfl rfl) rfl) (sa_cons (se_var (hX.pv t__law_near_ok 7 rfl rfl) rfl) sa_nil rfl) rfl)) (sa_cons (se_op2 op_addD ops_addD (se_op2 op_addD ops_addD (se_slice (se_var (hX.pv t__law_near_ok 1 rfl rfl) rfl) sp_none (sp_some (se_var (hX.pv t__law_near_ok 4 rfl rfl) rfl))) (seb_fz (se_tup (n := 1) (sa_cons (se_var (hX.pv t__law_near_ok 8 rfl rfl) rfl) sa_nil rfl)))) (seb_fz (se_slice (se_var (hX.pv t__law_near_ok 1 rfl rfl) rfl) (sp_some (se_op2 op_addD ops_addD (se_var (hX.pv t__law_near_ok 4 rfl rfl) rfl) (seb_fz se_int))) sp_none))) sa_nil rfl) rfl)) sa_nil rfl) (.inl rfl) rfl rfl rfl rfl rfl rfl) rfl)))
        (sss_clr_end [true, true, true, true, true, false, false, false, false] [7, 8] rfl (by rfl) rfl sss_nil)))) (fun _ => rfl)))))
        (sss_clr_end [true, true, true, true, false, false, false, false, false] [4, 5, 6] rfl (by rfl) rfl sss_nil))) (fun _ => rfl))
      (sss_one (ss_ret [false, false, false, false, false, false, false, false, false] (by rw [hτ]; exact (se_varO (hX.pv t__law_near_ok 3 rfl rfl) rfl @OL.frz rfl)) rfl (Eq.trans (by rfl) hTr.symm)))))
theorem ok__law_near {g : GC} {ex : Str → Option Addr} (c__law_sums : Cal g (L2.CX g.P g.w) ex "_law_sums" s__law_sums 1 ["web", "standing"] [.fz, .fz] (.fz) m__law_sums) (z_enumerate : g.mg "enumerate" = none) {f : Addr} {fd : FuncData} (Fu : L2.Fun g.K "_law_near" "_law_near" s__law_near f fd) : FnG g (L2.CX g.P g.w) 2 f fd ["web", "standing"] (spF g.K ex [.fz, .fz] (.fz) m__law_near) :=
  fn_ok Fu sc__law_near rfl (by rfl) (fun J hX hp htk hown _ h1 h2 h3 h4 => d__law_near c__law_sums z_enumerate J hX hp htk hown h1 h2 h3 h4) (.inl rfl) ⟨[false, false, false, false, false, false, false, false, false], rfl, by rfl⟩ (.inl rfl)
/-! ### _law_standing -/
abbrev s__law_standing : Stmt := top 25
theorem sc__law_standing : FnScope N__law_standing ["jar", "web"] (defScope s__law_standing) := ⟨rfl, rfl, rfl, by decide +kernel, rfl, by decide +kernel, by decide +kernel⟩
def t__law_standing : Tab := ⟨[0, 1, 2, 3, 4], [0, 1, 2, 3, 4], [3], ["_law_draw", "len", "enumerate", "tuple"]⟩
theorem t__law_standing_ok : t__law_standing.ok N__law_standing (defScope s__law_standing) (fun _ => true) = true := by decide +kernel
def t__law_standing_1 : Tab := ⟨[0, 5], [5], [5], ["_law_draw"]⟩
theorem t__law_standing_1_ok : t__law_standing_1.ok N__law_standing (relS { kind := PySem.ScopeKind.function, names := [(PySem.Str.ofString ".0", PySem.NameKind.local), (PySem.Str.ofString "most", PySem.NameKind.local), (PySem.Str.ofString "_law_draw", PySem.NameKind.globalImplicit), (PySem.Str.ofString "jar", PySem.NameKind.free)], isGenerator := false, isCoroutine := false, more := [] } (defScope s__law_standing)) (fun x => ({ kind := PySem.ScopeKind.function, names := [(PySem.Str.ofString ".0", PySem.NameKind.local), (PySem.Str.ofString "most", PySem.NameKind.local), (PySem.Str.ofString "_law_draw", PySem.NameKind.globalImplicit), (PySem.Str.ofString "jar", PySem.NameKind.free)], isGenerator := false, isCoroutine := false, more := [] } : Scope).names.lookup x == some .cell) = true := by decide +kernel
def t__law_standing_2 : Tab := ⟨[1, 2, 4, 6, 7], [6, 7], [6, 7], []⟩
theorem t__law_standing_2_ok : t__law_standing_2.ok N__law_standing (relS { kind := PySem.ScopeKind.function, names := [(PySem.Str.ofString ".0", PySem.NameKind.local), (PySem.Str.ofString "k", PySem.NameKind.local), (PySem.Str.ofString "own", PySem.NameKind.local), (PySem.Str.ofString "road", PySem.NameKind.free), (PySem.Str.ofString "way", PySem.NameKind.free), (PySem.Str.ofString "web", PySem.NameKind.free)], isGenerator := false, isCoroutine := false, more := [] } (defScope s__law_standing)) (fun x => ({ kind := PySem.ScopeKind.function, names := [(PySem.Str.ofString ".0", PySem.NameKind.local), (PySem.Str.ofString "k", PySem.NameKind.local), (PySem.Str.ofString "own", PySem.NameKind.local), (PySem.Str.ofString "road", PySem.NameKind.free), (PySem.Str.ofString "way", PySem.NameKind.free), (PySem.Str.ofString "web", PySem.NameKind.free)], isGenerator := false, isCoroutine := false, more := [] } : Scope).names.lookup x == some .cell) = true := by decide +kernel
theorem d__law_standing {g : GC} {ex : Str → Option Addr} (c__law_draw : Cal g (L2.CX g.P g.w) ex "_law_draw" s__law_draw 1 ["jar", "many"] [.io JK, .fz] (.fz) m__law_draw) (z_len : g.mg "len" = none) (z_enumerate : g.mg "enumerate" = none) (z_tuple : g.mg "tuple" = none) (J : Jc) (hX : XOk g J.X N__law_standing (defScope s__law_standing) (fun _ => true) 1) (hp : ∀ σ, PassesAt (L2.CX g.P g.w) J.X σ (WE J.W σ)) (htk : L2.Takes J.X J.W) (hown : PassesOwn (model J.X.prog J.X.w) J.X.A J.X.env J.X.xe) (hex : J.ex = ex) (hTh : J.Th = tagE N__law_standing.length [.io JK, .fz]) (hTr : J.Tr = tagE N__law_standing.length [.io JK, .fz]) (hτ : J.τr = .fz) :
    SSs J (defBody s__law_standing) (tag0 N__law_standing.length [.io JK, .fz]) [.io JK, .fz, .un, .un, .un, .un, .un, .un] b__law_standing := by
  subst hex
  exact (sss_cons (ss_set hX t__law_standing_ok 2 rfl rfl (se_call (J := J) hX t__law_standing_ok hp c__law_draw (by decide) (j := 0) rfl (sa_lend (hX.pv t__law_standing_ok 0 rfl rfl) (.inr rfl) (sa_cons se_int sa_nil rfl)) (.lendI rfl (.val .nil)) (by decide) [true, false, false, false, false, false, false, false] rfl (Eq.trans (by rfl) hTh.symm) rfl rfl) rfl rfl rfl rfl rfl)
      (sss_cons (ss_setLc hX t__law_standing_ok 3 [(PySem.Str.ofString "most", 5)] rfl rfl (si_seq (se_ix (ix_A hX.u1) ops_ixA (se_var (hX.pv t__law_standing_ok 1 rfl rfl) rfl) (seb_fz se_int) (fun _ _ => rfl))) (by decide +kernel) (by intro i hi; simp only [List.map_cons, List.map_nil, List.mem_cons, List.not_mem_nil, or_false] at hi; rcases hi with rfl <;> exact ⟨_, rfl, rfl⟩) rfl (fun Y1 h1 => (sg_name h1 t__law_standing_1_ok 5 rfl rfl rfl rfl rfl)) (fun Y1 h1 => sts_nil) (fun Y1 h1 => (se_call (J := (JB J Y1)) h1 t__law_standing_1_ok passes_no c__law_draw (by decide) (j := 0) rfl (sa_lend (h1.pv t__law_standing_1_ok 0 rfl rfl) (.inr rfl) (sa_cons (se_op2 op_addD ops_addD (se_var (h1.pv t__law_standing_1_ok 5 rfl rfl) rfl) (seb_fz se_int)) sa_nil rfl)) (.lendI rfl (.val .nil)) (by decide) [true, false, false, false, false, false, false, false] rfl (Eq.trans (by rfl) hTh.symm) rfl rfl)) (by decide) rfl (by intro i hi; simp only [List.map_cons, List.map_nil, List.mem_cons, List.not_mem_nil, or_false] at hi; rcases hi with rfl <;> exact ⟨_, rfl, rfl⟩) rfl rfl rfl (fun _ => rfl) (sw_true_ hX rfl rfl rfl (by decide +kernel)))
      (sss_frz 3 rfl @OL.frz rfl (sss_cons (ss_if (st_cmp op_gt (ops_cmpI _) (se_var (hX.pv t__law_standing_ok 2 rfl rfl) rfl) (seb_fz se_int) rfl)
        (sss_clr_end [true, false, false, true, false, false, false, false] [1, 2, 4] rfl (by rfl) rfl (sss_cons (ss_set hX t__law_standing_ok 4 rfl rfl (se_call (J := J) hX t__law_standing_ok hp c__law_draw (by decide) (j := 0) rfl (sa_lend (hX.pv t__law_standing_ok 0 rfl rfl) (.inr rfl) (sa_cons (se_b1 hX t__law_standing_ok (j := 1) rfl z_len bb_len call_lenA ops_len (seb_fz (se_var (hX.pv t__law_standing_ok 3 rfl rfl) rfl)) rfl) sa_nil rfl)) (.lendI rfl (.val .nil)) (by decide) [true, false, false, false, false, false, false, false] rfl (Eq.trans (by rfl) hTh.symm) rfl rfl) rfl rfl rfl rfl rfl)
      (sss_cons (ss_setLc hX t__law_standing_ok 3 [(PySem.Str.ofString "k", 6), (PySem.Str.ofString "own", 7)] rfl rfl (si_enum hX t__law_standing_ok (j := 2) rfl z_enumerate (sa_cons (se_var (hX.pv t__law_standing_ok 3 rfl rfl) rfl) sa_nil rfl) rfl) (by decide +kernel) (by intro i hi; simp only [List.map_cons, List.map_nil, List.mem_cons, List.not_mem_nil, or_false] at hi; rcases hi with rfl | rfl <;> exact ⟨_, rfl, rfl⟩) rfl (fun Y1 h1 => (sg_tup h1.c (sgs_cons (sg_name h1 t__law_standing_2_ok 6 rfl rfl rfl rfl rfl) (sgs_cons (sg_name h1 t__law_standing_2_ok 7 rfl rfl rfl rfl rfl) sgs_nil rfl) rfl) rfl rfl)) (fun Y1 h1 => sts_nil) (fun Y1 h1 => (se_if (st_cmp (op_eqD h1.u64) ops_eq (se_var (h1.pv t__law_standing_2_ok 6 rfl rfl) rfl) (seb_fz (se_var (h1.pv t__law_standing_2_ok 4 rfl rfl) rfl)) rfl) (se_var (h1.pv t__law_standing_2_ok 7 rfl rfl) rfl) (se_if (st_cmp (op_eqD h1.u64) ops_eq (se_var (h1.pv t__law_standing_2_ok 2 rfl rfl) rfl) (seb_fz se_int) rfl) se_int (se_ix (ix_A h1.u1) ops_ixA (se_ix (ix_A h1.u1) ops_ixA (se_var (h1.pv t__law_standing_2_ok 1 rfl rfl) rfl) (seb_fz se_int) (fun _ _ => rfl)) (seb_fz (se_var (h1.pv t__law_standing_2_ok 6 rfl rfl) rfl)) (fun _ _ => rfl))))) (by decide) rfl (by intro i hi; simp only [List.map_cons, List.map_nil, List.mem_cons, List.not_mem_nil, or_false] at hi; rcases hi with rfl | rfl <;> exact ⟨_, rfl, rfl⟩) rfl rfl rfl (fun _ => rfl) (sw_true_ hX rfl rfl rfl (by decide +kernel)))
      (sss_frz 3 rfl @OL.frz rfl sss_nil))))
        (sss_clr_end [true, false, false, true, false, false, false, false] [1, 2] rfl (by rfl) rfl sss_nil))
      (sss_one (ss_ret [true, false, false, false, false, false, false, false] (by rw [hτ]; exact (se_t1 hX t__law_standing_ok (j := 3) rfl z_tuple bb_tuple call_tuple_of ops_tup (seb_fz (se_var (hX.pv t__law_standing_ok 3 rfl rfl) rfl)) rfl)) rfl (Eq.trans (by rfl) hTr.symm)))))))
theorem ok__law_standing {g : GC} {ex : Str → Option Addr} (c__law_draw : Cal g (L2.CX g.P g.w) ex "_law_draw" s__law_draw 1 ["jar", "many"] [.io JK, .fz] (.fz) m__law_draw) (z_len : g.mg "len" = none) (z_enumerate : g.mg "enumerate" = none) (z_tuple : g.mg "tuple" = none) {f : Addr} {fd : FuncData} (Fu : L2.Fun g.K "_law_standing" "_law_standing" s__law_standing f fd) : FnG g (L2.CX g.P g.w) 2 f fd ["jar", "web"] (spF g.K ex [.io JK, .fz] (.fz) m__law_standing) :=
  fn_ok Fu sc__law_standing rfl (by rfl) (fun J hX hp htk hown _ h1 h2 h3 h4 => d__law_standing c__law_draw z_len z_enumerate z_tuple J hX hp htk hown h1 h2 h3 h4) (.inl rfl) ⟨[true, false, false, false, false, false, false, false], rfl, by rfl⟩ (.inl rfl)
/-! ### _law_reach -/
abbrev s__law_reach : Stmt := top 26
theorem sc__law_reach : FnScope N__law_reach ["web", "standing", "shut"] (defScope s__law_reach) := ⟨rfl, rfl, rfl, by decide +kernel, rfl, by decide +kernel, by decide +kernel⟩
def t__law_reach : Tab := ⟨[0, 1, 2, 3, 4, 5, 6, 7], [0, 1, 2, 3, 4, 5, 6, 7], [0, 1, 2, 3, 4, 5, 6, 7], ["_law_near", "sorted", "list"]⟩
theorem t__law_reach_ok : t__law_reach.ok N__law_reach (defScope s__law_reach) (fun _ => true) = true := by decide +kernel
theorem d__law_reach {g : GC} {ex : Str → Option Addr} (c__law_near : Cal g (L2.CX g.P g.w) ex "_law_near" s__law_near 2 ["web", "standing"] [.fz, .fz] (.fz) m__law_near) (z_sorted : g.mg "sorted" = none) (z_list : g.mg "list" = none) (J : Jc) (hX : XOk g J.X N__law_reach (defScope s__law_reach) (fun _ => true) 2) (hp : ∀ σ, PassesAt (L2.CX g.P g.w) J.X σ (WE J.W σ)) (htk : L2.Takes J.X J.W) (hown : PassesOwn (model J.X.prog J.X.w) J.X.A J.X.env J.X.xe) (hex : J.ex = ex) (hTh : J.Th = tagE N__law_reach.length [.fz, .fz, .fz]) (hTr : J.Tr = tagE N__law_reach.length [.fz, .fz, .fz]) (hτ : J.τr = .fz) :
    SSs J (defBody s__law_reach) (tag0 N__law_reach.length [.fz, .fz, .fz]) [.fz, .fz, .fz, .un, .un, .un, .un, .un] b__law_reach := by
  subst hex
  exact (sss_cons (ss_par2 hX t__law_reach_ok 3 4  rfl rfl rfl rfl (by decide) (se_disp1T hX (se_var (hX.pv t__law_reach_ok 1 rfl rfl) rfl) se_bl) (se_lstO (n := 1) (sa_cons (se_var (hX.pv t__law_reach_ok 1 rfl rfl) rfl) sa_nil rfl)) rfl rfl rfl rfl rfl rfl rfl rfl rfl (swp_ hX (by rfl)) rfl)
      (sss_clr [true, false, true, true, true, false, false, false] [1] rfl rfl rfl (sss_cons (ss_while1 hX hown (st_cmpL (op_neD hX.u64) ops_ne (hX.pv t__law_reach_ok 4 rfl rfl) rfl (seb_fz (se_freeze (se_lstO (n := 0) sa_nil) @OL.frz)) rfl @shr_owL rfl)
        (sss_clr_end [true, false, true, true, true, false, false, false] [5] rfl (by rfl) rfl (sss_cons (ss_set hX t__law_reach_ok 5 rfl rfl (se_mut0 (hX.pv t__law_reach_ok 4 rfl rfl) PySem.F.slot_list_pop PySem.F.type_list_pop mt_pop mu_pop (.inl rfl) rfl rfl) rfl rfl rfl rfl rfl)
      (sss_one (ss_for1 hX hown (si_seq (se_call (J := J) hX t__law_reach_ok hp c__law_near (by decide) (j := 0) rfl (sa_cons (se_var (hX.pv t__law_reach_ok 0 rfl rfl) rfl) (sa_cons (se_var (hX.pv t__law_reach_ok 5 rfl rfl) rfl) sa_nil rfl) rfl) (.val (.val .nil)) (by decide) [false, false, false, false, false, false, false, false] rfl (Eq.trans (by rfl) hTh.symm) rfl rfl))
        (sg_tup hX.c (sgs_cons (sg_name hX t__law_reach_ok 6 rfl rfl rfl rfl rfl) (sgs_cons (sg_name hX t__law_reach_ok 7 rfl rfl rfl rfl rfl) sgs_nil rfl) rfl) rfl rfl)
        (sss_one (ss_if (stw (st_and (st_cmp (op_notInA hX.u65) ops_notInA (se_ix (ix_A hX.u1) ops_ixA (se_var (hX.pv t__law_reach_ok 6 rfl rfl) rfl) (seb_fz se_int) (fun _ _ => rfl)) (seb_fz (se_var (hX.pv t__law_reach_ok 2 rfl rfl) rfl)) rfl) (st_and1 (st_cmp (op_notInA hX.u65) ops_notInA (se_var (hX.pv t__law_reach_ok 7 rfl rfl) rfl) (seb_var (hX.pv t__law_reach_ok 3 rfl rfl) rfl @shr_owD) rfl))))
        (sss_clr_end [true, false, true, true, true, true, false, false] [6, 7] rfl (by rfl) rfl (sss_cons (ss_put hX (.inr rfl) (hX.pv t__law_reach_ok 3 rfl rfl) se_bl (se_var (hX.pv t__law_reach_ok 7 rfl rfl) rfl) (.inl rfl) rfl (fun _ => rfl) rfl rfl rfl)
      (sss_one (ss_exp (se_mut (n := 1) (hX.pv t__law_reach_ok 4 rfl rfl) ⟨_, rfl, fun z => by cases z⟩ PySem.F.slot_list_append PySem.F.type_list_append mt_append mu_append (sa_cons (se_var (hX.pv t__law_reach_ok 7 rfl rfl) rfl) sa_nil rfl) (.inl rfl) rfl rfl rfl rfl rfl rfl) rfl))))
        (sss_clr_end [true, false, true, true, true, true, false, false] [6, 7] rfl (by rfl) rfl sss_nil))) (fun _ => rfl))))))
      (sss_one (ss_ret [false, false, false, false, false, false, false, false] (by rw [hτ]; exact (se_freeze (se_b1O hX t__law_reach_ok (j := 1) rfl z_sorted bb_sorted (call_sortG hX.u64) ops_sortO (seb_fz (se_freeze (se_t1O hX t__law_reach_ok (j := 2) rfl z_list bb_list (call_listA hX.c) ops_listO (seb_var (hX.pv t__law_reach_ok 3 rfl rfl) rfl @shr_owD) rfl) @OL.frz)) rfl) @OL.frz)) rfl (Eq.trans (by rfl) hTr.symm))))))
theorem ok__law_reach {g : GC} {ex : Str → Option Addr} (c__law_near : Cal g (L2.CX g.P g.w) ex "_law_near" s__law_near 2 ["web", "standing"] [.fz, .fz] (.fz) m__law_near) (z_sorted : g.mg "sorted" = none) (z_list : g.mg "list" = none) {f : Addr} {fd : FuncData} (Fu : L2.Fun g.K "_law_reach" "_law_reach" s__law_reach f fd) : FnG g (L2.CX g.P g.w) 3 f fd ["web", "standing", "shut"] (spF g.K ex [.fz, .fz, .fz] (.fz) m__law_reach) :=
  fn_ok Fu sc__law_reach rfl (by rfl) (fun J hX hp htk hown _ h1 h2 h3 h4 => d__law_reach c__law_near z_sorted z_list J hX hp htk hown h1 h2 h3 h4) (.inl rfl) ⟨[false, false, false, false, false, false, false, false], rfl, by rfl⟩ (.inl rfl)
/-! ### _law_led -/
abbrev s__law_led : Stmt := top 27
def N__law_led : List Str := ["web", "standing", "way", "shut", "own", "deed", "known", "further"]
theorem sc__law_led : FnScope N__law_led ["web", "standing", "way", "shut"] (defScope s__law_led) := ⟨rfl, rfl, rfl, by decide +kernel, rfl, by decide +kernel, by decide +kernel⟩
def t__law_led : Tab := ⟨[0, 1, 2, 3, 4, 5], [0, 1, 2, 3, 4, 5], [0, 1, 2, 3, 4], ["isinstance", "tuple", "_law_near", "dict"]⟩
theorem t__law_led_ok : t__law_led.ok N__law_led (defScope s__law_led) (fun _ => true) = true := by decide +kernel
def t__law_led_1 : Tab := ⟨[5, 6, 7], [6, 7], [6, 7], ["repr"]⟩
theorem t__law_led_1_ok : t__law_led_1.ok N__law_led (relS { kind := PySem.ScopeKind.function, names := [(PySem.Str.ofString ".0", PySem.NameKind.local), (PySem.Str.ofString "known", PySem.NameKind.local), (PySem.Str.ofString "further", PySem.NameKind.local), (PySem.Str.ofString "repr", PySem.NameKind.globalImplicit), (PySem.Str.ofString "deed", PySem.NameKind.free)], isGenerator := false, isCoroutine := false, more := [] } (defScope s__law_led)) (fun x => ({ kind := PySem.ScopeKind.function, names := [(PySem.Str.ofString ".0", PySem.NameKind.local), (PySem.Str.ofString "known", PySem.NameKind.local), (PySem.Str.ofString "further", PySem.NameKind.local), (PySem.Str.ofString "repr", PySem.NameKind.globalImplicit), (PySem.Str.ofString "deed", PySem.NameKind.free)], isGenerator := false, isCoroutine := false, more := [] } : Scope).names.lookup x == some .cell) = true := by decide +kernel
def b__law_led : M Fl :=
    (sCons (sSet 4 (eV 1))
      (sCons (sIf (tNotM (tTru (eOp1 (isiD "tuple") (eV 2))))
        (sRet (eC .none))
        (sClr [1] sNil))
      (sCons (sFor (iSeq (eV 2)) (gSet 5)
        (noCt (sClr [5] (sCons (sIf (tOrM (tTru (eOp2 eqD (eLc (iSeq (eCall m__law_near [.val, .val] (aCons (eV 0) (aCons (eV 4) aNil)))) [6, 7] (gTupM 2 (gsCons (gSet 6) (gsCons (gSet 7) gsNil))) (tTru (eOp2 eqD (eOp1 reprD (eV 6)) (eOp1 reprD (eV 5)))) (eC (.int (1)))) (eLst aNil))) (tTru (eOp2 inA (eOp2 ixA (eV 5) (eC (.int (0)))) (eV 3))))
        (sRet (eC .none))
        sNil)
      (sSet 4 (eOp2 ixA (eOp1 dictD (eCall m__law_near [.val, .val] (aCons (eV 0) (aCons (eV 4) aNil)))) (eV 5)))))))
      (sRet (eV 4)))))
def m__law_led : FM := defM N__law_led.length [.fz, .fz, .fz, .fz] b__law_led
theorem d__law_led {g : GC} {ex : Str → Option Addr} (c__law_near : Cal g (L2.CX g.P g.w) ex "_law_near" s__law_near 2 ["web", "standing"] [.fz, .fz] (.fz) m__law_near) (z_isinstance : g.mg "isinstance" = none) (z_tuple : g.mg "tuple" = none) (z_repr : g.mg "repr" = none) (z_dict : g.mg "dict" = none) (J : Jc) (hX : XOk g J.X N__law_led (defScope s__law_led) (fun _ => true) 2) (hp : ∀ σ, PassesAt (L2.CX g.P g.w) J.X σ (WE J.W σ)) (htk : L2.Takes J.X J.W) (hown : PassesOwn (model J.X.prog J.X.w) J.X.A J.X.env J.X.xe) (hex : J.ex = ex) (hTh : J.Th = tagE N__law_led.length [.fz, .fz, .fz, .fz]) (hTr : J.Tr = tagE N__law_led.length [.fz, .fz, .fz, .fz]) (hτ : J.τr = .fz) :
    SSs J (defBody s__law_led) (tag0 N__law_led.length [.fz, .fz, .fz, .fz]) [.fz, .fz, .fz, .fz, .un, .un, .un, .un] b__law_led := by
  subst hex
  exact (sss_cons (ss_set hX t__law_led_ok 4 rfl rfl (se_var (hX.pv t__law_led_ok 1 rfl rfl) rfl) rfl rfl rfl rfl rfl)
      (sss_cons (ss_if (st_not (st_val (se_b1T hX t__law_led_ok (j := 0) rfl z_isinstance bb_isinstance (j2 := 1) rfl z_tuple bb_tuple call_isi (ops_isi "tuple") (seb_fz (se_var (hX.pv t__law_led_ok 2 rfl rfl) rfl)) rfl) (fun _ => rfl)))
        (sss_one (ss_ret [false, false, false, false, false, false, false, false] (by rw [hτ]; exact se_non) rfl (Eq.trans (by rfl) hTr.symm)))
        (sss_clr_end [true, false, true, true, true, false, false, false] [1] rfl (by rfl) rfl sss_nil))
      (sss_cons (ss_for1 hX hown (si_seq (se_var (hX.pv t__law_led_ok 2 rfl rfl) rfl))
        (sg_name hX t__law_led_ok 5 rfl rfl rfl rfl rfl)
        (sss_clr_end [true, false, true, true, true, false, false, false] [5] rfl (by rfl) rfl (sss_cons (ss_if (stw (st_or (st_cmp (op_eqD hX.u64) ops_eq (se_freeze (se_lcO hX [(PySem.Str.ofString "known", 6), (PySem.Str.ofString "further", 7)] (si_seq (se_call (J := J) hX t__law_led_ok hp c__law_near (by decide) (j := 2) rfl (sa_cons (se_var (hX.pv t__law_led_ok 0 rfl rfl) rfl) (sa_cons (se_var (hX.pv t__law_led_ok 4 rfl rfl) rfl) sa_nil rfl) rfl) (.val (.val .nil)) (by decide) [false, false, false, false, false, false, false, false] rfl (Eq.trans (by rfl) hTh.symm) rfl rfl)) (by decide +kernel) (by intro i hi; simp only [List.map_cons, List.map_nil, List.mem_cons, List.not_mem_nil, or_false] at hi; rcases hi with rfl | rfl <;> exact ⟨_, rfl, rfl⟩) rfl (fun Y1 h1 => (sg_tup h1.c (sgs_cons (sg_name h1 t__law_led_1_ok 6 rfl rfl rfl rfl rfl) (sgs_cons (sg_name h1 t__law_led_1_ok 7 rfl rfl rfl rfl rfl) sgs_nil rfl) rfl) rfl rfl)) (fun Y1 h1 => (sts_one (st_cmp (op_eqD h1.u64) ops_eq (se_b1 h1 t__law_led_1_ok (j := 0) rfl z_repr bb_repr (call_reprG h1.gd h1.u64) ops_repr (seb_fz (se_var (h1.pv t__law_led_1_ok 6 rfl rfl) rfl)) rfl) (seb_fz (se_b1 h1 t__law_led_1_ok (j := 0) rfl z_repr bb_repr (call_reprG h1.gd h1.u64) ops_repr (seb_fz (se_var (h1.pv t__law_led_1_ok 5 rfl rfl) rfl)) rfl)) rfl))) (fun Y1 h1 => se_int) (by decide) rfl (by intro i hi; simp only [List.map_cons, List.map_nil, List.mem_cons, List.not_mem_nil, or_false] at hi; rcases hi with rfl | rfl <;> exact ⟨_, rfl, rfl⟩) (fun _ => rfl)) @OL.frz) (seb_fz (se_freeze (se_lstO (n := 0) sa_nil) @OL.frz)) rfl) (st_or1 (st_cmp (op_inA hX.u65) ops_inA (se_ix (ix_A hX.u1) ops_ixA (se_var (hX.pv t__law_led_ok 5 rfl rfl) rfl) (seb_fz se_int) (fun _ _ => rfl)) (seb_fz (se_var (hX.pv t__law_led_ok 3 rfl rfl) rfl)) rfl))))
        (sss_one (ss_ret [false, false, false, false, false, false, false, false] (by rw [hτ]; exact se_non) rfl (Eq.trans (by rfl) hTr.symm)))
        sss_nil)
      (sss_one (ss_set hX t__law_led_ok 4 rfl rfl (se_ix (ix_A hX.u1) ops_ixA (se_freeze (se_t1O hX t__law_led_ok (j := 3) rfl z_dict bb_dict (call_dictA hX.c hX.u64) ops_dictO (seb_fz (se_call (J := J) hX t__law_led_ok hp c__law_near (by decide) (j := 2) rfl (sa_cons (se_var (hX.pv t__law_led_ok 0 rfl rfl) rfl) (sa_cons (se_var (hX.pv t__law_led_ok 4 rfl rfl) rfl) sa_nil rfl) rfl) (.val (.val .nil)) (by decide) [false, false, false, false, false, false, false, false] rfl (Eq.trans (by rfl) hTh.symm) rfl rfl)) rfl) @OD.frz) (seb_fz (se_var (hX.pv t__law_led_ok 5 rfl rfl) rfl)) (fun _ _ => rfl)) rfl rfl rfl rfl rfl)))) (fun _ => rfl))
      (sss_one (ss_ret [false, false, false, false, false, false, false, false] (by rw [hτ]; exact (se_var (hX.pv t__law_led_ok 4 rfl rfl) rfl)) rfl (Eq.trans (by rfl) hTr.symm))))))
theorem ok__law_led {g : GC} {ex : Str → Option Addr} (c__law_near : Cal g (L2.CX g.P g.w) ex "_law_near" s__law_near 2 ["web", "standing"] [.fz, .fz] (.fz) m__law_near) (z_isinstance : g.mg "isinstance" = none) (z_tuple : g.mg "tuple" = none) (z_repr : g.mg "repr" = none) (z_dict : g.mg "dict" = none) {f : Addr} {fd : FuncData} (Fu : L2.Fun g.K "_law_led" "_law_led" s__law_led f fd) : FnG g (L2.CX g.P g.w) 3 f fd ["web", "standing", "way", "shut"] (spF g.K ex [.fz, .fz, .fz, .fz] (.fz) m__law_led) :=
  fn_ok Fu sc__law_led rfl (by rfl) (fun J hX hp htk hown _ h1 h2 h3 h4 => d__law_led c__law_near z_isinstance z_tuple z_repr z_dict J hX hp htk hown h1 h2 h3 h4) (.inl rfl) ⟨[false, false, false, false, false, false, false, false], rfl, by rfl⟩ (.inl rfl)
/-! ### _law_is_right -/
abbrev s__law_is_right : Stmt := top 28
def N__law_is_right : List Str := ["web", "one", "other", "shut", "told"]
theorem sc__law_is_right : FnScope N__law_is_right ["web", "one", "other", "shut", "told"] (defScope s__law_is_right) := ⟨rfl, rfl, rfl, by decide +kernel, rfl, by decide +kernel, by decide +kernel⟩
def t__law_is_right : Tab := ⟨[0, 1, 2, 3, 4], [0, 1, 2, 3, 4], [0, 1, 2, 3, 4], ["_law_reach", "repr", "_law_led"]⟩
theorem t__law_is_right_ok : t__law_is_right.ok N__law_is_right (defScope s__law_is_right) (fun _ => true) = true := by decide +kernel
def b__law_is_right : M Fl :=
    (sCons (sIf (tTru (eOp2 notInA (eV 2) (eCall m__law_reach [.val, .val, .val] (aCons (eV 0) (aCons (eV 1) (aCons (eV 3) aNil))))))
        (sRet (eOp2 isD (eV 4) (eC .none)))
        sNil)
      (sCons (sIf (tTru (eOp2 eqD (eV 1) (eV 2)))
        (sRet (eOp2 eqD (eOp1 reprD (eV 4)) (eOp1 reprD (eTup aNil))))
        sNil)
      (sRet (eAndV (eOp2 isNotD (eV 4) (eC .none)) (eOp2 eqD (eCall m__law_led [.val, .val, .val, .val] (aCons (eV 0) (aCons (eV 1) (aCons (eV 4) (aCons (eV 3) aNil))))) (eV 2))))))
def m__law_is_right : FM := defM N__law_is_right.length [.fz, .fz, .fz, .fz, .fz] b__law_is_right
theorem d__law_is_right {g : GC} {ex : Str → Option Addr} (c__law_reach : Cal g (L2.CX g.P g.w) ex "_law_reach" s__law_reach 3 ["web", "standing", "shut"] [.fz, .fz, .fz] (.fz) m__law_reach) (c__law_led : Cal g (L2.CX g.P g.w) ex "_law_led" s__law_led 3 ["web", "standing", "way", "shut"] [.fz, .fz, .fz, .fz] (.fz) m__law_led) (z_repr : g.mg "repr" = none) (J : Jc) (hX : XOk g J.X N__law_is_right (defScope s__law_is_right) (fun _ => true) 3) (hp : ∀ σ, PassesAt (L2.CX g.P g.w) J.X σ (WE J.W σ)) (htk : L2.Takes J.X J.W) (hown : PassesOwn (model J.X.prog J.X.w) J.X.A J.X.env J.X.xe) (hex : J.ex = ex) (hTh : J.Th = tagE N__law_is_right.length [.fz, .fz, .fz, .fz, .fz]) (hTr : J.Tr = tagE N__law_is_right.length [.fz, .fz, .fz, .fz, .fz]) (hτ : J.τr = .fz) :
    SSs J (defBody s__law_is_right) (tag0 N__law_is_right.length [.fz, .fz, .fz, .fz, .fz]) [.fz, .fz, .fz, .fz, .fz] b__law_is_right := by
  subst hex
  exact (sss_cons (ss_if (st_cmp (op_notInA hX.u65) ops_notInA (se_var (hX.pv t__law_is_right_ok 2 rfl rfl) rfl) (seb_fz (se_call (J := J) hX t__law_is_right_ok hp c__law_reach (by decide) (j := 0) rfl (sa_cons (se_var (hX.pv t__law_is_right_ok 0 rfl rfl) rfl) (sa_cons (se_var (hX.pv t__law_is_right_ok 1 rfl rfl) rfl) (sa_cons (se_var (hX.pv t__law_is_right_ok 3 rfl rfl) rfl) sa_nil rfl) rfl) rfl) (.val (.val (.val .nil))) (by decide) [false, false, false, false, false] rfl (Eq.trans (by rfl) hTh.symm) rfl rfl)) rfl)
        (sss_one (ss_ret [false, false, false, false, false] (by rw [hτ]; exact (se_cmp op_isN ops_is (se_var (hX.pv t__law_is_right_ok 4 rfl rfl) rfl) (seb_fz se_non) rfl)) rfl (Eq.trans (by rfl) hTr.symm)))
        sss_nil)
      (sss_cons (ss_if (st_cmp (op_eqD hX.u64) ops_eq (se_var (hX.pv t__law_is_right_ok 1 rfl rfl) rfl) (seb_fz (se_var (hX.pv t__law_is_right_ok 2 rfl rfl) rfl)) rfl)
        (sss_one (ss_ret [false, false, false, false, false] (by rw [hτ]; exact (se_cmp (op_eqD hX.u64) ops_eq (se_b1 hX t__law_is_right_ok (j := 1) rfl z_repr bb_repr (call_reprG hX.gd hX.u64) ops_repr (seb_fz (se_var (hX.pv t__law_is_right_ok 4 rfl rfl) rfl)) rfl) (seb_fz (se_b1 hX t__law_is_right_ok (j := 1) rfl z_repr bb_repr (call_reprG hX.gd hX.u64) ops_repr (seb_fz (se_tup (n := 0) sa_nil)) rfl)) rfl)) rfl (Eq.trans (by rfl) hTr.symm)))
        sss_nil)
      (sss_one (ss_ret [false, false, false, false, false] (by rw [hτ]; exact (se_and (se_cmp op_notN ops_isNot (se_var (hX.pv t__law_is_right_ok 4 rfl rfl) rfl) (seb_fz se_non) rfl) (se_one (se_cmp (op_eqD hX.u64) ops_eq (se_call (J := J) hX t__law_is_right_ok hp c__law_led (by decide) (j := 2) rfl (sa_cons (se_var (hX.pv t__law_is_right_ok 0 rfl rfl) rfl) (sa_cons (se_var (hX.pv t__law_is_right_ok 1 rfl rfl) rfl) (sa_cons (se_var (hX.pv t__law_is_right_ok 4 rfl rfl) rfl) (sa_cons (se_var (hX.pv t__law_is_right_ok 3 rfl rfl) rfl) sa_nil rfl) rfl) rfl) rfl) (.val (.val (.val (.val .nil)))) (by decide) [false, false, false, false, false] rfl (Eq.trans (by rfl) hTh.symm) rfl rfl) (seb_fz (se_var (hX.pv t__law_is_right_ok 2 rfl rfl) rfl)) rfl)))) rfl (Eq.trans (by rfl) hTr.symm)))))
theorem ok__law_is_right {g : GC} {ex : Str → Option Addr} (c__law_reach : Cal g (L2.CX g.P g.w) ex "_law_reach" s__law_reach 3 ["web", "standing", "shut"] [.fz, .fz, .fz] (.fz) m__law_reach) (c__law_led : Cal g (L2.CX g.P g.w) ex "_law_led" s__law_led 3 ["web", "standing", "way", "shut"] [.fz, .fz, .fz, .fz] (.fz) m__law_led) (z_repr : g.mg "repr" = none) {f : Addr} {fd : FuncData} (Fu : L2.Fun g.K "_law_is_right" "_law_is_right" s__law_is_right f fd) : FnG g (L2.CX g.P g.w) 4 f fd ["web", "one", "other", "shut", "told"] (spF g.K ex [.fz, .fz, .fz, .fz, .fz] (.fz) m__law_is_right) :=
  fn_ok Fu sc__law_is_right rfl (by rfl) (fun J hX hp htk hown _ h1 h2 h3 h4 => d__law_is_right c__law_reach c__law_led z_repr J hX hp htk hown h1 h2 h3 h4) (.inl rfl) ⟨[false, false, false, false, false], rfl, by rfl⟩ (.inl rfl)
/-! ### law -/
abbrev s_law : Stmt := top 29
def N_law : List Str := ["script", "jar", "turn", "web", "one", "many", "again", "shut", "near", "other", "kept", "told", "again_told", "every", "row", "road"]
theorem sc_law : FnScope N_law ["script"] (defScope s_law) := ⟨rfl, rfl, rfl, by decide +kernel, rfl, by decide +kernel, by decide +kernel⟩
def t_law : Tab := ⟨[0, 1, 2, 3, 4, 5, 6, 7, 8, 9, 10, 11, 12, 13, 14], [0, 1, 2, 3, 4, 5, 6, 7, 8, 9, 10, 11, 12, 13, 14], [0, 2, 3, 4, 5, 7, 8, 9, 10, 11, 12, 13, 14], ["_law_jar", "range", "_law_web", "_law_standing", "len", "tuple", "_law_reach", "_law_draw", "_law_pick", "repr", "closed_way", "_law_is_right", "list"]⟩
theorem t_law_ok : t_law.ok N_law (defScope s_law) (fun _ => true) = true := by decide +kernel
def t_law_1 : Tab := ⟨[1, 6, 15], [15], [15], ["_law_draw"]⟩
theorem t_law_1_ok : t_law_1.ok N_law (relS { kind := PySem.ScopeKind.function, names := [(PySem.Str.ofString ".0", PySem.NameKind.local), (PySem.Str.ofString "road", PySem.NameKind.local), (PySem.Str.ofString "_law_draw", PySem.NameKind.globalImplicit), (PySem.Str.ofString "again", PySem.NameKind.free), (PySem.Str.ofString "jar", PySem.NameKind.free)], isGenerator := false, isCoroutine := false, more := [] } (defScope s_law)) (fun x => ({ kind := PySem.ScopeKind.function, names := [(PySem.Str.ofString ".0", PySem.NameKind.local), (PySem.Str.ofString "road", PySem.NameKind.local), (PySem.Str.ofString "_law_draw", PySem.NameKind.globalImplicit), (PySem.Str.ofString "again", PySem.NameKind.free), (PySem.Str.ofString "jar", PySem.NameKind.free)], isGenerator := false, isCoroutine := false, more := [] } : Scope).names.lookup x == some .cell) = true := by decide +kernel
def b_law : M Fl :=
    (sCons (sSet 1 (eCall m__law_jar [.val] (aCons (eV 0) aNil)))
      (sPre [0] (sCons (sFor (iR (aCons (eC (.int (2))) aNil)) (gSet 2)
        (noCt (sCons (sSet 3 (eCall m__law_web [.lend 1] (aLend aNil)))
      (sCons (sSet 4 (eCall m__law_standing [.lend 1, .val] (aLend (aCons (eV 3) aNil))))
      (sCons (sSet 5 (eOp1 lenD (eOp2 ixA (eV 3) (eC (.int (1))))))
      (sPre [2] (sCons (sFor (iR (aCons (eIf (tTru (eOp2 ltI (eV 5) (eC (.int (6))))) (eC (.int (3))) (eC (.int (1)))) aNil)) (gSet 6)
        (noCt (sCons (sSet 7 (eOp1 tupD (eLc (iR (aCons (eV 5) aNil)) [15] (gSet 15) (tTru (eOp2 eqD (eCall m__law_draw [.lend 1, .val] (aLend (aCons (eOp2 ixA (eLst (aCons (eC (.int (9))) (aCons (eC (.int (4))) (aCons (eC (.int (2))) aNil)))) (eV 6)) aNil))) (eC (.int (0))))) (eV 15))))
      (sCons (sSet 8 (eCall m__law_reach [.val, .val, .val] (aCons (eV 3) (aCons (eV 4) (aCons (eIf (tTru (eOp2 gtI (eCall m__law_draw [.lend 1, .val] (aLend (aCons (eC (.int (3))) aNil))) (eC (.int (0))))) (eV 7) (eTup aNil)) aNil)))))
      (sCons (sSet 9 (eIf (tTru (eOp2 gtI (eCall m__law_draw [.lend 1, .val] (aLend (aCons (eC (.int (4))) aNil))) (eC (.int (0))))) (eCall m__law_pick [.lend 1, .val] (aLend (aCons (eV 8) aNil))) (eCall m__law_standing [.lend 1, .val] (aLend (aCons (eV 3) aNil)))))
      (sCons (sSet 10 (eOp1 reprD (eLst (aCons (eV 3) (aCons (eV 4) (aCons (eV 9) (aCons (eV 7) aNil)))))))
      (sCons (sSet 11 (eCall m_closed_way [.val, .val, .val, .val] (aCons (eV 3) (aCons (eV 4) (aCons (eV 9) (aCons (eV 7) aNil))))))
      (sCons (sSet 12 (eCallK m_closed_way [3, 2, 1, 0] (aCons (eV 7) (aCons (eV 9) (aCons (eV 4) (aCons (eV 3) aNil))))))
      (sCons (sIf (tOrM (tTru (eOp2 neD (eOp1 reprD (eV 12)) (eOp1 reprD (eV 11)))) (tTru (eOp2 neD (eOp1 reprD (eLst (aCons (eV 3) (aCons (eV 4) (aCons (eV 9) (aCons (eV 7) aNil)))))) (eV 10))))
        (sRet (eC (.bool false)))
        (sClr [6, 8, 10, 12] sNil))
      (sCons (sIf (tNotM (tTru (eCall m__law_is_right [.val, .val, .val, .val, .val] (aCons (eV 3) (aCons (eV 4) (aCons (eV 9) (aCons (eV 7) (aCons (eV 11) aNil))))))))
        (sRet (eC (.bool false)))
        (sClr [11] sNil))
      (sIf (tNotM (tTru (eCall m__law_is_right [.val, .val, .val, .val, .val] (aCons (eV 3) (aCons (eV 9) (aCons (eV 4) (aCons (eV 7) (aCons (eCall m_closed_way [.val, .val, .val, .val] (aCons (eV 3) (aCons (eV 9) (aCons (eV 4) (aCons (eV 7) aNil))))) aNil))))))))
        (sRet (eC (.bool false)))
        (sClr [7, 9] sNil))))))))))))
      (sCons (sSet 13 (eOp1 tupD (eRg1 (eV 5))))
      (sIf (tNotM (tTru (eCall m__law_is_right [.val, .val, .val, .val, .val] (aCons (eV 3) (aCons (eV 4) (aCons (eV 4) (aCons (eV 13) (aCons (eCall m_closed_way [.val, .val, .val, .val] (aCons (eV 3) (aCons (eV 4) (aCons (eV 4) (aCons (eV 13) aNil))))) aNil))))))))
        (sRet (eC (.bool false)))
        (sClr [3, 4, 5, 13] sNil))))))))))
      (sCons (sSet 14 (eTup (aCons (eC (.int (5))) (aCons (eTup (aCons (eTup (aCons (eC (.int (0))) (aCons (eC (.int (1))) aNil))) (aCons (eTup (aCons (eC (.int (1))) (aCons (eC (.int (2))) aNil))) (aCons (eTup (aCons (eC (.int (2))) (aCons (eC (.int (3))) aNil))) (aCons (eTup (aCons (eC (.int (3))) (aCons (eC (.int (4))) aNil))) aNil))))) (aCons (eTup (aCons (eC (.int (1))) (aCons (eC (.int (1))) (aCons (eC (.int (1))) (aCons (eC (.int (1))) aNil))))) aNil)))))
      (sRet (eOp2 isD (eCall m_closed_way [.val, .val, .val, .val] (aCons (eV 14) (aCons (eTup (aCons (eC (.int (1))) (aCons (eC (.int (0))) (aCons (eC (.int (0))) (aCons (eC (.int (0))) aNil))))) (aCons (eTup (aCons (eC (.int (0))) (aCons (eC (.int (1))) (aCons (eC (.int (0))) (aCons (eC (.int (0))) aNil))))) (aCons (eTup (aCons (eC (.int (1))) aNil)) aNil))))) (eC .none)))))))
def m_law : FM := defM N_law.length [.fz] b_law
theorem d_law {g : GC} {ex : Str → Option Addr} (c__law_jar : Cal g (L2.CX g.P g.w) ex "_law_jar" s__law_jar 1 ["script"] [.fz] (.ow JK) m__law_jar) (c__law_web : Cal g (L2.CX g.P g.w) ex "_law_web" s__law_web 4 ["jar"] [.io JK] (.fz) m__law_web) (c__law_standing : Cal g (L2.CX g.P g.w) ex "_law_standing" s__law_standing 2 ["jar", "web"] [.io JK, .fz] (.fz) m__law_standing) (c__law_draw : Cal g (L2.CX g.P g.w) ex "_law_draw" s__law_draw 1 ["jar", "many"] [.io JK, .fz] (.fz) m__law_draw) (c__law_reach : Cal g (L2.CX g.P g.w) ex "_law_reach" s__law_reach 3 ["web", "standing", "shut"] [.fz, .fz, .fz] (.fz) m__law_reach) (c__law_pick : Cal g (L2.CX g.P g.w) ex "_law_pick" s__law_pick 2 ["jar", "row"] [.io JK, .fz] (.fz) m__law_pick) (c_closed_way : Cal g (L2.CX g.P g.w) ex "closed_way" s_closed_way 5 ["web", "one", "other", "closed"] [.fz, .fz, .fz, .fz] (.fz) m_closed_way) (c__law_is_right : Cal g (L2.CX g.P g.w) ex "_law_is_right" s__law_is_right 4 ["web", "one", "other", "shut", "told"] [.fz, .fz, .fz, .fz, .fz] (.fz) m__law_is_right) (z_range : g.mg "range" = none) (z_len : g.mg "len" = none) (z_tuple : g.mg "tuple" = none) (z_repr : g.mg "repr" = none) (z_list : g.mg "list" = none) (J : Jc) (hX : XOk g J.X N_law (defScope s_law) (fun _ => true) 5) (hp : ∀ σ, PassesAt (L2.CX g.P g.w) J.X σ (WE J.W σ)) (htk : L2.Takes J.X J.W) (hown : PassesOwn (model J.X.prog J.X.w) J.X.A J.X.env J.X.xe) (hex : J.ex = ex) (hTh : J.Th = tagE N_law.length [.fz]) (hTr : J.Tr = tagE N_law.length [.fz]) (hτ : J.τr = .fz) :
    SSs J (defBody s_law) (tag0 N_law.length [.fz]) [.fz, .un, .un, .un, .un, .un, .un, .un, .un, .un, .un, .un, .un, .un, .un, .un] b_law := by
  subst hex
  exact (sss_cons (ss_set hX t_law_ok 1 rfl rfl (se_call (J := J) hX t_law_ok hp c__law_jar (by decide) (j := 0) rfl (sa_cons (se_var (hX.pv t_law_ok 0 rfl rfl) rfl) sa_nil rfl) (.val .nil) (by decide) [false, false, false, false, false, false, false, false, false, false, false, false, false, false, false, false] rfl (Eq.trans (by rfl) hTh.symm) rfl rfl) rfl rfl rfl rfl rfl)
      (sss_clr [false, true, false, false, false, false, false, false, false, false, false, false, false, false, false, false] [0] rfl rfl rfl (sss_cons (ss_for1 hX hown (si_range1 hX t_law_ok (j := 1) rfl z_range (sa_cons se_int sa_nil rfl) rfl)
        (sg_name hX t_law_ok 2 rfl rfl rfl rfl rfl)
        (sss_cons (ss_set hX t_law_ok 3 rfl rfl (se_call (J := J) hX t_law_ok hp c__law_web (by decide) (j := 2) rfl (sa_lend (hX.pv t_law_ok 1 rfl rfl) (.inl rfl) sa_nil) (.lendO rfl .nil) (by decide) [false, false, false, false, false, false, false, false, false, false, false, false, false, false, false, false] rfl (Eq.trans (by rfl) hTh.symm) rfl rfl) rfl rfl rfl rfl rfl)
      (sss_cons (ss_set hX t_law_ok 4 rfl rfl (se_call (J := J) hX t_law_ok hp c__law_standing (by decide) (j := 3) rfl (sa_lend (hX.pv t_law_ok 1 rfl rfl) (.inl rfl) (sa_cons (se_var (hX.pv t_law_ok 3 rfl rfl) rfl) sa_nil rfl)) (.lendO rfl (.val .nil)) (by decide) [false, false, false, false, false, false, false, false, false, false, false, false, false, false, false, false] rfl (Eq.trans (by rfl) hTh.symm) rfl rfl) rfl rfl rfl rfl rfl)
      (sss_cons (ss_set hX t_law_ok 5 rfl rfl (se_b1 hX t_law_ok (j := 4) rfl z_len bb_len call_lenA ops_len (seb_fz (se_ix (ix_A hX.u1) ops_ixA (se_var (hX.pv t_law_ok 3 rfl rfl) rfl) (seb_fz se_int) (fun _ _ => rfl))) rfl) rfl rfl rfl rfl rfl)
      (sss_clr [false, true, false, true, true, true, false, false, false, false, false, false, false, false, false, false] [2] rfl rfl rfl (sss_cons (ss_for1 hX hown (si_range1 hX t_law_ok (j := 1) rfl z_range (sa_cons (se_if (st_cmp op_lt (ops_cmpI _) (se_var (hX.pv t_law_ok 5 rfl rfl) rfl) (seb_fz se_int) rfl) se_int se_int) sa_nil rfl) rfl)
        (sg_name hX t_law_ok 6 rfl rfl rfl rfl rfl)
        (sss_cons (ss_set hX t_law_ok 7 rfl rfl (se_t1 hX t_law_ok (j := 5) rfl z_tuple bb_tuple call_tuple_of ops_tup (seb_fz (se_freeze (se_lcO hX [(PySem.Str.ofString "road", 15)] (si_range1 hX t_law_ok (j := 1) rfl z_range (sa_cons (se_var (hX.pv t_law_ok 5 rfl rfl) rfl) sa_nil rfl) rfl) (by decide +kernel) (by intro i hi; simp only [List.map_cons, List.map_nil, List.mem_cons, List.not_mem_nil, or_false] at hi; rcases hi with rfl <;> exact ⟨_, rfl, rfl⟩) rfl (fun Y1 h1 => (sg_name h1 t_law_1_ok 15 rfl rfl rfl rfl rfl)) (fun Y1 h1 => (sts_one (st_cmp (op_eqD h1.u64) ops_eq (se_call (J := (JB J Y1)) h1 t_law_1_ok passes_no c__law_draw (by decide) (j := 0) rfl (sa_lend (h1.pv t_law_1_ok 1 rfl rfl) (.inl rfl) (sa_cons (se_ix (ix_A h1.u1) ops_ixA (se_freeze (se_lstO (n := 3) (sa_cons se_int (sa_cons se_int (sa_cons se_int sa_nil rfl) rfl) rfl)) @OL.frz) (seb_fz (se_var (h1.pv t_law_1_ok 6 rfl rfl) rfl)) (fun _ _ => rfl)) sa_nil rfl)) (.lendO rfl (.val .nil)) (by decide) [false, false, false, false, false, false, false, false, false, false, false, false, false, false, false, false] rfl (Eq.trans (by rfl) hTh.symm) rfl rfl) (seb_fz se_int) rfl))) (fun Y1 h1 => (se_var (h1.pv t_law_1_ok 15 rfl rfl) rfl)) (by decide) rfl (by intro i hi; simp only [List.map_cons, List.map_nil, List.mem_cons, List.not_mem_nil, or_false] at hi; rcases hi with rfl <;> exact ⟨_, rfl, rfl⟩) (fun _ => rfl)) @OL.frz)) rfl) rfl rfl rfl rfl rfl)
      (sss_cons (ss_set hX t_law_ok 8 rfl rfl (se_call (J := J) hX t_law_ok hp c__law_reach (by decide) (j := 6) rfl (sa_cons (se_var (hX.pv t_law_ok 3 rfl rfl) rfl) (sa_cons (se_var (hX.pv t_law_ok 4 rfl rfl) rfl) (sa_cons (se_if (st_cmp op_gt (ops_cmpI _) (se_call (J := J) hX t_law_ok hp c__law_draw (by decide) (j := 7) rfl (sa_lend (hX.pv t_law_ok 1 rfl rfl) (.inl rfl) (sa_cons se_int sa_nil rfl)) (.lendO rfl (.val .nil)) (by decide) [false, false, false, false, false, false, false, false, false, false, false, false, false, false, false, false] rfl (Eq.trans (by rfl) hTh.symm) rfl rfl) (seb_fz se_int) rfl) (se_var (hX.pv t_law_ok 7 rfl rfl) rfl) (se_tup (n := 0) sa_nil)) sa_nil rfl) rfl) rfl) (.val (.val (.val .nil))) (by decide) [false, false, false, false, false, false, false, false, false, false, false, false, false, false, false, false] rfl (Eq.trans (by rfl) hTh.symm) rfl rfl) rfl rfl rfl rfl rfl)
      (sss_cons (ss_set hX t_law_ok 9 rfl rfl (se_if (st_cmp op_gt (ops_cmpI _) (se_call (J := J) hX t_law_ok hp c__law_draw (by decide) (j := 7) rfl (sa_lend (hX.pv t_law_ok 1 rfl rfl) (.inl rfl) (sa_cons se_int sa_nil rfl)) (.lendO rfl (.val .nil)) (by decide) [false, false, false, false, false, false, false, false, false, false, false, false, false, false, false, false] rfl (Eq.trans (by rfl) hTh.symm) rfl rfl) (seb_fz se_int) rfl) (se_call (J := J) hX t_law_ok hp c__law_pick (by decide) (j := 8) rfl (sa_lend (hX.pv t_law_ok 1 rfl rfl) (.inl rfl) (sa_cons (se_var (hX.pv t_law_ok 8 rfl rfl) rfl) sa_nil rfl)) (.lendO rfl (.val .nil)) (by decide) [false, false, false, false, false, false, false, false, false, false, false, false, false, false, false, false] rfl (Eq.trans (by rfl) hTh.symm) rfl rfl) (se_call (J := J) hX t_law_ok hp c__law_standing (by decide) (j := 3) rfl (sa_lend (hX.pv t_law_ok 1 rfl rfl) (.inl rfl) (sa_cons (se_var (hX.pv t_law_ok 3 rfl rfl) rfl) sa_nil rfl)) (.lendO rfl (.val .nil)) (by decide) [false, false, false, false, false, false, false, false, false, false, false, false, false, false, false, false] rfl (Eq.trans (by rfl) hTh.symm) rfl rfl)) rfl rfl rfl rfl rfl)
      (sss_cons (ss_set hX t_law_ok 10 rfl rfl (se_b1 hX t_law_ok (j := 9) rfl z_repr bb_repr (call_reprG hX.gd hX.u64) ops_repr (seb_fz (se_freeze (se_lstO (n := 4) (sa_cons (se_var (hX.pv t_law_ok 3 rfl rfl) rfl) (sa_cons (se_var (hX.pv t_law_ok 4 rfl rfl) rfl) (sa_cons (se_var (hX.pv t_law_ok 9 rfl rfl) rfl) (sa_cons (se_var (hX.pv t_law_ok 7 rfl rfl) rfl) sa_nil rfl) rfl) rfl) rfl)) @OL.frz)) rfl) rfl rfl rfl rfl rfl)
      (sss_cons (ss_set hX t_law_ok 11 rfl rfl (se_call (J := J) hX t_law_ok hp c_closed_way (by decide) (j := 10) rfl (sa_cons (se_var (hX.pv t_law_ok 3 rfl rfl) rfl) (sa_cons (se_var (hX.pv t_law_ok 4 rfl rfl) rfl) (sa_cons (se_var (hX.pv t_law_ok 9 rfl rfl) rfl) (sa_cons (se_var (hX.pv t_law_ok 7 rfl rfl) rfl) sa_nil rfl) rfl) rfl) rfl) (.val (.val (.val (.val .nil)))) (by decide) [false, false, false, false, false, false, false, false, false, false, false, false, false, false, false, false] rfl (Eq.trans (by rfl) hTh.symm) rfl rfl) rfl rfl rfl rfl rfl)
      (sss_cons (ss_set hX t_law_ok 12 rfl rfl (se_callK (J := J) hX t_law_ok hp c_closed_way (by decide) (j := 10) rfl ["closed", "other", "one", "web"] [3, 2, 1, 0] rfl (by decide) rfl (sk_cons (se_var (hX.pv t_law_ok 7 rfl rfl) rfl) (sk_cons (se_var (hX.pv t_law_ok 9 rfl rfl) rfl) (sk_cons (se_var (hX.pv t_law_ok 4 rfl rfl) rfl) (sk_cons (se_var (hX.pv t_law_ok 3 rfl rfl) rfl) sk_nil)))) [false, false, false, false, false, false, false, false, false, false, false, false, false, false, false, false] rfl (Eq.trans (by rfl) hTh.symm) (fun _ _ _ _ _ _ ws hw => by match ws, hw with | [_, _, _, _], _ => rfl) rfl rfl rfl) rfl rfl rfl rfl rfl)
      (sss_cons (ss_if (stw (st_or (st_cmp (op_neD hX.u64) ops_ne (se_b1 hX t_law_ok (j := 9) rfl z_repr bb_repr (call_reprG hX.gd hX.u64) ops_repr (seb_fz (se_var (hX.pv t_law_ok 12 rfl rfl) rfl)) rfl) (seb_fz (se_b1 hX t_law_ok (j := 9) rfl z_repr bb_repr (call_reprG hX.gd hX.u64) ops_repr (seb_fz (se_var (hX.pv t_law_ok 11 rfl rfl) rfl)) rfl)) rfl) (st_or1 (st_cmp (op_neD hX.u64) ops_ne (se_b1 hX t_law_ok (j := 9) rfl z_repr bb_repr (call_reprG hX.gd hX.u64) ops_repr (seb_fz (se_freeze (se_lstO (n := 4) (sa_cons (se_var (hX.pv t_law_ok 3 rfl rfl) rfl) (sa_cons (se_var (hX.pv t_law_ok 4 rfl rfl) rfl) (sa_cons (se_var (hX.pv t_law_ok 9 rfl rfl) rfl) (sa_cons (se_var (hX.pv t_law_ok 7 rfl rfl) rfl) sa_nil rfl) rfl) rfl) rfl)) @OL.frz)) rfl) (seb_fz (se_var (hX.pv t_law_ok 10 rfl rfl) rfl)) rfl))))
        (sss_one (ss_ret [false, false, false, false, false, false, false, false, false, false, false, false, false, false, false, false] (by rw [hτ]; exact se_bl) rfl (Eq.trans (by rfl) hTr.symm)))
        (sss_clr_end [false, true, false, true, true, true, false, true, false, true, false, true, false, false, false, false] [6, 8, 10, 12] rfl (by rfl) rfl sss_nil))
      (sss_cons (ss_if (st_not (st_val (se_call (J := J) hX t_law_ok hp c__law_is_right (by decide) (j := 11) rfl (sa_cons (se_var (hX.pv t_law_ok 3 rfl rfl) rfl) (sa_cons (se_var (hX.pv t_law_ok 4 rfl rfl) rfl) (sa_cons (se_var (hX.pv t_law_ok 9 rfl rfl) rfl) (sa_cons (se_var (hX.pv t_law_ok 7 rfl rfl) rfl) (sa_cons (se_var (hX.pv t_law_ok 11 rfl rfl) rfl) sa_nil rfl) rfl) rfl) rfl) rfl) (.val (.val (.val (.val (.val .nil))))) (by decide) [false, false, false, false, false, false, false, false, false, false, false, false, false, false, false, false] rfl (Eq.trans (by rfl) hTh.symm) rfl rfl) (fun _ => rfl)))
        (sss_one (ss_ret [false, false, false, false, false, false, false, false, false, false, false, false, false, false, false, false] (by rw [hτ]; exact se_bl) rfl (Eq.trans (by rfl) hTr.symm)))
        (sss_clr_end [false, true, false, true, true, true, false, true, false, true, false, false, false, false, false, false] [11] rfl (by rfl) rfl sss_nil))
      (sss_one (ss_if (st_not (st_val (se_call (J := J) hX t_law_ok hp c__law_is_right (by decide) (j := 11) rfl (sa_cons (se_var (hX.pv t_law_ok 3 rfl rfl) rfl) (sa_cons (se_var (hX.pv t_law_ok 9 rfl rfl) rfl) (sa_cons (se_var (hX.pv t_law_ok 4 rfl rfl) rfl) (sa_cons (se_var (hX.pv t_law_ok 7 rfl rfl) rfl) (sa_cons (se_call (J := J) hX t_law_ok hp c_closed_way (by decide) (j := 10) rfl (sa_cons (se_var (hX.pv t_law_ok 3 rfl rfl) rfl) (sa_cons (se_var (hX.pv t_law_ok 9 rfl rfl) rfl) (sa_cons (se_var (hX.pv t_law_ok 4 rfl rfl) rfl) (sa_cons (se_var (hX.pv t_law_ok 7 rfl rfl) rfl) sa_nil rfl) rfl) rfl) rfl) (.val (.val (.val (.val .nil)))) (by decide) [false, false, false, false, false, false, false, false, false, false, false, false, false, false, false, false] rfl (Eq.trans (by rfl) hTh.symm) rfl rfl) sa_nil rfl) rfl) rfl) rfl) rfl) (.val (.val (.val (.val (.val .nil))))) (by decide) [false, false, false, false, false, false, false, false, false, false, false, false, false, false, false, false] rfl (Eq.trans (by rfl) hTh.symm) rfl rfl) (fun _ => rfl)))
        (sss_one (ss_ret [false, false, false, false, false, false, false, false, false, false, false, false, false, false, false, false] (by rw [hτ]; exact se_bl) rfl (Eq.trans (by rfl) hTr.symm)))
        (sss_clr_end [false, true, false, true, true, true, false, false, false, false, false, false, false, false, false, false] [7, 9] rfl (by rfl) rfl sss_nil))))))))))) (fun _ => rfl))
      (sss_cons (ss_set hX t_law_ok 13 rfl rfl (se_t1 hX t_law_ok (j := 5) rfl z_tuple bb_tuple call_tuple_of ops_tup (seb_fz (se_freeze (se_lrg1 hX t_law_ok (j := 12) rfl z_list (j2 := 1) rfl z_range (se_var (hX.pv t_law_ok 5 rfl rfl) rfl) rfl) @OL.frz)) rfl) rfl rfl rfl rfl rfl)
      (sss_one (ss_if (st_not (st_val (se_call (J := J) hX t_law_ok hp c__law_is_right (by decide) (j := 11) rfl (sa_cons (se_var (hX.pv t_law_ok 3 rfl rfl) rfl) (sa_cons (se_var (hX.pv t_law_ok 4 rfl rfl) rfl) (sa_cons (se_var (hX.pv t_law_ok 4 rfl rfl) rfl) (sa_cons (se_var (hX.pv t_law_ok 13 rfl rfl) rfl) (sa_cons (se_call (J := J) hX t_law_ok hp c_closed_way (by decide) (j := 10) rfl (sa_cons (se_var (hX.pv t_law_ok 3 rfl rfl) rfl) (sa_cons (se_var (hX.pv t_law_ok 4 rfl rfl) rfl) (sa_cons (se_var (hX.pv t_law_ok 4 rfl rfl) rfl) (sa_cons (se_var (hX.pv t_law_ok 13 rfl rfl) rfl) sa_nil rfl) rfl) rfl) rfl) (.val (.val (.val (.val .nil)))) (by decide) [false, false, false, false, false, false, false, false, false, false, false, false, false, false, false, false] rfl (Eq.trans (by rfl) hTh.symm) rfl rfl) sa_nil rfl) rfl) rfl) rfl) rfl) (.val (.val (.val (.val (.val .nil))))) (by decide) [false, false, false, false, false, false, false, false, false, false, false, false, false, false, false, false] rfl (Eq.trans (by rfl) hTh.symm) rfl rfl) (fun _ => rfl)))
        (sss_one (ss_ret [false, false, false, false, false, false, false, false, false, false, false, false, false, false, false, false] (by rw [hτ]; exact se_bl) rfl (Eq.trans (by rfl) hTr.symm)))
        (sss_clr_end [false, true, false, false, false, false, false, false, false, false, false, false, false, false, false, false] [3, 4, 5, 13] rfl (by rfl) rfl sss_nil))))))))) (fun _ => rfl))
      (sss_cons (ss_set hX t_law_ok 14 rfl rfl (se_tup (n := 3) (sa_cons se_int (sa_cons (se_tup (n := 4) (sa_cons (se_tup (n := 2) (sa_cons se_int (sa_cons se_int sa_nil rfl) rfl)) (sa_cons (se_tup (n := 2) (sa_cons se_int (sa_cons se_int sa_nil rfl) rfl)) (sa_cons (se_tup (n := 2) (sa_cons se_int (sa_cons se_int sa_nil rfl) rfl)) (sa_cons (se_tup (n := 2) (sa_cons se_int (sa_cons se_int sa_nil rfl) rfl)) sa_nil rfl) rfl) rfl) rfl)) (sa_cons (se_tup (n := 4) (sa_cons se_int (sa_cons se_int (sa_cons se_int (sa_cons se_int sa_nil rfl) rfl) rfl) rfl)) sa_nil rfl) rfl) rfl)) rfl rfl rfl rfl rfl)
      (sss_one (ss_ret [false, false, false, false, false, false, false, false, false, false, false, false, false, false, false, false] (by rw [hτ]; exact (se_cmp op_isN ops_is (se_call (J := J) hX t_law_ok hp c_closed_way (by decide) (j := 10) rfl (sa_cons (se_var (hX.pv t_law_ok 14 rfl rfl) rfl) (sa_cons (se_tup (n := 4) (sa_cons se_int (sa_cons se_int (sa_cons se_int (sa_cons se_int sa_nil rfl) rfl) rfl) rfl)) (sa_cons (se_tup (n := 4) (sa_cons se_int (sa_cons se_int (sa_cons se_int (sa_cons se_int sa_nil rfl) rfl) rfl) rfl)) (sa_cons (se_tup (n := 1) (sa_cons se_int sa_nil rfl)) sa_nil rfl) rfl) rfl) rfl) (.val (.val (.val (.val .nil)))) (by decide) [false, false, false, false, false, false, false, false, false, false, false, false, false, false, false, false] rfl (Eq.trans (by rfl) hTh.symm) rfl rfl) (seb_fz se_non) rfl)) rfl (Eq.trans (by rfl) hTr.symm)))))))
theorem ok_law {g : GC} {ex : Str → Option Addr} (c__law_jar : Cal g (L2.CX g.P g.w) ex "_law_jar" s__law_jar 1 ["script"] [.fz] (.ow JK) m__law_jar) (c__law_web : Cal g (L2.CX g.P g.w) ex "_law_web" s__law_web 4 ["jar"] [.io JK] (.fz) m__law_web) (c__law_standing : Cal g (L2.CX g.P g.w) ex "_law_standing" s__law_standing 2 ["jar", "web"] [.io JK, .fz] (.fz) m__law_standing) (c__law_draw : Cal g (L2.CX g.P g.w) ex "_law_draw" s__law_draw 1 ["jar", "many"] [.io JK, .fz] (.fz) m__law_draw) (c__law_reach : Cal g (L2.CX g.P g.w) ex "_law_reach" s__law_reach 3 ["web", "standing", "shut"] [.fz, .fz, .fz] (.fz) m__law_reach) (c__law_pick : Cal g (L2.CX g.P g.w) ex "_law_pick" s__law_pick 2 ["jar", "row"] [.io JK, .fz] (.fz) m__law_pick) (c_closed_way : Cal g (L2.CX g.P g.w) ex "closed_way" s_closed_way 5 ["web", "one", "other", "closed"] [.fz, .fz, .fz, .fz] (.fz) m_closed_way) (c__law_is_right : Cal g (L2.CX g.P g.w) ex "_law_is_right" s__law_is_right 4 ["web", "one", "other", "shut", "told"] [.fz, .fz, .fz, .fz, .fz] (.fz) m__law_is_right) (z_range : g.mg "range" = none) (z_len : g.mg "len" = none) (z_tuple : g.mg "tuple" = none) (z_repr : g.mg "repr" = none) (z_list : g.mg "list" = none) {f : Addr} {fd : FuncData} (Fu : L2.Fun g.K "law" "law" s_law f fd) : FnG g (L2.CX g.P g.w) 6 f fd ["script"] (spF g.K ex [.fz] (.fz) m_law) :=
  fn_ok Fu sc_law rfl (by rfl) (fun J hX hp htk hown _ h1 h2 h3 h4 => d_law c__law_jar c__law_web c__law_standing c__law_draw c__law_reach c__law_pick c_closed_way c__law_is_right z_range z_len z_tuple z_repr z_list J hX hp htk hown h1 h2 h3 h4) (.inl rfl) ⟨[false, false, false, false, false, false, false, false, false, false, false, false, false, false, false, false], rfl, by rfl⟩ (.inl rfl)
abbrev i_TooMany : Stmt := inCls (top 3) 0
theorem sci_TooMany : FnScope ["self", "limit"] ["self", "limit"] (defScope i_TooMany) := ⟨rfl, rfl, rfl, by decide +kernel, rfl, by decide +kernel, by decide +kernel⟩
/-! ### all of them -/
theorem all_mk {l : PySem.W.OpenLaw} {w : World} {K : PySem.W.Frag} {h : Heap} {mg : Str → Option Value} {fa f0 f1 f2 f3 f4 f5 f6 f7 f8 f9 f10 f11 f12 f13 f14 f15 f16 f17 f18 f19 f20 f21 : Addr} (X : K.In h) (G : h.Ns mainGlobals mg) (hfa : mg "law" = some (.ref fa))
    {od0 an0 od1 an1 od2 an2 od3 an3 od4 an4 od5 an5 od6 an6 od7 an7 od8 an8 od9 an9 od10 an10 od11 an11 od12 an12 od13 an13 od14 an14 od15 an15 od16 an16 od17 an17 od18 an18 od19 an19 od20 an20 od21 an21 : Option Addr} {sl0 sl1 sl2 sl3 sl4 sl5 sl6 sl7 sl8 sl9 sl10 sl11 sl12 sl13 sl14 sl15 sl16 sl17 sl18 sl19 sl20 sl21 : Array (Option Value)} {oc0 kV0 dc0 pm0 cd0 ct0 oc1 kV1 dc1 pm1 cd1 ct1 oc2 kV2 dc2 pm2 cd2 ct2 oc3 kV3 dc3 pm3 cd3 ct3 oc4 kV4 dc4 pm4 cd4 ct4 oc5 kV5 dc5 pm5 cd5 ct5 oc6 kV6 dc6 pm6 cd6 ct6 oc7 kV7 dc7 pm7 cd7 ct7 oc8 kV8 dc8 pm8 cd8 ct8 oc9 kV9 dc9 pm9 cd9 ct9 oc10 kV10 dc10 pm10 cd10 ct10 oc11 kV11 dc11 pm11 cd11 ct11 oc12 kV12 dc12 pm12 cd12 ct12 oc13 kV13 dc13 pm13 cd13 ct13 oc14 kV14 dc14 pm14 cd14 ct14 oc15 kV15 dc15 pm15 cd15 ct15 oc16 kV16 dc16 pm16 cd16 ct16 oc17 kV17 dc17 pm17 cd17 ct17 oc18 kV18 dc18 pm18 cd18 ct18 oc19 kV19 dc19 pm19 cd19 ct19 oc20 kV20 dc20 pm20 cd20 ct20 oc21 kV21 dc21 pm21 cd21 ct21 : Value} {tk0 : Tok} {fU : Addr} {CX0 fIX0 NX0 : Addr} {nmX0 qX0 : Str} {bsX0 : List Value} {snX0 : List Str} {subX0 : List Value} {abX0 : Bool} {colX0 : Option Bool} {ddX0 odX0 anX0 : Option Addr} {m0X0 m1X0 m2X0 m3X0 m5X0 : Option Value} {ocX0 kVX0 dcX0 pmX0 cdX0 ctX0 : Value} {slX0 : Array (Option Value)}
    (a0 : PySem.W.nsIn K mainGlobals "sums_of" = some (some (.ref f0)))
    (l0 : K.lookup f0 = some ⟨oc0, od0, .func (PySem.W.fnOf "sums_of" "sums_of" (defArgs s_sums_of) (defBody s_sums_of) (defScope s_sums_of) .none kV0 dc0 pm0 an0 cd0 ct0), sl0⟩)
    (c0 : PySem.W.codeIn K cd0 "sums_of" = true)
    (k0 : PySem.W.keepIn K (.ref f0) = true)
    (a1 : PySem.W.nsIn K mainGlobals "unlike_roads" = some (some (.ref f1)))
    (l1 : K.lookup f1 = some ⟨oc1, od1, .func (PySem.W.fnOf "unlike_roads" "unlike_roads" (defArgs s_unlike_roads) (defBody s_unlike_roads) (defScope s_unlike_roads) .none kV1 dc1 pm1 an1 cd1 ct1), sl1⟩)
    (c1 : PySem.W.codeIn K cd1 "unlike_roads" = true)
    (k1 : PySem.W.keepIn K (.ref f1) = true)
    (a2 : PySem.W.nsIn K mainGlobals "with_load" = some (some (.ref f2)))
    (l2 : K.lookup f2 = some ⟨oc2, od2, .func (PySem.W.fnOf "with_load" "with_load" (defArgs s_with_load) (defBody s_with_load) (defScope s_with_load) .none kV2 dc2 pm2 an2 cd2 ct2), sl2⟩)
    (c2 : PySem.W.codeIn K cd2 "with_load" = true)
    (k2 : PySem.W.keepIn K (.ref f2) = true)
    (a3 : PySem.W.nsIn K mainGlobals "beside" = some (some (.ref f3)))
    (l3 : K.lookup f3 = some ⟨oc3, od3, .func (PySem.W.fnOf "beside" "beside" (defArgs s_beside) (defBody s_beside) (defScope s_beside) .none kV3 dc3 pm3 an3 cd3 ct3), sl3⟩)
    (c3 : PySem.W.codeIn K cd3 "beside" = true)
    (k3 : PySem.W.keepIn K (.ref f3) = true)
    (a4 : PySem.W.nsIn K mainGlobals "reached" = some (some (.ref f4)))
    (l4 : K.lookup f4 = some ⟨oc4, od4, .func (PySem.W.fnOf "reached" "reached" (defArgs s_reached) (defBody s_reached) (defScope s_reached) .none kV4 dc4 pm4 an4 cd4 ct4), sl4⟩)
    (c4 : PySem.W.codeIn K cd4 "reached" = true)
    (k4 : PySem.W.keepIn K (.ref f4) = true)
    (a5 : PySem.W.nsIn K mainGlobals "way_to" = some (some (.ref f5)))
    (l5 : K.lookup f5 = some ⟨oc5, od5, .func (PySem.W.fnOf "way_to" "way_to" (defArgs s_way_to) (defBody s_way_to) (defScope s_way_to) .none kV5 dc5 pm5 an5 cd5 ct5), sl5⟩)
    (c5 : PySem.W.codeIn K cd5 "way_to" = true)
    (k5 : PySem.W.keepIn K (.ref f5) = true)
    (a6 : PySem.W.nsIn K mainGlobals "closed_way" = some (some (.ref f6)))
    (l6 : K.lookup f6 = some ⟨oc6, od6, .func (PySem.W.fnOf "closed_way" "closed_way" (defArgs s_closed_way) (defBody s_closed_way) (defScope s_closed_way) .none kV6 dc6 pm6 an6 cd6 ct6), sl6⟩)
    (c6 : PySem.W.codeIn K cd6 "closed_way" = true)
    (k6 : PySem.W.keepIn K (.ref f6) = true)
    (a7 : PySem.W.nsIn K mainGlobals "_law_jar" = some (some (.ref f7)))
    (l7 : K.lookup f7 = some ⟨oc7, od7, .func (PySem.W.fnOf "_law_jar" "_law_jar" (defArgs s__law_jar) (defBody s__law_jar) (defScope s__law_jar) .none kV7 dc7 pm7 an7 cd7 ct7), sl7⟩)
    (c7 : PySem.W.codeIn K cd7 "_law_jar" = true)
    (k7 : PySem.W.keepIn K (.ref f7) = true)
    (a8 : PySem.W.nsIn K mainGlobals "_law_draw" = some (some (.ref f8)))
    (l8 : K.lookup f8 = some ⟨oc8, od8, .func (PySem.W.fnOf "_law_draw" "_law_draw" (defArgs s__law_draw) (defBody s__law_draw) (defScope s__law_draw) .none kV8 dc8 pm8 an8 cd8 ct8), sl8⟩)
    (c8 : PySem.W.codeIn K cd8 "_law_draw" = true)
    (k8 : PySem.W.keepIn K (.ref f8) = true)
    (a9 : PySem.W.nsIn K mainGlobals "_law_pick" = some (some (.ref f9)))
    (l9 : K.lookup f9 = some ⟨oc9, od9, .func (PySem.W.fnOf "_law_pick" "_law_pick" (defArgs s__law_pick) (defBody s__law_pick) (defScope s__law_pick) .none kV9 dc9 pm9 an9 cd9 ct9), sl9⟩)
    (c9 : PySem.W.codeIn K cd9 "_law_pick" = true)
    (k9 : PySem.W.keepIn K (.ref f9) = true)
    (a10 : PySem.W.nsIn K mainGlobals "_law_mixed" = some (some (.ref f10)))
    (l10 : K.lookup f10 = some ⟨oc10, od10, .func (PySem.W.fnOf "_law_mixed" "_law_mixed" (defArgs s__law_mixed) (defBody s__law_mixed) (defScope s__law_mixed) .none kV10 dc10 pm10 an10 cd10 ct10), sl10⟩)
    (c10 : PySem.W.codeIn K cd10 "_law_mixed" = true)
    (k10 : PySem.W.keepIn K (.ref f10) = true)
    (a11 : PySem.W.nsIn K mainGlobals "_law_made" = some (some (.ref f11)))
    (l11 : K.lookup f11 = some ⟨oc11, od11, .func (PySem.W.fnOf "_law_made" "_law_made" (defArgs s__law_made) (defBody s__law_made) (defScope s__law_made) .none kV11 dc11 pm11 an11 cd11 ct11), sl11⟩)
    (c11 : PySem.W.codeIn K cd11 "_law_made" = true)
    (k11 : PySem.W.keepIn K (.ref f11) = true)
    (a12 : PySem.W.nsIn K mainGlobals "_law_tree" = some (some (.ref f12)))
    (l12 : K.lookup f12 = some ⟨oc12, od12, .func (PySem.W.fnOf "_law_tree" "_law_tree" (defArgs s__law_tree) (defBody s__law_tree) (defScope s__law_tree) .none kV12 dc12 pm12 an12 cd12 ct12), sl12⟩)
    (c12 : PySem.W.codeIn K cd12 "_law_tree" = true)
    (k12 : PySem.W.keepIn K (.ref f12) = true)
    (a13 : PySem.W.nsIn K mainGlobals "_law_more" = some (some (.ref f13)))
    (l13 : K.lookup f13 = some ⟨oc13, od13, .func (PySem.W.fnOf "_law_more" "_law_more" (defArgs s__law_more) (defBody s__law_more) (defScope s__law_more) .none kV13 dc13 pm13 an13 cd13 ct13), sl13⟩)
    (c13 : PySem.W.codeIn K cd13 "_law_more" = true)
    (k13 : PySem.W.keepIn K (.ref f13) = true)
    (a14 : PySem.W.nsIn K mainGlobals "_law_web" = some (some (.ref f14)))
    (l14 : K.lookup f14 = some ⟨oc14, od14, .func (PySem.W.fnOf "_law_web" "_law_web" (defArgs s__law_web) (defBody s__law_web) (defScope s__law_web) .none kV14 dc14 pm14 an14 cd14 ct14), sl14⟩)
    (c14 : PySem.W.codeIn K cd14 "_law_web" = true)
    (k14 : PySem.W.keepIn K (.ref f14) = true)
    (a15 : PySem.W.nsIn K mainGlobals "_law_sums" = some (some (.ref f15)))
    (l15 : K.lookup f15 = some ⟨oc15, od15, .func (PySem.W.fnOf "_law_sums" "_law_sums" (defArgs s__law_sums) (defBody s__law_sums) (defScope s__law_sums) .none kV15 dc15 pm15 an15 cd15 ct15), sl15⟩)
    (c15 : PySem.W.codeIn K cd15 "_law_sums" = true)
    (k15 : PySem.W.keepIn K (.ref f15) = true)
    (a16 : PySem.W.nsIn K mainGlobals "_law_near" = some (some (.ref f16)))
    (l16 : K.lookup f16 = some ⟨oc16, od16, .func (PySem.W.fnOf "_law_near" "_law_near" (defArgs s__law_near) (defBody s__law_near) (defScope s__law_near) .none kV16 dc16 pm16 an16 cd16 ct16), sl16⟩)
    (c16 : PySem.W.codeIn K cd16 "_law_near" = true)
    (k16 : PySem.W.keepIn K (.ref f16) = true)
    (a17 : PySem.W.nsIn K mainGlobals "_law_standing" = some (some (.ref f17)))
    (l17 : K.lookup f17 = some ⟨oc17, od17, .func (PySem.W.fnOf "_law_standing" "_law_standing" (defArgs s__law_standing) (defBody s__law_standing) (defScope s__law_standing) .none kV17 dc17 pm17 an17 cd17 ct17), sl17⟩)
    (c17 : PySem.W.codeIn K cd17 "_law_standing" = true)
    (k17 : PySem.W.keepIn K (.ref f17) = true)
    (a18 : PySem.W.nsIn K mainGlobals "_law_reach" = some (some (.ref f18)))
    (l18 : K.lookup f18 = some ⟨oc18, od18, .func (PySem.W.fnOf "_law_reach" "_law_reach" (defArgs s__law_reach) (defBody s__law_reach) (defScope s__law_reach) .none kV18 dc18 pm18 an18 cd18 ct18), sl18⟩)
    (c18 : PySem.W.codeIn K cd18 "_law_reach" = true)
    (k18 : PySem.W.keepIn K (.ref f18) = true)
    (a19 : PySem.W.nsIn K mainGlobals "_law_led" = some (some (.ref f19)))
    (l19 : K.lookup f19 = some ⟨oc19, od19, .func (PySem.W.fnOf "_law_led" "_law_led" (defArgs s__law_led) (defBody s__law_led) (defScope s__law_led) .none kV19 dc19 pm19 an19 cd19 ct19), sl19⟩)
    (c19 : PySem.W.codeIn K cd19 "_law_led" = true)
    (k19 : PySem.W.keepIn K (.ref f19) = true)
    (a20 : PySem.W.nsIn K mainGlobals "_law_is_right" = some (some (.ref f20)))
    (l20 : K.lookup f20 = some ⟨oc20, od20, .func (PySem.W.fnOf "_law_is_right" "_law_is_right" (defArgs s__law_is_right) (defBody s__law_is_right) (defScope s__law_is_right) .none kV20 dc20 pm20 an20 cd20 ct20), sl20⟩)
    (c20 : PySem.W.codeIn K cd20 "_law_is_right" = true)
    (k20 : PySem.W.keepIn K (.ref f20) = true)
    (a21 : PySem.W.nsIn K mainGlobals "law" = some (some (.ref f21)))
    (l21 : K.lookup f21 = some ⟨oc21, od21, .func (PySem.W.fnOf "law" "law" (defArgs s_law) (defBody s_law) (defScope s_law) .none kV21 dc21 pm21 an21 cd21 ct21), sl21⟩)
    (c21 : PySem.W.codeIn K cd21 "law" = true)
    (k21 : PySem.W.keepIn K (.ref f21) = true)
    (z0 : PySem.W.nsIn K mainGlobals "zip" = some none)
    (z1 : PySem.W.nsIn K mainGlobals "tuple" = some none)
    (z2 : PySem.W.nsIn K mainGlobals "enumerate" = some none)
    (z3 : PySem.W.nsIn K mainGlobals "len" = some none)
    (z4 : PySem.W.nsIn K mainGlobals "int" = some none)
    (z5 : PySem.W.nsIn K mainGlobals "range" = some none)
    (z6 : PySem.W.nsIn K mainGlobals "list" = some none)
    (z7 : PySem.W.nsIn K mainGlobals "min" = some none)
    (z8 : PySem.W.nsIn K mainGlobals "max" = some none)
    (z9 : PySem.W.nsIn K mainGlobals "sorted" = some none)
    (z10 : PySem.W.nsIn K mainGlobals "isinstance" = some none)
    (z11 : PySem.W.nsIn K mainGlobals "repr" = some none)
    (z12 : PySem.W.nsIn K mainGlobals "dict" = some none)
    (y0 : PySem.W.nsIn K mainGlobals "MAX_SEEN" = some (some (.int (2000) tk0)))
    (aU : PySem.W.nsIn K mainGlobals "UnevenError" = some (some (.ref fU)))
    (rU : PySem.W.readsIn K fU (.type "type") = true)
    (gU : PySem.W.specialIn K (.ref fU) "__getattribute__" = some (some (.builtin "type.__getattribute__")))
    (hU : PySem.W.findCls K (.ref fU) (.type "type") "__init__" = some (.val (.builtin "ValueError.__init__")))
    (aX0 : PySem.W.nsIn K mainGlobals "TooMany" = some (some (.ref CX0)))
    (xX0 : K.lookup CX0 = some (excClassObj nmX0 qX0 CX0 NX0 bsX0 [.ref fU, .type "ValueError", .type "Exception", .type "BaseException", .type "object"] true snX0 subX0 abX0 colX0 ddX0 m0X0 m1X0 m2X0 m3X0 m5X0 "ValueError.__new__"))
    (sX0 : PySem.W.findIn K (.ref CX0) "__setattr__" = some (some (.builtin "object.__setattr__")))
    (eX0 : PySem.W.subIn K (.ref CX0) (.type "BaseException") = some true)
    (tX0 : PySem.W.typeIn K (.ref CX0) = some (.type "type"))
    (kX0 : PySem.W.keepIn K (.ref CX0) = true)
    (iX0 : PySem.W.findIn K (.ref CX0) "__init__" = some (some (.ref fIX0)))
    (yX0 : PySem.W.typeIn K (.ref fIX0) = some (.type "function"))
    (lX0 : K.lookup fIX0 = some ⟨ocX0, odX0, .func (PySem.W.fnOf "__init__" "TooMany.__init__" (defArgs i_TooMany) (defBody i_TooMany) (defScope i_TooMany) .none kVX0 dcX0 pmX0 anX0 cdX0 ctX0), slX0⟩)
    (cX0 : PySem.W.codeIn K cdX0 "TooMany.__init__" = true)
    (pX0 : PySem.W.keepIn K (.ref fIX0) = true)
    (nX0 : PySem.W.findIn K (.ref CX0) "limit" = some none) :
    ∃ fd : FuncData, (∀ (s : Shared) (v : Value), BindsTo s fd ⟨[v], []⟩ [("script", v)]) ∧ ∀ base : Heap, FnG ⟨l.prog, w, K, mg, base⟩ (L2.CX l.prog w) 6 fa fd ["script"] (spK K [.fz] .fz m_law) := by
  have e := hfa.symm.trans (PySem.W.mg_of X G a21)
  cases e
  have F0 := fun_mk (st := s_sums_of) l0 c0 k0
  have b0 := F0.binds (ps := ["web", "standing"]) fun _ _ _ _ _ _ us hl => match us, hl with | [_, _], _ => rfl
  have F1 := fun_mk (st := s_unlike_roads) l1 c1 k1
  have b1 := F1.binds (ps := ["web", "standing"]) fun _ _ _ _ _ _ us hl => match us, hl with | [_, _], _ => rfl
  have F2 := fun_mk (st := s_with_load) l2 c2 k2
  have b2 := F2.binds (ps := ["standing", "road", "load"]) fun _ _ _ _ _ _ us hl => match us, hl with | [_, _, _], _ => rfl
  have F3 := fun_mk (st := s_beside) l3 c3 k3
  have b3 := F3.binds (ps := ["web", "standing"]) fun _ _ _ _ _ _ us hl => match us, hl with | [_, _], _ => rfl
  have F4 := fun_mk (st := s_reached) l4 c4 k4
  have b4 := F4.binds (ps := ["web", "start", "closed", "limit"]) fun _ _ _ _ _ _ us hl => match us, hl with | [_, _, _, _], _ => rfl
  have F5 := fun_mk (st := s_way_to) l5 c5 k5
  have b5 := F5.binds (ps := ["known", "standing"]) fun _ _ _ _ _ _ us hl => match us, hl with | [_, _], _ => rfl
  have F6 := fun_mk (st := s_closed_way) l6 c6 k6
  have b6 := F6.binds (ps := ["web", "one", "other", "closed"]) fun _ _ _ _ _ _ us hl => match us, hl with | [_, _, _, _], _ => rfl
  have F7 := fun_mk (st := s__law_jar) l7 c7 k7
  have b7 := F7.binds (ps := ["script"]) fun _ _ _ _ _ _ us hl => match us, hl with | [_], _ => rfl
  have F8 := fun_mk (st := s__law_draw) l8 c8 k8
  have b8 := F8.binds (ps := ["jar", "many"]) fun _ _ _ _ _ _ us hl => match us, hl with | [_, _], _ => rfl
  have F9 := fun_mk (st := s__law_pick) l9 c9 k9
  have b9 := F9.binds (ps := ["jar", "row"]) fun _ _ _ _ _ _ us hl => match us, hl with | [_, _], _ => rfl
  have F10 := fun_mk (st := s__law_mixed) l10 c10 k10
  have b10 := F10.binds (ps := ["jar", "row"]) fun _ _ _ _ _ _ us hl => match us, hl with | [_, _], _ => rfl
  have F11 := fun_mk (st := s__law_made) l11 c11 k11
  have b11 := F11.binds (ps := ["jar", "n", "pairs", "loads"]) fun _ _ _ _ _ _ us hl => match us, hl with | [_, _, _, _], _ => rfl
  have F12 := fun_mk (st := s__law_tree) l12 c12 k12
  have b12 := F12.binds (ps := ["jar", "n"]) fun _ _ _ _ _ _ us hl => match us, hl with | [_, _], _ => rfl
  have F13 := fun_mk (st := s__law_more) l13 c13 k13
  have b13 := F13.binds (ps := ["jar", "n", "pairs", "many"]) fun _ _ _ _ _ _ us hl => match us, hl with | [_, _, _, _], _ => rfl
  have F14 := fun_mk (st := s__law_web) l14 c14 k14
  have b14 := F14.binds (ps := ["jar"]) fun _ _ _ _ _ _ us hl => match us, hl with | [_], _ => rfl
  have F15 := fun_mk (st := s__law_sums) l15 c15 k15
  have b15 := F15.binds (ps := ["web", "standing"]) fun _ _ _ _ _ _ us hl => match us, hl with | [_, _], _ => rfl
  have F16 := fun_mk (st := s__law_near) l16 c16 k16
  have b16 := F16.binds (ps := ["web", "standing"]) fun _ _ _ _ _ _ us hl => match us, hl with | [_, _], _ => rfl
  have F17 := fun_mk (st := s__law_standing) l17 c17 k17
  have b17 := F17.binds (ps := ["jar", "web"]) fun _ _ _ _ _ _ us hl => match us, hl with | [_, _], _ => rfl
  have F18 := fun_mk (st := s__law_reach) l18 c18 k18
  have b18 := F18.binds (ps := ["web", "standing", "shut"]) fun _ _ _ _ _ _ us hl => match us, hl with | [_, _, _], _ => rfl
  have F19 := fun_mk (st := s__law_led) l19 c19 k19
  have b19 := F19.binds (ps := ["web", "standing", "way", "shut"]) fun _ _ _ _ _ _ us hl => match us, hl with | [_, _, _, _], _ => rfl
  have F20 := fun_mk (st := s__law_is_right) l20 c20 k20
  have b20 := F20.binds (ps := ["web", "one", "other", "shut", "told"]) fun _ _ _ _ _ _ us hl => match us, hl with | [_, _, _, _, _], _ => rfl
  have F21 := fun_mk (st := s_law) l21 c21 k21
  have b21 := F21.binds (ps := ["script"]) fun _ _ _ _ _ _ us hl => match us, hl with | [_], _ => rfl
  refine ⟨PySem.W.fnOf "law" "law" (defArgs s_law) (defBody s_law) (defScope s_law) .none kV21 dc21 pm21 an21 cd21 ct21, fun s v => .of_eq rfl, fun base => ?_⟩
  let g : GC := ⟨l.prog, w, K, mg, base⟩
  have z_zip : g.mg "zip" = none := PySem.W.mg_none_of X G z0
  have z_tuple : g.mg "tuple" = none := PySem.W.mg_none_of X G z1
  have z_enumerate : g.mg "enumerate" = none := PySem.W.mg_none_of X G z2
  have z_len : g.mg "len" = none := PySem.W.mg_none_of X G z3
  have z_int : g.mg "int" = none := PySem.W.mg_none_of X G z4
  have z_range : g.mg "range" = none := PySem.W.mg_none_of X G z5
  have z_list : g.mg "list" = none := PySem.W.mg_none_of X G z6
  have z_min : g.mg "min" = none := PySem.W.mg_none_of X G z7
  have z_max : g.mg "max" = none := PySem.W.mg_none_of X G z8
  have z_sorted : g.mg "sorted" = none := PySem.W.mg_none_of X G z9
  have z_isinstance : g.mg "isinstance" = none := PySem.W.mg_none_of X G z10
  have z_repr : g.mg "repr" = none := PySem.W.mg_none_of X G z11
  have z_dict : g.mg "dict" = none := PySem.W.mg_none_of X G z12
  have k_MAX_SEEN : ∃ tk, g.mg "MAX_SEEN" = some (.int (2000) tk) := ⟨_, PySem.W.mg_of X G y0⟩
  have U : UeC g.K g.mg "UnevenError" := ue_of (mc := .type "type") (PySem.W.mg_of X G aU) rU gU hU
  have FX0 := fun_mk (st := i_TooMany) lX0 cX0 pX0
  have bX0 := FX0.binds (ps := ["self", "limit"]) fun _ _ _ _ _ _ us hl => match us, hl with | [_, _], _ => rfl
  have OX0 : OexC g.K CX0 := oex_of xX0 (by rfl) sX0 eX0 tX0 kX0
  have x_TooMany : Ecl g (exOf mg) "TooMany" ["limit"] := ecl1 (PySem.W.mg_of X G aX0) OX0 iX0 yX0 nX0 (init1_ok FX0 sci_TooMany U (by decide) rfl rfl rfl rfl (by decide) (by decide) (fun _ _ => ⟨_, rfl⟩)) bX0
  have c_sums_of := cal_of (g := g) (ex := exOf mg) (ok_sums_of z_zip z_tuple F0) (PySem.W.mg_of X G a0) k0 b0
  have c_unlike_roads := cal_of (g := g) (ex := exOf mg) (ok_unlike_roads c_sums_of z_tuple z_enumerate F1) (PySem.W.mg_of X G a1) k1 b1
  have c_with_load := cal_of (g := g) (ex := exOf mg) (ok_with_load  F2) (PySem.W.mg_of X G a2) k2 b2
  have c_beside := cal_of (g := g) (ex := exOf mg) (ok_beside c_unlike_roads c_with_load F3) (PySem.W.mg_of X G a3) k3 b3
  have c_reached := cal_of (g := g) (ex := exOf mg) (ok_reached c_beside z_len x_TooMany F4) (PySem.W.mg_of X G a4) k4 b4
  have c_way_to := cal_of (g := g) (ex := exOf mg) (ok_way_to z_tuple F5) (PySem.W.mg_of X G a5) k5 b5
  have c_closed_way := cal_of (g := g) (ex := exOf mg) (ok_closed_way c_reached c_way_to k_MAX_SEEN F6) (PySem.W.mg_of X G a6) k6 b6
  have c__law_jar := cal_of (g := g) (ex := exOf mg) (ok__law_jar z_len z_int F7) (PySem.W.mg_of X G a7) k7 b7
  have c__law_draw := cal_of (g := g) (ex := exOf mg) (ok__law_draw z_int z_len z_range F8) (PySem.W.mg_of X G a8) k8 b8
  have c__law_pick := cal_of (g := g) (ex := exOf mg) (ok__law_pick c__law_draw z_len F9) (PySem.W.mg_of X G a9) k9 b9
  have c__law_mixed := cal_of (g := g) (ex := exOf mg) (ok__law_mixed c__law_draw z_list z_range z_len F10) (PySem.W.mg_of X G a10) k10 b10
  have c__law_made := cal_of (g := g) (ex := exOf mg) (ok__law_made c__law_mixed z_list z_range z_zip z_min z_max z_sorted z_tuple F11) (PySem.W.mg_of X G a11) k11 b11
  have c__law_tree := cal_of (g := g) (ex := exOf mg) (ok__law_tree c__law_draw z_range F12) (PySem.W.mg_of X G a12) k12 b12
  have c__law_more := cal_of (g := g) (ex := exOf mg) (ok__law_more c__law_mixed z_range F13) (PySem.W.mg_of X G a13) k13 b13
  have c__law_web := cal_of (g := g) (ex := exOf mg) (ok__law_web c__law_draw c__law_tree c__law_more c__law_pick c__law_made z_range z_len z_enumerate z_int F14) (PySem.W.mg_of X G a14) k14 b14
  have c__law_sums := cal_of (g := g) (ex := exOf mg) (ok__law_sums z_zip F15) (PySem.W.mg_of X G a15) k15 b15
  have c__law_near := cal_of (g := g) (ex := exOf mg) (ok__law_near c__law_sums z_enumerate F16) (PySem.W.mg_of X G a16) k16 b16
  have c__law_standing := cal_of (g := g) (ex := exOf mg) (ok__law_standing c__law_draw z_len z_enumerate z_tuple F17) (PySem.W.mg_of X G a17) k17 b17
  have c__law_reach := cal_of (g := g) (ex := exOf mg) (ok__law_reach c__law_near z_sorted z_list F18) (PySem.W.mg_of X G a18) k18 b18
  have c__law_led := cal_of (g := g) (ex := exOf mg) (ok__law_led c__law_near z_isinstance z_tuple z_repr z_dict F19) (PySem.W.mg_of X G a19) k19 b19
  have c__law_is_right := cal_of (g := g) (ex := exOf mg) (ok__law_is_right c__law_reach c__law_led z_repr F20) (PySem.W.mg_of X G a20) k20 b20
  exact fn_law (ok_law (g := g) (ex := exOf mg) c__law_jar c__law_web c__law_standing c__law_draw c__law_reach c__law_pick c_closed_way c__law_is_right z_range z_len z_tuple z_repr z_list F21)
end K83

/-! L83: the law k83. -/
namespace K83
open PySem (PyData Str)
open DL CJ PJ
theorem ones_ne {α : Type} (l : List α) (hl : l ≠ []) : eqD (.list (l.map fun _ => PyData.int 1)) (.list []) = some (.bool false) := by
  have z := eqD_en (f := fun l : List Int => PyData.list (l.map PyData.int)) (En.lst En.int) (by decide) (l.map fun _ => (1 : Int)) []
  simp only [List.map_map, List.map_nil] at z
  have e : decide (l.map (fun _ => (1 : Int)) = []) = false := by simp [hl]
  rw [e] at z
  exact z
theorem led_ok {w : Web} (hw : WOk w) (C : List Nat) {s t : Sta} (hs : SOk w s) (ds : List Deed) (hl : ds.length ≤ 2000) (h : wayTo w C s ds t) : m__law_led [webD w, stD s, .tuple (ds.map deedD), shutD C] = .ok (stD t) [] := by
  refine FW.eq (E := NX) ?_
  refine fw_of ?_
  simp (disch := (first | omega | (simp only [List.length_cons, List.length_nil, List.length_map, List.length_append, List.length_set, List.length_take, List.length_drop, List.length_replicate, List.length_reverse, List.length_range]; omega))) only [run1, run2, run3, run4, run5, dInts, ixT0, ixT1, ixT2, ixT3, ixL0, ixL1, ixL2, ixT_last, ixL_last, cutD_take, cutD_drop, Kp_run, Fd_run, Wp_ok, Wp_exc, NcCl, if_true, if_false, Bool.false_eq_true, decide_true, decide_false, Bool.not_true, Bool.not_false, lenOk_le, addT', addL', muAppend', List.length_cons, List.length_nil, List.length_map, List.length_append, List.length_set, List.length_singleton, Nat.reduceAdd, Nat.reduceSub, Nat.zero_add, List.replicate_succ, List.replicate_zero, List.cons_append, List.nil_append, List.map_cons, List.map_nil, Nat.reduceLeDiff, N__law_led, b__law_led, isi_tuple]
  refine Wp.bind (wp_for (f := deedD) ds (fun pre ρ => ∃ u, ρ = [webD w, .none, .tuple (ds.map deedD), shutD C, stD u, .none, .none, .none] ∧ SOk w u ∧ ∃ post, ds = pre ++ post ∧ wayTo w C u post t) ⟨s, rfl, hs, ds, by simp, h⟩ (fun pre d post ρ e ⟨u, e1, hu, post', e2, hp⟩ => ?_) (fun ρ ⟨u, e1, hu, post', e2, hp⟩ => ?_))
  · subst e1
    have : post' = d :: post := List.append_cancel_left (e2.symm.trans e)
    subst this
    obtain ⟨v, h1, h2, h3⟩ := hp
    have n1 := law_near_ok hw hu
    have rd := (sz_deed (wayTo_lt hw h d (by rw [e]; simp))).rp (by decide) (by decide)
    have rk : ∀ p ∈ near w u, Rp (deedD p.1) := fun p hp => (sz_deed (d := p.1) (by
      have z := near_mem hw (s := u) (d := p.1) (t := p.2) hp
      have := hw.rl
      refine ⟨by omega, ?_⟩
      rcases z.2.2 with ⟨z, _⟩ | ⟨z, _⟩
      · exact .inr z
      · exact .inl z)).rp (by decide) (by decide)
    have nl : (near w u).length ≤ 2000 := by
      have := flat_len (nearAt w u) (nearAt_len w u) (unl w u)
      have := unl_len w u
      have := hw.rl
      unfold near; omega
    have c := lc_ok (f := nearD) (tg := gTupM 2 (gsCons (gSet 6) (gsCons (gSet 7) gsNil))) (test := tTru (eOp2 eqD (eOp1 reprD (eV 6)) (eOp1 reprD (eV 5)))) (elt := eC (.int (1)))
      (fun v : PyData × PyData => [webD w, .none, .tuple (ds.map deedD), shutD C, stD u, deedD d, v.1, v.2]) [6, 7] (fun p => decide ((deedD p.1).shown = (deedD d).shown)) (fun _ => PyData.int 1) (near w u) (.none, .none)
      (fun v => by simp (disch := (first | omega | (simp only [List.length_cons, List.length_nil, List.length_map, List.length_append, List.length_set, List.length_take, List.length_drop, List.length_replicate, List.length_reverse, List.length_range]; omega))) only [run1, run2, run3, run4, run5, dInts, ixT0, ixT1, ixT2, ixT3, ixL0, ixL1, ixL2, ixT_last, ixL_last, cutD_take, cutD_drop, Kp_run, Fd_run, Wp_ok, Wp_exc, NcCl, if_true, if_false, Bool.false_eq_true, decide_true, decide_false, Bool.not_true, Bool.not_false, lenOk_le, addT', addL', muAppend', List.length_cons, List.length_nil, List.length_map, List.length_append, List.length_set, List.length_singleton, Nat.reduceAdd, Nat.reduceSub, Nat.zero_add, List.replicate_succ, List.replicate_zero, List.cons_append, List.nil_append, List.map_cons, List.map_nil, Nat.reduceLeDiff]) fun p hp v => ⟨(deedD p.1, stD p.2), by
        have e1 := eqD_str (rk p hp).ok rd.ok
        simp (disch := (first | omega | (simp only [List.length_cons, List.length_nil, List.length_map, List.length_append, List.length_set, List.length_take, List.length_drop, List.length_replicate, List.length_reverse, List.length_range]; omega))) only [run1, run2, run3, run4, run5, dInts, ixT0, ixT1, ixT2, ixT3, ixL0, ixL1, ixL2, ixT_last, ixL_last, cutD_take, cutD_drop, Kp_run, Fd_run, Wp_ok, Wp_exc, NcCl, if_true, if_false, Bool.false_eq_true, decide_true, decide_false, Bool.not_true, Bool.not_false, lenOk_le, addT', addL', muAppend', List.length_cons, List.length_nil, List.length_map, List.length_append, List.length_set, List.length_singleton, Nat.reduceAdd, Nat.reduceSub, Nat.zero_add, List.replicate_succ, List.replicate_zero, List.cons_append, List.nil_append, List.map_cons, List.map_nil, Nat.reduceLeDiff, (rk p hp).eq, rd.eq, e1], fun _ => by simp (disch := (first | omega | (simp only [List.length_cons, List.length_nil, List.length_map, List.length_append, List.length_set, List.length_take, List.length_drop, List.length_replicate, List.length_reverse, List.length_range]; omega))) only [run1, run2, run3, run4, run5, dInts, ixT0, ixT1, ixT2, ixT3, ixL0, ixL1, ixL2, ixT_last, ixL_last, cutD_take, cutD_drop, Kp_run, Fd_run, Wp_ok, Wp_exc, NcCl, if_true, if_false, Bool.false_eq_true, decide_true, decide_false, Bool.not_true, Bool.not_false, lenOk_le, addT', addL', muAppend', List.length_cons, List.length_nil, List.length_map, List.length_append, List.length_set, List.length_singleton, Nat.reduceAdd, Nat.reduceSub, Nat.zero_add, List.replicate_succ, List.replicate_zero, List.cons_append, List.nil_append, List.map_cons, List.map_nil, Nat.reduceLeDiff]⟩
    have ne := ones_ne ((near w u).filter fun p => decide ((deedD p.1).shown = (deedD d).shown)) (fun e => by
      have : (d, v) ∈ (near w u).filter fun p => decide ((deedD p.1).shown = (deedD d).shown) := List.mem_filter.mpr ⟨h1, by simp⟩
      rw [e] at this; simp at this)
    have i1 := inT_en En.nat (by decide) d.1 C
    have dc := dict_en (f := deedD) (g := fun s : Sta => stD s) Ky.natInt (near w u)
    have dg := get_dc (f := deedD) (g := fun s : Sta => stD s) Ky.natInt (amerge (near w u)) d
    rw [amerge_get (near w u) d v (fun b' hb => near_det hw hb h1) h1] at dg
    simp (disch := (first | omega | (simp only [List.length_cons, List.length_nil, List.length_map, List.length_append, List.length_set, List.length_take, List.length_drop, List.length_replicate, List.length_reverse, List.length_range]; omega))) only [run1, run2, run3, run4, run5, dInts, ixT0, ixT1, ixT2, ixT3, ixL0, ixL1, ixL2, ixT_last, ixL_last, cutD_take, cutD_drop, Kp_run, Fd_run, Wp_ok, Wp_exc, NcCl, if_true, if_false, Bool.false_eq_true, decide_true, decide_false, Bool.not_true, Bool.not_false, lenOk_le, addT', addL', muAppend', List.length_cons, List.length_nil, List.length_map, List.length_append, List.length_set, List.length_singleton, Nat.reduceAdd, Nat.reduceSub, Nat.zero_add, List.replicate_succ, List.replicate_zero, List.cons_append, List.nil_append, List.map_cons, List.map_nil, Nat.reduceLeDiff, n1]
    simp (disch := (first | omega | (simp only [List.length_cons, List.length_nil, List.length_map, List.length_append, List.length_set, List.length_take, List.length_drop, List.length_replicate, List.length_reverse, List.length_range]; omega))) only [run1, run2, run3, run4, run5, dInts, ixT0, ixT1, ixT2, ixT3, ixL0, ixL1, ixL2, ixT_last, ixL_last, cutD_take, cutD_drop, Kp_run, Fd_run, Wp_ok, Wp_exc, NcCl, if_true, if_false, Bool.false_eq_true, decide_true, decide_false, Bool.not_true, Bool.not_false, lenOk_le, addT', addL', muAppend', List.length_cons, List.length_nil, List.length_map, List.length_append, List.length_set, List.length_singleton, Nat.reduceAdd, Nat.reduceSub, Nat.zero_add, List.replicate_succ, List.replicate_zero, List.cons_append, List.nil_append, List.map_cons, List.map_nil, Nat.reduceLeDiff, c, ne, i1, decide_eq_false h2, n1, dc, dg, Option.map_some]
    exact ⟨v, rfl, near_ok hw hu h1, post, by rw [e]; simp, h3⟩
  · subst e1
    have : post' = [] := List.append_cancel_left (e2.symm.trans (by simp : ds = ds ++ []))
    subst this
    cases hp
    simp (disch := (first | omega | (simp only [List.length_cons, List.length_nil, List.length_map, List.length_append, List.length_set, List.length_take, List.length_drop, List.length_replicate, List.length_reverse, List.length_range]; omega))) only [run1, run2, run3, run4, run5, dInts, ixT0, ixT1, ixT2, ixT3, ixL0, ixL1, ixL2, ixT_last, ixL_last, cutD_take, cutD_drop, Kp_run, Fd_run, Wp_ok, Wp_exc, NcCl, if_true, if_false, Bool.false_eq_true, decide_true, decide_false, Bool.not_true, Bool.not_false, lenOk_le, addT', addL', muAppend', List.length_cons, List.length_nil, List.length_map, List.length_append, List.length_set, List.length_singleton, Nat.reduceAdd, Nat.reduceSub, Nat.zero_add, List.replicate_succ, List.replicate_zero, List.cons_append, List.nil_append, List.map_cons, List.map_nil, Nat.reduceLeDiff]
    exact ⟨trivial, trivial⟩
theorem right_ok {w : Web} (g : WebG w) (C : List Nat) {s t : Sta} (hs : SOk w s) {d : PyData} (h : Told w C s t d) : m__law_is_right [webD w, stD s, stD t, shutD C, d] = .ok (.bool true) [] := by
  refine FW.eq (E := NX) (fw_of ?_)
  obtain ⟨r, ios, e, rfl, ts, rfl, nd, tl, hm⟩ := (law_reach_ok g.ok g.ne C hs (g.few_rch hs) (by decide)).ex
  have n1 := notInL_en (f := fun s : Sta => stD s) (En.tup En.int) (by decide) t ts
  have rp := told_rp g.ok h
  have e0 := eqD_en (f := fun s : Sta => stD s) (En.tup En.int) (by decide) s t
  have z0 : Rp (.tuple []) := rp_of rfl (by decide) (by decide)
  simp (disch := (first | omega | (simp only [List.length_cons, List.length_nil, List.length_map, List.length_append, List.length_set, List.length_take, List.length_drop, List.length_replicate, List.length_reverse, List.length_range]; omega))) only [run1, run2, run3, run4, run5, dInts, ixT0, ixT1, ixT2, ixT3, ixL0, ixL1, ixL2, ixT_last, ixL_last, cutD_take, cutD_drop, Kp_run, Fd_run, Wp_ok, Wp_exc, NcCl, if_true, if_false, Bool.false_eq_true, decide_true, decide_false, Bool.not_true, Bool.not_false, lenOk_le, addT', addL', muAppend', List.length_cons, List.length_nil, List.length_map, List.length_append, List.length_set, List.length_singleton, Nat.reduceAdd, Nat.reduceSub, Nat.zero_add, List.replicate_succ, List.replicate_zero, List.cons_append, List.nil_append, List.map_cons, List.map_nil, Nat.reduceLeDiff, N__law_is_right, b__law_is_right, e]
  rcases h with ⟨rfl, hn⟩ | ⟨ds, rfl, hw, hl, hz⟩
  · have : t ∉ ts := fun z => hn ((hm t).mp z)
    simp (disch := (first | omega | (simp only [List.length_cons, List.length_nil, List.length_map, List.length_append, List.length_set, List.length_take, List.length_drop, List.length_replicate, List.length_reverse, List.length_range]; omega))) only [run1, run2, run3, run4, run5, dInts, ixT0, ixT1, ixT2, ixT3, ixL0, ixL1, ixL2, ixT_last, ixL_last, cutD_take, cutD_drop, Kp_run, Fd_run, Wp_ok, Wp_exc, NcCl, if_true, if_false, Bool.false_eq_true, decide_true, decide_false, Bool.not_true, Bool.not_false, lenOk_le, addT', addL', muAppend', List.length_cons, List.length_nil, List.length_map, List.length_append, List.length_set, List.length_singleton, Nat.reduceAdd, Nat.reduceSub, Nat.zero_add, List.replicate_succ, List.replicate_zero, List.cons_append, List.nil_append, List.map_cons, List.map_nil, Nat.reduceLeDiff, n1, decide_eq_false this]
    exact ⟨trivial, trivial⟩
  · have : t ∈ ts := (hm t).mpr (wayTo_rch .refl hw)
    by_cases es : s = t
    · have e2 := hz es.symm
      subst e2
      have e3 := eqD_str z0.ok z0.ok
      simp (disch := (first | omega | (simp only [List.length_cons, List.length_nil, List.length_map, List.length_append, List.length_set, List.length_take, List.length_drop, List.length_replicate, List.length_reverse, List.length_range]; omega))) only [run1, run2, run3, run4, run5, dInts, ixT0, ixT1, ixT2, ixT3, ixL0, ixL1, ixL2, ixT_last, ixL_last, cutD_take, cutD_drop, Kp_run, Fd_run, Wp_ok, Wp_exc, NcCl, if_true, if_false, Bool.false_eq_true, decide_true, decide_false, Bool.not_true, Bool.not_false, lenOk_le, addT', addL', muAppend', List.length_cons, List.length_nil, List.length_map, List.length_append, List.length_set, List.length_singleton, Nat.reduceAdd, Nat.reduceSub, Nat.zero_add, List.replicate_succ, List.replicate_zero, List.cons_append, List.nil_append, List.map_cons, List.map_nil, Nat.reduceLeDiff, n1, decide_eq_true this, e0, decide_eq_true es, z0.eq, e3]
      exact ⟨trivial, trivial⟩
    · have lo := led_ok g.ok C hs ds hl hw
      have e1 := eqD_en (f := fun s : Sta => stD s) (En.tup En.int) (by decide) t t
      simp (disch := (first | omega | (simp only [List.length_cons, List.length_nil, List.length_map, List.length_append, List.length_set, List.length_take, List.length_drop, List.length_replicate, List.length_reverse, List.length_range]; omega))) only [run1, run2, run3, run4, run5, dInts, ixT0, ixT1, ixT2, ixT3, ixL0, ixL1, ixL2, ixT_last, ixL_last, cutD_take, cutD_drop, Kp_run, Fd_run, Wp_ok, Wp_exc, NcCl, if_true, if_false, Bool.false_eq_true, decide_true, decide_false, Bool.not_true, Bool.not_false, lenOk_le, addT', addL', muAppend', List.length_cons, List.length_nil, List.length_map, List.length_append, List.length_set, List.length_singleton, Nat.reduceAdd, Nat.reduceSub, Nat.zero_add, List.replicate_succ, List.replicate_zero, List.cons_append, List.nil_append, List.map_cons, List.map_nil, Nat.reduceLeDiff, n1, decide_eq_true this, e0, decide_eq_false es, lo, e1]
      exact ⟨trivial, trivial⟩
theorem law_end : m_closed_way [.tuple [.int 5, .tuple [.tuple [.int 0, .int 1], .tuple [.int 1, .int 2], .tuple [.int 2, .int 3], .tuple [.int 3, .int 4]], .tuple [.int 1, .int 1, .int 1, .int 1]], .tuple [.int 1, .int 0, .int 0, .int 0], .tuple [.int 0, .int 1, .int 0, .int 0], .tuple [.int 1]] = .ok .none [] := by
  let w : Web := ⟨5, [(0, 1), (1, 2), (2, 3), (3, 4)], [1, 1, 1, 1]⟩
  have g : WebG w := ⟨⟨by decide, by decide, by decide, by decide⟩, by decide, by decide, by decide, by decide, by decide, by decide⟩
  have hs : SOk w [1, 0, 0, 0] := ⟨by decide, by decide, by decide⟩
  obtain ⟨d, e, h⟩ := closed_small g [1] (t := [0, 1, 0, 0]) hs
  have hd : d = .none := by
    rcases h with ⟨h, _⟩ | ⟨ds, _, hw, _⟩
    · exact h
    · have key : ∀ t, Rch w [1] [1, 0, 0, 0] t → t = [1, 0, 0, 0] := fun t r => by
        induction r with
        | refl => rfl
        | step _ st ih =>
          subst ih
          obtain ⟨d, hd, hc⟩ := st
          have en : near w [1, 0, 0, 0] = [((1, 1), [1, 1, 0, 0])] := by decide
          rw [en] at hd
          simp only [List.mem_singleton, Prod.mk.injEq] at hd
          exact absurd (by rw [hd.1]; simp) hc
      have := key _ (wayTo_rch .refl hw)
      simp at this
  subst hd
  exact e
theorem shut_ok {j : Jar} (hj : JOk j) {w : Web} (g : WebG w) {s : Sta} {again : Nat} (ha : again < 3) {Q : PyData → DL.Env → Prop}
    (hq : ∀ (j' : Jar) (C : List Nat), JOk j' → C.length ≤ w.rs.length → (∀ r ∈ C, r < w.rs.length) → Q (.list (C.map fun r : Nat => PyData.int (r : Int))) [.none, jD j', .none, webD w, stD s, .int (w.rs.length : Int), .int (again : Int), .none, .none, .none, .none, .none, .none, .none, .none, .none]) :
    Wp (lcE [15] [.none, jD j, .none, webD w, stD s, .int (w.rs.length : Int), .int (again : Int), .none, .none, .none, .none, .none, .none, .none, .none, .none]
      (lcL (gSet 15) (tTru (eOp2 eqD (eCall m__law_draw [.lend 1, .val] (aLend (aCons (eOp2 ixA (eLst (aCons (eC (.int (9))) (aCons (eC (.int (4))) (aCons (eC (.int (2))) aNil)))) (eV 6)) aNil))) (eC (.int (0))))) (eV 15) ((List.range w.rs.length).map fun i : Nat => PyData.int (i : Int))
      [.none, jD j, .none, webD w, stD s, .int (w.rs.length : Int), .int (again : Int), .none, .none, .none, .none, .none, .none, .none, .none, .none])) Q (fun _ _ => False) := by
  refine wp_lcE (wp_lc (g := fun r : Nat => PyData.int (r : Int)) (f := fun i : Nat => PyData.int (i : Int)) (List.range w.rs.length) (fun pre ys ρ => ∃ j' a, ρ = [.none, jD j', .none, webD w, stD s, .int (w.rs.length : Int), .int (again : Int), .none, .none, .none, .none, .none, .none, .none, .none, a] ∧ JOk j' ∧ ys.length ≤ pre.length ∧ ∀ r ∈ ys, r < w.rs.length)
    ⟨j, .none, rfl, hj, by simp, by simp⟩ (fun pre i post ys ρ e ⟨j', a, e1, h', hl, hb⟩ => ?_) (fun ys ρ ⟨j', a, e1, h', hl, hb⟩ => ?_))
  · subst e1
    have hm : ∃ m : Nat, ixA (.list [.int 9, .int 4, .int 2]) (.int (again : Int)) = some (.int (m : Int)) ∧ 1 ≤ m ∧ m ≤ 9 := by
      have e := ixL [.int 9, .int 4, .int 2] again
      rcases again with _ | _ | _ | k
      · exact ⟨9, e, by omega, by omega⟩
      · exact ⟨4, e, by omega, by omega⟩
      · exact ⟨2, e, by omega, by omega⟩
      · omega
    obtain ⟨m, em, m1, m9⟩ := hm
    simp (disch := (first | omega | (simp only [List.length_cons, List.length_nil, List.length_map, List.length_append, List.length_set, List.length_take, List.length_drop, List.length_replicate, List.length_reverse, List.length_range]; omega))) only [run1, run2, run3, run4, run5, dInts, ixT0, ixT1, ixT2, ixT3, ixL0, ixL1, ixL2, ixT_last, ixL_last, cutD_take, cutD_drop, Kp_run, Fd_run, Wp_ok, Wp_exc, NcCl, if_true, if_false, Bool.false_eq_true, decide_true, decide_false, Bool.not_true, Bool.not_false, lenOk_le, addT', addL', muAppend', List.length_cons, List.length_nil, List.length_map, List.length_append, List.length_set, List.length_singleton, Nat.reduceAdd, Nat.reduceSub, Nat.zero_add, List.replicate_succ, List.replicate_zero, List.cons_append, List.nil_append, List.map_cons, List.map_nil, Nat.reduceLeDiff, em]
    refine wp_call (draw_ok h' m1 (by omega)) ?_
    rintro d ios ⟨j2, h2, rfl, k, rfl, hk⟩
    simp (disch := (first | omega | (simp only [List.length_cons, List.length_nil, List.length_map, List.length_append, List.length_set, List.length_take, List.length_drop, List.length_replicate, List.length_reverse, List.length_range]; omega))) only [run1, run2, run3, run4, run5, dInts, ixT0, ixT1, ixT2, ixT3, ixL0, ixL1, ixL2, ixT_last, ixL_last, cutD_take, cutD_drop, Kp_run, Fd_run, Wp_ok, Wp_exc, NcCl, if_true, if_false, Bool.false_eq_true, decide_true, decide_false, Bool.not_true, Bool.not_false, lenOk_le, addT', addL', muAppend', List.length_cons, List.length_nil, List.length_map, List.length_append, List.length_set, List.length_singleton, Nat.reduceAdd, Nat.reduceSub, Nat.zero_add, List.replicate_succ, List.replicate_zero, List.cons_append, List.nil_append, List.map_cons, List.map_nil, Nat.reduceLeDiff]
    by_cases c : (k : Int) = 0
    · simp (disch := (first | omega | (simp only [List.length_cons, List.length_nil, List.length_map, List.length_append, List.length_set, List.length_take, List.length_drop, List.length_replicate, List.length_reverse, List.length_range]; omega))) only [run1, run2, run3, run4, run5, dInts, ixT0, ixT1, ixT2, ixT3, ixL0, ixL1, ixL2, ixT_last, ixL_last, cutD_take, cutD_drop, Kp_run, Fd_run, Wp_ok, Wp_exc, NcCl, if_true, if_false, Bool.false_eq_true, decide_true, decide_false, Bool.not_true, Bool.not_false, lenOk_le, addT', addL', muAppend', List.length_cons, List.length_nil, List.length_map, List.length_append, List.length_set, List.length_singleton, Nat.reduceAdd, Nat.reduceSub, Nat.zero_add, List.replicate_succ, List.replicate_zero, List.cons_append, List.nil_append, List.map_cons, List.map_nil, Nat.reduceLeDiff, decide_eq_true c]
      refine ⟨i, rfl, j2, _, rfl, h2, by omega, fun r hr => (List.mem_append.mp hr).elim (hb r) fun z => ?_⟩
      simp at z; subst z
      have : r ∈ List.range w.rs.length := by rw [e]; simp
      simpa using this
    · simp (disch := (first | omega | (simp only [List.length_cons, List.length_nil, List.length_map, List.length_append, List.length_set, List.length_take, List.length_drop, List.length_replicate, List.length_reverse, List.length_range]; omega))) only [run1, run2, run3, run4, run5, dInts, ixT0, ixT1, ixT2, ixT3, ixL0, ixL1, ixL2, ixT_last, ixL_last, cutD_take, cutD_drop, Kp_run, Fd_run, Wp_ok, Wp_exc, NcCl, if_true, if_false, Bool.false_eq_true, decide_true, decide_false, Bool.not_true, Bool.not_false, lenOk_le, addT', addL', muAppend', List.length_cons, List.length_nil, List.length_map, List.length_append, List.length_set, List.length_singleton, Nat.reduceAdd, Nat.reduceSub, Nat.zero_add, List.replicate_succ, List.replicate_zero, List.cons_append, List.nil_append, List.map_cons, List.map_nil, Nat.reduceLeDiff, decide_eq_false c]
      exact ⟨j2, _, rfl, h2, by omega, hb⟩
  · subst e1
    simp (disch := (first | omega | (simp only [List.length_cons, List.length_nil, List.length_map, List.length_append, List.length_set, List.length_take, List.length_drop, List.length_replicate, List.length_reverse, List.length_range]; omega))) only [run1, run2, run3, run4, run5, dInts, ixT0, ixT1, ixT2, ixT3, ixL0, ixL1, ixL2, ixT_last, ixL_last, cutD_take, cutD_drop, Kp_run, Fd_run, Wp_ok, Wp_exc, NcCl, if_true, if_false, Bool.false_eq_true, decide_true, decide_false, Bool.not_true, Bool.not_false, lenOk_le, addT', addL', muAppend', List.length_cons, List.length_nil, List.length_map, List.length_append, List.length_set, List.length_singleton, Nat.reduceAdd, Nat.reduceSub, Nat.zero_add, List.replicate_succ, List.replicate_zero, List.cons_append, List.nil_append, List.map_cons, List.map_nil, Nat.reduceLeDiff]
    exact hq j' ys h' (by simpa using hl) hb
theorem law_ok (ns : List Int) (h : ns.length ≤ 63) : FW (m_law [.list (ns.map .int)]) (fun d _ => d = .bool true) NX := by
  refine fw_of ?_
  have r2 : rgE [.int 2] = _ := rgE1 2 (by omega)
  have r3 : rgE [.int 3] = _ := rgE1 3 (by omega)
  have r1 : rgE [.int 1] = _ := rgE1 1 (by omega)
  simp (disch := (first | omega | (simp only [List.length_cons, List.length_nil, List.length_map, List.length_append, List.length_set, List.length_take, List.length_drop, List.length_replicate, List.length_reverse, List.length_range]; omega))) only [run1, run2, run3, run4, run5, dInts, ixT0, ixT1, ixT2, ixT3, ixL0, ixL1, ixL2, ixT_last, ixL_last, cutD_take, cutD_drop, Kp_run, Fd_run, Wp_ok, Wp_exc, NcCl, if_true, if_false, Bool.false_eq_true, decide_true, decide_false, Bool.not_true, Bool.not_false, lenOk_le, addT', addL', muAppend', List.length_cons, List.length_nil, List.length_map, List.length_append, List.length_set, List.length_singleton, Nat.reduceAdd, Nat.reduceSub, Nat.zero_add, List.replicate_succ, List.replicate_zero, List.cons_append, List.nil_append, List.map_cons, List.map_nil, Nat.reduceLeDiff, N_law, b_law]
  refine wp_call (law_jar_ok ns h) ?_
  rintro d ios ⟨rfl, j, hj, rfl⟩
  simp (disch := (first | omega | (simp only [List.length_cons, List.length_nil, List.length_map, List.length_append, List.length_set, List.length_take, List.length_drop, List.length_replicate, List.length_reverse, List.length_range]; omega))) only [run1, run2, run3, run4, run5, dInts, ixT0, ixT1, ixT2, ixT3, ixL0, ixL1, ixL2, ixT_last, ixL_last, cutD_take, cutD_drop, Kp_run, Fd_run, Wp_ok, Wp_exc, NcCl, if_true, if_false, Bool.false_eq_true, decide_true, decide_false, Bool.not_true, Bool.not_false, lenOk_le, addT', addL', muAppend', List.length_cons, List.length_nil, List.length_map, List.length_append, List.length_set, List.length_singleton, Nat.reduceAdd, Nat.reduceSub, Nat.zero_add, List.replicate_succ, List.replicate_zero, List.cons_append, List.nil_append, List.map_cons, List.map_nil, Nat.reduceLeDiff, r2]
  refine Wp.bind (wp_for (f := fun i : Nat => PyData.int (i : Int)) (List.range 2) (fun pre ρ => ∃ j, ρ = [.none, jD j, .none, .none, .none, .none, .none, .none, .none, .none, .none, .none, .none, .none, .none, .none] ∧ JOk j) ⟨j, rfl, hj⟩ (fun pre x post ρ e ⟨j, e1, hj⟩ => ?_) (fun ρ ⟨j, e1, hj⟩ => ?_))
  · subst e1
    simp (disch := (first | omega | (simp only [List.length_cons, List.length_nil, List.length_map, List.length_append, List.length_set, List.length_take, List.length_drop, List.length_replicate, List.length_reverse, List.length_range]; omega))) only [run1, run2, run3, run4, run5, dInts, ixT0, ixT1, ixT2, ixT3, ixL0, ixL1, ixL2, ixT_last, ixL_last, cutD_take, cutD_drop, Kp_run, Fd_run, Wp_ok, Wp_exc, NcCl, if_true, if_false, Bool.false_eq_true, decide_true, decide_false, Bool.not_true, Bool.not_false, lenOk_le, addT', addL', muAppend', List.length_cons, List.length_nil, List.length_map, List.length_append, List.length_set, List.length_singleton, Nat.reduceAdd, Nat.reduceSub, Nat.zero_add, List.replicate_succ, List.replicate_zero, List.cons_append, List.nil_append, List.map_cons, List.map_nil, Nat.reduceLeDiff]
    refine wp_noCt ?_
    refine wp_call (web_ok hj) ?_
    rintro d ios ⟨j1, h1, rfl, w, rfl, g⟩
    simp (disch := (first | omega | (simp only [List.length_cons, List.length_nil, List.length_map, List.length_append, List.length_set, List.length_take, List.length_drop, List.length_replicate, List.length_reverse, List.length_range]; omega))) only [run1, run2, run3, run4, run5, dInts, ixT0, ixT1, ixT2, ixT3, ixL0, ixL1, ixL2, ixT_last, ixL_last, cutD_take, cutD_drop, Kp_run, Fd_run, Wp_ok, Wp_exc, NcCl, if_true, if_false, Bool.false_eq_true, decide_true, decide_false, Bool.not_true, Bool.not_false, lenOk_le, addT', addL', muAppend', List.length_cons, List.length_nil, List.length_map, List.length_append, List.length_set, List.length_singleton, Nat.reduceAdd, Nat.reduceSub, Nat.zero_add, List.replicate_succ, List.replicate_zero, List.cons_append, List.nil_append, List.map_cons, List.map_nil, Nat.reduceLeDiff]
    refine wp_call (standing_ok h1 g.ok g.ne fun m hm => by have := g.ms m hm; omega) ?_
    rintro d ios ⟨j2, h2, rfl, s, rfl, hs⟩
    simp (disch := (first | omega | (simp only [List.length_cons, List.length_nil, List.length_map, List.length_append, List.length_set, List.length_take, List.length_drop, List.length_replicate, List.length_reverse, List.length_range]; omega))) only [run1, run2, run3, run4, run5, dInts, ixT0, ixT1, ixT2, ixT3, ixL0, ixL1, ixL2, ixT_last, ixL_last, cutD_take, cutD_drop, Kp_run, Fd_run, Wp_ok, Wp_exc, NcCl, if_true, if_false, Bool.false_eq_true, decide_true, decide_false, Bool.not_true, Bool.not_false, lenOk_le, addT', addL', muAppend', List.length_cons, List.length_nil, List.length_map, List.length_append, List.length_set, List.length_singleton, Nat.reduceAdd, Nat.reduceSub, Nat.zero_add, List.replicate_succ, List.replicate_zero, List.cons_append, List.nil_append, List.map_cons, List.map_nil, Nat.reduceLeDiff]
    obtain ⟨n, hn, en⟩ : ∃ n : Nat, n ≤ 3 ∧ ∀ ρ, cnd (decide ((w.rs.length : Int) < 6)) (eC (.int 3)) (eC (.int 1)) ρ = .ok (.int (n : Int)) ρ := by
      by_cases c : (w.rs.length : Int) < 6
      · exact ⟨3, by omega, fun ρ => by simp (disch := (first | omega | (simp only [List.length_cons, List.length_nil, List.length_map, List.length_append, List.length_set, List.length_take, List.length_drop, List.length_replicate, List.length_reverse, List.length_range]; omega))) only [run1, run2, run3, run4, run5, dInts, ixT0, ixT1, ixT2, ixT3, ixL0, ixL1, ixL2, ixT_last, ixL_last, cutD_take, cutD_drop, Kp_run, Fd_run, Wp_ok, Wp_exc, NcCl, if_true, if_false, Bool.false_eq_true, decide_true, decide_false, Bool.not_true, Bool.not_false, lenOk_le, addT', addL', muAppend', List.length_cons, List.length_nil, List.length_map, List.length_append, List.length_set, List.length_singleton, Nat.reduceAdd, Nat.reduceSub, Nat.zero_add, List.replicate_succ, List.replicate_zero, List.cons_append, List.nil_append, List.map_cons, List.map_nil, Nat.reduceLeDiff, decide_eq_true c]; rfl⟩
      · exact ⟨1, by omega, fun ρ => by simp (disch := (first | omega | (simp only [List.length_cons, List.length_nil, List.length_map, List.length_append, List.length_set, List.length_take, List.length_drop, List.length_replicate, List.length_reverse, List.length_range]; omega))) only [run1, run2, run3, run4, run5, dInts, ixT0, ixT1, ixT2, ixT3, ixL0, ixL1, ixL2, ixT_last, ixL_last, cutD_take, cutD_drop, Kp_run, Fd_run, Wp_ok, Wp_exc, NcCl, if_true, if_false, Bool.false_eq_true, decide_true, decide_false, Bool.not_true, Bool.not_false, lenOk_le, addT', addL', muAppend', List.length_cons, List.length_nil, List.length_map, List.length_append, List.length_set, List.length_singleton, Nat.reduceAdd, Nat.reduceSub, Nat.zero_add, List.replicate_succ, List.replicate_zero, List.cons_append, List.nil_append, List.map_cons, List.map_nil, Nat.reduceLeDiff, decide_eq_false c]; rfl⟩
    have rn := rgE1 n (by omega)
    simp (disch := (first | omega | (simp only [List.length_cons, List.length_nil, List.length_map, List.length_append, List.length_set, List.length_take, List.length_drop, List.length_replicate, List.length_reverse, List.length_range]; omega))) only [run1, run2, run3, run4, run5, dInts, ixT0, ixT1, ixT2, ixT3, ixL0, ixL1, ixL2, ixT_last, ixL_last, cutD_take, cutD_drop, Kp_run, Fd_run, Wp_ok, Wp_exc, NcCl, if_true, if_false, Bool.false_eq_true, decide_true, decide_false, Bool.not_true, Bool.not_false, lenOk_le, addT', addL', muAppend', List.length_cons, List.length_nil, List.length_map, List.length_append, List.length_set, List.length_singleton, Nat.reduceAdd, Nat.reduceSub, Nat.zero_add, List.replicate_succ, List.replicate_zero, List.cons_append, List.nil_append, List.map_cons, List.map_nil, Nat.reduceLeDiff, en, rn]
    refine Wp.bind ?_
    refine Wp.mono (Q := fun (fl : Fl) ρ => fl = .nx ∧ ∃ j, ρ = [.none, jD j, .none, webD w, stD s, .int (w.rs.length : Int), .none, .none, .none, .none, .none, .none, .none, .none, .none, .none] ∧ JOk j) (E := fun _ _ => False)
      (wp_for (f := fun i : Nat => PyData.int (i : Int)) (List.range n) (fun pre ρ => ∃ j, ρ = [.none, jD j, .none, webD w, stD s, .int (w.rs.length : Int), .none, .none, .none, .none, .none, .none, .none, .none, .none, .none] ∧ JOk j) ⟨j2, rfl, h2⟩ (fun pre again post ρ e ⟨j, e1, hj⟩ => ?_) (fun ρ z => ⟨rfl, z⟩)) ?_ fun _ _ z => z
    · subst e1
      have ha : again < 3 := by
        have : again ∈ List.range n := by rw [e]; simp
        simp at this; omega
      have rr := rgE1 w.rs.length (by have := g.r7; omega)
      have r7 := g.r7
      simp (disch := (first | omega | (simp only [List.length_cons, List.length_nil, List.length_map, List.length_append, List.length_set, List.length_take, List.length_drop, List.length_replicate, List.length_reverse, List.length_range]; omega))) only [run1, run2, run3, run4, run5, dInts, ixT0, ixT1, ixT2, ixT3, ixL0, ixL1, ixL2, ixT_last, ixL_last, cutD_take, cutD_drop, Kp_run, Fd_run, Wp_ok, Wp_exc, NcCl, if_true, if_false, Bool.false_eq_true, decide_true, decide_false, Bool.not_true, Bool.not_false, lenOk_le, addT', addL', muAppend', List.length_cons, List.length_nil, List.length_map, List.length_append, List.length_set, List.length_singleton, Nat.reduceAdd, Nat.reduceSub, Nat.zero_add, List.replicate_succ, List.replicate_zero, List.cons_append, List.nil_append, List.map_cons, List.map_nil, Nat.reduceLeDiff, rr, List.length_range]
      refine wp_noCt ?_
      refine Wp.bind ?_
      refine shut_ok hj g ha fun j' C hj' cl cb => ?_
      simp (disch := (first | omega | (simp only [List.length_cons, List.length_nil, List.length_map, List.length_append, List.length_set, List.length_take, List.length_drop, List.length_replicate, List.length_reverse, List.length_range]; omega))) only [run1, run2, run3, run4, run5, dInts, ixT0, ixT1, ixT2, ixT3, ixL0, ixL1, ixL2, ixT_last, ixL_last, cutD_take, cutD_drop, Kp_run, Fd_run, Wp_ok, Wp_exc, NcCl, if_true, if_false, Bool.false_eq_true, decide_true, decide_false, Bool.not_true, Bool.not_false, lenOk_le, addT', addL', muAppend', List.length_cons, List.length_nil, List.length_map, List.length_append, List.length_set, List.length_singleton, Nat.reduceAdd, Nat.reduceSub, Nat.zero_add, List.replicate_succ, List.replicate_zero, List.cons_append, List.nil_append, List.map_cons, List.map_nil, Nat.reduceLeDiff]
      refine wp_call (draw_ok hj' (many := 3) (by omega) (by omega)) ?_
      rintro d ios ⟨j4, h4, rfl, k, rfl, hk⟩
      simp (disch := (first | omega | (simp only [List.length_cons, List.length_nil, List.length_map, List.length_append, List.length_set, List.length_take, List.length_drop, List.length_replicate, List.length_reverse, List.length_range]; omega))) only [run1, run2, run3, run4, run5, dInts, ixT0, ixT1, ixT2, ixT3, ixL0, ixL1, ixL2, ixT_last, ixL_last, cutD_take, cutD_drop, Kp_run, Fd_run, Wp_ok, Wp_exc, NcCl, if_true, if_false, Bool.false_eq_true, decide_true, decide_false, Bool.not_true, Bool.not_false, lenOk_le, addT', addL', muAppend', List.length_cons, List.length_nil, List.length_map, List.length_append, List.length_set, List.length_singleton, Nat.reduceAdd, Nat.reduceSub, Nat.zero_add, List.replicate_succ, List.replicate_zero, List.cons_append, List.nil_append, List.map_cons, List.map_nil, Nat.reduceLeDiff]
      obtain ⟨C2, e2⟩ : ∃ C2 : List Nat, ∀ a : PyData, cnd (decide ((0 : Int) < (k : Int))) (eV 7) (eTup aNil) [.none, jD j4, .none, webD w, stD s, .int (w.rs.length : Int), .int (again : Int), shutD C, .none, .none, .none, .none, .none, .none, .none, .none]
          = .ok (shutD C2) [.none, jD j4, .none, webD w, stD s, .int (w.rs.length : Int), .int (again : Int), shutD C, .none, .none, .none, .none, .none, .none, .none, .none] := by
        by_cases c : (0 : Int) < (k : Int)
        · exact ⟨C, fun a => by simp (disch := (first | omega | (simp only [List.length_cons, List.length_nil, List.length_map, List.length_append, List.length_set, List.length_take, List.length_drop, List.length_replicate, List.length_reverse, List.length_range]; omega))) only [run1, run2, run3, run4, run5, dInts, ixT0, ixT1, ixT2, ixT3, ixL0, ixL1, ixL2, ixT_last, ixL_last, cutD_take, cutD_drop, Kp_run, Fd_run, Wp_ok, Wp_exc, NcCl, if_true, if_false, Bool.false_eq_true, decide_true, decide_false, Bool.not_true, Bool.not_false, lenOk_le, addT', addL', muAppend', List.length_cons, List.length_nil, List.length_map, List.length_append, List.length_set, List.length_singleton, Nat.reduceAdd, Nat.reduceSub, Nat.zero_add, List.replicate_succ, List.replicate_zero, List.cons_append, List.nil_append, List.map_cons, List.map_nil, Nat.reduceLeDiff, decide_eq_true c]⟩
        · exact ⟨[], fun a => by simp (disch := (first | omega | (simp only [List.length_cons, List.length_nil, List.length_map, List.length_append, List.length_set, List.length_take, List.length_drop, List.length_replicate, List.length_reverse, List.length_range]; omega))) only [run1, run2, run3, run4, run5, dInts, ixT0, ixT1, ixT2, ixT3, ixL0, ixL1, ixL2, ixT_last, ixL_last, cutD_take, cutD_drop, Kp_run, Fd_run, Wp_ok, Wp_exc, NcCl, if_true, if_false, Bool.false_eq_true, decide_true, decide_false, Bool.not_true, Bool.not_false, lenOk_le, addT', addL', muAppend', List.length_cons, List.length_nil, List.length_map, List.length_append, List.length_set, List.length_singleton, Nat.reduceAdd, Nat.reduceSub, Nat.zero_add, List.replicate_succ, List.replicate_zero, List.cons_append, List.nil_append, List.map_cons, List.map_nil, Nat.reduceLeDiff, decide_eq_false c]; rfl⟩
      have e2 := e2 .none
      obtain ⟨dr, ios, er, rfl, ts, rfl, nd, tl, hm⟩ := (law_reach_ok g.ok g.ne C2 hs (g.few_rch hs) (by decide)).ex
      simp (disch := (first | omega | (simp only [List.length_cons, List.length_nil, List.length_map, List.length_append, List.length_set, List.length_take, List.length_drop, List.length_replicate, List.length_reverse, List.length_range]; omega))) only [run1, run2, run3, run4, run5, dInts, ixT0, ixT1, ixT2, ixT3, ixL0, ixL1, ixL2, ixT_last, ixL_last, cutD_take, cutD_drop, Kp_run, Fd_run, Wp_ok, Wp_exc, NcCl, if_true, if_false, Bool.false_eq_true, decide_true, decide_false, Bool.not_true, Bool.not_false, lenOk_le, addT', addL', muAppend', List.length_cons, List.length_nil, List.length_map, List.length_append, List.length_set, List.length_singleton, Nat.reduceAdd, Nat.reduceSub, Nat.zero_add, List.replicate_succ, List.replicate_zero, List.cons_append, List.nil_append, List.map_cons, List.map_nil, Nat.reduceLeDiff, e2, er]
      refine wp_call (draw_ok h4 (many := 4) (by omega) (by omega)) ?_
      rintro d ios ⟨j5, h5, rfl, k2, rfl, hk2⟩
      simp (disch := (first | omega | (simp only [List.length_cons, List.length_nil, List.length_map, List.length_append, List.length_set, List.length_take, List.length_drop, List.length_replicate, List.length_reverse, List.length_range]; omega))) only [run1, run2, run3, run4, run5, dInts, ixT0, ixT1, ixT2, ixT3, ixL0, ixL1, ixL2, ixT_last, ixL_last, cutD_take, cutD_drop, Kp_run, Fd_run, Wp_ok, Wp_exc, NcCl, if_true, if_false, Bool.false_eq_true, decide_true, decide_false, Bool.not_true, Bool.not_false, lenOk_le, addT', addL', muAppend', List.length_cons, List.length_nil, List.length_map, List.length_append, List.length_set, List.length_singleton, Nat.reduceAdd, Nat.reduceSub, Nat.zero_add, List.replicate_succ, List.replicate_zero, List.cons_append, List.nil_append, List.map_cons, List.map_nil, Nat.reduceLeDiff]
      refine Wp.bind ?_
      refine Wp.mono (Q := fun d ρ => ∃ j6 t, JOk j6 ∧ SOk w t ∧ d = stD t ∧ ρ = [.none, jD j6, .none, webD w, stD s, .int (w.rs.length : Int), .int (again : Int), shutD C, .list (ts.map fun s : Sta => stD s), .none, .none, .none, .none, .none, .none, .none]) (E := fun _ _ => False) ?_ ?_ fun _ _ z => z
      · by_cases c : (0 : Int) < (k2 : Int)
        · simp (disch := (first | omega | (simp only [List.length_cons, List.length_nil, List.length_map, List.length_append, List.length_set, List.length_take, List.length_drop, List.length_replicate, List.length_reverse, List.length_range]; omega))) only [run1, run2, run3, run4, run5, dInts, ixT0, ixT1, ixT2, ixT3, ixL0, ixL1, ixL2, ixT_last, ixL_last, cutD_take, cutD_drop, Kp_run, Fd_run, Wp_ok, Wp_exc, NcCl, if_true, if_false, Bool.false_eq_true, decide_true, decide_false, Bool.not_true, Bool.not_false, lenOk_le, addT', addL', muAppend', List.length_cons, List.length_nil, List.length_map, List.length_append, List.length_set, List.length_singleton, Nat.reduceAdd, Nat.reduceSub, Nat.zero_add, List.replicate_succ, List.replicate_zero, List.cons_append, List.nil_append, List.map_cons, List.map_nil, Nat.reduceLeDiff, decide_eq_true c]
          have sm : s ∈ ts := (hm s).mpr .refl
          refine wp_callE (pick_ok h5 (fun z => by rw [List.map_eq_nil_iff] at z; rw [z] at sm; simp at sm) (by simp; omega)) ?_
          rintro d ios ⟨j6, h6, rfl, hd⟩
          obtain ⟨t, ht, rfl⟩ := List.mem_map.mp hd
          simp (disch := (first | omega | (simp only [List.length_cons, List.length_nil, List.length_map, List.length_append, List.length_set, List.length_take, List.length_drop, List.length_replicate, List.length_reverse, List.length_range]; omega))) only [run1, run2, run3, run4, run5, dInts, ixT0, ixT1, ixT2, ixT3, ixL0, ixL1, ixL2, ixT_last, ixL_last, cutD_take, cutD_drop, Kp_run, Fd_run, Wp_ok, Wp_exc, NcCl, if_true, if_false, Bool.false_eq_true, decide_true, decide_false, Bool.not_true, Bool.not_false, lenOk_le, addT', addL', muAppend', List.length_cons, List.length_nil, List.length_map, List.length_append, List.length_set, List.length_singleton, Nat.reduceAdd, Nat.reduceSub, Nat.zero_add, List.replicate_succ, List.replicate_zero, List.cons_append, List.nil_append, List.map_cons, List.map_nil, Nat.reduceLeDiff]
          exact ⟨j6, t, h6, ((hm t).mp ht).ok g.ok hs, rfl, rfl⟩
        · simp (disch := (first | omega | (simp only [List.length_cons, List.length_nil, List.length_map, List.length_append, List.length_set, List.length_take, List.length_drop, List.length_replicate, List.length_reverse, List.length_range]; omega))) only [run1, run2, run3, run4, run5, dInts, ixT0, ixT1, ixT2, ixT3, ixL0, ixL1, ixL2, ixT_last, ixL_last, cutD_take, cutD_drop, Kp_run, Fd_run, Wp_ok, Wp_exc, NcCl, if_true, if_false, Bool.false_eq_true, decide_true, decide_false, Bool.not_true, Bool.not_false, lenOk_le, addT', addL', muAppend', List.length_cons, List.length_nil, List.length_map, List.length_append, List.length_set, List.length_singleton, Nat.reduceAdd, Nat.reduceSub, Nat.zero_add, List.replicate_succ, List.replicate_zero, List.cons_append, List.nil_append, List.map_cons, List.map_nil, Nat.reduceLeDiff, decide_eq_false c]
          refine wp_callE (standing_ok h5 g.ok g.ne fun m hm => by have := g.ms m hm; omega) ?_
          rintro d ios ⟨j6, h6, rfl, t, rfl, ht⟩
          simp (disch := (first | omega | (simp only [List.length_cons, List.length_nil, List.length_map, List.length_append, List.length_set, List.length_take, List.length_drop, List.length_replicate, List.length_reverse, List.length_range]; omega))) only [run1, run2, run3, run4, run5, dInts, ixT0, ixT1, ixT2, ixT3, ixL0, ixL1, ixL2, ixT_last, ixL_last, cutD_take, cutD_drop, Kp_run, Fd_run, Wp_ok, Wp_exc, NcCl, if_true, if_false, Bool.false_eq_true, decide_true, decide_false, Bool.not_true, Bool.not_false, lenOk_le, addT', addL', muAppend', List.length_cons, List.length_nil, List.length_map, List.length_append, List.length_set, List.length_singleton, Nat.reduceAdd, Nat.reduceSub, Nat.zero_add, List.replicate_succ, List.replicate_zero, List.cons_append, List.nil_append, List.map_cons, List.map_nil, Nat.reduceLeDiff]
          exact ⟨j6, t, h6, ht, rfl, rfl⟩
      · rintro d ρ ⟨j6, t, h6, ht, rfl, rfl⟩
        obtain ⟨d1, e1, td1⟩ := closed_small g C (t := t) hs
        obtain ⟨d2, e2, td2⟩ := closed_small g C (t := s) ht
        have r1 := right_ok g C hs td1
        have r2 := right_ok g C ht td2
        have rp1 := told_rp g.ok td1
        have rpl : Rp (.list [webD w, stD s, stD t, shutD C]) := by
          have z := Sz.cons (sz_web g) (Sz.cons (sz_st g hs) (Sz.cons (sz_st g ht) (Sz.cons (l := 0) (Sz.tup (f := fun r : Nat => PyData.int (r : Int)) C fun r hr => Sz.int (by have := cb r hr; omega)) Sz.nil)))
          exact z.rp (by decide) (by omega)
        have q1 := neD_str rp1.ok rp1.ok
        have q2 := neD_str rpl.ok rpl.ok
        simp (disch := (first | omega | (simp only [List.length_cons, List.length_nil, List.length_map, List.length_append, List.length_set, List.length_take, List.length_drop, List.length_replicate, List.length_reverse, List.length_range]; omega))) only [run1, run2, run3, run4, run5, dInts, ixT0, ixT1, ixT2, ixT3, ixL0, ixL1, ixL2, ixT_last, ixL_last, cutD_take, cutD_drop, Kp_run, Fd_run, Wp_ok, Wp_exc, NcCl, if_true, if_false, Bool.false_eq_true, decide_true, decide_false, Bool.not_true, Bool.not_false, lenOk_le, addT', addL', muAppend', List.length_cons, List.length_nil, List.length_map, List.length_append, List.length_set, List.length_singleton, Nat.reduceAdd, Nat.reduceSub, Nat.zero_add, List.replicate_succ, List.replicate_zero, List.cons_append, List.nil_append, List.map_cons, List.map_nil, Nat.reduceLeDiff, rpl.eq, e1, rp1.eq, q1, q2, r1, e2, r2, eq_self]
        exact ⟨j6, rfl, h6⟩
    · rintro fl ρ ⟨rfl, j3, rfl, h3⟩
      have rr := rg1E1 w.rs.length (by have := g.r7; omega)
      obtain ⟨d, e1, td⟩ := closed_small g (List.range w.rs.length) (t := s) hs
      have ri := right_ok g (List.range w.rs.length) hs td
      simp (disch := (first | omega | (simp only [List.length_cons, List.length_nil, List.length_map, List.length_append, List.length_set, List.length_take, List.length_drop, List.length_replicate, List.length_reverse, List.length_range]; omega))) only [run1, run2, run3, run4, run5, dInts, ixT0, ixT1, ixT2, ixT3, ixL0, ixL1, ixL2, ixT_last, ixL_last, cutD_take, cutD_drop, Kp_run, Fd_run, Wp_ok, Wp_exc, NcCl, if_true, if_false, Bool.false_eq_true, decide_true, decide_false, Bool.not_true, Bool.not_false, lenOk_le, addT', addL', muAppend', List.length_cons, List.length_nil, List.length_map, List.length_append, List.length_set, List.length_singleton, Nat.reduceAdd, Nat.reduceSub, Nat.zero_add, List.replicate_succ, List.replicate_zero, List.cons_append, List.nil_append, List.map_cons, List.map_nil, Nat.reduceLeDiff, rr]
      simp (disch := (first | omega | (simp only [List.length_cons, List.length_nil, List.length_map, List.length_append, List.length_set, List.length_take, List.length_drop, List.length_replicate, List.length_reverse, List.length_range]; omega))) only [run1, run2, run3, run4, run5, dInts, ixT0, ixT1, ixT2, ixT3, ixL0, ixL1, ixL2, ixT_last, ixL_last, cutD_take, cutD_drop, Kp_run, Fd_run, Wp_ok, Wp_exc, NcCl, if_true, if_false, Bool.false_eq_true, decide_true, decide_false, Bool.not_true, Bool.not_false, lenOk_le, addT', addL', muAppend', List.length_cons, List.length_nil, List.length_map, List.length_append, List.length_set, List.length_singleton, Nat.reduceAdd, Nat.reduceSub, Nat.zero_add, List.replicate_succ, List.replicate_zero, List.cons_append, List.nil_append, List.map_cons, List.map_nil, Nat.reduceLeDiff, e1, ri]
      exact ⟨j3, rfl, h3⟩
  · subst e1
    simp (disch := (first | omega | (simp only [List.length_cons, List.length_nil, List.length_map, List.length_append, List.length_set, List.length_take, List.length_drop, List.length_replicate, List.length_reverse, List.length_range]; omega))) only [run1, run2, run3, run4, run5, dInts, ixT0, ixT1, ixT2, ixT3, ixL0, ixL1, ixL2, ixT_last, ixL_last, cutD_take, cutD_drop, Kp_run, Fd_run, Wp_ok, Wp_exc, NcCl, if_true, if_false, Bool.false_eq_true, decide_true, decide_false, Bool.not_true, Bool.not_false, lenOk_le, addT', addL', muAppend', List.length_cons, List.length_nil, List.length_map, List.length_append, List.length_set, List.length_singleton, Nat.reduceAdd, Nat.reduceSub, Nat.zero_add, List.replicate_succ, List.replicate_zero, List.cons_append, List.nil_append, List.map_cons, List.map_nil, Nat.reduceLeDiff, law_end]
theorem law_true : ∀ ns : List Int, ns.length ≤ 63 → ∃ ios, m_law [.list (ns.map .int)] = .ok (.bool true) ios := fun ns h => by
  obtain ⟨d, ios, e, rfl⟩ := (law_ok ns h).ex
  exact ⟨ios, e⟩
end K83

open PySem PySem.W PyProof.Rows
set_option maxHeartbeats 0 in
theorem PySem.Challenge.cw_unevenroads_k83_whole_ways_past_closed_r_holds : PySem.Challenge.rw_unevenroads_k83_whole_ways_past_closed_r.Holds := by
  w_on; o_law; k_head; (case hw => w_witness2)
  k_fill
  refine DL.walk_G (l := PySem.Challenge.rw_unevenroads_k83_whole_ways_past_closed_r) (n := 63) (k := 6) (x := "script") (sp := fun w => DL.spK _ [.fz] .fz K83.m_law) rfl (by decide) rfl ⟨rfl, by decide, by decide⟩ (fun w h Y => PySem.W.kIn_of Y) ?F (fun _ _ a ns hl hO hS => DL.law_spK K83.law_true hl hO hS)
  case F =>
    intro w mg fa h KX G hmg
    refine' K83.all_mk KX G hmg ?a0 ?l0 ?c0 ?k0 ?a1 ?l1 ?c1 ?k1 ?a2 ?l2 ?c2 ?k2 ?a3 ?l3 ?c3 ?k3 ?a4 ?l4 ?c4 ?k4 ?a5 ?l5 ?c5 ?k5 ?a6 ?l6 ?c6 ?k6 ?a7 ?l7 ?c7 ?k7 ?a8 ?l8 ?c8 ?k8 ?a9 ?l9 ?c9 ?k9 ?a10 ?l10 ?c10 ?k10 ?a11 ?l11 ?c11 ?k11 ?a12 ?l12 ?c12 ?k12 ?a13 ?l13 ?c13 ?k13 ?a14 ?l14 ?c14 ?k14 ?a15 ?l15 ?c15 ?k15 ?a16 ?l16 ?c16 ?k16 ?a17 ?l17 ?c17 ?k17 ?a18 ?l18 ?c18 ?k18 ?a19 ?l19 ?c19 ?k19 ?a20 ?l20 ?c20 ?k20 ?a21 ?l21 ?c21 ?k21 ?z0 ?z1 ?z2 ?z3 ?z4 ?z5 ?z6 ?z7 ?z8 ?z9 ?z10 ?z11 ?z12 ?y0 ?aU ?rU ?gU ?hU ?aX0 ?xX0 ?sX0 ?eX0 ?tX0 ?kX0 ?iX0 ?yX0 ?lX0 ?cX0 ?pX0 ?nX0
    (case a0 => k_is); (case l0 => k_is); (case c0 => k_is); (case k0 => k_is); (case a1 => k_is); (case l1 => k_is); (case c1 => k_is); (case k1 => k_is); (case a2 => k_is); (case l2 => k_is); (case c2 => k_is); (case k2 => k_is); (case a3 => k_is); (case l3 => k_is); (case c3 => k_is); (case k3 => k_is); (case a4 => k_is); (case l4 => k_is); (case c4 => k_is); (case k4 => k_is); (case a5 => k_is); (case l5 => k_is); (case c5 => k_is); (case k5 => k_is); (case a6 => k_is); (case l6 => k_is); (case c6 => k_is); (case k6 => k_is); (case a7 => k_is); (case l7 => k_is); (case c7 => k_is); (case k7 => k_is); (case a8 => k_is); (case l8 => k_is); (case c8 => k_is); (case k8 => k_is); (case a9 => k_is); (case l9 => k_is); (case c9 => k_is); (case k9 => k_is); (case a10 => k_is); (case l10 => k_is); (case c10 => k_is); (case k10 => k_is); (case a11 => k_is); (case l11 => k_is); (case c11 => k_is); (case k11 => k_is); (case a12 => k_is); (case l12 => k_is); (case c12 => k_is); (case k12 => k_is); (case a13 => k_is); (case l13 => k_is); (case c13 => k_is); (case k13 => k_is); (case a14 => k_is); (case l14 => k_is); (case c14 => k_is); (case k14 => k_is); (case a15 => k_is); (case l15 => k_is); (case c15 => k_is); (case k15 => k_is); (case a16 => k_is); (case l16 => k_is); (case c16 => k_is); (case k16 => k_is); (case a17 => k_is); (case l17 => k_is); (case c17 => k_is); (case k17 => k_is); (case a18 => k_is); (case l18 => k_is); (case c18 => k_is); (case k18 => k_is); (case a19 => k_is); (case l19 => k_is); (case c19 => k_is); (case k19 => k_is); (case a20 => k_is); (case l20 => k_is); (case c20 => k_is); (case k20 => k_is); (case a21 => k_is); (case l21 => k_is); (case c21 => k_is); (case k21 => k_is); (case z0 => k_is); (case z1 => k_is); (case z2 => k_is); (case z3 => k_is); (case z4 => k_is); (case z5 => k_is); (case z6 => k_is); (case z7 => k_is); (case z8 => k_is); (case z9 => k_is); (case z10 => k_is); (case z11 => k_is); (case z12 => k_is); (case y0 => k_is); (case aU => k_is); (case rU => k_is); (case gU => k_is); (case hU => k_is); (case aX0 => k_is); (case xX0 => k_is); (case sX0 => k_is); (case eX0 => k_is); (case tX0 => k_is); (case kX0 => k_is); (case iX0 => k_is); (case yX0 => k_is); (case lX0 => k_is); (case cX0 => k_is); (case pX0 => k_is); (case nX0 => k_is)
