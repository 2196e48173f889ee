import PyProof.Rows.All
import Wide.All
import OpenK.AllK
import Wide.FinOn
import HandS.Base
import HandS.Call
import HandS.CallSlots
import HandS.Deep
import HandS.Defaults
import HandS.Exc
import HandS.Head0
import HandS.Head1
import HandS.Head2
import HandS.HeadEnd
import HandS.HeadHook2
import HandS.HeadHook3
import HandS.HeadHook4
import HandS.HeadWalk
import HandS.IsInst
import HandS.Iter
import HandS.List
import HandS.More
import HandS.Rev
import HandS.Slots
import HandS.Text
import HandS.TupAny
import HandS.Words
import PySem.Challenge.RW_sparedjoins_k01_names
set_option Elab.async false
set_option linter.all false
set_option autoImplicit false
set_option maxRecDepth 100000
set_option maxHeartbeats 0
/-! ### the pure side: data, values, cells, results -/
namespace Fs
open PySem L2

/-- the classes by number, their fields in the order of the first stores -/
def flds : Nat → List Str
  | 0 => ["_names", "_columns"]
  | 1 => ["schema", "_rules"]
  | 2 => ["schema", "_rows"]
  | 3 => ["_store", "_kept"]
  | 4 => ["name", "parent", "column", "table", "target"]
  | 5 => ["name", "parent", "column", "table", "target"]
  | 6 => ["name", "parent", "column", "table", "target"]
  | 7 => ["name", "parent", "column", "table", "target"]
  | 8 => ["schema", "base", "head", "_table", "_steps", "_checks", "_asked", "_sums"]
  | 9 => ["_book", "_question", "_kept", "_stands", "_dropped", "_added"]
  | 10 => ["alias", "column", "field", "positives", "bars", "lefts"]
  | 11 => ["_book", "_store", "_last"]
  | 12 => ["whole", "least", "_told", "_words"]
  | 20 => ["what"]
  | 21 => ["rule"]
  | 22 => ["number"]
  | 23 => ["table"]
  | 24 => ["what"]
  | 25 => ["name"]
  | 26 => ["name"]
  | 27 => ["name"]
  | 28 => ["name"]
  | 29 => ["name"]
  | 30 => ["what"]
  | _ => []
/-- the classes with slots -/
def slotted : Nat → Bool
  | 4 => true
  | 5 => true
  | 6 => true
  | 7 => true
  | 10 => true
  | _ => false

/-- a thing that never changes any more -/
inductive Data where
  | none
  | bool (b : Bool)
  | int (i : Int)
  | str (s : Str)
  | list (xs : List Data)
  | tup (xs : List Data)
  | dk (kvs : List (Key × Data))
  | dt (kvs : List (List Key × Data))
  | ins (c : Nat) (fs : List Data)

/-- a value: data, a place in the store, a tuple or an object that holds such, the script -/
inductive Val where
  | d (x : Data)
  | loc (l : Nat)
  | tup (vs : List Val)
  | obj (c : Nat) (fs : List Val)
  | ro (ns : List Int)

inductive Cell where
  | lst (vs : List Val)
  | dk (kvs : List (Key × Val))
  | dt (kvs : List (List Key × Val))
  | ins (c : Nat) (fs : List Val)
  | frz (x : Data)

abbrev Mem := List Cell
inductive Res (α : Type) where
  | ok (a : α) (m : Mem)
  | exc (c : Nat) (p : List Data) (m : Mem)
  | bad
abbrev Env := List (Option Val)
inductive SRes where
  | next (e : Env) (m : Mem)
  | ret (v : Val) (m : Mem)
  | exc (c : Nat) (p : List Data) (e : Env) (m : Mem)
  | bad

abbrev EM := Env → Mem → Res Val
abbrev TM := Env → Mem → Res Bool
abbrev AM := Env → Mem → Res (List Val)
abbrev SM := Env → Mem → SRes
abbrev Fn := List Val → Mem → Res Val

def Res.bind {α β : Type} : Res α → (α → Mem → Res β) → Res β
  | .ok a m, f => f a m
  | .exc c p m, _ => .exc c p m
  | .bad, _ => .bad
@[simp] theorem Res.bind_ok {α β : Type} (a : α) (m : Mem) (f : α → Mem → Res β) : (Res.ok a m).bind f = f a m := rfl
@[simp] theorem Res.bind_exc {α β : Type} (c : Nat) (p : List Data) (m : Mem) (f : α → Mem → Res β) : (Res.exc c p m : Res α).bind f = .exc c p m := rfl
@[simp] theorem Res.bind_bad {α β : Type} (f : α → Mem → Res β) : (Res.bad : Res α).bind f = .bad := rfl

/-! ### reading -/
def allD : List Val → Option (List Data)
  | [] => some []
  | .d x :: r => (allD r).map (x :: ·)
  | _ :: _ => Option.none
@[simp] theorem allD_nil : allD [] = some [] := rfl
@[simp] theorem allD_cons (x : Data) (r : List Val) : allD (.d x :: r) = (allD r).map (x :: ·) := rfl
@[simp] theorem allD_loc (x : Nat) (r : List Val) : allD (.loc x :: r) = Option.none := rfl
@[simp] theorem allD_tup (x : List Val) (r : List Val) : allD (.tup x :: r) = Option.none := rfl
@[simp] theorem allD_obj (c : Nat) (x : List Val) (r : List Val) : allD (.obj c x :: r) = Option.none := rfl
@[simp] theorem allD_map (xs : List Data) : allD (xs.map .d) = some xs := by
  induction xs with
  | nil => rfl
  | cons x r ih => simp [ih]
@[simp] theorem allD_mapf {α : Type} (f : α → Data) (xs : List α) : allD (xs.map fun x => .d (f x)) = some (xs.map f) := by
  induction xs with
  | nil => rfl
  | cons x r ih => simp [ih]
@[simp] theorem allD_append (xs ys : List Val) : allD (xs ++ ys) = (allD xs).bind fun a => (allD ys).map fun b => a ++ b := by
  induction xs with
  | nil => simp
  | cons x r ih =>
    cases x with
    | d x =>
      simp only [List.cons_append, allD_cons, ih]
      cases allD r with
      | none => rfl
      | some a => cases allD ys <;> rfl
    | _ => rfl
theorem allD_eq : ∀ {vs : List Val} {xs : List Data}, allD vs = some xs → vs = xs.map .d
  | [], xs, h => by
    cases h
    rfl
  | .d x :: r, xs, h => by
    simp only [allD, Option.map_eq_some_iff] at h
    obtain ⟨ys, h1, h2⟩ := h
    subst h2
    rw [allD_eq h1]
    rfl
  | .loc _ :: _, _, h => by simp [allD] at h
  | .tup _ :: _, _, h => by simp [allD] at h
  | .obj _ _ :: _, _, h => by simp [allD] at h
  | .ro _ :: _, _, h => by simp [allD] at h
/-- a place that holds data for ever is that data -/
def norm (m : Mem) : Val → Val
  | .loc l => match m[l]? with
    | some (.frz x) => .d x
    | _ => .loc l
  | v => v
@[simp] theorem norm_d (m : Mem) (x : Data) : norm m (.d x) = .d x := rfl
@[simp] theorem norm_tup (m : Mem) (x : List Val) : norm m (.tup x) = .tup x := rfl
@[simp] theorem norm_obj (m : Mem) (c : Nat) (x : List Val) : norm m (.obj c x) = .obj c x := rfl
@[simp] theorem norm_ro (m : Mem) (x : List Int) : norm m (.ro x) = .ro x := rfl
/-- the items of a list | of a tuple | of both -/
def lstV (m : Mem) : Val → Option (List Val)
  | .d (.list xs) => some (xs.map .d)
  | .loc l => match m[l]? with
    | some (.lst vs) => some vs
    | _ => Option.none
  | _ => Option.none
def tupV : Val → Option (List Val)
  | .d (.tup xs) => some (xs.map .d)
  | .tup vs => some vs
  | _ => Option.none
def seqV (m : Mem) : Val → Option (List Val)
  | .d (.tup xs) => some (xs.map .d)
  | .tup vs => some vs
  | .ro ns => some (ns.map fun i => .d (.int i))
  | v => lstV m v

/-! ### new things -/
def mkL (cell : Bool) (vs : List Val) (m : Mem) : Res Val :=
  if 16777216 < vs.length then .bad else
  match cell, allD vs with
  | false, some ds => .ok (.d (.list ds)) m
  | _, _ => .ok (.loc m.length) (m ++ [.lst vs])
def mkT (vs : List Val) (m : Mem) : Res Val :=
  if 16777216 < vs.length then .bad else
  match allD vs with
  | some ds => .ok (.d (.tup ds)) m
  | Option.none => .ok (.tup vs) m

/-! ### the store handed back -/
def VBelow (n : Nat) : Val → Prop
  | .d _ => True
  | .loc l => l < n
  | _ => False
def Below (n : Nat) : Cell → Prop
  | .lst vs => ∀ v ∈ vs, VBelow n v
  | .dk kvs => ∀ p ∈ kvs, VBelow n p.2
  | .dt kvs => ∀ p ∈ kvs, VBelow n p.2
  | .ins _ fs => ∀ v ∈ fs, VBelow n v
  | .frz _ => True
/-- every old cell stands as it stood, or holds old things alone -/
def TOk (m m' : Mem) : Prop := m.length ≤ m'.length ∧ ∀ (l : Nat) (c : Cell), l < m.length → m'[l]? = some c → m[l]? = some c ∨ Below m.length c
open Classical in
noncomputable def trunc (m m' : Mem) : Mem := if TOk m m' then m'.take m.length else m'

/-! ### made data for ever -/
def frzL (f : Val → Mem → Option (Data × Mem)) : List Val → Mem → Option (List Data × Mem)
  | [], m => some ([], m)
  | v :: r, m => (f v m).bind fun p => (frzL f r p.2).map fun q => (p.1 :: q.1, q.2)
def frzV : Nat → Val → Mem → Option (Data × Mem)
  | 0, v, m => match v with
    | .d x => some (x, m)
    | _ => Option.none
  | n + 1, v, m => match v with
    | .d x => some (x, m)
    | .loc l => match m[l]? with
      | some (.frz x) => some (x, m)
      | some (.lst vs) => (frzL (frzV n) vs m).bind fun r => match r.2[l]? with
        | some (.lst _) => some (.list r.1, r.2.set l (.frz (.list r.1)))
        | _ => Option.none
      | some (.dk kvs) => (frzL (frzV n) (kvs.map (·.2)) m).bind fun r => match r.2[l]? with
        | some (.dk _) => some (.dk ((kvs.map (·.1)).zip r.1), r.2.set l (.frz (.dk ((kvs.map (·.1)).zip r.1))))
        | _ => Option.none
      | some (.dt kvs) => (frzL (frzV n) (kvs.map (·.2)) m).bind fun r => match r.2[l]? with
        | some (.dt _) => some (.dt ((kvs.map (·.1)).zip r.1), r.2.set l (.frz (.dt ((kvs.map (·.1)).zip r.1))))
        | _ => Option.none
      | some (.ins c fs) => (frzL (frzV n) fs m).bind fun r => match r.2[l]? with
        | some (.ins _ _) => some (.ins c r.1, r.2.set l (.frz (.ins c r.1)))
        | _ => Option.none
      | Option.none => Option.none
    | .tup vs => (frzL (frzV n) vs m).map fun r => (.tup r.1, r.2)
    | .obj c vs => (frzL (frzV n) vs m).map fun r => (.ins c r.1, r.2)
    | .ro _ => Option.none
/-- a call's end: the result made data, what the call made forgotten -/
noncomputable def callF (fz : Bool) (f : Fn) (vs : List Val) (m : Mem) : Res Val :=
  match fz with
  | false => f vs m
  | true => match f vs m with
    | .ok v m' => match frzV 9 v m' with
      | some (x, m2) => .ok (.d x) (trunc m m2)
      | Option.none => .bad
    | .exc c p m' => .exc c p (trunc m m')
    | .bad => .bad
end Fs
/-! ### what stands in the abstract heap -/
namespace Fs
open PySem PySem.Spec PyProof.Rows L2

/-- what is fixed through a law: the program, the world, the written part, the module's names, the base; the classes' addresses, their fields in the order of the first stores -/
structure Tbl where
  P : Program
  w : World
  K : PySem.W.Frag
  mg : Str → Option Value
  base : Heap
  cadr : Nat → Addr

mutual
inductive DRep (T : Tbl) (F : Hp) : V → Data → Prop
  | non : DRep T F .non .none
  | bl (b : Bool) : DRep T F (.bl b) (.bool b)
  | int (i : Int) : DRep T F (.int i) (.int i)
  | str (s : Str) : DRep T F (.str s) (.str s)
  | lst {a : Addr} {xs : List V} {ds : List Data} : F a = some (.lst xs) → DReps T F xs ds → DRep T F (.ref a) (.list ds)
  | tup {a : Addr} {xs : List V} {ds : List Data} : SqT T.K F a xs → DReps T F xs ds → DRep T F (.ref a) (.tup ds)
  | dk {a : Addr} {xs : List (Key × V)} {ds : List (Key × Data)} : F a = some (.dK xs) → DRepK T F xs ds → DRep T F (.ref a) (.dk ds)
  | dt {a : Addr} {xs : List (List Key × V)} {ds : List (List Key × Data)} : F a = some (.dT xs) → DRepT T F xs ds → DRep T F (.ref a) (.dt ds)
  | ins {a dx : Addr} {c : Nat} {xs : List V} {ds : List Data} : F a = some (.ins (T.cadr c) dx ((flds c).zip xs)) → xs.length ≤ (flds c).length → F dx = some (.own a) → slotted c = false → DReps T F xs ds → DRep T F (.ref a) (.ins c ds)
  | slo {a dx : Addr} {c : Nat} {xs : List V} {ds : List Data} : F a = some (SlX.SlO a (T.cadr c) dx (xs.map some)) → F dx = some (.xd []) → slotted c = true → DReps T F xs ds → DRep T F (.ref a) (.ins c ds)
inductive DReps (T : Tbl) (F : Hp) : List V → List Data → Prop
  | nil : DReps T F [] []
  | cons {v : V} {x : Data} {vs : List V} {xs : List Data} : DRep T F v x → DReps T F vs xs → DReps T F (v :: vs) (x :: xs)
inductive DRepK (T : Tbl) (F : Hp) : List (Key × V) → List (Key × Data) → Prop
  | nil : DRepK T F [] []
  | cons {k : Key} {v : V} {x : Data} {vs : List (Key × V)} {xs : List (Key × Data)} : DRep T F v x → DRepK T F vs xs → DRepK T F ((k, v) :: vs) ((k, x) :: xs)
inductive DRepT (T : Tbl) (F : Hp) : List (List Key × V) → List (List Key × Data) → Prop
  | nil : DRepT T F [] []
  | cons {k : List Key} {v : V} {x : Data} {vs : List (List Key × V)} {xs : List (List Key × Data)} : DRep T F v x → DRepT T F vs xs → DRepT T F ((k, v) :: vs) ((k, x) :: xs)
end
/-- the heap F goes on in F' -/
def Sub (F F' : Hp) : Prop := ∀ a o, F a = some o → F' a = some o
theorem Sub.refl (F : Hp) : Sub F F := fun _ _ h => h
theorem Sub.trans {F G H : Hp} (a : Sub F G) (b : Sub G H) : Sub F H := fun x o h => b x o (a x o h)
theorem Sub.upd {F : Hp} {p : Addr} {o : HO} (h : F p = none) : Sub F (upd F p o) := fun a u e => by
  rw [upd_ne (ne_of_none e h)]
  exact e
theorem Sub.sqT {K : PySem.W.Frag} {F F' : Hp} {a : Addr} {xs : List V} (s : Sub F F') (h : SqT K F a xs) : SqT K F' a xs := by
  rcases h with (h | ⟨o, h⟩) | h
  · exact .inl (.inl (s _ _ h))
  · exact .inl (.inr ⟨o, s _ _ h⟩)
  · exact .inr h
theorem Sub.sqL {K : PySem.W.Frag} {F F' : Hp} {a : Addr} {xs : List V} (s : Sub F F') (h : SqL K F a xs) : SqL K F' a xs := by
  rcases h with (h | ⟨o, h⟩) | h
  · exact .inl (.inl (s _ _ h))
  · exact .inl (.inr ⟨o, s _ _ h⟩)
  · exact .inr h
mutual
theorem DRep.mono {T : Tbl} {F F' : Hp} (s : Sub F F') : ∀ {v : V} {x : Data}, DRep T F v x → DRep T F' v x
  | _, _, .non => .non
  | _, _, .bl b => .bl b
  | _, _, .int i => .int i
  | _, _, .str z => .str z
  | _, _, .lst h r => .lst (s _ _ h) (DReps.mono s r)
  | _, _, .tup h r => .tup (s.sqT h) (DReps.mono s r)
  | _, _, .dk h r => .dk (s _ _ h) (DRepK.mono s r)
  | _, _, .dt h r => .dt (s _ _ h) (DRepT.mono s r)
  | _, _, .ins h l d q r => .ins (s _ _ h) l (s _ _ d) q (DReps.mono s r)
  | _, _, .slo h d q r => .slo (s _ _ h) (s _ _ d) q (DReps.mono s r)
theorem DReps.mono {T : Tbl} {F F' : Hp} (s : Sub F F') : ∀ {v : List V} {x : List Data}, DReps T F v x → DReps T F' v x
  | _, _, .nil => .nil
  | _, _, .cons h r => .cons (DRep.mono s h) (DReps.mono s r)
theorem DRepK.mono {T : Tbl} {F F' : Hp} (s : Sub F F') : ∀ {v : List (Key × V)} {x : List (Key × Data)}, DRepK T F v x → DRepK T F' v x
  | _, _, .nil => .nil
  | _, _, .cons h r => .cons (DRep.mono s h) (DRepK.mono s r)
theorem DRepT.mono {T : Tbl} {F F' : Hp} (s : Sub F F') : ∀ {v : List (List Key × V)} {x : List (List Key × Data)}, DRepT T F v x → DRepT T F' v x
  | _, _, .nil => .nil
  | _, _, .cons h r => .cons (DRep.mono s h) (DRepT.mono s r)
end

/-- where the store's places stand; what stands for ever -/
structure Wd where
  r : List Addr
  F : Hp
structure Wd.Le (w w' : Wd) : Prop where
  r : ∃ t, w'.r = w.r ++ t
  F : Sub w.F w'.F
theorem Wd.Le.refl (w : Wd) : w.Le w := ⟨⟨[], by simp⟩, Sub.refl _⟩
theorem Wd.Le.trans {w w' w'' : Wd} (a : w.Le w') (b : w'.Le w'') : w.Le w'' := by
  obtain ⟨⟨t, h⟩, s⟩ := a
  obtain ⟨⟨u, k⟩, s'⟩ := b
  exact ⟨⟨t ++ u, by rw [k, h, List.append_assoc]⟩, s.trans s'⟩
theorem Wd.Le.at {w w' : Wd} (a : w.Le w') {l : Nat} {x : Addr} (h : w.r[l]? = some x) : w'.r[l]? = some x := by
  obtain ⟨⟨t, e⟩, _⟩ := a
  rw [e, List.getElem?_append_left (List.getElem?_eq_some_iff.mp h).1]
  exact h
mutual
inductive VRep (T : Tbl) (w : Wd) : V → Val → Prop
  | d {v : V} {x : Data} : DRep T w.F v x → VRep T w v (.d x)
  | loc {l : Nat} {a : Addr} : w.r[l]? = some a → VRep T w (.ref a) (.loc l)
  | tup {a : Addr} {xs : List V} {vs : List Val} : w.F a = some (.tup xs) → VReps T w xs vs → VRep T w (.ref a) (.tup vs)
  | obj {a dx : Addr} {c : Nat} {xs : List V} {vs : List Val} : w.F a = some (.ins (T.cadr c) dx ((flds c).zip xs)) → xs.length ≤ (flds c).length → w.F dx = some (.own a) → slotted c = false → VReps T w xs vs → VRep T w (.ref a) (.obj c vs)
  | slo {a dx : Addr} {c : Nat} {xs : List V} {vs : List Val} : w.F a = some (SlX.SlO a (T.cadr c) dx (xs.map some)) → w.F dx = some (.xd []) → slotted c = true → VReps T w xs vs → VRep T w (.ref a) (.obj c vs)
  | ro {a : Addr} {ns : List Int} : SqL T.K w.F a (ns.map V.int) → VRep T w (.ref a) (.ro ns)
inductive VReps (T : Tbl) (w : Wd) : List V → List Val → Prop
  | nil : VReps T w [] []
  | cons {v : V} {x : Val} {vs : List V} {xs : List Val} : VRep T w v x → VReps T w vs xs → VReps T w (v :: vs) (x :: xs)
end
mutual
theorem VRep.mono {T : Tbl} {w w' : Wd} (s : w.Le w') : ∀ {v : V} {x : Val}, VRep T w v x → VRep T w' v x
  | _, _, .d h => .d (h.mono s.F)
  | _, _, .loc h => .loc (s.at h)
  | _, _, .tup h r => .tup (s.F _ _ h) (VReps.mono s r)
  | _, _, .obj h l d q r => .obj (s.F _ _ h) l (s.F _ _ d) q (VReps.mono s r)
  | _, _, .slo h d q r => .slo (s.F _ _ h) (s.F _ _ d) q (VReps.mono s r)
  | _, _, .ro h => .ro (s.F.sqL h)
theorem VReps.mono {T : Tbl} {w w' : Wd} (s : w.Le w') : ∀ {v : List V} {x : List Val}, VReps T w v x → VReps T w' v x
  | _, _, .nil => .nil
  | _, _, .cons h r => .cons (VRep.mono s h) (VReps.mono s r)
end
section
variable {T : Tbl} {w : Wd}
theorem VReps.length : ∀ {xs : List V} {vs : List Val}, VReps T w xs vs → xs.length = vs.length
  | _, _, .nil => rfl
  | _, _, .cons _ r => by rw [List.length_cons, List.length_cons, VReps.length r]
theorem DReps.length {F : Hp} : ∀ {xs : List V} {vs : List Data}, DReps T F xs vs → xs.length = vs.length
  | _, _, .nil => rfl
  | _, _, .cons _ r => by rw [List.length_cons, List.length_cons, DReps.length r]
theorem DReps.vals : ∀ {xs : List V} {ds : List Data}, DReps T w.F xs ds → VReps T w xs (ds.map .d)
  | _, _, .nil => .nil
  | _, _, .cons h r => .cons (.d h) (DReps.vals r)
theorem VReps.datas : ∀ {xs : List V} {ds : List Data}, VReps T w xs (ds.map .d) → DReps T w.F xs ds
  | [], [], _ => .nil
  | _ :: _, _ :: _, .cons (.d h) r => .cons h (VReps.datas r)
theorem VReps.get : ∀ {xs : List V} {vs : List Val} {i : Nat} {v : Val}, VReps T w xs vs → vs[i]? = some v → ∃ x, xs[i]? = some x ∧ VRep T w x v
  | _, _, _, _, .nil, e => by simp at e
  | _, _, 0, _, .cons h _, e => by
    simp at e
    subst e
    exact ⟨_, rfl, h⟩
  | _, _, i + 1, _, .cons _ r, e => by
    obtain ⟨x, h1, h2⟩ := VReps.get (i := i) r (by simpa using e)
    exact ⟨x, by simpa using h1, h2⟩
theorem VReps.append : ∀ {xs ys : List V} {us vs : List Val}, VReps T w xs us → VReps T w ys vs → VReps T w (xs ++ ys) (us ++ vs)
  | _, _, _, _, .nil, r => r
  | _, _, _, _, .cons h t, r => .cons h (VReps.append t r)
theorem VReps.take (n : Nat) : ∀ {xs : List V} {us : List Val}, VReps T w xs us → VReps T w (xs.take n) (us.take n) := by
  induction n with
  | zero => intro xs us _; exact .nil
  | succ n ih =>
    intro xs us h
    cases h with
    | nil => exact .nil
    | cons h t => exact .cons h (ih t)
theorem VReps.drop (n : Nat) : ∀ {xs : List V} {us : List Val}, VReps T w xs us → VReps T w (xs.drop n) (us.drop n) := by
  induction n with
  | zero => intro xs us h; exact h
  | succ n ih =>
    intro xs us h
    cases h with
    | nil => exact .nil
    | cons h t => exact ih t
theorem VReps.set {x : V} {v : Val} (h : VRep T w x v) : ∀ {xs : List V} {us : List Val} (i : Nat), VReps T w xs us → VReps T w (xs.set i x) (us.set i v)
  | _, _, _, .nil => .nil
  | _, _, 0, .cons _ t => .cons h t
  | _, _, i + 1, .cons q t => .cons q (VReps.set h i t)
theorem VReps.erase : ∀ {xs : List V} {us : List Val} (i : Nat), VReps T w xs us → VReps T w (xs.eraseIdx i) (us.eraseIdx i)
  | _, _, _, .nil => .nil
  | _, _, 0, .cons _ t => t
  | _, _, i + 1, .cons q t => .cons q (VReps.erase i t)
theorem VReps.of_all {vs : List Val} {xs : List V} {ds : List Data} (h : VReps T w xs vs) (e : allD vs = some ds) : DReps T w.F xs ds := by
  rw [allD_eq e] at h
  exact h.datas
end

/-! ### the store -/
def VPair {κ : Type} (T : Tbl) (w : Wd) : List (κ × V) → List (κ × Val) → Prop := Paired fun p q => p.1 = q.1 ∧ VRep T w p.2 q.2
theorem VPair.mono {κ : Type} {T : Tbl} {w w' : Wd} (s : w.Le w') : ∀ {xs : List (κ × V)} {vs : List (κ × Val)}, VPair T w xs vs → VPair T w' xs vs
  | _, _, .nil => .nil
  | _, _, .cons h t => .cons ⟨h.1, h.2.mono s⟩ (VPair.mono s t)
def CRep (T : Tbl) (w : Wd) (H : Hp) (a : Addr) : Cell → Prop
  | .lst vs => w.F a = none ∧ ∃ xs, H a = some (.lst xs) ∧ VReps T w xs vs
  | .dk kvs => w.F a = none ∧ ∃ xs, H a = some (.dK xs) ∧ VPair T w xs kvs
  | .dt kvs => w.F a = none ∧ ∃ xs, H a = some (.dT xs) ∧ VPair T w xs kvs
  | .ins c fs => w.F a = none ∧ ∃ dx xs, H a = some (.ins (T.cadr c) dx ((flds c).zip xs)) ∧ xs.length ≤ (flds c).length ∧ w.F dx = some (.own a) ∧ slotted c = false ∧ VReps T w xs fs
  | .frz x => DRep T w.F (.ref a) x
/-- a cell that is open is not fixed -/
theorem CRep.free {T : Tbl} {w : Wd} {H : Hp} {a : Addr} : ∀ {c : Cell}, CRep T w H a c → (∀ x, c ≠ .frz x) → w.F a = none
  | .lst _, h, _ => h.1
  | .dk _, h, _ => h.1
  | .dt _, h, _ => h.1
  | .ins _ _, h, _ => h.1
  | .frz x, _, n => absurd rfl (n x)
/-- w' later than w with a still open, the object at a unchanged -/
theorem CRep.mono {T : Tbl} {w w' : Wd} {H H' : Hp} {a : Addr} (s : w.Le w') (hF : w.F a = none → w'.F a = none) (hH : w.F a = none → H' a = H a) : ∀ {c : Cell}, CRep T w H a c → CRep T w' H' a c
  | .lst _, ⟨f, xs, h, r⟩ => ⟨hF f, xs, by rw [hH f]; exact h, r.mono s⟩
  | .dk _, ⟨f, xs, h, r⟩ => ⟨hF f, xs, by rw [hH f]; exact h, r.mono s⟩
  | .dt _, ⟨f, xs, h, r⟩ => ⟨hF f, xs, by rw [hH f]; exact h, r.mono s⟩
  | .ins _ _, ⟨f, dx, xs, h, l, o, q, r⟩ => ⟨hF f, dx, xs, by rw [hH f]; exact h, l, s.F _ _ o, q, r.mono s⟩
  | .frz x, h => DRep.mono s.F h
structure MRel (T : Tbl) (w : Wd) (m : Mem) (H : Hp) : Prop where
  len : w.r.length = m.length
  inj : ∀ (l l' : Nat) (a : Addr), w.r[l]? = some a → w.r[l']? = some a → l = l'
  sub : Sub w.F H
  there : ∀ (l : Nat) (a : Addr), w.r[l]? = some a → ∃ o, H a = some o
  cell : ∀ (l : Nat) (a : Addr) (c : Cell), w.r[l]? = some a → m[l]? = some c → CRep T w H a c
section
variable {T : Tbl} {w : Wd} {m : Mem} {H : Hp}
theorem MRel.at (R : MRel T w m H) {l : Nat} {c : Cell} (h : m[l]? = some c) : ∃ a, w.r[l]? = some a ∧ CRep T w H a c := by
  have hl : l < w.r.length := by
    rw [R.len]
    exact (List.getElem?_eq_some_iff.mp h).1
  exact ⟨w.r[l], List.getElem?_eq_getElem hl, R.cell l _ c (List.getElem?_eq_getElem hl) h⟩
theorem MRel.newF (R : MRel T w m H) {p : Addr} (h : H p = none) : w.F p = none := by
  cases e : w.F p with
  | none => rfl
  | some o =>
    rw [R.sub _ _ e] at h
    cases h
theorem MRel.newR (R : MRel T w m H) {p : Addr} (h : H p = none) {l : Nat} : w.r[l]? ≠ some p := fun e => by
  obtain ⟨o, q⟩ := R.there l p e
  rw [h] at q
  cases q
/-- a new thing for ever -/
theorem MRel.newD (R : MRel T w m H) {p : Addr} {o : HO} (h : H p = none) : w.Le ⟨w.r, upd w.F p o⟩ ∧ MRel T ⟨w.r, upd w.F p o⟩ m (upd H p o) := by
  have le : w.Le ⟨w.r, upd w.F p o⟩ := ⟨⟨[], by simp⟩, Sub.upd (R.newF h)⟩
  have ne : ∀ {l : Nat} {a : Addr}, w.r[l]? = some a → a ≠ p := fun {l a} e z => R.newR h (z ▸ e)
  refine ⟨le, R.len, R.inj, fun a u e => ?_, fun l a e => ?_, fun l a c e1 e2 => ?_⟩
  · by_cases z : a = p
    · subst z
      have e : upd w.F a o a = some u := e
      rw [upd_same] at e ⊢
      exact e
    · have e : upd w.F p o a = some u := e
      rw [upd_ne z]
      rw [upd_ne z] at e
      exact R.sub _ _ e
  · obtain ⟨u, q⟩ := R.there l a e
    exact ⟨u, by rw [upd_ne (ne e)]; exact q⟩
  · exact (R.cell l a c e1 e2).mono le (fun f => (upd_ne (ne e1)).trans f) fun _ => upd_ne (ne e1)
/-- a new place -/
theorem MRel.newC (R : MRel T w m H) {p : Addr} {o : HO} {c : Cell} (h : H p = none) (hc : CRep T ⟨w.r ++ [p], w.F⟩ (upd H p o) p c) : w.Le ⟨w.r ++ [p], w.F⟩ ∧ MRel T ⟨w.r ++ [p], w.F⟩ (m ++ [c]) (upd H p o) := by
  have le : w.Le ⟨w.r ++ [p], w.F⟩ := ⟨⟨[p], rfl⟩, Sub.refl _⟩
  have ne : ∀ {l : Nat} {a : Addr}, w.r[l]? = some a → a ≠ p := fun {l a} e z => R.newR h (z ▸ e)
  have cs : ∀ {l : Nat} {a : Addr}, (w.r ++ [p])[l]? = some a → w.r[l]? = some a ∨ (l = w.r.length ∧ a = p) := fun {l a} e => by
    by_cases hl : l < w.r.length
    · rw [List.getElem?_append_left hl] at e
      exact .inl e
    · rw [List.getElem?_append_right (by omega)] at e
      have h1 := (List.getElem?_eq_some_iff.mp e).1
      rw [List.length_singleton] at h1
      have h2 : a = p := by
        have := List.mem_of_getElem? e
        simpa using this
      exact .inr ⟨by omega, h2⟩
  refine ⟨le, by simp [R.len], ?_, fun a u e => ?_, fun l a e => ?_, fun l a c' e1 e2 => ?_⟩
  · intro l l' a e1 e2
    rcases cs e1 with h1 | ⟨h1, h2⟩
    · rcases cs e2 with h3 | ⟨h3, h4⟩
      · exact R.inj _ _ _ h1 h3
      · exact absurd h4 (ne h1)
    · rcases cs e2 with h3 | ⟨h3, h4⟩
      · exact absurd h2 (ne h3)
      · omega
  · rw [upd_ne (fun z => by rw [z, R.newF h] at e; cases e)]
    exact R.sub _ _ e
  · by_cases hl : l < w.r.length
    · have e' : w.r[l]? = some a := by
        rw [List.getElem?_append_left hl] at e
        exact e
      obtain ⟨u, q⟩ := R.there l a e'
      exact ⟨u, by rw [upd_ne (ne e')]; exact q⟩
    · have e' : (w.r ++ [p])[l]? = some a := e
      rw [List.getElem?_append_right (by omega)] at e'
      have ha : a = p := by
        have := List.mem_of_getElem? e'
        simpa using this
      exact ⟨o, by rw [ha, upd_same]⟩
  · by_cases hl : l < w.r.length
    · have e1' : w.r[l]? = some a := by
        rw [List.getElem?_append_left hl] at e1
        exact e1
      rw [List.getElem?_append_left (by rw [← R.len]; exact hl)] at e2
      exact (R.cell l a c' e1' e2).mono le (fun f => f) fun _ => upd_ne (ne e1')
    · have e' : (w.r ++ [p])[l]? = some a := e1
      rw [List.getElem?_append_right (by omega)] at e'
      have ha : a = p := by
        have := List.mem_of_getElem? e'
        simpa using this
      rw [List.getElem?_append_right (by rw [← R.len]; omega)] at e2
      have hc' : c' = c := by
        have := List.mem_of_getElem? e2
        simpa using this
      rw [ha, hc']
      exact hc
/-- a place is written -/
theorem MRel.write (R : MRel T w m H) {l : Nat} {a : Addr} {o : HO} {c : Cell} (h : w.r[l]? = some a) (hF : w.F a = none) (hc : CRep T w (upd H a o) a c) : MRel T w (m.set l c) (upd H a o) := by
  have ne : ∀ {l' : Nat} {b : Addr}, w.r[l']? = some b → l' ≠ l → b ≠ a := fun {l' b} e z q => by
    subst q
    exact z (R.inj _ _ _ e h)
  refine ⟨by simp [R.len], R.inj, fun b u e => ?_, fun l' b e => ?_, fun l' b c' e1 e2 => ?_⟩
  · rw [upd_ne (fun z => by rw [z, hF] at e; cases e)]
    exact R.sub _ _ e
  · by_cases z : b = a
    · exact ⟨o, by rw [z, upd_same]⟩
    · obtain ⟨u, q⟩ := R.there l' b e
      exact ⟨u, by rw [upd_ne z]; exact q⟩
  · by_cases z : l' = l
    · subst z
      rw [h] at e1
      cases e1
      have hl : l' < m.length := by
        rw [← R.len]
        exact (List.getElem?_eq_some_iff.mp h).1
      rw [List.getElem?_set_self hl] at e2
      cases e2
      exact hc
    · rw [List.getElem?_set_ne (Ne.symm z)] at e2
      exact (R.cell l' b c' e1 e2).mono (Wd.Le.refl _) (fun f => f) fun _ => upd_ne (ne e1 z)
/-- a place is fixed -/
theorem MRel.fix (R : MRel T w m H) {l : Nat} {a : Addr} {o : HO} {x : Data} (h : w.r[l]? = some a) (hF : w.F a = none) (hH : H a = some o) (hc : DRep T (upd w.F a o) (.ref a) x) :
    w.Le ⟨w.r, upd w.F a o⟩ ∧ MRel T ⟨w.r, upd w.F a o⟩ (m.set l (.frz x)) H := by
  have le : w.Le ⟨w.r, upd w.F a o⟩ := ⟨⟨[], by simp⟩, Sub.upd hF⟩
  have ne : ∀ {l' : Nat} {b : Addr}, w.r[l']? = some b → l' ≠ l → b ≠ a := fun {l' b} e z q => by
    subst q
    exact z (R.inj _ _ _ e h)
  refine ⟨le, by simp [R.len], R.inj, fun b u e => ?_, R.there, fun l' b c' e1 e2 => ?_⟩
  · by_cases z : b = a
    · subst z
      have e : upd w.F b o b = some u := e
      rw [upd_same] at e
      cases e
      exact hH
    · have e : upd w.F a o b = some u := e
      rw [upd_ne z] at e
      exact R.sub _ _ e
  · by_cases z : l' = l
    · subst z
      rw [h] at e1
      cases e1
      have hl : l' < m.length := by
        rw [← R.len]
        exact (List.getElem?_eq_some_iff.mp h).1
      rw [List.getElem?_set_self hl] at e2
      cases e2
      exact hc
    · rw [List.getElem?_set_ne (Ne.symm z)] at e2
      exact (R.cell l' b c' e1 e2).mono le (fun f => (upd_ne (ne e1 z)).trans f) fun _ => rfl
theorem VRep.norm (R : MRel T w m H) {x : V} {v : Val} (h : VRep T w x v) : VRep T w x (Fs.norm m v) := by
  cases h with
  | d h => exact .d h
  | @loc l a h =>
    have e1 : Fs.norm m (.loc l) = (match m[l]? with
      | some (.frz x) => .d x
      | _ => .loc l) := rfl
    rw [e1]
    split
    · rename_i x e
      exact .d (R.cell l a _ h e)
    · exact .loc h
  | tup h r => exact .tup h r
  | obj h l d q r => exact .obj h l d q r
  | slo h d q r => exact .slo h d q r
  | ro h => exact .ro h
/-- a list is read -/
theorem MRel.lst (R : MRel T w m H) {x : V} {v : Val} {vs : List Val} (h : VRep T w x v) (e : lstV m v = some vs) : ∃ a xs, x = .ref a ∧ H a = some (.lst xs) ∧ VReps T w xs vs := by
  cases h with
  | d h =>
    cases h with
    | lst h r =>
      cases e
      exact ⟨_, _, rfl, R.sub _ _ h, r.vals⟩
    | _ => cases e
  | @loc l a h =>
    have e : (match m[l]? with
      | some (.lst vs) => some vs
      | _ => Option.none) = some vs := e
    split at e
    · rename_i q
      cases e
      obtain ⟨f, xs, h1, h2⟩ := R.cell l a _ h q
      exact ⟨_, _, rfl, h1, h2⟩
    · cases e
  | _ => cases e
theorem MRel.tup (R : MRel T w m H) {x : V} {v : Val} {vs : List Val} (h : VRep T w x v) (e : tupV v = some vs) : ∃ a xs, x = .ref a ∧ SqT T.K H a xs ∧ VReps T w xs vs := by
  cases h with
  | d h =>
    cases h with
    | tup h r =>
      cases e
      exact ⟨_, _, rfl, R.sub.sqT h, r.vals⟩
    | _ => cases e
  | tup h r =>
    cases e
    exact ⟨_, _, rfl, .of (R.sub _ _ h), r⟩
  | _ => cases e
theorem VReps.ints : ∀ ns : List Int, VReps T w (ns.map V.int) (ns.map fun i => .d (.int i))
  | [] => .nil
  | i :: r => .cons (.d (.int i)) (VReps.ints r)
theorem MRel.seq (R : MRel T w m H) {x : V} {v : Val} {vs : List Val} (h : VRep T w x v) (e : seqV m v = some vs) : ∃ a xs, x = .ref a ∧ (SqL T.K H a xs ∨ SqT T.K H a xs) ∧ VReps T w xs vs := by
  have byL : lstV m v = some vs → ∃ a xs, x = .ref a ∧ (SqL T.K H a xs ∨ SqT T.K H a xs) ∧ VReps T w xs vs := fun e => by
    obtain ⟨a, xs, h1, h2, h3⟩ := R.lst h e
    exact ⟨a, xs, h1, .inl (.of h2), h3⟩
  have byT : tupV v = some vs → ∃ a xs, x = .ref a ∧ (SqL T.K H a xs ∨ SqT T.K H a xs) ∧ VReps T w xs vs := fun e => by
    obtain ⟨a, xs, h1, h2, h3⟩ := R.tup h e
    exact ⟨a, xs, h1, .inr h2, h3⟩
  cases v with
  | d y =>
    cases y with
    | tup ys => exact byT e
    | _ => exact byL e
  | loc l => exact byL e
  | tup us => exact byT e
  | obj c fs => exact byL e
  | ro ns =>
    cases h with
    | @ro a _ h =>
      cases e
      exact ⟨a, _, rfl, .inl (R.sub.sqL h), VReps.ints ns⟩
end
end Fs
/-! ### expressions, tests, arguments as functions of the environment and the store -/
namespace Fs
open PySem PySem.Spec L2

structure ERel (T : Tbl) (w : Wd) (σ : L2.St) (e : Env) : Prop where
  len : σ.length = e.length
  at_ : ∀ (i : Nat) (v : Val), e[i]? = some (some v) → ∃ x, σ[i]? = some (some x) ∧ VRep T w x v
theorem ERel.mono {T : Tbl} {w w' : Wd} {σ : L2.St} {e : Env} (h : ERel T w σ e) (s : w.Le w') : ERel T w' σ e := ⟨h.len, fun i v q => by
  obtain ⟨x, h1, h2⟩ := h.at_ i v q
  exact ⟨x, h1, h2.mono s⟩⟩
theorem ERel.set {T : Tbl} {w : Wd} {σ : L2.St} {e : Env} {x : V} {v : Val} (h : ERel T w σ e) (i : Nat) (r : VRep T w x v) : ERel T w (σ.set i (some x)) (e.set i (some v)) := by
  refine ⟨by simp [h.len], fun j u q => ?_⟩
  by_cases hj : i = j
  · subst hj
    by_cases hi : i < e.length
    · rw [List.getElem?_set_self hi] at q
      cases q
      exact ⟨x, List.getElem?_set_self (by rw [h.len]; exact hi), r⟩
    · rw [List.getElem?_eq_none (by simpa using hi)] at q
      cases q
  · rw [List.getElem?_set_ne hj] at q ⊢
    exact h.at_ j u q
theorem ERel.unset {T : Tbl} {w : Wd} {σ : L2.St} {e : Env} (h : ERel T w σ e) (i : Nat) : ERel T w (σ.set i none) (e.set i none) := by
  refine ⟨by simp [h.len], fun j u q => ?_⟩
  by_cases hj : i = j
  · subst hj
    by_cases hi : i < e.length
    · rw [List.getElem?_set_self hi] at q
      cases q
    · rw [List.getElem?_eq_none (by simpa using hi)] at q
      cases q
  · rw [List.getElem?_set_ne hj] at q ⊢
    exact h.at_ j u q
/-- fewer slots known -/
theorem ERel.less {T : Tbl} {w : Wd} {σ : L2.St} {e : Env} (h : ERel T w σ e) (i : Nat) : ERel T w σ (e.set i none) := by
  refine ⟨by simp [h.len], fun j u q => ?_⟩
  by_cases hj : i = j
  · subst hj
    by_cases hi : i < e.length
    · rw [List.getElem?_set_self hi] at q
      cases q
    · rw [List.getElem?_eq_none (by simpa using hi)] at q
      cases q
  · rw [List.getElem?_set_ne hj] at q
    exact h.at_ j u q

/-- an exception: its class, its own dict -/
def XRep (T : Tbl) (w : Wd) (H : Hp) (cls : Value) (d : Option Addr) (c : Nat) (p : List Data) : Prop :=
  cls = .ref (T.cadr c) ∧ ∃ (dx : Addr) (xs : List V), d = some dx ∧ H dx = some (.xd ((flds c).zip xs)) ∧ DReps T w.F xs p
/-- what a result grants -/
def OkR {α β : Type} (T : Tbl) (P : Wd → β → α → Prop) (w : Wd) (r : Res α) (Q : β → Hp → Prop) (E : XK) : Prop :=
  match r with
  | .ok a m => ∀ (w' : Wd) (H' : Hp) (x : β), w.Le w' → MRel T w' m H' → P w' x a → Q x H'
  | .exc c p m => ∀ (w' : Wd) (H' : Hp) (cls : Value) (d : Option Addr), w.Le w' → MRel T w' m H' → XRep T w' H' cls d c p → E cls d H'
  | .bad => False
section
variable {T : Tbl} {α β α' β' : Type} {P : Wd → β → α → Prop} {P' : Wd → β' → α' → Prop} {w : Wd} {r : Res α} {Q : β → Hp → Prop} {Q' : β' → Hp → Prop} {E : XK}
theorem OkR.later (h : OkR T P w r Q E) {w' : Wd} (s : w.Le w') : OkR T P w' r Q E := by
  cases r with
  | ok a m => exact fun w2 H2 x le R p => h w2 H2 x (s.trans le) R p
  | exc c p m => exact fun w2 H2 cls d le R q => h w2 H2 cls d (s.trans le) R q
  | bad => exact h
theorem OkR.bind {f : α → Mem → Res α'} (h : OkR T P' w (r.bind f) Q' E) :
    OkR T P w r (fun x H' => ∃ (w' : Wd) (a : α) (m : Mem), w.Le w' ∧ MRel T w' m H' ∧ P w' x a ∧ OkR T P' w' (f a m) Q' E) E := by
  cases r with
  | ok a m => exact fun w' H' x le R p => ⟨w', a, m, le, R, p, OkR.later h le⟩
  | exc c p m => exact h
  | bad => exact h
theorem OkR.ok {a : α} {m : Mem} (h : OkR T P w (.ok a m) Q E) {H' : Hp} {x : β} (R : MRel T w m H') (p : P w x a) : Q x H' := h w H' x (Wd.Le.refl w) R p
theorem OkR.ok' {a : α} {m : Mem} (h : OkR T P w (.ok a m) Q E) {w' : Wd} {H' : Hp} {x : β} (s : w.Le w') (R : MRel T w' m H') (p : P w' x a) : Q x H' := h w' H' x s R p
end

/-- what a computation grants, as a reading -/
def rdG {α β : Type} (T : Tbl) (P : Wd → β → α → Prop) (W : WX) (m : Env → Mem → Res α) : L2.St → Hp → (β → Hp → Prop) → Prop := fun σ H Q =>
  ∃ (w : Wd) (e : Env) (μ : Mem), ERel T w σ e ∧ MRel T w μ H ∧ OkR T P w (m e μ) Q (fun c d H' => W c d σ H')
section
variable {T : Tbl} {α β α' β' : Type} {P : Wd → β → α → Prop} {P' : Wd → β' → α' → Prop} {W : WX} {m : Env → Mem → Res α} {σ : L2.St} {H : Hp} {Q : β' → Hp → Prop}
theorem rdG.imp {m : Env → Mem → Res α} {σ : L2.St} {H : Hp} {Q Q' : β → Hp → Prop} (h : rdG T P W m σ H Q) (k : ∀ x H', Q x H' → Q' x H') : rdG T P W m σ H Q' := by
  obtain ⟨w, e, μ, er, mr, ok⟩ := h
  refine ⟨w, e, μ, er, mr, ?_⟩
  cases hm : m e μ with
  | bad =>
    rw [hm] at ok
    exact ok
  | exc c p m =>
    rw [hm] at ok
    exact ok
  | ok v m =>
    rw [hm] at ok
    exact fun w1 H1 x le R1 p1 => k x H1 (ok w1 H1 x le R1 p1)
theorem OkR.go {w : Wd} {e : Env} {μ : Mem} {f : α → Mem → Res α'} (er : ERel T w σ e) (mr : MRel T w μ H) (ok : OkR T P' w ((m e μ).bind f) Q (fun c d H' => W c d σ H')) :
    rdG T P W m σ H fun x H1 => ∃ (w' : Wd) (a : α) (μ' : Mem), w.Le w' ∧ MRel T w' μ' H1 ∧ P w' x a ∧ OkR T P' w' (f a μ') Q (fun c d H' => W c d σ H') := ⟨w, e, μ, er, mr, OkR.bind ok⟩
end
abbrev rdE (T : Tbl) (W : WX) (m : EM) : TE := rdG T (VRep T) W m
def BRep : Wd → Bool → Bool → Prop := fun _ b c => b = c
abbrev rdT (T : Tbl) (W : WX) (m : TM) : TT := rdG T BRep W m
abbrev rdA (T : Tbl) (W : WX) (m : AM) : TA := rdG T (VReps T) W m
theorem _root_.L2.PE.mono {X : Cx} {e : Expr} {t t' : TE} (h : PE X e t) (k : ∀ σ H Q, t' σ H Q → t σ H Q) : PE X e t' := ⟨fun pins s σ H Q I q => h.run pins s σ H Q I (k σ H Q q)⟩
theorem _root_.L2.PT.mono {X : Cx} {e : Expr} {t t' : TT} (h : PT X e t) (k : ∀ σ H Q, t' σ H Q → t σ H Q) : PT X e t' := ⟨fun pins s σ H Q I q => h.run pins s σ H Q I (k σ H Q q)⟩
theorem _root_.L2.PW.mono {X : Cx} {e : Expr} {t t' : TT} (h : PW X e t) (k : ∀ σ H Q, t' σ H Q → t σ H Q) : PW X e t' := ⟨fun wh pins s σ H Q I q => h.run wh pins s σ H Q I (k σ H Q q)⟩
theorem _root_.L2.PA.mono {X : Cx} {e : List Expr} {t t' : TA} (h : PA X e t) (k : ∀ σ H Q, t' σ H Q → t σ H Q) : PA X e t' := ⟨fun p pins s σ H Q I q => h.run p pins s σ H Q I (k σ H Q q)⟩
theorem _root_.L2.PS.mono {X : Cx} {e : Stmt} {t t' : TS} (h : PS X e t) (k : ∀ D σ H, t' D σ H → t D σ H) : PS X e t' := ⟨fun pins s σ H D I q => h.run pins s σ H D I (k D σ H q)⟩
theorem _root_.L2.PSs.mono {X : Cx} {e : List Stmt} {t t' : TS} (h : PSs X e t) (k : ∀ D σ H, t' D σ H → t D σ H) : PSs X e t' := ⟨fun pins s σ H D I q => h.run pins s σ H D I (k D σ H q)⟩

abbrev DE (T : Tbl) (W : WX) (X : Cx) (e : Expr) (m : EM) : Prop := PE X e (rdE T W m)
abbrev DT (T : Tbl) (W : WX) (X : Cx) (e : Expr) (m : TM) : Prop := PT X e (rdT T W m)
abbrev DW (T : Tbl) (W : WX) (X : Cx) (e : Expr) (m : TM) : Prop := PW X e (rdT T W m)
abbrev DA (T : Tbl) (W : WX) (X : Cx) (e : List Expr) (m : AM) : Prop := PA X e (rdA T W m)

/-- the context: names, their scope, the room, the wish about exceptions -/
structure Bx (T : Tbl) (N : List Str) (sc : Scope) (k : Nat) (W : WX) (X : Cx) : Prop where
  P : X.prog = T.P
  w : X.w = T.w
  K : X.K = T.K
  mg : X.mg = T.mg
  base : X.base = T.base
  hN : X.N = N
  hsc : X.env.scope = sc
  nd : N.Nodup
  calm : X.calm = true
  room : Room k X.A
  tk : Takes X W
  po : PassesOwn (model X.prog X.w) X.A X.env X.xe
  own : ∀ x, L2.Loc sc x → X.fn x = true ∨ sc.names.lookup x = some NameKind.local

/-! ### the machines -/
@[simp] def eC (x : Data) : EM := fun _ μ => .ok (.d x) μ
def eVar (i : Nat) : EM := fun e μ => match e[i]? with
  | some (some v) => .ok (norm μ v) μ
  | _ => .bad
def eBin (f : Val → Val → Mem → Res Val) (a b : EM) : EM := fun e μ => (a e μ).bind fun x μ => (b e μ).bind fun y μ => f x y μ
def eUn (f : Val → Mem → Res Val) (a : EM) : EM := fun e μ => (a e μ).bind fun x μ => f x μ
def eIf (c : TM) (a b : EM) : EM := fun e μ => (c e μ).bind fun t μ => if t = true then a e μ else b e μ
def aNil : AM := fun _ μ => .ok [] μ
def aCons (a : EM) (r : AM) : AM := fun e μ => (a e μ).bind fun x μ => (r e μ).bind fun xs μ => .ok (x :: xs) μ
def eArgs (f : Fn) (a : AM) : EM := fun e μ => (a e μ).bind fun xs μ => f xs μ
def asB : Val → Option Bool
  | .d (.bool b) => some b
  | _ => Option.none
/-- a value as a test: a bool -/
def tOf (a : EM) : TM := fun e μ => (a e μ).bind fun x μ => match asB x with
  | some b => .ok b μ
  | Option.none => .bad
def tNot (a : TM) : TM := fun e μ => (a e μ).bind fun b μ => .ok (!b) μ
def tAnd (a b : TM) : TM := fun e μ => (a e μ).bind fun t μ => if t = true then b e μ else .ok false μ
def tOr (a b : TM) : TM := fun e μ => (a e μ).bind fun t μ => if t = true then .ok true μ else b e μ
/-- a test as a value -/
def eOf (a : TM) : EM := fun e μ => (a e μ).bind fun b μ => .ok (.d (.bool b)) μ

/-- what an operation on values may lean on -/
def Snd2 (T : Tbl) (r : R2) (f : Val → Val → Mem → Res Val) : Prop := ∀ (w : Wd) (m : Mem) (H : Hp) (x y : V) (v u : Val) (Q : VK) (E : XK), MRel T w m H → VRep T w x v → VRep T w y u → OkR T (VRep T) w (f v u m) Q E → r x y H Q
def Snd1 (T : Tbl) (r : V → Hp → VK → Prop) (f : Val → Mem → Res Val) : Prop := ∀ (w : Wd) (m : Mem) (H : Hp) (x : V) (v : Val) (Q : VK) (E : XK), MRel T w m H → VRep T w x v → OkR T (VRep T) w (f v m) Q E → r x H Q
def SndA (T : Tbl) (r : List V → Hp → VK → Prop) (f : Fn) : Prop := ∀ (w : Wd) (m : Mem) (H : Hp) (xs : List V) (vs : List Val) (Q : VK) (E : XK), MRel T w m H → VReps T w xs vs → OkR T (VRep T) w (f vs m) Q E → r xs H Q

section
variable {T : Tbl} {N : List Str} {sc : Scope} {k : Nat} {W : WX} {X : Cx}

/-! ### constants, names -/
theorem rdE.c {x : Data} {v : V} (hv : ∀ F, DRep T F v x) {σ : L2.St} {H : Hp} {Q : VK} (h : rdE T W (eC x) σ H Q) : Q v H := by
  obtain ⟨w, e, μ, er, mr, ok⟩ := h
  exact ok w H v (Wd.Le.refl w) mr (.d (hv _))
theorem de_non {j pos} : DE T W X (.Constant .none j pos) (eC .none) := pe_non.mono fun _ _ _ h => h.c fun _ => .non
theorem de_bl {b j pos} : DE T W X (.Constant (.bool b) j pos) (eC (.bool b)) := pe_bl.mono fun _ _ _ h => h.c fun _ => .bl b
theorem de_int {i j pos} : DE T W X (.Constant (.int i) j pos) (eC (.int i)) := pe_int.mono fun _ _ _ h => h.c fun _ => .int i
theorem de_str {x j pos} : DE T W X (.Constant (.str x) j pos) (eC (.str x)) := pe_str.mono fun _ _ _ h => h.c fun _ => .str x
theorem de_var (B : Bx T N sc k W X) (i : Nat) {x : Str} {pos : Pos} (hN : N[i]? = some x) (hv : Vis sc x) (hd : (x == ("__debug__" : Str)) = false := by decide) (hcd : (x == ("__classdict__" : Str)) = false := by decide) : DE T W X (.Name x pos) (eVar i) := by
  refine (pe_var (i := i) (by rw [B.hN]; exact hN) (by rw [B.hsc]; exact hv) hd hcd).mono fun σ H Q h => ?_
  obtain ⟨w, e, μ, er, mr, ok⟩ := h
  have ok : OkR T (VRep T) w (match e[i]? with
    | some (some v) => .ok (norm μ v) μ
    | _ => .bad) Q (fun c d H' => W c d σ H') := ok
  split at ok
  · rename_i v hv
    obtain ⟨x, h1, h2⟩ := er.at_ i v hv
    exact ⟨x, h1, ok w H x (Wd.Le.refl w) mr (h2.norm mr)⟩
  · exact ok.elim

/-! ### operators -/
theorem rd_bin {f : Val → Val → Mem → Res Val} {ma mb : EM} {r : R2} (hf : Snd2 T r f) {σ : L2.St} {H : Hp} {Q : VK} (h : rdE T W (eBin f ma mb) σ H Q) : tOp r (rdE T W ma) (rdE T W mb) σ H Q := by
  obtain ⟨w, e, μ, er, mr, ok⟩ := h
  refine (OkR.go (P := VRep T) er mr ok).imp fun x H1 ⟨w1, v, μ1, le1, mr1, p1, ok1⟩ => ?_
  refine (OkR.go (P := VRep T) (er.mono le1) mr1 ok1).imp fun y H2 ⟨w2, u, μ2, le2, mr2, p2, ok2⟩ => ?_
  exact hf w2 μ2 H2 x y v u Q _ mr2 (p1.mono le2) p2 ok2
theorem de_bin {f : Val → Val → Mem → Res Val} {ma mb : EM} {r : R2} {a b : Expr} {op : Operator} {pos : Pos} (ho : OpR X (binaryOp op) r) (hf : Snd2 T r f) (ha : DE T W X a ma) (hb : DE T W X b mb) : DE T W X (.BinOp a op b pos) (eBin f ma mb) :=
  (pe_op ho ha hb).mono fun _ _ _ h => rd_bin hf h
theorem de_cmp {f : Val → Val → Mem → Res Val} {ma mb : EM} {r : R2} {a b : Expr} {op : CmpOp} {pos : Pos} (ho : OpR X (compareOp op) r) (hf : Snd2 T r f) (ha : DE T W X a ma) (hb : DE T W X b mb) (hm : behindInMarks op b = false) : DE T W X (.Compare a [op] [b] pos) (eBin f ma mb) :=
  (pe_cmpR ho ha hb hm).mono fun _ _ _ h => rd_bin hf h
theorem de_un {f : Val → Mem → Res Val} {ma : EM} {r : V → Hp → VK → Prop} {a : Expr} {op : UnaryOp} {pos : Pos} (ho : UnR X (unaryOp op) r) (hf : Snd1 T r f) (ha : DE T W X a ma) : DE T W X (.UnaryOp op a pos) (eUn f ma) := by
  refine (pe_un ho ha).mono fun σ H Q h => ?_
  obtain ⟨w, e, μ, er, mr, ok⟩ := h
  refine (OkR.go (P := VRep T) er mr ok).imp fun x H1 ⟨w1, v, μ1, le1, mr1, p1, ok1⟩ => ?_
  exact hf w1 μ1 H1 x v Q _ mr1 p1 ok1

/-! ### tests -/
theorem asB_rep {w : Wd} {x : V} {v : Val} {b : Bool} (h : VRep T w x v) (e : asB v = some b) : x = .bl b := by
  cases h with
  | d h =>
    cases h with
    | bl c =>
      cases e
      rfl
    | _ => cases e
  | _ => cases e
theorem dt_of {a : Expr} {ma : EM} (ha : DE T W X a ma) (he : ∀ whole, isTrue a X.env whole = (do let v ← whole; standAt a.pos; holding [v] (truthy v)) := by intro _; rfl) : DT T W X a (tOf ma) := by
  refine (pt_val ha he).mono fun σ H Q h => ?_
  obtain ⟨w, e, μ, er, mr, ok⟩ := h
  refine (OkR.go (P := VRep T) er mr ok).imp fun x H1 ⟨w1, v, μ1, le1, mr1, p1, ok1⟩ => ?_
  have ok1 : OkR T BRep w1 (match asB v with
    | some b => .ok b μ1
    | Option.none => .bad) Q (fun c d H' => W c d σ H') := ok1
  split at ok1
  · rename_i b hb
    exact ⟨b, asB_rep p1 hb, ok1 w1 H1 b (Wd.Le.refl _) mr1 rfl⟩
  · exact ok1.elim
theorem dt_not {a : Expr} {ma : TM} {pos : Pos} (ha : DT T W X a ma) : DT T W X (.UnaryOp .Not a pos) (tNot ma) := by
  refine (pt_not ha).mono fun σ H Q h => ?_
  obtain ⟨w, e, μ, er, mr, ok⟩ := h
  refine (OkR.go (P := BRep) er mr ok).imp fun x H1 ⟨w1, v, μ1, le1, mr1, p1, ok1⟩ => ?_
  exact ok1 w1 H1 _ (Wd.Le.refl _) mr1 (by rw [show x = v from p1]; rfl)
theorem dw_and1 {a : Expr} {ma : TM} {pos : Pos} (ha : DT T W X a ma) : DW T W X (.BoolOp .And [a] pos) ma := pw_and1 ha
theorem dw_or1 {a : Expr} {ma : TM} {pos : Pos} (ha : DT T W X a ma) : DW T W X (.BoolOp .Or [a] pos) ma := pw_or1 ha
theorem dw_and {a b : Expr} {rest : List Expr} {ma mb : TM} {pos : Pos} (ha : DT T W X a ma) (hb : DW T W X (.BoolOp .And (b :: rest) pos) mb) : DW T W X (.BoolOp .And (a :: b :: rest) pos) (Fs.tAnd ma mb) := by
  refine (pw_and ha hb).mono fun σ H Q h => ?_
  obtain ⟨w, e, μ, er, mr, ok⟩ := h
  refine (OkR.go (P := BRep) er mr ok).imp fun x H1 ⟨w1, v, μ1, le1, mr1, p1, ok1⟩ => ?_
  obtain rfl : x = v := p1
  cases x with
  | true => exact ⟨w1, e, μ1, er.mono le1, mr1, ok1⟩
  | false => exact ok1 w1 H1 _ (Wd.Le.refl _) mr1 rfl
theorem dw_or {a b : Expr} {rest : List Expr} {ma mb : TM} {pos : Pos} (ha : DT T W X a ma) (hb : DW T W X (.BoolOp .Or (b :: rest) pos) mb) : DW T W X (.BoolOp .Or (a :: b :: rest) pos) (Fs.tOr ma mb) := by
  refine (pw_or ha hb).mono fun σ H Q h => ?_
  obtain ⟨w, e, μ, er, mr, ok⟩ := h
  refine (OkR.go (P := BRep) er mr ok).imp fun x H1 ⟨w1, v, μ1, le1, mr1, p1, ok1⟩ => ?_
  obtain rfl : x = v := p1
  cases x with
  | false => exact ⟨w1, e, μ1, er.mono le1, mr1, ok1⟩
  | true => exact ok1 w1 H1 _ (Wd.Le.refl _) mr1 rfl
theorem dt_w {a : Expr} {ma : TM} (h : DW T W X a ma) : DT T W X a ma := PW.pt h

/-! ### arguments, displays -/
theorem da_nil : DA T W X [] aNil := pa_nil.mono fun σ H Q h => by
  obtain ⟨w, e, μ, er, mr, ok⟩ := h
  exact ok w H [] (Wd.Le.refl _) mr .nil
theorem da_cons {e : Expr} {es : List Expr} {me : EM} {mr : AM} (he : DE T W X e me) (hr : DA T W X es mr) (hs : starEach (e :: es) X.env = (false, eval e X.env) :: starEach es X.env := by rfl) : DA T W X (e :: es) (aCons me mr) := by
  refine (pa_cons he hr hs).mono fun σ H Q h => ?_
  obtain ⟨w, e, μ, er, mr, ok⟩ := h
  refine (OkR.go (P := VRep T) er mr ok).imp fun x H1 ⟨w1, v, μ1, le1, mr1, p1, ok1⟩ => ?_
  refine (OkR.go (P := VReps T) (er.mono le1) mr1 ok1).imp fun xs H2 ⟨w2, vs, μ2, le2, mr2, p2, ok2⟩ => ?_
  exact ok2 w2 H2 _ (Wd.Le.refl _) mr2 (.cons (p1.mono le2) p2)
/-- a new list, a new tuple of values that stand -/
theorem mkL_ok {w : Wd} {m : Mem} {H : Hp} {xs : List V} {vs : List Val} {b : Bool} {Q : VK} {E : XK} (R : MRel T w m H) (r : VReps T w xs vs) (ok : OkR T (VRep T) w (mkL b vs m) Q E) : xs.length ≤ sizeLine ∧ ∀ p, H p = none → Q (.ref p) (upd H p (.lst xs)) := by
  unfold mkL at ok
  split at ok
  · exact ok.elim
  · rename_i hl
    have hz : xs.length ≤ sizeLine := by
      rw [r.length, sizeLine_eq]
      omega
    refine ⟨hz, fun p hp => ?_⟩
    have cell : OkR T (VRep T) w (.ok (.loc m.length) (m ++ [.lst vs])) Q E → Q (.ref p) (upd H p (.lst xs)) := fun ok => by
      obtain ⟨le, R'⟩ := R.newC (p := p) (o := .lst xs) (c := .lst vs) hp ⟨R.newF hp, xs, upd_same, VReps.mono (w' := ⟨w.r ++ [p], w.F⟩) ⟨⟨[p], rfl⟩, Sub.refl _⟩ r⟩
      refine ok _ _ _ le R' (.loc ?_)
      show (w.r ++ [p])[m.length]? = some p
      rw [← R.len, List.getElem?_append_right (Nat.le_refl _), Nat.sub_self]
      rfl
    split at ok
    · rename_i ds hds
      obtain ⟨le, R'⟩ := R.newD (p := p) (o := .lst xs) hp
      exact ok _ _ _ le R' (.d (.lst upd_same ((r.of_all hds).mono le.F)))
    · exact cell ok
theorem mkT_ok {w : Wd} {m : Mem} {H : Hp} {xs : List V} {vs : List Val} {Q : VK} {E : XK} (R : MRel T w m H) (r : VReps T w xs vs) (ok : OkR T (VRep T) w (mkT vs m) Q E) : xs.length ≤ sizeLine ∧ ∀ p, H p = none → Q (.ref p) (upd H p (.tup xs)) := by
  unfold mkT at ok
  split at ok
  · exact ok.elim
  · rename_i hl
    have hz : xs.length ≤ sizeLine := by
      rw [r.length, sizeLine_eq]
      omega
    refine ⟨hz, fun p hp => ?_⟩
    obtain ⟨le, R'⟩ := R.newD (p := p) (o := .tup xs) hp
    split at ok
    · rename_i ds hds
      exact ok _ _ _ le R' (.d (.tup (.of upd_same) ((r.of_all hds).mono le.F)))
    · exact ok _ _ _ le R' (.tup upd_same (r.mono le))
theorem de_lst {es : List Expr} {ma : AM} {pos : Pos} (b : Bool) (h : DA T W X es ma) : DE T W X (.List es pos) (eArgs (mkL b) ma) := by
  refine (pe_lst h).mono fun σ H Q h => ?_
  obtain ⟨w, e, μ, er, mr, ok⟩ := h
  refine (OkR.go (P := VReps T) er mr ok).imp fun xs H1 ⟨w1, vs, μ1, le1, mr1, p1, ok1⟩ => ?_
  exact mkL_ok mr1 p1 ok1
theorem de_tup {es : List Expr} {ma : AM} {pos : Pos} {x1 : Nat} (h : DA T W X es ma) : DE T W X (.Tuple es x1 pos) (eArgs mkT ma) := by
  refine (pe_tup h).mono fun σ H Q h => ?_
  obtain ⟨w, e, μ, er, mr, ok⟩ := h
  refine (OkR.go (P := VReps T) er mr ok).imp fun xs H1 ⟨w1, vs, μ1, le1, mr1, p1, ok1⟩ => ?_
  exact mkT_ok mr1 p1 ok1
theorem de_if {c a b : Expr} {mc : TM} {ma mb : EM} {pos : Pos} (hc : DT T W X c mc) (ha : DE T W X a ma) (hb : DE T W X b mb) : DE T W X (.IfExp c a b pos) (eIf mc ma mb) := by
  refine (pe_ifExp hc ha hb).mono fun σ H Q h => ?_
  obtain ⟨w, e, μ, er, mr, ok⟩ := h
  refine (OkR.go (P := BRep) er mr ok).imp fun x H1 ⟨w1, v, μ1, le1, mr1, p1, ok1⟩ => ?_
  obtain rfl : x = v := p1
  cases x with
  | true => exact ⟨w1, e, μ1, er.mono le1, mr1, ok1⟩
  | false => exact ⟨w1, e, μ1, er.mono le1, mr1, ok1⟩
end
end Fs
/-! ### operations on values -/
namespace Fs
open PySem PySem.Spec L2

section
variable {T : Tbl} {w : Wd} {x y : V} {m : Mem} {H : Hp}
theorem VRep.int {i : Int} (h : VRep T w x (.d (.int i))) : x = .int i := by
  cases h with
  | d h => cases h; rfl
theorem VRep.str {i : Str} (h : VRep T w x (.d (.str i))) : x = .str i := by
  cases h with
  | d h => cases h; rfl
theorem VRep.bl {i : Bool} (h : VRep T w x (.d (.bool i))) : x = .bl i := by
  cases h with
  | d h => cases h; rfl
theorem VRep.non (h : VRep T w x (.d .none)) : x = .non := by
  cases h with
  | d h => cases h; rfl
theorem rInt (i : Int) : VRep T w (.int i) (.d (.int i)) := .d (.int i)
theorem rStr (i : Str) : VRep T w (.str i) (.d (.str i)) := .d (.str i)
theorem rBool (i : Bool) : VRep T w (.bl i) (.d (.bool i)) := .d (.bl i)
theorem rNone : VRep T w .non (.d .none) := .d .non
end

/-! ### + - * // % ** -/
def catT (xs ys : List Val) (x y : Val) (m : Mem) : Res Val :=
  if 16777216 < xs.length + ys.length then .bad else
  match xs, ys with
  | [], _ => .ok y m
  | _, [] => .ok x m
  | _, _ => mkT (xs ++ ys) m
def addV (b : Bool) (x y : Val) (m : Mem) : Res Val :=
  match x, y with
  | .d (.int i), .d (.int j) => .ok (.d (.int (i + j))) m
  | .d (.str i), .d (.str j) => if 16777216 < i.length + j.length then .bad else .ok (.d (.str (i ++ j))) m
  | x, y => match lstV m x, lstV m y with
    | some xs, some ys => mkL b (xs ++ ys) m
    | _, _ => match tupV x, tupV y with
      | some xs, some ys => catT xs ys x y m
      | _, _ => .bad
def intOp (f : Int → Int → Option Int) (x y : Val) (m : Mem) : Res Val :=
  match x, y with
  | .d (.int i), .d (.int j) => match f i j with
    | some r => .ok (.d (.int r)) m
    | Option.none => .bad
  | _, _ => .bad
def subI (i j : Int) : Option Int := some (i - j)
def mulI (i j : Int) : Option Int := if -(2 ^ 64) < j ∧ j < 2 ^ 64 ∨ -(2 ^ 64) < i ∧ i < 2 ^ 64 then some (i * j) else Option.none
def fdvI (i j : Int) : Option Int := if 0 < j ∧ j < 1073741824 then some (i / j) else Option.none
def modI (i j : Int) : Option Int := if 0 < j then some (i % j) else Option.none
def powI (i j : Int) : Option Int := if 0 ≤ j ∧ j ≤ 1000000 ∧ i.natAbs < 2 ^ 64 then some (i ^ j.toNat) else Option.none
def negV (x : Val) (m : Mem) : Res Val :=
  match x with
  | .d (.int i) => .ok (.d (.int (-i))) m
  | _ => .bad
def repV (b : Bool) (x y : Val) (m : Mem) : Res Val :=
  match x, y with
  | .d (.int i), .d (.int j) => match mulI i j with
    | some r => .ok (.d (.int r)) m
    | Option.none => .bad
  | x, .d (.int k) => match lstV m x with
    | some xs => if -(2 ^ 63) ≤ k ∧ k < 2 ^ 63 then mkL b (List.replicate k.toNat xs).flatten m else .bad
    | Option.none => .bad
  | _, _ => .bad
section
variable {T : Tbl} {X : Cx}
theorem snd_intOp {f : Int → Int → Option Int} {C : Int → Int → Prop} {g : Int → Int → Int} (h : ∀ i j r, f i j = some r → C i j ∧ r = g i j) : Snd2 T (rI C fun i j => .int (g i j)) (intOp f) := by
  intro w m H x y v u Q E R rx ry ok
  unfold intOp at ok
  split at ok
  · rename_i i j
    split at ok
    · rename_i r e
      obtain ⟨hc, rfl⟩ := h i j r e
      exact ⟨i, j, rx.int, ry.int, hc, ok.ok R (rInt _)⟩
    · exact ok.elim
  · exact ok.elim
theorem snd_intOp0 {f : Int → Int → Option Int} {g : Int → Int → Int} (h : ∀ i j r, f i j = some r → r = g i j) : Snd2 T (rI0 fun i j => .int (g i j)) (intOp f) := by
  intro w m H x y v u Q E R rx ry ok
  unfold intOp at ok
  split at ok
  · rename_i i j
    split at ok
    · rename_i r e
      obtain rfl := h i j r e
      exact ⟨i, j, rx.int, ry.int, ok.ok R (rInt _)⟩
    · exact ok.elim
  · exact ok.elim
theorem snd_sub : Snd2 T (rI0 fun i j => .int (i - j)) (intOp subI) := snd_intOp0 fun i j r e => (Option.some.inj e).symm
theorem snd_fdv : Snd2 T (rI CDiv fun i j => .int (i / j)) (intOp fdvI) := snd_intOp fun i j r e => by
  unfold fdvI at e
  split at e
  · rename_i h
    exact ⟨h, (Option.some.inj e).symm⟩
  · cases e
theorem snd_mod : Snd2 T (rI (fun _ j => 0 < j) fun i j => .int (i % j)) (intOp modI) := snd_intOp fun i j r e => by
  unfold modI at e
  split at e
  · rename_i h
    exact ⟨h, (Option.some.inj e).symm⟩
  · cases e
theorem snd_pow : Snd2 T (rI CPow fun i j => .int (i ^ j.toNat)) (intOp powI) := snd_intOp fun i j r e => by
  unfold powI at e
  split at e
  · rename_i h
    exact ⟨h, (Option.some.inj e).symm⟩
  · cases e
theorem mulI_ok {i j r : Int} (e : mulI i j = some r) : CMul i j ∧ r = i * j := by
  unfold mulI at e
  split at e
  · rename_i h
    refine ⟨?_, (Option.some.inj e).symm⟩
    rcases h with h | h
    · exact .inr h
    · exact .inl h
  · cases e
theorem snd_rep (b : Bool) : Snd2 T (fun x y H Q => rI CMul (fun i j => .int (i * j)) x y H Q ∨ rRep x y H Q) (repV b) := by
  intro w m H x y v u Q E R rx ry ok
  unfold repV at ok
  split at ok
  · rename_i i j
    split at ok
    · rename_i r e
      obtain ⟨hc, rfl⟩ := mulI_ok e
      exact .inl ⟨i, j, rx.int, ry.int, hc, ok.ok R (rInt _)⟩
    · exact ok.elim
  · rename_i z k hz
    split at ok
    · rename_i xs hxs
      split at ok
      · rename_i hk
        obtain ⟨a, us, rfl, ha, hr⟩ := R.lst rx hxs
        have hv : VReps T w (List.replicate k.toNat us).flatten (List.replicate k.toNat xs).flatten := by
          generalize k.toNat = n
          induction n with
          | zero => exact .nil
          | succ n ih =>
            rw [List.replicate_succ, List.flatten_cons, List.replicate_succ, List.flatten_cons]
            exact hr.append ih
        obtain ⟨hl, q⟩ := mkL_ok R hv ok
        refine .inr ⟨a, k, us, rfl, ry.int, ha, hk.1, hk.2, ?_, q⟩
        have e : (List.replicate k.toNat us).flatten.length = us.length * k.toNat := by
          rw [List.length_flatten]
          simp [Nat.mul_comm]
        rw [← e]
        exact hl
      · exact ok.elim
    · exact ok.elim
  · exact ok.elim
theorem op_repM : OpR X (binaryOp .Mult) (fun x y H Q => rI CMul (fun i j => .int (i * j)) x y H Q ∨ rRep x y H Q) := op_mul.or op_rep
theorem snd_neg : Snd1 T (rU fun i => .int (-i)) negV := by
  intro w m H x v Q E R rx ok
  unfold negV at ok
  split at ok
  · rename_i i
    exact ⟨i, rx.int, ok.ok R (rInt _)⟩
  · exact ok.elim
abbrev rAddV (K : PySem.W.Frag) : R2 := fun x y H Q => (rI0 fun i j => .int (i + j)) x y H Q ∨ ((fun x y H Q => ∃ i j, x = V.str i ∧ y = V.str j ∧ i.length + j.length ≤ sizeLine ∧ Q (.str (i ++ j)) H) : R2) x y H Q ∨ rCat x y H Q ∨ rCatA K x y H Q
theorem op_addV : OpR X (binaryOp .Add) (rAddV X.K) := op_add.or (op_add_str.or (op_cat.or op_catA))
theorem snd_add (b : Bool) : Snd2 T (rAddV T.K) (addV b) := by
  intro w m H x y v u Q E R rx ry ok
  unfold addV at ok
  split at ok
  · rename_i i j
    exact .inl ⟨i, j, rx.int, ry.int, ok.ok R (rInt _)⟩
  · rename_i i j
    split at ok
    · exact ok.elim
    · rename_i h
      exact .inr (.inl ⟨i, j, rx.str, ry.str, by rw [sizeLine_eq]; omega, ok.ok R (rStr _)⟩)
  · split at ok
    · rename_i xs ys hx hy
      obtain ⟨a, us, rfl, ha, hr⟩ := R.lst rx hx
      obtain ⟨c, vs, rfl, hc, hs⟩ := R.lst ry hy
      obtain ⟨hl, q⟩ := mkL_ok R (hr.append hs) ok
      exact .inr (.inr (.inl ⟨a, c, us, vs, rfl, rfl, ha, hc, by rw [List.length_append] at hl; exact hl, q⟩))
    · split at ok
      · rename_i xs ys hx hy
        obtain ⟨a, us, rfl, ha, hr⟩ := R.tup rx hx
        obtain ⟨c, vs, rfl, hc, hs⟩ := R.tup ry hy
        unfold catT at ok
        split at ok
        · exact ok.elim
        · rename_i hl
          refine .inr (.inr (.inr ⟨a, c, us, vs, rfl, rfl, ha, hc, by rw [hr.length, hs.length, sizeLine_eq]; omega, ?_⟩))
          split at ok
          · cases hr
            exact ⟨fun _ => ok.ok R ry, fun z => absurd rfl z, fun z => absurd rfl z⟩
          · rename_i hne
            cases hs
            refine ⟨fun z => ?_, fun _ _ => ok.ok R rx, fun _ z => absurd rfl z⟩
            subst z
            cases hr
            exact absurd rfl hne
          · rename_i h1 h2
            refine ⟨fun z => ?_, fun _ z => ?_, fun _ _ => (mkT_ok R (hr.append hs) ok).2⟩
            · subst z
              cases hr
              exact absurd rfl h1
            · subst z
              cases hs
              exact absurd rfl h2
      · exact ok.elim
end

/-! ### == and in -/
mutual
def toPy : Data → Option PyData
  | .none => some .none
  | .bool b => some (.bool b)
  | .int i => some (.int i)
  | .str s => some (.str s)
  | .list xs => (toPys xs).map .list
  | .tup xs => (toPys xs).map .tuple
  | _ => Option.none
def toPys : List Data → Option (List PyData)
  | [] => some []
  | x :: r => (toPy x).bind fun y => (toPys r).map (y :: ·)
end
def mapO {α β : Type} (f : α → Option β) : List α → Option (List β)
  | [] => some []
  | v :: r => (f v).bind fun y => (mapO f r).map (y :: ·)
def pyV : Nat → Mem → Val → Option PyData
  | 0, m, v => match v with
    | .d x => toPy x
    | _ => Option.none
  | n + 1, m, v => match v with
    | .d x => toPy x
    | .loc l => match m[l]? with
      | some (.lst vs) => (mapO (pyV n m) vs).map .list
      | some (.frz x) => toPy x
      | _ => Option.none
    | .tup vs => (mapO (pyV n m) vs).map .tuple
    | _ => Option.none
theorem pyV_d (n : Nat) (m : Mem) (x : Data) : pyV n m (.d x) = toPy x := by cases n <;> rfl
theorem pyV_loc (n : Nat) (m : Mem) (l : Nat) : pyV (n + 1) m (.loc l) = (match m[l]? with
      | some (.lst vs) => (mapO (pyV n m) vs).map .list
      | some (.frz x) => toPy x
      | _ => Option.none) := rfl
theorem pyV_tup (n : Nat) (m : Mem) (vs : List Val) : pyV (n + 1) m (.tup vs) = (mapO (pyV n m) vs).map .tuple := rfl
theorem pyV_obj (n : Nat) (m : Mem) (c : Nat) (vs : List Val) : pyV n m (.obj c vs) = Option.none := by cases n <;> rfl
theorem pyV_ro (n : Nat) (m : Mem) (vs : List Int) : pyV n m (.ro vs) = Option.none := by cases n <;> rfl
mutual
theorem DRep.py {T : Tbl} {F H : Hp} (s : Sub F H) : ∀ {v : V} {x : Data} {y : PyData}, DRep T F v x → toPy x = some y → Dp T.K H v y
  | _, _, _, .non, e => by cases e; exact .non
  | _, _, _, .bl b, e => by cases e; exact .bl b
  | _, _, _, .int i, e => by cases e; exact .int i
  | _, _, _, .str z, e => by cases e; exact .str z
  | _, _, _, .lst h r, e => by
    simp only [toPy, Option.map_eq_some_iff] at e
    obtain ⟨ys, h1, rfl⟩ := e
    exact .lst (.of (s _ _ h)) (DReps.py s r h1)
  | _, _, _, .tup h r, e => by
    simp only [toPy, Option.map_eq_some_iff] at e
    obtain ⟨ys, h1, rfl⟩ := e
    exact .tup (s.sqT h) (DReps.py s r h1)
  | _, _, _, .dk _ _, e => by simp [toPy] at e
  | _, _, _, .dt _ _, e => by simp [toPy] at e
  | _, _, _, .ins _ _ _ _ _, e => by simp [toPy] at e
  | _, _, _, .slo _ _ _ _, e => by simp [toPy] at e
theorem DReps.py {T : Tbl} {F H : Hp} (s : Sub F H) : ∀ {v : List V} {x : List Data} {y : List PyData}, DReps T F v x → toPys x = some y → DpAll T.K H v y
  | _, _, _, .nil, e => by cases e; exact .nil
  | _, _, _, .cons h r, e => by
    simp only [toPys, Option.bind_eq_some_iff, Option.map_eq_some_iff] at e
    obtain ⟨y, h1, ys, h2, rfl⟩ := e
    exact .cons (DRep.py s h h1) (DReps.py s r h2)
end
section
variable {T : Tbl} {w : Wd} {m : Mem} {H : Hp}
theorem mapO_py {f : Val → Option PyData} (hv : ∀ {x : V} {v : Val} {y : PyData}, VRep T w x v → f v = some y → Dp T.K H x y) : ∀ {vs : List Val} {xs : List V} {ys : List PyData}, VReps T w xs vs → mapO f vs = some ys → DpAll T.K H xs ys := by
  intro vs
  induction vs with
  | nil =>
    intro xs ys r e
    cases r
    cases e
    exact .nil
  | cons v vs ih =>
    intro xs ys r e
    rw [mapO] at e
    simp only [Option.bind_eq_some_iff, Option.map_eq_some_iff] at e
    obtain ⟨y, h1, ys, h2, rfl⟩ := e
    cases r with
    | cons r1 r2 => exact .cons (hv r1 h1) (ih r2 h2)
theorem pyV_ok (R : MRel T w m H) : ∀ (n : Nat) {x : V} {v : Val} {y : PyData}, VRep T w x v → pyV n m v = some y → Dp T.K H x y := by
  intro n
  induction n with
  | zero =>
    intro x v y r e
    cases r with
    | d h => exact h.py R.sub ((pyV_d _ _ _).symm.trans e)
    | obj _ _ _ _ _ =>
      rw [pyV_obj] at e
      cases e
    | slo _ _ _ _ =>
      rw [pyV_obj] at e
      cases e
    | ro _ =>
      rw [pyV_ro] at e
      cases e
    | loc _ => cases (show Option.none = some y from e)
    | tup _ _ => cases (show Option.none = some y from e)
  | succ n ih =>
    intro x v y r e
    cases r with
    | d h => exact h.py R.sub ((pyV_d _ _ _).symm.trans e)
    | @loc l a h =>
      rw [pyV_loc] at e
      split at e
      · rename_i vs q
        simp only [Option.map_eq_some_iff] at e
        obtain ⟨ys, h1, rfl⟩ := e
        obtain ⟨_, xs, h2, h3⟩ := R.cell l a _ h q
        exact .lst (.of h2) (mapO_py ih h3 h1)
      · rename_i z q
        exact DRep.py R.sub (R.cell l a _ h q) e
      · cases e
    | tup h r =>
      rw [pyV_tup] at e
      simp only [Option.map_eq_some_iff] at e
      obtain ⟨ys, h1, rfl⟩ := e
      exact .tup (.of (R.sub _ _ h)) (mapO_py ih r h1)
    | obj _ _ _ _ _ =>
      rw [pyV_obj] at e
      cases e
    | slo _ _ _ _ =>
      rw [pyV_obj] at e
      cases e
    | ro _ =>
      rw [pyV_ro] at e
      cases e
end
def scalP : PyData → PyData → Bool
  | .none, .none => true | .none, .int _ => true | .int _, .none => true | .none, .bool _ => true | .bool _, .none => true | .none, .str _ => true | .str _, .none => true
  | .int _, .int _ => true | .bool _, .bool _ => true | .str _, .str _ => true
  | .int _, .str _ => true | .str _, .int _ => true | .bool _, .str _ => true | .str _, .bool _ => true
  | _, _ => false
/-- x == y, where it is told -/
def pyEq (m : Mem) (x y : Val) : Option Bool :=
  match pyV 6 m x, pyV 6 m y with
  | some d, some e => if scalP d e || (SeqAt.shaped d && SeqAt.shaped e) then some (PyData.eqv d e) else Option.none
  | _, _ => Option.none
def eqV (neg : Bool) (x y : Val) (m : Mem) : Res Val := match pyEq m x y with
  | some b => .ok (.d (.bool (if neg then !b else b))) m
  | Option.none => .bad
def isNone (x : Val) : Bool := match x with
  | .d .none => true
  | _ => false
def isV (neg : Bool) (x y : Val) (m : Mem) : Res Val := match y with
  | .d .none => .ok (.d (.bool (if neg then !isNone x else isNone x))) m
  | _ => .bad
def cmpI (f : Int → Int → Bool) (x y : Val) (m : Mem) : Res Val := match x, y with
  | .d (.int i), .d (.int j) => .ok (.d (.bool (f i j))) m
  | _, _ => .bad
section
variable {T : Tbl} {X : Cx}
theorem scal_eqv {K : PySem.W.Frag} {H : Hp} {x y : V} {d e : PyData} (hx : Dp K H x d) (hy : Dp K H y e) (h : scalP d e = true) : scal x y = true ∧ decide (x = y) = PyData.eqv d e := by
  cases hx <;> cases hy <;> first | (exact absurd h Bool.false_ne_true) | (refine ⟨rfl, ?_⟩; simp [PyData.eqv]) | skip
  all_goals rw [Bool.eq_iff_iff]; simp [PyData.eqv]
theorem op_eqB (hu : X.A.units + 64 < cLine) : OpR X (compareOp .Eq) (fun x y H Q => rEq x y H Q ∨ rEqD X.K x y H Q) := op_eq.or (op_eqD hu)
theorem op_neB (hu : X.A.units + 64 < cLine) : OpR X (compareOp .NotEq) (fun x y H Q => rNe x y H Q ∨ rNeD X.K x y H Q) := op_ne.or (op_neD hu)
theorem pyEq_ok {w : Wd} {m : Mem} {H : Hp} {x y : V} {v u : Val} {b : Bool} (R : MRel T w m H) (rx : VRep T w x v) (ry : VRep T w y u) (e : pyEq m v u = some b) :
    (scal x y = true ∧ decide (x = y) = b) ∨ ∃ d e, Dp T.K H x d ∧ Dp T.K H y e ∧ SeqAt.shaped d = true ∧ SeqAt.shaped e = true ∧ PyData.eqv d e = b := by
  unfold pyEq at e
  split at e
  · rename_i d f hd hf
    have h1 := pyV_ok R 6 rx hd
    have h2 := pyV_ok R 6 ry hf
    split at e
    · rename_i hc
      cases e
      rw [Bool.or_eq_true, Bool.and_eq_true] at hc
      rcases hc with hc | hc
      · exact .inl (scal_eqv h1 h2 hc)
      · exact .inr ⟨d, f, h1, h2, hc.1, hc.2, rfl⟩
    · cases e
  · cases e
theorem snd_eq : Snd2 T (fun x y H Q => rEq x y H Q ∨ rEqD T.K x y H Q) (eqV false) := by
  intro w m H x y v u Q E R rx ry ok
  unfold eqV at ok
  split at ok
  · rename_i b hb
    rcases pyEq_ok R rx ry hb with ⟨h1, h2⟩ | ⟨d, e, h1, h2, h3, h4, h5⟩
    · exact .inl ⟨h1, by rw [h2]; exact ok.ok R (rBool _)⟩
    · exact .inr ⟨d, e, h1, h2, h3, h4, by rw [h5]; exact ok.ok R (rBool _)⟩
  · exact ok.elim
theorem snd_ne : Snd2 T (fun x y H Q => rNe x y H Q ∨ rNeD T.K x y H Q) (eqV true) := by
  intro w m H x y v u Q E R rx ry ok
  unfold eqV at ok
  split at ok
  · rename_i b hb
    rcases pyEq_ok R rx ry hb with ⟨h1, h2⟩ | ⟨d, e, h1, h2, h3, h4, h5⟩
    · exact .inl ⟨h1, by rw [h2]; exact ok.ok R (rBool _)⟩
    · exact .inr ⟨d, e, h1, h2, h3, h4, by rw [h5]; exact ok.ok R (rBool _)⟩
  · exact ok.elim
theorem isNone_rep {w : Wd} {x : V} {v : Val} (h : VRep T w x v) : decide (x = .non) = isNone v := by
  cases h with
  | d h => cases h <;> simp [isNone]
  | _ => simp [isNone]
theorem snd_is : Snd2 T (fun x y H Q => y = .non ∧ Q (.bl (decide (x = .non))) H) (isV false) := by
  intro w m H x y v u Q E R rx ry ok
  unfold isV at ok
  split at ok
  · exact ⟨ry.non, by rw [isNone_rep rx]; exact ok.ok R (rBool _)⟩
  · exact ok.elim
theorem snd_isnot : Snd2 T (fun x y H Q => y = .non ∧ Q (.bl (!decide (x = .non))) H) (isV true) := by
  intro w m H x y v u Q E R rx ry ok
  unfold isV at ok
  split at ok
  · exact ⟨ry.non, by rw [isNone_rep rx]; exact ok.ok R (rBool _)⟩
  · exact ok.elim
theorem snd_cmpI (f : Int → Int → Bool) : Snd2 T (rI0 fun i j => .bl (f i j)) (cmpI f) := by
  intro w m H x y v u Q E R rx ry ok
  unfold cmpI at ok
  split at ok
  · rename_i i j
    exact ⟨i, j, rx.int, ry.int, ok.ok R (rBool _)⟩
  · exact ok.elim
end
/-- x in ys: a sign in a text; a flat thing in a list or tuple of flat ones; data in a list of data -/
def flatD : Data → Bool
  | .none => true
  | .bool _ => true
  | .int _ => true
  | .str _ => true
  | _ => false
def flatEq : Data → Data → Bool
  | .none, .none => true
  | .bool a, .bool b => a == b
  | .bool a, .int b => (if a then 1 else 0) == b
  | .int a, .bool b => a == (if b then 1 else 0)
  | .int a, .int b => a == b
  | .str a, .str b => a == b
  | _, _ => false
/-- a text of one sign -/
def sign1 (s : Str) : Option Nat := match s.cps.toList with
  | [c] => some c
  | _ => Option.none
theorem sign1_ok {s : Str} {c : Nat} (h : sign1 s = some c) : s = ⟨#[c]⟩ := by
  unfold sign1 at h
  split at h
  · rename_i c' e
    cases h
    obtain ⟨cs⟩ := s
    have e : cs.toList = [c] := e
    congr
    exact Array.toList_inj.mp e
  · cases h
def negB (neg b : Bool) : Bool := if neg then !b else b
def inSeq (neg : Bool) (a : Data) (y : Val) (m : Mem) : Res Val :=
  match (seqV m y).bind allD with
  | some ds => if flatD a && ds.all flatD then .ok (.d (.bool (negB neg (ds.any fun z => flatEq z a)))) m else
    match toPy a, ((lstV m y).bind allD).bind toPys with
    | some p, some ps => if SeqAt.shaped p && SeqAt.shaped (.list ps) then .ok (.d (.bool (negB neg (ps.any fun z => PyData.eqv z p)))) m else .bad
    | _, _ => .bad
  | Option.none => .bad
def inV (neg : Bool) (x y : Val) (m : Mem) : Res Val :=
  match x, y with
  | .d (.str s), .d (.str z) => match sign1 s with
    | some c => .ok (.d (.bool (negB neg (decide (c ∈ z.cps.toList))))) m
    | Option.none => .bad
  | .d a, y => inSeq neg a y m
  | _, _ => .bad
section
variable {T : Tbl} {X : Cx} {w : Wd}
theorem flat_rep {F : Hp} {x : V} {a : Data} (h : DRep T F x a) (f : flatD a = true) : flatV x = true := by
  cases h <;> first | rfl | exact absurd f Bool.false_ne_true
theorem flatEq_rep {F : Hp} {x y : V} {a b : Data} (h : DRep T F x a) (h' : DRep T F y b) : L2.eqV x y = flatEq a b := by
  cases h <;> cases h' <;> rfl
theorem flats_rep {F : Hp} : ∀ {xs : List V} {ds : List Data}, DReps T F xs ds → ds.all flatD = true → xs.all flatV = true
  | _, _, .nil, _ => rfl
  | _, _, .cons h r, f => by
    rw [List.all_cons, Bool.and_eq_true] at f ⊢
    exact ⟨flat_rep h f.1, flats_rep r f.2⟩
theorem inV_rep {F : Hp} {x : V} {a : Data} (h : DRep T F x a) : ∀ {xs : List V} {ds : List Data}, DReps T F xs ds → L2.inV x xs = ds.any fun z => flatEq z a
  | _, _, .nil => rfl
  | _, _, .cons h' r => by
    unfold L2.inV
    rw [List.any_cons, List.any_cons, flatEq_rep h' h]
    congr 1
    exact inV_rep h r
abbrev rInV (K : PySem.W.Frag) (neg : Bool) : R2 := fun x y H Q => (∃ (c : Nat) (z : Str), x = V.str ⟨#[c]⟩ ∧ y = .str z ∧ Q (.bl (negB neg (decide (c ∈ z.cps.toList)))) H) ∨ rIn K neg x y H Q ∨
  ∃ d ds, Dp K H x d ∧ Dp K H y (.list ds) ∧ SeqAt.shaped d = true ∧ SeqAt.shaped (.list ds) = true ∧ Q (.bl (negB neg (ds.any fun z => PyData.eqv z d))) H
theorem op_inV (hu : X.A.units + 65 < cLine) : OpR X (compareOp .In) (rInV X.K false) := op_in_sign.or (op_in_seq.or (op_inD hu))
theorem op_notInV (hu : X.A.units + 65 < cLine) : OpR X (compareOp .NotIn) (rInV X.K true) := op_notIn_sign.or (op_notIn_seq.or (op_notInD hu))
theorem snd_in (neg : Bool) : Snd2 T (rInV T.K neg) (inV neg) := by
  intro w m H x y v u Q E R rx ry ok
  unfold inV at ok
  split at ok
  · rename_i s z
    split at ok
    · rename_i c hc
      have e := sign1_ok hc
      exact .inl ⟨c, z, by rw [← e]; exact rx.str, ry.str, ok.ok R (rBool _)⟩
    · exact ok.elim
  · rename_i a u' _
    unfold inSeq at ok
    cases rx with
    | d rx =>
      split at ok
      · rename_i ds hds
        obtain ⟨vs, h1, h2⟩ := Option.bind_eq_some_iff.mp hds
        split at ok
        · rename_i hf
          obtain ⟨p, xs, rfl, h3, h4⟩ := R.seq ry h1
          have h5 := h4.of_all h2
          rw [Bool.and_eq_true] at hf
          refine .inr (.inl ⟨p, xs, rfl, h3, flat_rep rx hf.1, flats_rep h5 hf.2, ?_⟩)
          have q := ok.ok R (rBool _)
          rw [inV_rep rx h5]
          exact q
        · split at ok
          · rename_i q qs hq hqs
            obtain ⟨es, h6, h7⟩ := Option.bind_eq_some_iff.mp hqs
            obtain ⟨us, h8, h9⟩ := Option.bind_eq_some_iff.mp h6
            split at ok
            · rename_i hs
              rw [Bool.and_eq_true] at hs
              obtain ⟨p', xs', rfl, e2, e3⟩ := R.lst ry h8
              exact .inr (.inr ⟨q, qs, rx.py R.sub hq, .lst (.of e2) ((e3.of_all h9).py R.sub h7), hs.1, hs.2, ok.ok R (rBool _)⟩)
            · exact ok.elim
          · exact ok.elim
      · exact ok.elim
  · exact ok.elim
end
end Fs
/-! ### statements -/
namespace Fs
open PySem PySem.Spec L2

def OkS (T : Tbl) (w : Wd) (r : SRes) (D : Ends) (W : WX) : Prop :=
  match r with
  | .next e m => ∀ (w' : Wd) (σ' : L2.St) (H' : Hp), w.Le w' → ERel T w' σ' e → MRel T w' m H' → D.nx σ' H'
  | .ret v m => ∀ (w' : Wd) (H' : Hp) (x : V), w.Le w' → MRel T w' m H' → VRep T w' x v → D.rt x H'
  | .exc c p e m => ∀ (w' : Wd) (σ' : L2.St) (H' : Hp) (cls : Value) (d : Option Addr), w.Le w' → ERel T w' σ' e → MRel T w' m H' → XRep T w' H' cls d c p → W cls d σ' H'
  | .bad => False
def rdS (T : Tbl) (W : WX) (m : SM) : TS := fun D σ H => ∃ (w : Wd) (e : Env) (μ : Mem), ERel T w σ e ∧ MRel T w μ H ∧ OkS T w (m e μ) D W
abbrev DS (T : Tbl) (W : WX) (X : Cx) (st : Stmt) (m : SM) : Prop := PS X st (rdS T W m)
abbrev DSs (T : Tbl) (W : WX) (X : Cx) (st : List Stmt) (m : SM) : Prop := PSs X st (rdS T W m)
theorem OkS.later {T : Tbl} {w : Wd} {r : SRes} {D : Ends} {W : WX} (h : OkS T w r D W) {w' : Wd} (s : w.Le w') : OkS T w' r D W := by
  cases r with
  | next e m => exact fun w2 σ2 H2 le er R => h w2 σ2 H2 (s.trans le) er R
  | ret v m => exact fun w2 H2 x le R p => h w2 H2 x (s.trans le) R p
  | exc c p e m => exact fun w2 σ2 H2 cls d le er R q => h w2 σ2 H2 cls d (s.trans le) er R q
  | bad => exact h

/-! ### the machines -/
/-- a result in a statement -/
def Res.st {α : Type} (r : Res α) (e : Env) (f : α → Mem → SRes) : SRes := match r with
  | .ok a m => f a m
  | .exc c p m => .exc c p e m
  | .bad => .bad
@[simp] theorem Res.st_ok {α : Type} (a : α) (m : Mem) (e : Env) (f : α → Mem → SRes) : (Res.ok a m).st e f = f a m := rfl
@[simp] theorem Res.st_exc {α : Type} (c : Nat) (p : List Data) (m : Mem) (e : Env) (f : α → Mem → SRes) : (Res.exc c p m : Res α).st e f = .exc c p e m := rfl
@[simp] theorem Res.st_bad {α : Type} (e : Env) (f : α → Mem → SRes) : (Res.bad : Res α).st e f = .bad := rfl
def sNext : SM := fun e m => .next e m
def sSeq (a b : SM) : SM := fun e m => match a e m with
  | .next e m => b e m
  | r => r
def sSet (i : Nat) (a : EM) : SM := fun e m => (a e m).st e fun v m => .next (e.set i (some v)) m
def sDo (a : EM) : SM := fun e m => (a e m).st e fun _ m => .next e m
def sRet (a : EM) : SM := fun e m => (a e m).st e fun v m => .ret v m
def sRetN : SM := fun _ m => .ret (.d .none) m
def sIf (c : TM) (a b : SM) : SM := fun e m => (c e m).st e fun t m => if t = true then a e m else b e m
def sWhile (c : TM) (b : SM) : Nat → SM
  | 0 => fun _ _ => .bad
  | n + 1 => fun e m => (c e m).st e fun t m => if t = true then (match b e m with
    | .next e m => sWhile c b n e m
    | r => r) else .next e m
/-- name op= e -/
def sAug (i : Nat) (f : Val → Val → Mem → Res Val) (a : EM) : SM := fun e m => match e[i]? with
  | some (some x) => (a e m).st e fun y m => (f (norm m x) y m).st e fun z m => .next (e.set i (some z)) m
  | _ => .bad

section
variable {T : Tbl} {α β : Type} {P : Wd → β → α → Prop} {W : WX} {m : Env → Mem → Res α} {σ : L2.St} {H : Hp} {D : Ends}
theorem OkS.go {w : Wd} {e : Env} {μ : Mem} {f : α → Mem → SRes} (er : ERel T w σ e) (mr : MRel T w μ H) (ok : OkS T w ((m e μ).st e f) D W) :
    rdG T P W m σ H fun x H1 => ∃ (w' : Wd) (a : α) (μ' : Mem), w.Le w' ∧ MRel T w' μ' H1 ∧ P w' x a ∧ OkS T w' (f a μ') D W := by
  refine ⟨w, e, μ, er, mr, ?_⟩
  cases hm : m e μ with
  | bad =>
    rw [hm] at ok
    exact ok
  | exc c p m =>
    rw [hm] at ok
    exact fun w' H' cls d le R q => ok w' σ H' cls d le (er.mono le) R q
  | ok a m =>
    rw [hm] at ok
    exact fun w' H' x le R p => ⟨w', a, m, le, R, p, OkS.later ok le⟩
end
section
variable {T : Tbl} {N : List Str} {sc : Scope} {k : Nat} {W : WX} {X : Cx}
theorem rdS.nx {m : SM} {D : Ends} {σ : L2.St} {H : Hp} {w : Wd} {e : Env} {μ : Mem} (ok : OkS T w (.next e μ) D W) (er : ERel T w σ e) (mr : MRel T w μ H) : D.nx σ H := ok w σ H (Wd.Le.refl _) er mr
theorem dss_nil : DSs T W X [] sNext := pss_nil.mono fun D σ H h => by
  obtain ⟨w, e, μ, er, mr, ok⟩ := h
  exact ok w σ H (Wd.Le.refl _) er mr
theorem dss_cons {st : Stmt} {rest : List Stmt} {a b : SM} (h1 : DS T W X st a) (h2 : DSs T W X rest b) : DSs T W X (st :: rest) (sSeq a b) := by
  refine (pss_cons h1 h2).mono fun D σ H h => ?_
  obtain ⟨w, e, μ, er, mr, ok⟩ := h
  refine ⟨w, e, μ, er, mr, ?_⟩
  have ok : OkS T w (match a e μ with
    | .next e m => b e m
    | r => r) D W := ok
  cases ha : a e μ with
  | next e1 m1 =>
    rw [ha] at ok
    exact fun w' σ' H' le er' mr' => ⟨w', e1, m1, er', mr', ok.later le⟩
  | ret v m1 =>
    rw [ha] at ok
    exact ok
  | exc c p e1 m1 =>
    rw [ha] at ok
    exact ok
  | bad =>
    rw [ha] at ok
    exact ok
theorem dss_one {st : Stmt} {a : SM} (h1 : DS T W X st a) : DSs T W X [st] a := pss_one h1
theorem ds_pass {pos : Pos} : DS T W X (.Pass pos) sNext := ps_pass.mono fun D σ H h => by
  obtain ⟨w, e, μ, er, mr, ok⟩ := h
  exact ok w σ H (Wd.Le.refl _) er mr
theorem ds_set (B : Bx T N sc k W X) (i : Nat) {x : Str} {e : Expr} {me : EM} {pos pos' : Pos} (hN : N[i]? = some x) (hx : Loc sc x) (he : DE T W X e me) (hs : swapsWith e (some (.Name x pos')) pos.line X.env = pure false := by rfl) :
    DS T W X (.Assign [.Name x pos'] e pos) (sSet i me) := by
  refine (ps_set (i := i) (by rw [B.hN]; exact B.nd) (by rw [B.hN]; exact hN) (by rw [B.hsc]; exact hx) he hs (by rw [B.hsc]; exact B.own x hx)).mono fun D σ H h => ?_
  obtain ⟨w, e, μ, er, mr, ok⟩ := h
  refine (OkS.go (P := VRep T) er mr ok).imp fun x H1 ⟨w1, v, μ1, le1, mr1, p1, ok1⟩ => ?_
  exact ok1 w1 _ H1 (Wd.Le.refl _) ((er.mono le1).set i p1) mr1
theorem ds_do {e : Expr} {me : EM} {pos : Pos} (he : DE T W X e me) (hs : swapsWith e none pos.line X.env = pure false := by rfl) : DS T W X (.Expr e pos) (sDo me) := by
  refine (ps_expr he hs).mono fun D σ H h => ?_
  obtain ⟨w, e, μ, er, mr, ok⟩ := h
  refine (OkS.go (P := VRep T) er mr ok).imp fun x H1 ⟨w1, v, μ1, le1, mr1, p1, ok1⟩ => ?_
  exact ok1 w1 _ H1 (Wd.Le.refl _) (er.mono le1) mr1
theorem ds_ret {e : Expr} {me : EM} {pos : Pos} (he : DE T W X e me) : DS T W X (.Return (some e) pos) (sRet me) := by
  refine (ps_ret he).mono fun D σ H h => ?_
  obtain ⟨w, e, μ, er, mr, ok⟩ := h
  refine (OkS.go (P := VRep T) er mr ok).imp fun x H1 ⟨w1, v, μ1, le1, mr1, p1, ok1⟩ => ?_
  exact ok1 w1 H1 x (Wd.Le.refl _) mr1 p1
theorem ds_retN {pos : Pos} : DS T W X (.Return none pos) sRetN := ps_retN.mono fun D σ H h => by
  obtain ⟨w, e, μ, er, mr, ok⟩ := h
  exact ok w H _ (Wd.Le.refl _) mr rNone
theorem ds_if {c : Expr} {a b : List Stmt} {mc : TM} {ma mb : SM} {pos : Pos} (hc : DT T W X c mc) (ha : DSs T W X a ma) (hb : DSs T W X b mb) : DS T W X (.If c a b pos) (sIf mc ma mb) := by
  refine (ps_if hc ha hb).mono fun D σ H h => ?_
  obtain ⟨w, e, μ, er, mr, ok⟩ := h
  refine (OkS.go (P := BRep) er mr ok).imp fun x H1 ⟨w1, v, μ1, le1, mr1, p1, ok1⟩ => ?_
  obtain rfl : x = v := p1
  cases x with
  | true => exact ⟨w1, e, μ1, er.mono le1, mr1, ok1⟩
  | false => exact ⟨w1, e, μ1, er.mono le1, mr1, ok1⟩
theorem ds_while (B : Bx T N sc k W X) (n : Nat) {c : Expr} {body : List Stmt} {mc : TM} {mb : SM} {pos : Pos} (hc : DT T W X c mc) (hb : DSs T W X body mb) : DS T W X (.While c body [] pos) (sWhile mc mb n) := by
  refine (ps_while B.po hc hb).mono fun D σ H h => ?_
  refine ⟨fun n σ H => rdS T W (sWhile mc mb n) D σ H, ⟨n, h⟩, ?_⟩
  intro n σ H h
  obtain ⟨w, e, μ, er, mr, ok⟩ := h
  cases n with
  | zero => exact ok.elim
  | succ n =>
    have ok : OkS T w ((mc e μ).st e fun t m => if t = true then (match mb e m with
      | .next e m => sWhile mc mb n e m
      | r => r) else .next e m) D W := ok
    refine (OkS.go (P := BRep) er mr ok).imp fun x H1 ⟨w1, v, μ1, le1, mr1, p1, ok1⟩ => ?_
    obtain rfl : x = v := p1
    cases x with
    | false =>
      rw [if_neg Bool.false_ne_true] at ok1 ⊢
      exact ok1 w1 _ H1 (Wd.Le.refl _) (er.mono le1) mr1
    | true =>
      rw [if_pos rfl] at ok1 ⊢
      refine ⟨fun σ' H' => rdS T W (sWhile mc mb n) D σ' H', fun σ' H' z => ⟨n, Nat.lt_succ_self n, z⟩, w1, e, μ1, er.mono le1, mr1, ?_⟩
      cases hb : mb e μ1 with
      | next e2 m2 =>
        rw [hb] at ok1
        exact fun w' σ' H' le er' mr' => ⟨w', e2, m2, er', mr', ok1.later le⟩
      | ret v m2 =>
        rw [hb] at ok1
        exact ok1
      | exc c p e2 m2 =>
        rw [hb] at ok1
        exact ok1
      | bad =>
        rw [hb] at ok1
        exact ok1
end

/-! ### targets -/
/-- the slots js are set; the rest stands -/
structure DG (T : Tbl) (X : Cx) (tg : Expr) (js : List Nat) (g : Val → Env → Option Env) : Prop where
  ex : ∃ t : TG, PG X tg t ∧ ∀ (w : Wd) (v : V) (u : Val) (σ : L2.St) (e e' : Env) (H : Hp) (μ : Mem) (Q : L2.St → Hp → Prop), VRep T w v u → ERel T w σ e → MRel T w μ H → g u e = some e' →
    (∀ σ', ERel T w σ' e' → σ'.length = σ.length → (∀ i, i ∉ js → σ'[i]? = σ[i]?) → Q σ' H) → t v σ H Q
structure DGs (T : Tbl) (X : Cx) (tgs : List Expr) (js : List Nat) (g : List Val → Env → Option Env) : Prop where
  ex : ∃ t : TGs, PGs X tgs t ∧ ∀ (w : Wd) (v : List V) (u : List Val) (σ : L2.St) (e e' : Env) (H : Hp) (μ : Mem) (Q : L2.St → Hp → Prop), VReps T w v u → ERel T w σ e → MRel T w μ H → g u e = some e' →
    (∀ σ', ERel T w σ' e' → σ'.length = σ.length → (∀ i, i ∉ js → σ'[i]? = σ[i]?) → Q σ' H) → t v σ H Q
  len : ∀ u e e', g u e = some e' → u.length = tgs.length
def gN (i : Nat) (v : Val) (e : Env) : Option Env := some (e.set i (some v))
def gsNil (vs : List Val) (e : Env) : Option Env := match vs with
  | [] => some e
  | _ => Option.none
def gsCons (g : Val → Env → Option Env) (r : List Val → Env → Option Env) (vs : List Val) (e : Env) : Option Env := match vs with
  | v :: vs => (g v e).bind (r vs)
  | _ => Option.none
def gT (g : List Val → Env → Option Env) (v : Val) (e : Env) : Option Env := (tupV v).bind fun vs => g vs e
section
variable {T : Tbl} {N : List Str} {sc : Scope} {k : Nat} {W : WX} {X : Cx}
theorem dg_name (B : Bx T N sc k W X) (i : Nat) {x : Str} {pos : Pos} (hN : N[i]? = some x) (hx : Loc sc x) : DG T X (.Name x pos) [i] (gN i) := by
  refine ⟨gName i, pg_name (by rw [B.hN]; exact B.nd) (by rw [B.hN]; exact hN) (by rw [B.hsc]; exact hx) (by rw [B.hsc]; exact B.own x hx), fun w v u σ e e' H μ Q rv er mr hg q => ?_⟩
  cases hg
  refine q _ (er.set i rv) (by simp) fun j hj => ?_
  rw [List.getElem?_set_ne (fun z => hj (by simp [z]))]
theorem dgs_nil : DGs T X [] [] gsNil := by
  refine ⟨⟨gNil, pgs_nil, fun w v u σ e e' H μ Q rv er mr hg q => ?_⟩, fun u e e' hg => ?_⟩
  · cases rv with
    | nil =>
      cases hg
      exact ⟨rfl, q σ er rfl fun _ _ => rfl⟩
    | cons _ _ => cases hg
  · cases u with
    | nil => rfl
    | cons _ _ => cases hg
theorem dgs_cons {t : Expr} {ts : List Expr} {js ks : List Nat} {g : Val → Env → Option Env} {r : List Val → Env → Option Env} (h1 : DG T X t js g) (h2 : DGs T X ts ks r)
    (hs : (assignEach (t :: ts) X.env).map (·.2) = assign t X.env :: (assignEach ts X.env).map (·.2) := by rfl) : DGs T X (t :: ts) (js ++ ks) (gsCons g r) := by
  obtain ⟨t1, p1, k1⟩ := h1.ex
  obtain ⟨t2, p2, k2⟩ := h2.ex
  refine ⟨⟨gCons t1 t2, pgs_cons p1 p2 hs, fun w v u σ e e' H μ Q rv er mr hg q => ?_⟩, fun u e e' hg => ?_⟩
  · cases rv with
    | nil => cases hg
    | @cons v x vs xs r1 r2 =>
      have hg : (g x e).bind (r xs) = some e' := hg
      obtain ⟨e1, h3, h4⟩ := Option.bind_eq_some_iff.mp hg
      refine ⟨v, vs, rfl, k1 w v x σ e e1 H μ _ r1 er mr h3 fun σ1 er1 l1 s1 => ?_⟩
      exact k2 w vs xs σ1 e1 e' H μ _ r2 er1 mr h4 fun σ2 er2 l2 s2 => q σ2 er2 (l2.trans l1) fun i hi => (s2 i fun z => hi (List.mem_append_right _ z)).trans (s1 i fun z => hi (List.mem_append_left _ z))
  · cases u with
    | nil => cases hg
    | cons x xs =>
      have hg : (g x e).bind (r xs) = some e' := hg
      obtain ⟨e1, h3, h4⟩ := Option.bind_eq_some_iff.mp hg
      rw [List.length_cons, List.length_cons, h2.len _ _ _ h4]
theorem dg_tup (B : Bx T N sc k W X) {ts : List Expr} {js : List Nat} {g : List Val → Env → Option Env} {kk : Nat} {pos : Pos} (h : DGs T X ts js g)
    (hn : (assignEach ts X.env).length = ts.length := by rfl) (hst : (assignEach ts X.env).findIdx? (·.1) = none := by rfl) : DG T X (.Tuple ts kk pos) js (gT g) := by
  obtain ⟨t, p, kt⟩ := h.ex
  refine ⟨gTup X.K ts.length t, pg_tup B.calm p hn hst, fun w v u σ e e' H μ Q rv er mr hg q => ?_⟩
  have hg : (tupV u).bind (fun vs => g vs e) = some e' := hg
  obtain ⟨us, h1, h2⟩ := Option.bind_eq_some_iff.mp hg
  obtain ⟨a, xs, rfl, h3, h4⟩ := mr.tup rv h1
  refine ⟨a, xs, rfl, by rw [B.K]; exact h3, by rw [h4.length]; exact h.len _ _ _ h2, ?_⟩
  exact kt w xs us σ e e' H μ Q h4 er mr h2 q
/-- a target of an assignment -/
def sAsg (g : Val → Env → Option Env) (a : EM) : SM := fun e m => (a e m).st e fun v m => match g v e with
  | some e' => .next e' m
  | Option.none => .bad
theorem ds_asg {tg e : Expr} {js : List Nat} {g : Val → Env → Option Env} {me : EM} {pos : Pos} (he : DE T W X e me) (hg : DG T X tg js g) (hs : swapsWithSole [tg] e pos.line X.env = pure false := by rfl) (hw : swappedStores [tg] e X.env = pure none := by rfl)
    (h1 : (assignEach [tg] X.env).map (·.2) = [assign tg X.env] := by rfl) : DS T W X (.Assign [tg] e pos) (sAsg g me) := by
  obtain ⟨t, p, kt⟩ := hg.ex
  refine (ps_asg he p hs hw h1).mono fun D σ H h => ?_
  obtain ⟨w, e, μ, er, mr, ok⟩ := h
  refine (OkS.go (P := VRep T) er mr ok).imp fun x H1 ⟨w1, v, μ1, le1, mr1, p1, ok1⟩ => ?_
  have ok1 : OkS T w1 (match g v e with
    | some e' => .next e' μ1
    | Option.none => .bad) D W := ok1
  split at ok1
  · rename_i e' he'
    exact kt w1 x v σ e e' H1 μ1 _ p1 (er.mono le1) mr1 he' fun σ' er' _ _ => ok1 w1 σ' H1 (Wd.Le.refl _) er' mr1
  · exact ok1.elim
end

/-! ### what is walked -/
structure Its where
  items : List Val
  guard : Option (Nat × List Val)
def GOk (g : Option (Nat × List Val)) (m : Mem) : Prop := match g with
  | Option.none => True
  | some (l, vs) => m[l]? = some (.lst vs)
def IterOk (T : Tbl) (w0 : Wd) (J : It) (it : Its) : Prop := ∀ (w : Wd) (i : Nat) (μ : Mem) (H : Hp), w0.Le w → MRel T w μ H → GOk it.guard μ →
  (∀ v, it.items[i]? = some v → J.go i H ∧ ∀ x H', J.yld i H x H' → ∃ w', w.Le w' ∧ MRel T w' μ H' ∧ VRep T w' x v) ∧ (it.items.length ≤ i → J.stop i H)
abbrev IM := Env → Mem → Res Its
def rdI (T : Tbl) (W : WX) (m : IM) : TI := fun σ H R => ∃ (w : Wd) (e : Env) (μ : Mem), ERel T w σ e ∧ MRel T w μ H ∧ (match m e μ with
  | .ok it μ' => ∀ (w' : Wd) (H' : Hp) (J : It), w.Le w' → MRel T w' μ' H' → IterOk T w' J it → R J H'
  | .exc c p μ' => ∀ (w' : Wd) (H' : Hp) (cls : Value) (d : Option Addr), w.Le w' → MRel T w' μ' H' → XRep T w' H' cls d c p → W cls d σ H'
  | .bad => False)
abbrev DI (T : Tbl) (W : WX) (X : Cx) (tg it : Expr) (m : IM) : Prop := PI X tg it (rdI T W m)
theorem _root_.L2.PI.mono {X : Cx} {tg e : Expr} {t t' : TI} (h : PI X tg e t) (k : ∀ σ H R, t' σ H R → t σ H R) : PI X tg e t' := ⟨fun pins s σ H R I q => h.run pins s σ H R I (k σ H R q)⟩
open Classical in
noncomputable def sForL (g : Option (Nat × List Val)) (tg : Val → Env → Option Env) (b : SM) : List Val → SM
  | [] => fun e μ => if GOk g μ then .next e μ else .bad
  | v :: r => fun e μ => if GOk g μ then (match tg v e with
    | some e1 => (match b e1 μ with
      | .next e2 μ2 => sForL g tg b r e2 μ2
      | q => q)
    | Option.none => .bad) else .bad
noncomputable def sFor (it : IM) (tg : Val → Env → Option Env) (b : SM) : SM := fun e μ => (it e μ).st e fun i μ => sForL i.guard tg b i.items e μ
section
variable {T : Tbl} {N : List Str} {sc : Scope} {k : Nat} {W : WX} {X : Cx}
theorem ds_for (B : Bx T N sc k W X) {tg iter : Expr} {body : List Stmt} {mi : IM} {js : List Nat} {g : Val → Env → Option Env} {mb : SM} {pos : Pos} (hi : DI T W X tg iter mi) (hg : DG T X tg js g) (hb : DSs T W X body mb)
    (hs : ∀ x, foldedSetIterable iter X.env x = pure x := by intro _; rfl) : DS T W X (.For tg iter body [] pos) (sFor mi g mb) := by
  obtain ⟨t, p, kt⟩ := hg.ex
  refine (ps_for B.po B.calm hi p hb hs).mono fun D σ H h => ?_
  obtain ⟨w, e, μ, er, mr, ok⟩ := h
  refine ⟨w, e, μ, er, mr, ?_⟩
  have ok : OkS T w ((mi e μ).st e fun i μ => sForL i.guard g mb i.items e μ) D W := ok
  cases hm : mi e μ with
  | bad =>
    rw [hm] at ok
    exact ok
  | exc c p μ' =>
    rw [hm] at ok
    exact fun w' H' cls d le R q => ok w' σ H' cls d le (er.mono le) R q
  | ok it μ' =>
    rw [hm] at ok
    intro w1 H1 J le1 mr1 iok
    have ok1 := OkS.later (show OkS T w (sForL it.guard g mb it.items e μ') D W from ok) le1
    refine ⟨fun i m σ H => m = it.items.length - i ∧ i ≤ it.items.length ∧ ∃ (w : Wd) (e : Env) (μ : Mem), w1.Le w ∧ ERel T w σ e ∧ MRel T w μ H ∧ OkS T w (sForL it.guard g mb (it.items.drop i) e μ) D W,
      ⟨it.items.length, by simp, Nat.zero_le _, w1, e, μ', Wd.Le.refl _, er.mono le1, mr1, by rw [List.drop_zero]; exact ok1⟩, ?_⟩
    rintro i m σ2 H2 ⟨rfl, hi, w2, e2, μ2, le2, er2, mr2, ok2⟩
    cases hd : it.items.drop i with
    | nil =>
      rw [hd] at ok2
      have hlen : it.items.length ≤ i := List.drop_eq_nil_iff.mp hd
      unfold sForL at ok2
      split at ok2
      · rename_i gk
        exact .inl ⟨(iok w2 i μ2 H2 le2 mr2 gk).2 hlen, ok2 w2 σ2 H2 (Wd.Le.refl _) er2 mr2⟩
      · exact ok2.elim
    | cons v r =>
      rw [hd] at ok2
      have hlt : i < it.items.length := by
        apply Classical.byContradiction
        intro z
        rw [List.drop_eq_nil_iff.mpr (by omega)] at hd
        cases hd
      have hv : it.items[i]? = some v := by
        have e := List.getElem?_drop (xs := it.items) (i := i) (j := 0)
        rw [hd] at e
        simpa using e.symm
      have hr : it.items.drop (i + 1) = r := by
        rw [← List.drop_drop, hd]
        rfl
      unfold sForL at ok2
      split at ok2
      · rename_i gk
        obtain ⟨j1, j2⟩ := (iok w2 i μ2 H2 le2 mr2 gk).1 v hv
        refine .inr ⟨j1, fun σ3 H3 => ∃ (w : Wd) (e : Env) (μ : Mem), w1.Le w ∧ ERel T w σ3 e ∧ MRel T w μ H3 ∧ OkS T w (sForL it.guard g mb r e μ) D W, fun σ' H' z => ?_, fun x H3 y => ?_⟩
        · obtain ⟨w4, e4, μ4, le4, er4, mr4, ok4⟩ := z
          exact ⟨it.items.length - (i + 1), by omega, rfl, hlt, w4, e4, μ4, le4, er4, mr4, by rw [hr]; exact ok4⟩
        · obtain ⟨w3, le3, mr3, rx⟩ := j2 x H3 y
          split at ok2
          · rename_i e3 he3
            refine kt w3 x v σ2 e2 e3 H3 μ2 _ rx (er2.mono le3) mr3 he3 fun σ3 er3 _ _ => ?_
            refine ⟨w3, e3, μ2, er3, mr3, ?_⟩
            cases hb : mb e3 μ2 with
            | next e4 m4 =>
              rw [hb] at ok2
              exact fun w' σ' H' le er' mr' => ⟨w', e4, m4, (le2.trans le3).trans le, er', mr', ok2.later (le3.trans le)⟩
            | ret v m4 =>
              rw [hb] at ok2
              exact OkS.later (r := .ret v m4) ok2 le3
            | exc c p e4 m4 =>
              rw [hb] at ok2
              exact OkS.later (r := .exc c p e4 m4) ok2 le3
            | bad =>
              rw [hb] at ok2
              exact ok2
          · exact ok2.elim
      · exact ok2.elim
end
end Fs
/-! ### made data; the store handed back; defs -/
namespace Fs
open PySem PySem.Spec L2

section
variable {T : Tbl}
theorem Wd.Le.back {w w' : Wd} (a : w.Le w') {l : Nat} {x y : Addr} (h : w.r[l]? = some x) (h' : w'.r[l]? = some y) : x = y := by
  have := a.at h
  rw [this] at h'
  exact Option.some.inj h'
mutual
/-- old places alone -/
theorem VRep.cut {w w' : Wd} (s : w.Le w') : ∀ {v : Val} {x0 x : V}, VRep T w x0 v → VRep T w' x v → VRep T ⟨w.r, w'.F⟩ x v
  | .d _, _, _, _, .d h => .d h
  | .loc l, _, _, .loc h0, .loc h => .loc (by
      have e := s.back h0 h
      rw [← e]
      exact h0)
  | .tup vs, _, _, .tup _ r0, .tup h r => .tup h (VReps.cut s r0 r)
  | .obj c vs, _, _, .obj _ _ _ _ r0, .obj h l d q r => .obj h l d q (VReps.cut s r0 r)
  | .obj c vs, _, _, .slo _ _ _ r0, .slo h d q r => .slo h d q (VReps.cut s r0 r)
  | .obj c vs, _, _, .slo _ _ q0 _, .obj _ _ _ q _ => by
      rw [q] at q0
      cases q0
  | .obj c vs, _, _, .obj _ _ _ q0 _, .slo _ _ q _ => by
      rw [q] at q0
      cases q0
  | .ro ns, _, _, _, .ro h => .ro h
theorem VReps.cut {w w' : Wd} (s : w.Le w') : ∀ {v : List Val} {x0 x : List V}, VReps T w x0 v → VReps T w' x v → VReps T ⟨w.r, w'.F⟩ x v
  | [], _, _, .nil, .nil => .nil
  | _ :: _, _, _, .cons h0 r0, .cons h r => .cons (VRep.cut s h0 h) (VReps.cut s r0 r)
end
theorem VRep.bel {w w' : Wd} (s : w.Le w') {v : Val} {x : V} (b : VBelow w.r.length v) (h : VRep T w' x v) : VRep T ⟨w.r, w'.F⟩ x v := by
  cases h with
  | d h => exact .d h
  | @loc l a h =>
    have hl : l < w.r.length := b
    have e := s.back (List.getElem?_eq_getElem hl) h
    refine .loc ?_
    rw [← e]
    exact List.getElem?_eq_getElem hl
  | tup _ _ => exact b.elim
  | obj _ _ _ _ _ => exact b.elim
  | slo _ _ _ _ => exact b.elim
  | ro _ => exact b.elim
theorem VReps.bel {w w' : Wd} (s : w.Le w') : ∀ {vs : List Val} {xs : List V}, (∀ v ∈ vs, VBelow w.r.length v) → VReps T w' xs vs → VReps T ⟨w.r, w'.F⟩ xs vs
  | [], _, _, .nil => .nil
  | v :: vs, _, b, .cons h r => .cons (h.bel s (b v (List.mem_cons_self ..))) (VReps.bel s (fun u hu => b u (List.mem_cons_of_mem _ hu)) r)
theorem VPair.bel {κ : Type} {w w' : Wd} (s : w.Le w') : ∀ {vs : List (κ × Val)} {xs : List (κ × V)}, (∀ v ∈ vs, VBelow w.r.length v.2) → VPair T w' xs vs → VPair T ⟨w.r, w'.F⟩ xs vs
  | [], _, _, .nil => .nil
  | v :: vs, _, b, .cons h r => .cons ⟨h.1, h.2.bel s (b v (List.mem_cons_self ..))⟩ (VPair.bel s (fun u hu => b u (List.mem_cons_of_mem _ hu)) r)
theorem VPair.cut {κ : Type} {w w' : Wd} (s : w.Le w') : ∀ {vs : List (κ × Val)} {x0 xs : List (κ × V)}, VPair T w x0 vs → VPair T w' xs vs → VPair T ⟨w.r, w'.F⟩ xs vs
  | [], _, _, .nil, .nil => .nil
  | v :: vs, _, _, .cons h0 r0, .cons h r => .cons ⟨h.1, VRep.cut s h0.2 h.2⟩ (VPair.cut s r0 r)
theorem CRep.cut {w w' : Wd} {H H' : Hp} {a a' : Addr} (s : w.Le w') : ∀ {c : Cell}, CRep T w H a c → CRep T w' H' a' c → CRep T ⟨w.r, w'.F⟩ H' a' c
  | .lst vs, ⟨_, _, _, r0⟩, ⟨f, xs, h, r⟩ => ⟨f, xs, h, r0.cut s r⟩
  | .dk vs, ⟨_, _, _, r0⟩, ⟨f, xs, h, r⟩ => ⟨f, xs, h, r0.cut s r⟩
  | .dt vs, ⟨_, _, _, r0⟩, ⟨f, xs, h, r⟩ => ⟨f, xs, h, r0.cut s r⟩
  | .ins c vs, ⟨_, _, _, _, _, _, _, r0⟩, ⟨f, dx, xs, h, l, o, q, r⟩ => ⟨f, dx, xs, h, l, o, q, r0.cut s r⟩
  | .frz x, _, h => h
theorem CRep.bel {w w' : Wd} {H' : Hp} {a' : Addr} (s : w.Le w') : ∀ {c : Cell}, Below w.r.length c → CRep T w' H' a' c → CRep T ⟨w.r, w'.F⟩ H' a' c
  | .lst vs, b, ⟨f, xs, h, r⟩ => ⟨f, xs, h, r.bel s b⟩
  | .dk vs, b, ⟨f, xs, h, r⟩ => ⟨f, xs, h, r.bel s b⟩
  | .dt vs, b, ⟨f, xs, h, r⟩ => ⟨f, xs, h, r.bel s b⟩
  | .ins c vs, b, ⟨f, dx, xs, h, l, o, q, r⟩ => ⟨f, dx, xs, h, l, o, q, r.bel s b⟩
  | .frz x, _, h => h
theorem MRel.trunc {w w' : Wd} {m m' : Mem} {H H' : Hp} (R : MRel T w m H) (s : w.Le w') (R' : MRel T w' m' H') : ∃ w'', w.Le w'' ∧ MRel T w'' (Fs.trunc m m') H' ∧ Sub w'.F w''.F := by
  unfold Fs.trunc
  split
  · rename_i tk
    obtain ⟨hl, hc⟩ := tk
    refine ⟨⟨w.r, w'.F⟩, ⟨⟨[], by simp⟩, s.F⟩, ⟨?_, R.inj, R'.sub, fun l a h => R'.there l a (s.at h), fun l a c h1 h2 => ?_⟩, Sub.refl _⟩
    · rw [List.length_take, R.len]
      omega
    · have hlt : l < m.length := by
        rw [← R.len]
        exact (List.getElem?_eq_some_iff.mp h1).1
      rw [List.getElem?_take_of_lt hlt] at h2
      have c' := R'.cell l a c (s.at h1) h2
      rcases hc l c hlt h2 with e | b
      · exact (R.cell l a c h1 e).cut s c'
      · exact c'.bel s (by rw [R.len]; exact b)
  · exact ⟨w', s, R', Sub.refl _⟩

/-! ### made data for ever -/
theorem zipK {F : Hp} {w : Wd} : ∀ {kvs : List (Key × Val)} {xs : List (Key × V)} {ds : List Data}, VPair T w xs kvs → DReps T F (xs.map (·.2)) ds → DRepK T F xs ((kvs.map (·.1)).zip ds)
  | [], _, _, .nil, .nil => .nil
  | (k, v) :: r, (k', x) :: xs, d :: ds, .cons h t, .cons q u => by
    have e : k' = k := h.1
    subst e
    exact .cons q (zipK t u)
theorem zipT {F : Hp} {w : Wd} : ∀ {kvs : List (List Key × Val)} {xs : List (List Key × V)} {ds : List Data}, VPair T w xs kvs → DReps T F (xs.map (·.2)) ds → DRepT T F xs ((kvs.map (·.1)).zip ds)
  | [], _, _, .nil, .nil => .nil
  | (k, v) :: r, (k', x) :: xs, d :: ds, .cons h t, .cons q u => by
    have e : k' = k := h.1
    subst e
    exact .cons q (zipT t u)
theorem VPair.snd {κ : Type} {w : Wd} : ∀ {kvs : List (κ × Val)} {xs : List (κ × V)}, VPair T w xs kvs → VReps T w (xs.map (·.2)) (kvs.map (·.2))
  | [], _, .nil => .nil
  | _ :: _, _, .cons h t => .cons h.2 (VPair.snd t)
theorem frzL_ok {H : Hp} {f : Val → Mem → Option (Data × Mem)}
    (hf : ∀ {w : Wd} {m m' : Mem} {x : V} {v : Val} {d : Data}, MRel T w m H → VRep T w x v → f v m = some (d, m') → ∃ w', w.Le w' ∧ MRel T w' m' H ∧ DRep T w'.F x d) :
    ∀ {vs : List Val} {w : Wd} {m m' : Mem} {xs : List V} {ds : List Data}, MRel T w m H → VReps T w xs vs → frzL f vs m = some (ds, m') → ∃ w', w.Le w' ∧ MRel T w' m' H ∧ DReps T w'.F xs ds := by
  intro vs
  induction vs with
  | nil =>
    intro w m m' xs ds R r e
    cases r
    cases e
    exact ⟨w, Wd.Le.refl _, R, .nil⟩
  | cons v vs ih =>
    intro w m m' xs ds R r e
    rw [frzL] at e
    obtain ⟨⟨d, m1⟩, h1, h2⟩ := Option.bind_eq_some_iff.mp e
    obtain ⟨⟨es, m2⟩, h3, h4⟩ := Option.map_eq_some_iff.mp h2
    cases h4
    cases r with
    | cons r1 r2 =>
      obtain ⟨w1, le1, R1, q1⟩ := hf R r1 h1
      obtain ⟨w2, le2, R2, q2⟩ := ih R1 (r2.mono le1) h3
      exact ⟨w2, le1.trans le2, R2, .cons (q1.mono le2.F) q2⟩
theorem frzV_ok {H : Hp} : ∀ (n : Nat) {w : Wd} {m m' : Mem} {x : V} {v : Val} {d : Data}, MRel T w m H → VRep T w x v → frzV n v m = some (d, m') → ∃ w', w.Le w' ∧ MRel T w' m' H ∧ DRep T w'.F x d := by
  intro n
  induction n with
  | zero =>
    intro w m m' x v d R r e
    cases r with
    | d h =>
      cases e
      exact ⟨w, Wd.Le.refl _, R, h⟩
    | _ => cases e
  | succ n ih =>
    intro w m m' x v d R r e
    cases r with
    | d h =>
      cases e
      exact ⟨w, Wd.Le.refl _, R, h⟩
    | ro h => cases e
    | tup h r =>
      obtain ⟨⟨ds, m1⟩, h1, h2⟩ := Option.map_eq_some_iff.mp (show (frzL (frzV n) _ m).map _ = some (d, m') from e)
      cases h2
      obtain ⟨w1, le1, R1, q1⟩ := frzL_ok ih R r h1
      exact ⟨w1, le1, R1, .tup (.of (le1.F _ _ h)) q1⟩
    | obj h l o q r =>
      obtain ⟨⟨ds, m1⟩, h1, h2⟩ := Option.map_eq_some_iff.mp (show (frzL (frzV n) _ m).map _ = some (d, m') from e)
      cases h2
      obtain ⟨w1, le1, R1, q1⟩ := frzL_ok ih R r h1
      exact ⟨w1, le1, R1, .ins (le1.F _ _ h) l (le1.F _ _ o) q q1⟩
    | slo h o q r =>
      obtain ⟨⟨ds, m1⟩, h1, h2⟩ := Option.map_eq_some_iff.mp (show (frzL (frzV n) _ m).map _ = some (d, m') from e)
      cases h2
      obtain ⟨w1, le1, R1, q1⟩ := frzL_ok ih R r h1
      exact ⟨w1, le1, R1, .slo (le1.F _ _ h) (le1.F _ _ o) q q1⟩
    | @loc l a h =>
      unfold frzV at e
      simp only at e
      split at e
      · rename_i z hz
        cases e
        exact ⟨w, Wd.Le.refl _, R, R.cell l a _ h hz⟩
      · rename_i vs hz
        obtain ⟨⟨ds, m1⟩, h1, h2⟩ := Option.bind_eq_some_iff.mp e
        dsimp only at h2
        split at h2
        · rename_i vs1 hv
          cases h2
          obtain ⟨_, xs, hH, hr⟩ := R.cell l a _ h hz
          obtain ⟨w1, le1, R1, q1⟩ := frzL_ok ih R hr h1
          have fr := (R1.cell l a _ (le1.at h) hv).free (fun _ z => nomatch z)
          obtain ⟨le2, R2⟩ := R1.fix (x := .list ds) (le1.at h) fr hH (.lst upd_same (q1.mono (Sub.upd fr)))
          exact ⟨_, le1.trans le2, R2, .lst upd_same (q1.mono le2.F)⟩
        · cases h2
      · rename_i vs hz
        obtain ⟨⟨ds, m1⟩, h1, h2⟩ := Option.bind_eq_some_iff.mp e
        dsimp only at h2
        split at h2
        · rename_i vs1 hv
          cases h2
          obtain ⟨_, xs, hH, hr⟩ := R.cell l a _ h hz
          obtain ⟨w1, le1, R1, q1⟩ := frzL_ok ih R hr.snd h1
          have fr := (R1.cell l a _ (le1.at h) hv).free (fun _ z => nomatch z)
          obtain ⟨le2, R2⟩ := R1.fix (x := .dk ((vs.map (·.1)).zip ds)) (le1.at h) fr hH (.dk upd_same (zipK hr (q1.mono (Sub.upd fr))))
          exact ⟨_, le1.trans le2, R2, .dk upd_same (zipK hr (q1.mono le2.F))⟩
        · cases h2
      · rename_i vs hz
        obtain ⟨⟨ds, m1⟩, h1, h2⟩ := Option.bind_eq_some_iff.mp e
        dsimp only at h2
        split at h2
        · rename_i vs1 hv
          cases h2
          obtain ⟨_, xs, hH, hr⟩ := R.cell l a _ h hz
          obtain ⟨w1, le1, R1, q1⟩ := frzL_ok ih R hr.snd h1
          have fr := (R1.cell l a _ (le1.at h) hv).free (fun _ z => nomatch z)
          obtain ⟨le2, R2⟩ := R1.fix (x := .dt ((vs.map (·.1)).zip ds)) (le1.at h) fr hH (.dt upd_same (zipT hr (q1.mono (Sub.upd fr))))
          exact ⟨_, le1.trans le2, R2, .dt upd_same (zipT hr (q1.mono le2.F))⟩
        · cases h2
      · rename_i c fs hz
        obtain ⟨⟨ds, m1⟩, h1, h2⟩ := Option.bind_eq_some_iff.mp e
        dsimp only at h2
        split at h2
        · rename_i c1 vs1 hv
          cases h2
          obtain ⟨_, dx, xs, hH, hl, hd, hs, hr⟩ := R.cell l a _ h hz
          obtain ⟨w1, le1, R1, q1⟩ := frzL_ok ih R hr h1
          have fr := (R1.cell l a _ (le1.at h) hv).free (fun _ z => nomatch z)
          obtain ⟨le2, R2⟩ := R1.fix (x := .ins c ds) (le1.at h) fr hH (.ins upd_same hl (Sub.upd fr _ _ (le1.F _ _ hd)) hs (q1.mono (Sub.upd fr)))
          exact ⟨_, le1.trans le2, R2, .ins upd_same hl (le2.F _ _ (le1.F _ _ hd)) hs (q1.mono le2.F)⟩
        · cases h2
      · cases e

/-! ### a call's end -/
theorem callF_ok {fz : Bool} {f : Fn} {us : List Val} {w : Wd} {μ : Mem} {H : Hp} {Q : VK} {E : XK} (R : MRel T w μ H) (ok : OkR T (VRep T) w (callF fz f us μ) Q E) : OkR T (VRep T) w (f us μ) Q E := by
  cases fz with
  | false => exact ok
  | true =>
    unfold callF at ok
    dsimp only at ok
    cases hf : f us μ with
    | bad =>
      rw [hf] at ok
      exact ok
    | exc c p m' =>
      rw [hf] at ok
      intro w' H' cls d le R' ⟨x1, dx, xs, x2, x3, x4⟩
      obtain ⟨w'', le'', R'', s⟩ := R.trunc le R'
      exact ok w'' H' cls d le'' R'' ⟨x1, dx, xs, x2, x3, x4.mono s⟩
    | ok v m' =>
      rw [hf] at ok
      dsimp only at ok
      intro w' H' x le R' r
      split at ok
      · rename_i d m2 hz
        obtain ⟨w1, le1, R1, q1⟩ := frzV_ok 9 R' r hz
        obtain ⟨w'', le'', R'', s⟩ := R.trunc (le.trans le1) R1
        exact ok w'' H' x le'' R'' (.d (q1.mono s))
      · exact ok.elim
end

/-! ### a def's promise -/
def spM (T : Tbl) (n : Nat) (f : Fn) : Sp := fun vs H Q E => ∃ (w : Wd) (μ : Mem) (us : List Val), MRel T w μ H ∧ VReps T w vs us ∧ us.length = n ∧ OkR T (VRep T) w (f us μ) Q E
/-- a def that stands at a and keeps the machine f -/
structure FnAt (T : Tbl) (k : Nat) (a : Addr) (ps : List Str) (f : Fn) : Prop where
  ex : ∃ fd : FuncData, FnOk T.P T.w T.K T.mg T.base (L2.CX T.P T.w) k a fd ps (spM T ps.length f) ∧ Binds T.K fd ps []
  kp : PySem.W.keepIn T.K (.ref a) = true
/-- a body as a def: n names -/
def fnM (n : Nat) (body : SM) : Fn := fun us μ => match body (us.map some ++ List.replicate (n - us.length) none) μ with
  | .ret v m => .ok v m
  | .next _ m => .ok (.d .none) m
  | .exc c p _ m => .exc c p m
  | .bad => .bad
section
variable {T : Tbl}
theorem start_rel {w : Wd} {vs : List V} {us : List Val} {N : List Str} (r : VReps T w vs us) : ERel T w (L2.start N vs) (us.map some ++ List.replicate (N.length - us.length) none) := by
  unfold L2.start
  rw [r.length]
  refine ⟨by simp [r.length], fun i v h => ?_⟩
  by_cases hi : i < us.length
  · rw [List.getElem?_append_left (by simpa using hi), List.getElem?_map] at h
    cases e : us[i]? with
    | none =>
      rw [e] at h
      cases h
    | some u =>
      rw [e] at h
      cases h
      obtain ⟨x, h1, h2⟩ := r.get e
      refine ⟨x, ?_, h2⟩
      rw [List.getElem?_append_left (by simpa [r.length] using hi), List.getElem?_map, h1]
      rfl
  · rw [List.getElem?_append_right (by simpa using hi), List.getElem?_replicate] at h
    split at h
    · cases h
    · cases h
/-- a def's own frame -/
structure Fx (X : Cx) : Prop where
  st : X.stack = X.env :: X.outer
  fr : X.env.frame = some X.env.locals
theorem fn_ok {x qual : Str} {params : Arguments} {body : List Stmt} {scope : Scope} {dvs : List V} {kws : List (Str × V)} {a : Addr} {fd : FuncData} {N ps : List Str} {k : Nat} {m : SM}
    (F : FunD T.K x qual params body scope dvs kws a fd) (S : FnScope N ps scope) (h : ∀ (X : Cx) (W : WX), Bx T N scope k W X → Fx X → DSs T W X body m) : FnOk T.P T.w T.K T.mg T.base (L2.CX T.P T.w) (k + 1) a fd ps (spM T ps.length (fnM N.length m)) := by
  refine F.ok S (fun vs H Q E z => ?_) (fun cdv A outer s H vs Q E hr z => ?_)
  · obtain ⟨w, μ, us, mr, r, l, ok⟩ := z
    rw [r.length, l]
  · refine ⟨rdS T (fun cls d _ H => E cls d H) m, h _ _ ⟨rfl, rfl, rfl, rfl, rfl, rfl, rfl, S.nd, rfl, hr, takes_of rfl rfl rfl rfl, passes_of rfl, fun _ _ => .inl rfl⟩ ⟨rfl, rfl⟩, ?_⟩
    obtain ⟨w, μ, us, mr, r, l, ok⟩ := z
    refine ⟨w, _, μ, start_rel r, mr, ?_⟩
    have ok : OkR T (VRep T) w (match m (us.map some ++ List.replicate (N.length - us.length) none) μ with
      | .ret v m => .ok v m
      | .next _ m => .ok (.d .none) m
      | .exc c p _ m => .exc c p m
      | .bad => .bad) Q E := ok
    cases hm : m (us.map some ++ List.replicate (N.length - us.length) none) μ with
    | ret v m1 =>
      rw [hm] at ok
      exact ok
    | next e1 m1 =>
      rw [hm] at ok
      exact fun w' σ' H' le er' mr' => ok w' H' _ le mr' rNone
    | exc c p e1 m1 =>
      rw [hm] at ok
      exact fun w' σ' H' cls d le er' mr' q => ok w' H' cls d le mr' q
    | bad =>
      rw [hm] at ok
      exact ok
theorem fn_at {x qual : Str} {params : Arguments} {body : List Stmt} {scope : Scope} {dvs : List V} {kws : List (Str × V)} {a : Addr} {fd : FuncData} {N ps : List Str} {k : Nat} {m : SM}
    (F : FunD T.K x qual params body scope dvs kws a fd) (S : FnScope N ps scope) (hb : Binds T.K fd ps []) (h : ∀ (X : Cx) (W : WX), Bx T N scope k W X → Fx X → DSs T W X body m) : FnAt T (k + 1) a ps (fnM N.length m) :=
  ⟨⟨fd, fn_ok F S h, hb⟩, F.kp⟩
end

/-! ### calls -/
section
variable {T : Tbl} {N : List Str} {sc : Scope} {k : Nat} {W : WX} {X : Cx}
/-- a def is called with values -/
theorem run_at (B : Bx T N sc k W X) {j : Nat} {a : Addr} {ps : List Str} {f : Fn} (F : FnAt T j a ps f) (hj : j ≤ k) {pins : List (Addr × Obj)} {σ : L2.St} {H : Hp} {s : Shared} {Q : VK} {us : List Value} {xs : List V} {w : Wd} {μ : Mem} {vs : List Val}
    (I : Inv X pins σ H s) (r : Vals xs us) (mr : MRel T w μ H) (rv : VReps T w xs vs) (hl : vs.length = ps.length) (ok : OkR T (VRep T) w (f vs μ) Q (fun c d H' => W c d σ H')) : wpAny (model X.prog X.w) X.A (call (.ref a) us) (EP X pins σ Q) X.xe s := by
  obtain ⟨fd, G, hb⟩ := F.ex
  have G' : FnOk X.prog X.w X.K X.mg X.base (L2.CX X.prog X.w) j a fd ps (spM T ps.length f) := by
    rw [B.P, B.w, B.K, B.mg, B.base]
    exact G
  exact run_fnSD (dvs := []) (ds := []) (E := fun σ => WE W σ) G' (B.room.mono hj) (by rw [B.K]; exact hb) .nil (passAt B.tk σ) I r ⟨w, μ, vs, mr, by rw [List.append_nil]; exact rv, hl, ok⟩
/-- f(e, ..) of n arguments -/
noncomputable def eCall (n : Nat) (fz : Bool) (f : Fn) (a : AM) : EM := fun e μ => (a e μ).bind fun xs μ => if xs.length = n then callF fz f xs μ else .bad
theorem de_call (B : Bx T N sc k W X) (fz : Bool) {j n : Nat} {a : Addr} {ps : List Str} {f : Fn} {x : Str} {p pos : Pos} {e : Expr} {es : List Expr} {ma : AM} (F : FnAt T j a ps f) (hj : j ≤ k) (hg : sc.names.lookup x = some NameKind.globalImplicit) (hm : T.mg x = some (.ref a)) (ha : DA T W X (e :: es) ma) (hn : ps.length = n)
    (hdb : (x == ("__debug__" : Str)) = false := by decide) (he : starEach (e :: es) X.env = (false, eval e X.env) :: starEach es X.env := by rfl) (hpl : (backTo pos (starEach es X.env)).any (·.1) = false := by rfl) : DE T W X (.Call (.Name x p) (e :: es) [] pos) (eCall n fz f ma) := by
  refine ⟨fun pins s σ H Q I h => ?_⟩
  obtain ⟨w, en, μ, er, mr, ok⟩ := h
  refine wpAny_Call_Name_kw (ld_glob I (show X.env.scope.names.lookup x = _ by rw [B.hsc]; exact hg) (by rw [B.mg]; exact hm) ?_ hdb)
  refine PySem.W.callWith_K (h₀ := X.base) I.ok.mod.kin (by rw [B.K]; exact F.kp) (thn (ha.run pos pins s σ H _ I (OkR.go (P := VReps T) er mr ok)) fun us s1 ⟨vs, H1, I1, r, w1, as, μ1, le1, mr1, p1, ok1⟩ => ⟨I1.kIn, ?_⟩) he hpl
  have ok1 : OkR T (VRep T) w1 (if as.length = n then callF fz f as μ1 else .bad) Q (fun c d H' => W c d σ H') := ok1
  split at ok1
  · rename_i hl
    exact run_at B F hj I1 r mr1 p1 (by rw [hn]; exact hl) (callF_ok mr1 ok1)
  · exact ok1.elim
end
end Fs
/-! ### built-in calls, methods, indexes, walks -/
namespace Fs
open PySem PySem.Spec L2

section
variable {T : Tbl} {N : List Str} {sc : Scope} {k : Nat} {W : WX} {X : Cx}
/-- a built-in function | class of its name -/
theorem de_bi (B : Bx T N sc k W X) {f : Fn} {id : String} {r : List V → Hp → VK → Prop} {x : Str} {p pos : Pos} {e : Expr} {es : List Expr} {ma : AM} (hc : CallR X (.builtin id) r) (hf : SndA T r f) (hg : sc.names.lookup x = some NameKind.globalImplicit) (hm : T.mg x = none)
    (hv : bootBuiltins x = some (.builtin id)) (ha : DA T W X (e :: es) ma) (hn : x ≠ "__name__" := by decide) (hdb : (x == ("__debug__" : Str)) = false := by decide)
    (he : starEach (e :: es) X.env = (false, eval e X.env) :: starEach es X.env := by rfl) (hpl : (backTo pos (starEach es X.env)).any (·.1) = false := by rfl) : DE T W X (.Call (.Name x p) (e :: es) [] pos) (eArgs f ma) := by
  refine (pe_callB hc (show X.env.scope.names.lookup x = _ by rw [B.hsc]; exact hg) (by rw [B.mg]; exact hm) hv ha hn hdb he hpl).mono fun σ H Q h => ?_
  obtain ⟨w, en, μ, er, mr, ok⟩ := h
  refine (OkR.go (P := VReps T) er mr ok).imp fun xs H1 ⟨w1, vs, μ1, le1, mr1, p1, ok1⟩ => ?_
  exact hf w1 μ1 H1 xs vs Q _ mr1 p1 ok1
theorem de_ty (B : Bx T N sc k W X) {f : Fn} {id : String} {r : List V → Hp → VK → Prop} {x : Str} {p pos : Pos} {e : Expr} {es : List Expr} {ma : AM} (hc : CallR X (.type id) r) (hf : SndA T r f) (hg : sc.names.lookup x = some NameKind.globalImplicit) (hm : T.mg x = none)
    (hv : bootBuiltins x = some (.type id)) (ha : DA T W X (e :: es) ma) (hn : x ≠ "__name__" := by decide) (hdb : (x == ("__debug__" : Str)) = false := by decide)
    (he : starEach (e :: es) X.env = (false, eval e X.env) :: starEach es X.env := by rfl) (hpl : (backTo pos (starEach es X.env)).any (·.1) = false := by rfl) : DE T W X (.Call (.Name x p) (e :: es) [] pos) (eArgs f ma) := by
  refine (pe_callTy hc (show X.env.scope.names.lookup x = _ by rw [B.hsc]; exact hg) (by rw [B.mg]; exact hm) hv ha hn hdb he hpl).mono fun σ H Q h => ?_
  obtain ⟨w, en, μ, er, mr, ok⟩ := h
  refine (OkR.go (P := VReps T) er mr ok).imp fun xs H1 ⟨w1, vs, μ1, le1, mr1, p1, ok1⟩ => ?_
  exact hf w1 μ1 H1 xs vs Q _ mr1 p1 ok1
end

/-! ### len, abs, min, max, int, str, list, tuple -/
def lenV : Fn := fun vs m => match vs with
  | [.d (.str s)] => if 16777216 < s.length then .bad else .ok (.d (.int s.length)) m
  | [v] => match seqV m v with
    | some xs => .ok (.d (.int xs.length)) m
    | Option.none => .bad
  | _ => .bad
def absV : Fn := fun vs m => match vs with
  | [.d (.int i)] => .ok (.d (.int (if i < 0 then -i else i))) m
  | _ => .bad
def minV : Fn := fun vs m => match vs with
  | [.d (.int i), .d (.int j)] => .ok (.d (.int (if j < i then j else i))) m
  | _ => .bad
def maxV : Fn := fun vs m => match vs with
  | [.d (.int i), .d (.int j)] => .ok (.d (.int (if j > i then j else i))) m
  | _ => .bad
def intV : Fn := fun vs m => match vs with
  | [.d (.int i)] => .ok (.d (.int i)) m
  | [.d (.bool b)] => .ok (.d (.int (if b then 1 else 0))) m
  | _ => .bad
def strV : Fn := fun vs m => match vs with
  | [.d (.int i)] => if i.natAbs.log2 < 1920 then .ok (.d (.str (toString i : String))) m else .bad
  | _ => .bad
def listV (b : Bool) : Fn := fun vs m => match vs with
  | [v] => match seqV m v with
    | some xs => mkL b xs m
    | Option.none => .bad
  | _ => .bad
def tupleV : Fn := fun vs m => match vs with
  | [v] => match lstV m v with
    | some xs => mkT xs m
    | Option.none => match tupV v with
      | some _ => .ok v m
      | Option.none => .bad
  | _ => .bad
section
variable {T : Tbl} {X : Cx}
theorem reps1 {w : Wd} {xs : List V} {v : Val} (h : VReps T w xs [v]) : ∃ x, xs = [x] ∧ VRep T w x v := by
  cases h with
  | cons h t => cases t; exact ⟨_, rfl, h⟩
theorem reps2 {w : Wd} {xs : List V} {v u : Val} (h : VReps T w xs [v, u]) : ∃ x y, xs = [x, y] ∧ VRep T w x v ∧ VRep T w y u := by
  cases h with
  | cons h t =>
    cases t with
    | cons h2 t => cases t; exact ⟨_, _, rfl, h, h2⟩
theorem snd_len : SndA T (fun xs H Q => ∃ x n, xs = [x] ∧ LenV T.K x H n ∧ Q (.int n) H) lenV := by
  intro w m H xs vs Q E R r ok
  unfold lenV at ok
  split at ok
  · rename_i s
    obtain ⟨x, rfl, h⟩ := reps1 r
    split at ok
    · exact ok.elim
    · rename_i hl
      obtain rfl := h.str
      exact ⟨_, s.length, rfl, ⟨by rw [sizeLine_eq]; omega, rfl⟩, ok.ok R (rInt _)⟩
  · rename_i v _
    obtain ⟨x, rfl, h⟩ := reps1 r
    split at ok
    · rename_i us hu
      obtain ⟨a, ys, rfl, h1, h2⟩ := R.seq h hu
      refine ⟨_, ys.length, rfl, ?_, by rw [h2.length]; exact ok.ok R (rInt _)⟩
      rcases h1 with h1 | h1
      · exact .inl ⟨ys, h1, rfl⟩
      · exact .inr ⟨ys, h1, rfl⟩
    · exact ok.elim
  · exact ok.elim
theorem snd_abs : SndA T (fun xs H Q => ∃ i, xs = [.int i] ∧ Q (.int (if i < 0 then -i else i)) H) absV := by
  intro w m H xs vs Q E R r ok
  unfold absV at ok
  split at ok
  · rename_i i
    obtain ⟨x, rfl, h⟩ := reps1 r
    obtain rfl := h.int
    exact ⟨i, rfl, ok.ok R (rInt _)⟩
  · exact ok.elim
theorem snd_min : SndA T (fun xs H Q => ∃ i j, xs = [.int i, .int j] ∧ Q (.int (if j < i then j else i)) H) minV := by
  intro w m H xs vs Q E R r ok
  unfold minV at ok
  split at ok
  · rename_i i j
    obtain ⟨x, y, rfl, h, h'⟩ := reps2 r
    obtain rfl := h.int
    obtain rfl := h'.int
    exact ⟨i, j, rfl, ok.ok R (rInt _)⟩
  · exact ok.elim
theorem snd_max : SndA T (fun xs H Q => ∃ i j, xs = [.int i, .int j] ∧ Q (.int (if j > i then j else i)) H) maxV := by
  intro w m H xs vs Q E R r ok
  unfold maxV at ok
  split at ok
  · rename_i i j
    obtain ⟨x, y, rfl, h, h'⟩ := reps2 r
    obtain rfl := h.int
    obtain rfl := h'.int
    exact ⟨i, j, rfl, ok.ok R (rInt _)⟩
  · exact ok.elim
theorem snd_int : SndA T (fun xs H Q => (∃ i, xs = [.int i] ∧ Q (.int i) H) ∨ ∃ k, xs = [.bl k] ∧ Q (.int (if k then 1 else 0)) H) intV := by
  intro w m H xs vs Q E R r ok
  unfold intV at ok
  split at ok
  · rename_i i
    obtain ⟨x, rfl, h⟩ := reps1 r
    obtain rfl := h.int
    exact .inl ⟨i, rfl, ok.ok R (rInt _)⟩
  · rename_i b
    obtain ⟨x, rfl, h⟩ := reps1 r
    obtain rfl := h.bl
    exact .inr ⟨b, rfl, ok.ok R (rInt _)⟩
  · exact ok.elim
theorem snd_str : SndA T (fun xs H Q => ∃ i : Int, xs = [.int i] ∧ i.natAbs.log2 < 1920 ∧ Q (.str (toString i)) H) strV := by
  intro w m H xs vs Q E R r ok
  unfold strV at ok
  split at ok
  · rename_i i
    obtain ⟨x, rfl, h⟩ := reps1 r
    obtain rfl := h.int
    split at ok
    · rename_i hz
      exact ⟨i, rfl, hz, ok.ok R (rStr _)⟩
    · exact ok.elim
  · exact ok.elim
theorem snd_list (b : Bool) : SndA T (fun xs H Q => ∃ p ys, xs = [.ref p] ∧ (SqL T.K H p ys ∨ SqT T.K H p ys) ∧ ∀ l, H l = none → Q (.ref l) (upd H l (.lst ys))) (listV b) := by
  intro w m H xs vs Q E R r ok
  unfold listV at ok
  split at ok
  · rename_i v
    obtain ⟨x, rfl, h⟩ := reps1 r
    split at ok
    · rename_i us hu
      obtain ⟨a, ys, rfl, h1, h2⟩ := R.seq h hu
      exact ⟨a, ys, rfl, h1, (mkL_ok R h2 ok).2⟩
    · exact ok.elim
  · exact ok.elim
theorem snd_tuple : SndA T (fun xs H Q => ∃ p ys, xs = [.ref p] ∧ ((SqL T.K H p ys ∧ ∀ l, H l = none → Q (.ref l) (upd H l (.tup ys))) ∨ (SqT T.K H p ys ∧ Q (.ref p) H))) tupleV := by
  intro w m H xs vs Q E R r ok
  unfold tupleV at ok
  split at ok
  · rename_i v
    obtain ⟨x, rfl, h⟩ := reps1 r
    split at ok
    · rename_i us hu
      obtain ⟨a, ys, rfl, h1, h2⟩ := R.lst h hu
      exact ⟨a, ys, rfl, .inl ⟨.of h1, (mkT_ok R h2 ok).2⟩⟩
    · split at ok
      · rename_i us hu
        obtain ⟨a, ys, rfl, h1, h2⟩ := R.tup h hu
        exact ⟨a, ys, rfl, .inr ⟨h1, ok.ok R h⟩⟩
      · exact ok.elim
  · exact ok.elim
end

/-! ### isinstance with a built-in class -/
def kind (m : Mem) : Val → Option String
  | .d .none => some "NoneType"
  | .d (.bool _) => some "bool"
  | .d (.int _) => some "int"
  | .d (.str _) => some "str"
  | .d (.list _) => some "list"
  | .d (.tup _) => some "tuple"
  | .d (.dk _) => some "dict"
  | .d (.dt _) => some "dict"
  | .tup _ => some "tuple"
  | .loc l => match m[l]? with
    | some (.lst _) => some "list"
    | some (.dk _) => some "dict"
    | some (.dt _) => some "dict"
    | _ => Option.none
  | _ => Option.none
/-- the answer of isinstance(a thing of type a, b) -/
def subK (a b : String) : Bool := a == b || (a == "bool" && b == "int")
def kinds : List String := ["NoneType", "bool", "int", "str", "list", "tuple", "dict"]
theorem kit_all : (kinds.all fun a => ["bool", "int", "str", "list", "tuple", "dict"].all fun b => kitB a b == some (subK a b)) = true := by decide +kernel
theorem kit_sub {K : PySem.W.Frag} {a b : String} (ha : a ∈ kinds) (hb : b ∈ ["bool", "int", "str", "list", "tuple", "dict"]) : PySem.W.kitOne K (.type a) (.type b) = some (subK a b) := by
  have h := List.all_eq_true.mp (List.all_eq_true.mp kit_all a ha) b hb
  exact kit_ty (eq_of_beq h)
def eIsi (b : String) (a : EM) : EM := fun e μ => (a e μ).bind fun x μ => match kind μ x with
  | some t => .ok (.d (.bool (subK t b))) μ
  | Option.none => .bad
section
variable {T : Tbl} {N : List Str} {sc : Scope} {k : Nat} {W : WX} {X : Cx}
theorem tupTy {K : PySem.W.Frag} {H : Hp} {a : Addr} {xs : List V} (h : SqT K H a xs) : TyX K H (.ref a) (.type "tuple") := by
  rcases h with (h | ⟨o, h⟩) | ⟨o, its, n, h1, h2, _⟩
  · exact .base (.tup h)
  · exact .fTuple h
  · exact .kTuple h1 h2
theorem kind_ok {w : Wd} {m : Mem} {H : Hp} {x : V} {v : Val} {t : String} (R : MRel T w m H) (h : VRep T w x v) (e : kind m v = some t) : TyX T.K H x (.type t) ∧ t ∈ kinds := by
  cases h with
  | d h =>
    cases h with
    | non => cases e; exact ⟨.base .non, by decide⟩
    | bl b => cases e; exact ⟨.base (.bl b), by decide⟩
    | int i => cases e; exact ⟨.base (.int i), by decide⟩
    | str s => cases e; exact ⟨.base (.str s), by decide⟩
    | lst h r => cases e; exact ⟨.base (.lst (R.sub _ _ h)), by decide⟩
    | tup h r => cases e; exact ⟨tupTy (R.sub.sqT h), by decide⟩
    | dk h r => cases e; exact ⟨.base (.dK (R.sub _ _ h)), by decide⟩
    | dt h r => cases e; exact ⟨.base (.dT (R.sub _ _ h)), by decide⟩
    | ins _ _ _ _ _ => cases e
    | slo _ _ _ _ => cases e
  | @loc l a h =>
    have e : (match m[l]? with
      | some (.lst _) => some "list"
      | some (.dk _) => some "dict"
      | some (.dt _) => some "dict"
      | _ => Option.none) = some t := e
    split at e
    · rename_i q
      cases e
      obtain ⟨_, xs, h1, _⟩ := R.cell l a _ h q
      exact ⟨.base (.lst h1), by decide⟩
    · rename_i q
      cases e
      obtain ⟨_, xs, h1, _⟩ := R.cell l a _ h q
      exact ⟨.base (.dK h1), by decide⟩
    · rename_i q
      cases e
      obtain ⟨_, xs, h1, _⟩ := R.cell l a _ h q
      exact ⟨.base (.dT h1), by decide⟩
    · cases e
  | tup h r => cases e; exact ⟨.base (.tup (R.sub _ _ h)), by decide⟩
  | obj _ _ _ _ _ => cases e
  | slo _ _ _ _ => cases e
  | ro _ => cases e
theorem de_isi (B : Bx T N sc k W X) (b : String) {p p2 pos : Pos} {y : Str} {e : Expr} {me : EM} (he : DE T W X e me) (hg : sc.names.lookup ("isinstance" : Str) = some NameKind.globalImplicit) (hm : T.mg ("isinstance" : Str) = none) (hg2 : sc.names.lookup y = some NameKind.globalImplicit) (hm2 : T.mg y = none)
    (hv : bootBuiltins y = some (.type b)) (hb : b ∈ ["bool", "int", "str", "list", "tuple", "dict"]) (hn : y ≠ "__name__" := by decide) (hdb : (y == ("__debug__" : Str)) = false := by decide)
    (hs : starEach [e, .Name y p2] X.env = (false, eval e X.env) :: starEach [.Name y p2] X.env := by rfl) : DE T W X (.Call (.Name "isinstance" p) [e, .Name y p2] [] pos) (eIsi b me) := by
  have p2 : PE X (.Name y p2) (tC (.ty b)) := pe_bltn (show X.env.scope.names.lookup y = _ by rw [B.hsc]; exact hg2) (by rw [B.mg]; exact hm2) hv rfl hn hdb
  refine (pe_callB call_isi (show X.env.scope.names.lookup _ = _ by rw [B.hsc]; exact hg) (by rw [B.mg]; exact hm) PyProof.Rows.boot_isinstance (pa_cons he (pa_cons p2 pa_nil) hs) (he := hs)).mono fun σ H Q h => ?_
  obtain ⟨w, en, μ, er, mr, ok⟩ := h
  refine (OkR.go (P := VRep T) er mr ok).imp fun x H1 ⟨w1, v, μ1, le1, mr1, p1, ok1⟩ => ?_
  have ok1 : OkR T (VRep T) w1 (match kind μ1 v with
    | some t => .ok (.d (.bool (subK t b))) μ1
    | Option.none => .bad) Q (fun c d H' => W c d σ H') := ok1
  split at ok1
  · rename_i t ht
    obtain ⟨h1, h2⟩ := kind_ok mr1 p1 ht
    exact ⟨x, .ty b, _, _, _, rfl, .ty b, by rw [B.K]; exact h1, kit_sub h2 hb, ok1.ok mr1 (rBool _)⟩
  · exact ok1.elim
end

/-! ### indexes, slices -/
def idxV (x y : Val) (m : Mem) : Res Val := match x, y with
  | .d (.str z), .d (.int i) => if 16777216 < z.length then .bad else match atI z.cps.toList i with
    | some c => .ok (.d (.str ⟨#[c]⟩)) m
    | Option.none => .bad
  | x, .d (.int i) => match (seqV m x).bind fun xs => atI xs i with
    | some v => .ok (norm m v) m
    | Option.none => .bad
  | _, _ => .bad
section
variable {T : Tbl} {N : List Str} {sc : Scope} {k : Nat} {W : WX} {X : Cx}
theorem VReps.atI {w : Wd} {xs : List V} {vs : List Val} {i : Int} {v : Val} (r : VReps T w xs vs) (h : L2.atI vs i = some v) : ∃ x, L2.atI xs i = some x ∧ VRep T w x v := by
  unfold L2.atI at h ⊢
  obtain ⟨j, h1, h2⟩ := Option.bind_eq_some_iff.mp h
  obtain ⟨x, h3, h4⟩ := r.get h2
  exact ⟨x, Option.bind_eq_some_iff.mpr ⟨j, by rw [r.length]; exact h1, h3⟩, h4⟩
theorem snd_idx : Snd2 T (rIx T.K) idxV := by
  intro w m H x y v u Q E R rx ry ok
  unfold idxV at ok
  split at ok
  · rename_i z i
    split at ok
    · exact ok.elim
    · rename_i hl
      split at ok
      · rename_i c hc
        exact .inr (.inr ⟨z, i, c, rx.str, ry.int, by rw [sizeLine_eq]; omega, hc, ok.ok R (rStr _)⟩)
      · exact ok.elim
  · rename_i i _
    split at ok
    · rename_i v' hv
      obtain ⟨us, h1, h2⟩ := Option.bind_eq_some_iff.mp hv
      obtain ⟨a, ys, rfl, h3, h4⟩ := R.seq rx h1
      obtain ⟨x, h5, h6⟩ := h4.atI h2
      have q := ok.ok R (h6.norm R)
      rcases h3 with h3 | h3
      · exact .inl ⟨a, ys, i, x, rfl, ry.int, h3, h5, q⟩
      · exact .inr (.inl ⟨a, ys, i, x, rfl, ry.int, h3, h5, q⟩)
    · exact ok.elim
  · exact ok.elim
theorem de_idx (B : Bx T N sc k W X) {a b : Expr} {ma mb : EM} {pos : Pos} (ha : DE T W X a ma) (hb : DE T W X b mb) (hs : PlainIx b := by intro _ _; rfl) : DE T W X (.Subscript a b pos) (eBin idxV ma mb) :=
  (pe_ix ix_seq ha hb hs).mono fun σ H Q h => rd_bin (by rw [B.K]; exact snd_idx) h
/-- a slice's part: nothing or an int -/
abbrev OM := Env → Mem → Res (Option Int)
def oNone : OM := fun _ μ => .ok Option.none μ
def asI : Val → Option Int
  | .d (.int i) => some i
  | _ => Option.none
def oSome (a : EM) : OM := fun e μ => (a e μ).bind fun x μ => match asI x with
  | some i => .ok (some i) μ
  | Option.none => .bad
theorem asI_rep {T : Tbl} {w : Wd} {x : V} {v : Val} {i : Int} (h : VRep T w x v) (e : asI v = some i) : x = .int i := by
  cases h with
  | d h =>
    cases h with
    | int c =>
      cases e
      rfl
    | _ => cases e
  | _ => cases e
def ORep : Wd → Option Int → Option Int → Prop := fun _ a b => a = b
abbrev DO (T : Tbl) (W : WX) (X : Cx) (e : Option Expr) (m : OM) : Prop := PO X e (rdG T ORep W m)
theorem _root_.L2.PO.mono {X : Cx} {e : Option Expr} {t t' : TO} (h : PO X e t) (k : ∀ σ H Q, t' σ H Q → t σ H Q) : PO X e t' := ⟨fun pins s σ H Q I q => h.run pins s σ H Q I (k σ H Q q)⟩
theorem do_none : DO T W X none oNone := po_none.mono fun σ H Q h => by
  obtain ⟨w, e, μ, er, mr, ok⟩ := h
  exact ok w H none (Wd.Le.refl _) mr rfl
theorem do_some {e : Expr} {me : EM} (he : DE T W X e me) : DO T W X (some e) (oSome me) := by
  refine (po_some he).mono fun σ H Q h => ?_
  obtain ⟨w, e, μ, er, mr, ok⟩ := h
  refine (OkR.go (P := VRep T) er mr ok).imp fun x H1 ⟨w1, v, μ1, le1, mr1, p1, ok1⟩ => ?_
  have ok1 : OkR T ORep w1 (match asI v with
    | some i => .ok (some i) μ1
    | Option.none => .bad) Q (fun c d H' => W c d σ H') := ok1
  split at ok1
  · rename_i i hi
    exact ⟨i, asI_rep p1 hi, ok1 w1 H1 _ (Wd.Le.refl _) mr1 rfl⟩
  · exact ok1.elim
/-- the part of a list of things -/
def cutL (xs : List Val) (lo hi : Option Int) : List Val := (xs.drop (HT.sIx xs.length 0 lo)).take (HT.sIx xs.length xs.length hi - HT.sIx xs.length 0 lo)
def slcV (b : Bool) (x : Val) (lo hi : Option Int) (m : Mem) : Res Val := match x with
  | .d (.str z) => if 16777216 < z.length then .bad else .ok (.d (.str (cutS z lo hi))) m
  | x => match lstV m x with
    | some xs => mkL b (cutL xs lo hi) m
    | Option.none => match tupV x with
      | some xs => if HT.sIx xs.length 0 lo = 0 ∧ HT.sIx xs.length xs.length hi = xs.length then .ok x m else mkT (cutL xs lo hi) m
      | Option.none => .bad
def eSlc (b : Bool) (a : EM) (lo hi : OM) : EM := fun e μ => (a e μ).bind fun x μ => (lo e μ).bind fun l μ => (hi e μ).bind fun h μ => slcV b x l h μ
theorem VReps.cutL {w : Wd} {xs : List V} {vs : List Val} (r : VReps T w xs vs) (lo hi : Option Int) : VReps T w (cutV xs lo hi) (Fs.cutL vs lo hi) := by
  unfold cutV Fs.cutL
  rw [r.length]
  exact (r.drop _).take _
theorem de_slc (B : Bx T N sc k W X) (b : Bool) {e : Expr} {lo hi : Option Expr} {me : EM} {ml mh : OM} {pos p2 : Pos} (he : DE T W X e me) (hl : DO T W X lo ml) (hh : DO T W X hi mh) : DE T W X (.Subscript e (.Slice lo hi none p2) pos) (eSlc b me ml mh) := by
  refine (pe_slice (SlR.or sl_str (SlR.or sl_list sl_tupA)) he hl hh).mono fun σ H Q h => ?_
  obtain ⟨w, en, μ, er, mr, ok⟩ := h
  refine (OkR.go (P := VRep T) er mr ok).imp fun x H1 ⟨w1, v, μ1, le1, mr1, p1, ok1⟩ => ?_
  refine (OkR.go (P := ORep) (er.mono le1) mr1 ok1).imp fun l H2 ⟨w2, l', μ2, le2, mr2, p2, ok2⟩ => ?_
  obtain rfl : l = l' := p2
  refine (OkR.go (P := ORep) ((er.mono le1).mono le2) mr2 ok2).imp fun u H3 ⟨w3, u', μ3, le3, mr3, p3, ok3⟩ => ?_
  obtain rfl : u = u' := p3
  have p4 := (p1.mono le2).mono le3
  clear ok1 ok2 ok
  unfold slcV at ok3
  split at ok3
  · split at ok3
    · exact ok3.elim
    · rename_i hz
      exact .inl ⟨_, p4.str, by rw [sizeLine_eq]; omega, ok3.ok mr3 (rStr _)⟩
  · split at ok3
    · rename_i us hu
      obtain ⟨a, ys, rfl, h1, h2⟩ := mr3.lst p4 hu
      exact .inr (.inl ⟨a, ys, rfl, .of h1, (mkL_ok mr3 (h2.cutL l u) ok3).2⟩)
    · split at ok3
      · rename_i us hu
        obtain ⟨a, ys, rfl, h1, h2⟩ := mr3.tup p4 hu
        refine .inr (.inr ⟨a, ys, rfl, by rw [B.K]; exact h1, fun z => ?_, fun z => ?_⟩)
        · rw [h2.length] at z
          rw [if_pos z] at ok3
          exact ok3.ok mr3 p4
        · rw [h2.length] at z
          rw [if_neg z] at ok3
          exact (mkT_ok mr3 (h2.cutL l u) ok3).2
      · exact ok3.elim
end

/-! ### methods of lists and texts -/
/-- o.m(e, ..), a built-in method: ty, what the object must be when it is looked up -/
def eBm (ty : Mem → Val → Bool) (f : Val → List Val → Mem → Res Val) (a : EM) (b : AM) : EM := fun e μ => (a e μ).bind fun x μ => if ty μ x = true then (b e μ).bind fun xs μ => f x xs μ else .bad
def isL (m : Mem) (v : Val) : Bool := (lstV m v).isSome
def isS (_ : Mem) (v : Val) : Bool := match v with
  | .d (.str _) => true
  | _ => false
def SndM (T : Tbl) (r : V → List V → Hp → VK → Prop) (f : Val → List Val → Mem → Res Val) : Prop := ∀ (w : Wd) (m : Mem) (H : Hp) (x : V) (v : Val) (xs : List V) (vs : List Val) (Q : VK) (E : XK), MRel T w m H → VRep T w x v → VReps T w xs vs → OkR T (VRep T) w (f v vs m) Q E → r x xs H Q
def SndTy (T : Tbl) (id : String) (ty : Mem → Val → Bool) : Prop := ∀ (w : Wd) (m : Mem) (H : Hp) (x : V) (v : Val), MRel T w m H → VRep T w x v → ty m v = true → tyV T.K id x H
section
variable {T : Tbl} {N : List Str} {sc : Scope} {k : Nat} {W : WX} {X : Cx}
theorem ty_list : SndTy T "list" isL := by
  intro w m H x v R r h
  obtain ⟨us, hu⟩ := Option.isSome_iff_exists.mp h
  obtain ⟨a, ys, rfl, h1, h2⟩ := R.lst r hu
  exact .inl ⟨rfl, ys, .of h1⟩
theorem ty_str : SndTy T "str" isS := by
  intro w m H x v R r h
  unfold isS at h
  split at h
  · obtain rfl := r.str
    exact rfl
  · cases h
theorem de_bm (B : Bx T N sc k W X) {ty : Mem → Val → Bool} {f : Val → List Val → Mem → Res Val} {Ty id : String} {name : Str} {r : V → List V → Hp → VK → Prop} {o e : Expr} {es : List Expr} {mo : EM} {ma : AM} {apos cpos : Pos}
    (pa : PlainAttrs Ty) (slot : Slot Ty name id) (hty : typeOf (.builtin id) = pure (.type "method_descriptor")) (hm : MtR X id r) (ht : SndTy T Ty ty) (hf : SndM T r f) (ho : DE T W X o mo) (ha : DA T W X (e :: es) ma)
    (hbase : attributeBase o name X.env (eval o X.env) = eval o X.env := by rfl)
    (hfew : ((backTo cpos (starEach (e :: es) X.env)).all (fun x => !x.1) && (backToKw cpos (keywordEach [] X.env)).all (fun x => x.1.isSome)
      && decide ((e :: es).length + ([] : List Keyword).length + (if ([] : List Keyword).isEmpty then 0 else 1) < 30)) = true := by rfl)
    (hline : (apos.endLine == cpos.line) = true := by rfl) (hs : starEach (e :: es) X.env = (false, eval e X.env) :: starEach es X.env := by rfl) (hplain : (backTo cpos (starEach es X.env)).any (·.1) = false := by rfl) :
    DE T W X (.Call (.Attribute o name apos) (e :: es) [] cpos) (eBm ty f mo ma) := by
  refine (pe_bm pa slot hty hm ho ha hbase hfew hline hs hplain).mono fun σ H Q h => ?_
  obtain ⟨w, en, μ, er, mr, ok⟩ := h
  refine (OkR.go (P := VRep T) er mr ok).imp fun x H1 ⟨w1, v, μ1, le1, mr1, p1, ok1⟩ => ?_
  have ok1 : OkR T (VRep T) w1 (if ty μ1 v = true then (ma en μ1).bind fun xs μ => f v xs μ else .bad) Q (fun c d H' => W c d σ H') := ok1
  split at ok1
  · rename_i ht'
    refine ⟨by rw [B.K]; exact ht w1 μ1 H1 x v mr1 p1 ht', ?_⟩
    refine (OkR.go (P := VReps T) (er.mono le1) mr1 ok1).imp fun xs H2 ⟨w2, vs, μ2, le2, mr2, p2, ok2⟩ => ?_
    exact hf w2 μ2 H2 x v xs vs Q _ mr2 (p1.mono le2) p2 ok2
  · exact ok1.elim
theorem de_bm0 (B : Bx T N sc k W X) {ty : Mem → Val → Bool} {f : Val → List Val → Mem → Res Val} {Ty id : String} {name : Str} {r : V → List V → Hp → VK → Prop} {o : Expr} {mo : EM} {apos cpos : Pos}
    (pa : PlainAttrs Ty) (slot : Slot Ty name id) (hty : typeOf (.builtin id) = pure (.type "method_descriptor")) (hm : MtR X id r) (ht : SndTy T Ty ty) (hf : SndM T r f) (ho : DE T W X o mo)
    (hbase : attributeBase o name X.env (eval o X.env) = eval o X.env := by rfl) (hline : (apos.endLine == cpos.line) = true := by rfl) :
    DE T W X (.Call (.Attribute o name apos) [] [] cpos) (eBm ty f mo aNil) := by
  refine (pe_bm0 pa slot hty hm ho hbase hline).mono fun σ H Q h => ?_
  obtain ⟨w, en, μ, er, mr, ok⟩ := h
  refine (OkR.go (P := VRep T) er mr ok).imp fun x H1 ⟨w1, v, μ1, le1, mr1, p1, ok1⟩ => ?_
  have ok1 : OkR T (VRep T) w1 (if ty μ1 v = true then (aNil en μ1).bind fun xs μ => f v xs μ else .bad) Q (fun c d H' => W c d σ H') := ok1
  split at ok1
  · rename_i ht'
    exact ⟨by rw [B.K]; exact ht w1 μ1 H1 x v mr1 p1 ht', hf w1 μ1 H1 x v [] [] Q _ mr1 p1 .nil ok1⟩
  · exact ok1.elim
/-- the list at a place -/
def atL (m : Mem) (v : Val) : Option (Nat × List Val) := match v with
  | .loc l => match m[l]? with
    | some (.lst vs) => some (l, vs)
    | _ => Option.none
  | _ => Option.none
theorem atL_ok {w : Wd} {m : Mem} {H : Hp} {x : V} {v : Val} {l : Nat} {vs : List Val} (R : MRel T w m H) (h : VRep T w x v) (e : atL m v = some (l, vs)) : ∃ a xs, x = .ref a ∧ H a = some (.lst xs) ∧ VReps T w xs vs ∧ xs.length ≤ xs.length ∧
    ∀ {ys : List V} {us : List Val}, VReps T w ys us → MRel T w (m.set l (.lst us)) (upd H a (.lst ys)) := by
  cases h with
  | @loc l' a h =>
    have e : (match m[l']? with
      | some (.lst vs) => some (l', vs)
      | _ => Option.none) = some (l, vs) := e
    split at e
    · rename_i q
      cases e
      obtain ⟨f, xs, h1, h2⟩ := R.cell l a _ h q
      exact ⟨a, xs, rfl, h1, h2, Nat.le_refl _, fun r => R.write h f ⟨f, _, upd_same, r⟩⟩
    · cases e
  | _ => cases e
def appV (x : Val) (vs : List Val) (m : Mem) : Res Val := match atL m x, vs with
  | some (l, us), [v] => if us.length < 16777216 then .ok (.d .none) (m.set l (.lst (us ++ [v]))) else .bad
  | _, _ => .bad
def popAtV (x : Val) (vs : List Val) (m : Mem) : Res Val := match atL m x, vs with
  | some (l, us), [.d (.int i)] => if 0 ≤ i ∧ i < us.length ∧ us.length ≤ 16777216 then (match us[i.toNat]? with
    | some v => .ok v (m.set l (.lst (us.eraseIdx i.toNat)))
    | Option.none => .bad) else .bad
  | _, _ => .bad
def popV (x : Val) (vs : List Val) (m : Mem) : Res Val := match atL m x, vs with
  | some (l, us), [] => (match us[us.length - 1]? with
    | some v => .ok v (m.set l (.lst us.dropLast))
    | Option.none => .bad)
  | _, _ => .bad
def insV (x : Val) (vs : List Val) (m : Mem) : Res Val := match atL m x, vs with
  | some (l, us), [.d (.int i), v] => if us.length < 16777216 ∧ 0 ≤ i ∧ i < 2 ^ 63 then .ok (.d .none) (m.set l (.lst (us.take i.toNat ++ [v] ++ us.drop i.toNat))) else .bad
  | _, _ => .bad
theorem snd_app : SndM T rAppend appV := by
  intro w m H x v xs vs Q E R r rs ok
  unfold appV at ok
  split at ok
  · rename_i l us u hl
    obtain ⟨a, ys, rfl, h1, h2, _, h3⟩ := atL_ok R r hl
    obtain ⟨y, rfl, h4⟩ := reps1 rs
    split at ok
    · rename_i hz
      exact ⟨a, ys, y, rfl, rfl, h1, by rw [h2.length, sizeLine_eq]; exact hz, ok.ok (h3 (h2.append (.cons h4 .nil))) rNone⟩
    · exact ok.elim
  · exact ok.elim
theorem snd_popAt : SndM T rPopAt popAtV := by
  intro w m H x v xs vs Q E R r rs ok
  unfold popAtV at ok
  split at ok
  · rename_i l us i hl
    obtain ⟨a, ys, rfl, h1, h2, _, h3⟩ := atL_ok R r hl
    obtain ⟨y, rfl, h4⟩ := reps1 rs
    obtain rfl := h4.int
    split at ok
    · rename_i hi
      split at ok
      · rename_i u hu
        obtain ⟨z, h5, h6⟩ := h2.get hu
        refine ⟨a, ys, i, i.toNat, z, rfl, rfl, h1, by omega, by omega, ?_, h5, ok.ok (h3 (h2.erase _)) h6⟩
        exact PySem.StrLaws.seqIndex_nonneg hi.1 (by rw [h2.length]; exact hi.2.1)
      · exact ok.elim
    · exact ok.elim
  · exact ok.elim
theorem VReps.dropLast {w : Wd} : ∀ {xs : List V} {us : List Val}, VReps T w xs us → VReps T w xs.dropLast us.dropLast
  | _, _, .nil => .nil
  | _, _, .cons _ .nil => .nil
  | _, _, .cons h (.cons h2 t) => .cons h (VReps.dropLast (.cons h2 t))
theorem snd_pop : SndM T rPop popV := by
  intro w m H x v xs vs Q E R r rs ok
  unfold popV at ok
  split at ok
  · rename_i l us hl
    obtain ⟨a, ys, rfl, h1, h2, _, h3⟩ := atL_ok R r hl
    cases rs
    split at ok
    · rename_i u hu
      obtain ⟨z, h5, h6⟩ := h2.get hu
      exact ⟨a, ys, z, rfl, rfl, h1, by rw [h2.length]; exact h5, ok.ok (h3 h2.dropLast) h6⟩
    · exact ok.elim
  · exact ok.elim
theorem snd_ins : SndM T (fun x vs H Q => ∃ (l : Addr) (xs : List V) (i : Int) (y : V), x = .ref l ∧ vs = [.int i, y] ∧ H l = some (.lst xs) ∧ xs.length < sizeLine ∧ 0 ≤ i ∧ i < 2 ^ 63 ∧
    Q .non (upd H l (.lst (xs.take i.toNat ++ [y] ++ xs.drop i.toNat)))) insV := by
  intro w m H x v xs vs Q E R r rs ok
  unfold insV at ok
  split at ok
  · rename_i l us i u hl
    obtain ⟨a, ys, rfl, h1, h2, _, h3⟩ := atL_ok R r hl
    obtain ⟨y, z, rfl, h4, h5⟩ := reps2 rs
    obtain rfl := h4.int
    split at ok
    · rename_i hz
      exact ⟨a, ys, i, z, rfl, rfl, h1, by rw [h2.length, sizeLine_eq]; exact hz.1, hz.2.1, hz.2.2, ok.ok (h3 (((h2.take _).append (.cons h5 .nil)).append (h2.drop _))) rNone⟩
    · exact ok.elim
  · exact ok.elim
/-- texts alone -/
def asS : Val → Option Str
  | .d (.str s) => some s
  | _ => Option.none
def joinV (x : Val) (vs : List Val) (m : Mem) : Res Val := match x, vs with
  | .d (.str a), [v] => match (seqV m v).bind (mapO asS) with
    | some ys => if 16777216 < (ys.map (·.length)).sum + ys.length * a.length then .bad else .ok (.d (.str (Txt.join a ys))) m
    | Option.none => .bad
  | _, _ => .bad
theorem strs_of {w : Wd} : ∀ {xs : List V} {vs : List Val} {ys : List Str}, VReps T w xs vs → mapO asS vs = some ys → xs = ys.map V.str
  | _, _, _, .nil, e => by
    cases e
    rfl
  | _, _, _, .cons h t, e => by
    rw [mapO] at e
    obtain ⟨s, h1, h2⟩ := Option.bind_eq_some_iff.mp e
    obtain ⟨ss, h3, h4⟩ := Option.map_eq_some_iff.mp h2
    subst h4
    unfold asS at h1
    split at h1
    · cases h1
      obtain rfl := h.str
      rw [strs_of t h3]
      rfl
    · cases h1
theorem snd_join : SndM T (fun x xs H Q => ∃ a p, ∃ ys : List Str, x = .str a ∧ xs = [.ref p] ∧ (SqL T.K H p (ys.map V.str) ∨ SqT T.K H p (ys.map V.str)) ∧
    (ys.map (·.length)).sum + ys.length * a.length ≤ 16777216 ∧ Q (.str (Txt.join a ys)) H) joinV := by
  intro w m H x v xs vs Q E R r rs ok
  unfold joinV at ok
  split at ok
  · rename_i a u
    obtain ⟨y, rfl, h4⟩ := reps1 rs
    split at ok
    · rename_i ys hy
      obtain ⟨us, h1, h2⟩ := Option.bind_eq_some_iff.mp hy
      obtain ⟨p, zs, rfl, h3, h5⟩ := R.seq h4 h1
      split at ok
      · exact ok.elim
      · rename_i hz
        obtain rfl := strs_of h5 h2
        exact ⟨a, p, ys, r.str, rfl, h3, by omega, ok.ok R (rStr _)⟩
    · exact ok.elim
  · exact ok.elim
/-- a.split(b) -/
def splitV (b : Bool) (x : Val) (vs : List Val) (m : Mem) : Res Val := match x, vs with
  | .d (.str a), [.d (.str c)] => if (c.length == 0) = false ∧ a.length + 2 ≤ 16777216 then mkL b ((Txt.split a c).map fun s => .d (.str s)) m else .bad
  | _, _ => .bad
theorem strs_rep {w : Wd} : ∀ ys : List Str, VReps T w (ys.map V.str) (ys.map fun s => .d (.str s))
  | [] => .nil
  | s :: r => .cons (rStr s) (strs_rep r)
theorem snd_split (b : Bool) : SndM T (fun x xs H Q => ∃ a b, x = .str a ∧ xs = [.str b] ∧ (b.length == 0) = false ∧ a.length + 2 ≤ sizeLine ∧ rNewStrs (Txt.split a b) H Q) (splitV b) := by
  intro w m H x v xs vs Q E R r rs ok
  unfold splitV at ok
  split at ok
  · rename_i a c
    obtain ⟨y, rfl, h4⟩ := reps1 rs
    obtain rfl := h4.str
    split at ok
    · rename_i hz
      exact ⟨a, c, r.str, rfl, hz.1, by rw [sizeLine_eq]; exact hz.2, (mkL_ok R (strs_rep _) ok).2⟩
    · exact ok.elim
  · exact ok.elim

/-! ### xs[i] = v -/
def setIx (x y v : Val) (e : Env) (m : Mem) : SRes := match atL m x, y with
  | some (l, us), .d (.int i) => (match ixN us.length i with
    | some j => .next e (m.set l (.lst (us.set j v)))
    | Option.none => .bad)
  | _, _ => .bad
def sSetIx (a b c : EM) : SM := fun e m => (c e m).st e fun v m => (a e m).st e fun x m => (b e m).st e fun y m => setIx x y v e m
theorem ds_setIx {o i e : Expr} {mo mi me : EM} {pos p2 : Pos} (ho : DE T W X o mo) (hi : DE T W X i mi) (he : DE T W X e me) (hs : swapsWithSole [.Subscript o i p2] e pos.line X.env = pure false := by rfl) (hw : swappedStores [.Subscript o i p2] e X.env = pure none := by rfl)
    (h1 : (assignEach [.Subscript o i p2] X.env).map (·.2) = [assign (.Subscript o i p2) X.env] := by rfl)
    (ha : ∀ v, assign (.Subscript o i p2) X.env v = (do
      let ov ← holding [v] (eval o X.env)
      let iv ← holding [v, ov] (eval i X.env)
      standAt p2
      holding [v, ov, iv] (setItem ov iv v)
      release [v, ov, iv] []) := by intro _; rfl) : DS T W X (.Assign [.Subscript o i p2] e pos) (sSetIx mo mi me) := by
  refine (ps_asg he (pg_sub ho hi set_list ha) hs hw h1).mono fun D σ H h => ?_
  obtain ⟨w, en, μ, er, mr, ok⟩ := h
  refine (OkS.go (P := VRep T) er mr ok).imp fun x H1 ⟨w1, v, μ1, le1, mr1, p1, ok1⟩ => ?_
  refine (OkS.go (P := VRep T) (er.mono le1) mr1 ok1).imp fun y H2 ⟨w2, u, μ2, le2, mr2, p2, ok2⟩ => ?_
  refine (OkS.go (P := VRep T) ((er.mono le1).mono le2) mr2 ok2).imp fun z H3 ⟨w3, t, μ3, le3, mr3, p3, ok3⟩ => ?_
  have ok3 : OkS T w3 (setIx u t v en μ3) D W := ok3
  clear ok1 ok2 ok
  unfold setIx at ok3
  split at ok3
  · rename_i l us i' hl _
    obtain ⟨a, ys, rfl, h1, h2, _, h3⟩ := atL_ok mr3 (p2.mono le3) hl
    split at ok3
    · rename_i j hj
      refine ⟨a, ys, i', j, rfl, p3.int, h1, by rw [h2.length]; exact hj, ?_⟩
      exact ok3 w3 σ _ (Wd.Le.refl _) (((er.mono le1).mono le2).mono le3) (h3 (h2.set ((p1.mono le2).mono le3) j))
    · exact ok3.elim
  · exact ok3.elim
end

/-! ### walks -/
section
variable {T : Tbl} {N : List Str} {sc : Scope} {k : Nat} {W : WX} {X : Cx}
/-- a walk of a value -/
def iOf (f : Val → Mem → Option Its) (a : EM) : IM := fun e μ => (a e μ).bind fun x μ => match f x μ with
  | some i => .ok i μ
  | Option.none => .bad
/-- what a walk over a value gives -/
def SndI (T : Tbl) (r : V → Hp → (It → Hp → Prop) → Prop) (f : Val → Mem → Option Its) : Prop := ∀ (w : Wd) (m : Mem) (H : Hp) (x : V) (v : Val) (i : Its) (R : It → Hp → Prop), MRel T w m H → VRep T w x v → f v m = some i → (∀ J, IterOk T w J i → R J H) → r x H R
theorem di_of {f : Val → Mem → Option Its} {r : V → Hp → (It → Hp → Prop) → Prop} {tg e e' : Expr} {me : EM} (h : ∀ te, PE X e te → PI X tg e' (fun σ H R => te σ H fun x H1 => r x H1 R)) (hf : SndI T r f) (he : DE T W X e me) : DI T W X tg e' (iOf f me) := by
  refine (h _ he).mono fun σ H R h => ?_
  obtain ⟨w, en, μ, er, mr, ok⟩ := h
  refine ⟨w, en, μ, er, mr, ?_⟩
  have ok : (match (me en μ).bind fun x μ => (match f x μ with
    | some i => (.ok i μ : Res Its)
    | Option.none => .bad) with
    | .ok it μ' => ∀ (w' : Wd) (H' : Hp) (J : It), w.Le w' → MRel T w' μ' H' → IterOk T w' J it → R J H'
    | .exc c p μ' => ∀ (w' : Wd) (H' : Hp) (cls : Value) (d : Option Addr), w.Le w' → MRel T w' μ' H' → XRep T w' H' cls d c p → W cls d σ H'
    | .bad => False) := ok
  cases hm : me en μ with
  | bad =>
    rw [hm] at ok
    exact ok
  | exc c p m =>
    rw [hm] at ok
    exact ok
  | ok v m =>
    rw [hm] at ok
    simp only [Res.bind_ok] at ok
    intro w' H' x le R' rx
    split at ok
    · rename_i it μ' q
      split at q
      · rename_i i hi
        cases q
        exact hf w' _ H' x v _ R R' rx hi fun J hJ => ok w' H' J le R' hJ
      · cases q
    · rename_i q
      split at q
      · cases q
      · cases q
    · exact ok.elim
/-- the items of a list | a tuple; a place that is walked must stand -/
def itL (v : Val) (m : Mem) : Option Its := match atL m v with
  | some (l, vs) => some ⟨vs, some (l, vs)⟩
  | Option.none => (lstV m v).map fun vs => ⟨vs, Option.none⟩
def itT (v : Val) (_ : Mem) : Option Its := (tupV v).map fun vs => ⟨vs, Option.none⟩
end
end Fs
/-! ### walks, module names -/
namespace Fs
open PySem PySem.Spec L2
section
variable {T : Tbl} {N : List Str} {sc : Scope} {k : Nat} {W : WX} {X : Cx}

/-! ### a walk over a list, a tuple, a text -/
/-- what a for asks of a list, a tuple or a text -/
def anyW (K : PySem.W.Frag) (x : V) (H : Hp) (R : It → Hp → Prop) : Prop :=
  (∃ a xs, x = .ref a ∧ SqL K H a xs ∧ R (Itl K a) H) ∨ (∃ a xs, x = .ref a ∧ SqT K H a xs ∧ R (Itt K a) H) ∨ ∃ z, x = .str z ∧ R (L2.Its z) H
theorem pi_any {X : Cx} {tg l : Expr} {tl : TE} (hl : PE X l tl) : PI X tg l (fun σ H R => tl σ H fun x H1 => anyW X.K x H1 R) := by
  refine ⟨fun pins s σ H R I h => thn (hl.run pins s σ H _ I h) fun v s1 ⟨x, H1, I1, r1, q1⟩ => ?_⟩
  rcases q1 with ⟨a, xs, e, hq, q⟩ | ⟨a, xs, e, hq, q⟩ | ⟨z, e, q⟩
  · subst e
    obtain rfl : v = Value.ref a := r1
    obtain ⟨its, rv, p, hz⟩ := I1.list hq
    exact wpAny_pyIter_list p.isList (pi_one (tk := s1.toks) I1 _ (turn_list a _) ⟨_, Heap.get?_push_size _ rfl, rfl, rfl⟩ q)
  · subst e
    obtain rfl : v = Value.ref a := r1
    obtain ⟨its, rv, p, hz⟩ := I1.tuple hq
    exact wpAny_pyIter_tuple (show s1.heap.IsTuple a its.toArray from p) (pi_one (tk := s1.toks) I1 _ (turn_tuple a _) ⟨_, Heap.get?_push_size _ rfl, rfl, rfl⟩ q)
  · subst e
    obtain ⟨t, rfl⟩ := r1
    by_cases ha : z.cps.all (· < 128) = true
    · exact wpAny_pyIter_ascii ha (pi_one (tk := s1.toks) I1 _ (turn_str _ z t "str_ascii_iterator" (.inl rfl)) ⟨_, Heap.get?_push_size _ rfl, rfl, rfl⟩ q)
    · exact wpAny_pyIter_wide (eq_false_of_ne_true ha) (pi_one (tk := s1.toks) I1 _ (turn_str _ z t "str_iterator" (.inr rfl)) ⟨_, Heap.get?_push_size _ rfl, rfl, rfl⟩ q)
/-- the items that a value gives; a place must stand as it is -/
def itA (v : Val) (m : Mem) : Option Its := match v with
  | .d (.str z) => some ⟨z.cps.toList.map fun c => .d (.str ⟨#[c]⟩), Option.none⟩
  | .loc l => (lstV m (.loc l)).map fun vs => ⟨vs, some (l, vs)⟩
  | v => (seqV m v).map fun vs => ⟨vs, Option.none⟩
theorem iter_lst {w : Wd} {a : Addr} {xs : List V} {vs : List Val} {g : Option (Nat × List Val)} (r : VReps T w xs vs)
    (h : ∀ (w' : Wd) (μ : Mem) (H : Hp), w.Le w' → MRel T w' μ H → GOk g μ → ∃ ys, SqL T.K H a ys ∧ VReps T w' ys vs) : IterOk T w (Itl T.K a) ⟨vs, g⟩ := by
  intro w1 i μ H le R gk
  obtain ⟨ys, h1, h2⟩ := h w1 μ H le R gk
  refine ⟨fun v hv => ?_, fun hl => ⟨ys, h1, by rw [h2.length]; exact hl⟩⟩
  obtain ⟨y, h3, h4⟩ := h2.get hv
  refine ⟨⟨ys, y, h1, h3⟩, fun x H' z => ?_⟩
  obtain ⟨rfl, q⟩ := z
  have e := q ys h1
  rw [h3] at e
  cases e
  exact ⟨w1, Wd.Le.refl _, R, h4⟩
theorem iter_tup {w : Wd} {a : Addr} {xs : List V} {vs : List Val} (r : VReps T w xs vs) (h : SqT T.K w.F a xs) : IterOk T w (Itt T.K a) ⟨vs, Option.none⟩ := by
  intro w1 i μ H le R _
  have h1 : SqT T.K H a xs := R.sub.sqT (le.F.sqT h)
  have h2 := r.mono le
  refine ⟨fun v hv => ?_, fun hl => ⟨xs, h1, by rw [h2.length]; exact hl⟩⟩
  obtain ⟨y, h3, h4⟩ := h2.get hv
  refine ⟨⟨xs, y, h1, h3⟩, fun x H' z => ?_⟩
  obtain ⟨rfl, q⟩ := z
  have e := q xs h1
  rw [h3] at e
  cases e
  exact ⟨w1, Wd.Le.refl _, R, h4⟩
theorem iter_str {w : Wd} {z : Str} : IterOk T w (L2.Its z) ⟨z.cps.toList.map fun c => .d (.str ⟨#[c]⟩), Option.none⟩ := by
  intro w1 i μ H le R _
  refine ⟨fun v hv => ?_, fun hl => ?_⟩
  · have hv : (z.cps.toList.map fun c => Val.d (.str ⟨#[c]⟩))[i]? = some v := hv
    rw [List.getElem?_map, Option.map_eq_some_iff] at hv
    obtain ⟨c, h1, rfl⟩ := hv
    rw [Array.getElem?_toList] at h1
    refine ⟨(Array.getElem?_eq_some_iff.mp h1).1, fun x H' y => ?_⟩
    obtain ⟨rfl, c', h2, rfl⟩ := y
    rw [h1] at h2
    cases h2
    exact ⟨w1, Wd.Le.refl _, R, .d (.str _)⟩
  · have hl : (z.cps.toList.map fun c => Val.d (.str ⟨#[c]⟩)).length ≤ i := hl
    rw [List.length_map, Array.length_toList] at hl
    exact hl
theorem sndi_any : SndI T (anyW T.K) itA := by
  intro w m H x v i R mr rx hi hR
  cases rx with
  | d h =>
    cases h with
    | str z =>
      cases hi
      exact .inr (.inr ⟨z, rfl, hR _ iter_str⟩)
    | @lst a xs ds h r =>
      cases hi
      exact .inl ⟨a, xs, rfl, .of (mr.sub _ _ h), hR _ (iter_lst r.vals fun w' μ H le R' _ => ⟨xs, .of (R'.sub _ _ (le.F _ _ h)), r.vals.mono le⟩)⟩
    | @tup a xs ds h r =>
      cases hi
      exact .inr (.inl ⟨a, xs, rfl, mr.sub.sqT h, hR _ (iter_tup r.vals h)⟩)
    | _ => cases hi
  | @loc l a h =>
    obtain ⟨vs, h1, h2⟩ := Option.map_eq_some_iff.mp (show (lstV m (.loc l)).map _ = some i from hi)
    subst h2
    obtain ⟨b, xs, e, h3, h4⟩ := mr.lst (.loc h) h1
    cases e
    refine .inl ⟨a, xs, rfl, .of h3, hR _ (iter_lst h4 fun w' μ H le R' gk => ?_)⟩
    obtain ⟨_, ys, h5, h6⟩ := R'.cell l a _ (le.at h) (show μ[l]? = some (.lst vs) from gk)
    exact ⟨ys, .of h5, h6⟩
  | @tup a xs vs h r =>
    cases hi
    exact .inr (.inl ⟨a, xs, rfl, .of (mr.sub _ _ h), hR _ (iter_tup r (.of h))⟩)
  | obj h l d q r => cases hi
  | slo h d q r => cases hi
  | @ro a ns h =>
    cases hi
    refine .inl ⟨a, _, rfl, mr.sub.sqL h, hR _ (iter_lst (VReps.ints ns) fun w' μ H le R' _ => ⟨_, R'.sub.sqL (le.F.sqL h), (VReps.ints ns).mono le⟩)⟩
theorem di_any (B : Bx T N sc k W X) {tg e : Expr} {me : EM} (he : DE T W X e me) : DI T W X tg e (iOf itA me) :=
  di_of (r := anyW T.K) (fun te h => by rw [← B.K]; exact pi_any h) sndi_any he

/-! ### range, enumerate, reversed -/
def rngIts (lo : Int) (n : Nat) : Its := ⟨(List.range n).map fun i => .d (.int (lo + (i : Nat))), Option.none⟩
theorem iter_rng {w : Wd} {lo : Int} {n : Nat} : IterOk T w (Itr lo n) (rngIts lo n) := by
  intro w1 i μ H le R _
  refine ⟨fun v hv => ?_, fun hl => ?_⟩
  · have hv : ((List.range n).map fun i => Val.d (.int (lo + (i : Nat))))[i]? = some v := hv
    rw [List.getElem?_map, Option.map_eq_some_iff] at hv
    obtain ⟨j, h1, rfl⟩ := hv
    obtain ⟨h2, h3⟩ := List.getElem?_eq_some_iff.mp h1
    rw [List.getElem_range] at h3
    subst h3
    rw [List.length_range] at h2
    refine ⟨h2, fun x H' y => ?_⟩
    obtain ⟨rfl, rfl⟩ := y
    exact ⟨w1, Wd.Le.refl _, R, .d (.int _)⟩
  · have hl : ((List.range n).map fun i => Val.d (.int (lo + (i : Nat)))).length ≤ i := hl
    rw [List.length_map, List.length_range] at hl
    exact hl
/-- arguments to a walk -/
def iArg (f : List Val → Mem → Option Its) (a : AM) : IM := fun e μ => (a e μ).bind fun x μ => match f x μ with
  | some i => .ok i μ
  | Option.none => .bad
def SndIA (T : Tbl) (r : List V → Hp → (It → Hp → Prop) → Prop) (f : List Val → Mem → Option Its) : Prop := ∀ (w : Wd) (m : Mem) (H : Hp) (x : List V) (v : List Val) (i : Its) (R : It → Hp → Prop), MRel T w m H → VReps T w x v → f v m = some i → (∀ J, IterOk T w J i → R J H) → r x H R
theorem di_arg {f : List Val → Mem → Option Its} {r : List V → Hp → (It → Hp → Prop) → Prop} {tg e : Expr} {es : List Expr} {me : AM} (h : ∀ te, PA X es te → PI X tg e (fun σ H R => te σ H fun x H1 => r x H1 R)) (hf : SndIA T r f) (he : DA T W X es me) : DI T W X tg e (iArg f me) := by
  refine (h _ he).mono fun σ H R h => ?_
  obtain ⟨w, en, μ, er, mr, ok⟩ := h
  refine ⟨w, en, μ, er, mr, ?_⟩
  have ok : (match (me en μ).bind fun x μ => (match f x μ with
    | some i => (.ok i μ : Res Its)
    | Option.none => .bad) with
    | .ok it μ' => ∀ (w' : Wd) (H' : Hp) (J : It), w.Le w' → MRel T w' μ' H' → IterOk T w' J it → R J H'
    | .exc c p μ' => ∀ (w' : Wd) (H' : Hp) (cls : Value) (d : Option Addr), w.Le w' → MRel T w' μ' H' → XRep T w' H' cls d c p → W cls d σ H'
    | .bad => False) := ok
  cases hm : me en μ with
  | bad =>
    rw [hm] at ok
    exact ok
  | exc c p m =>
    rw [hm] at ok
    exact ok
  | ok v m =>
    rw [hm] at ok
    simp only [Res.bind_ok] at ok
    intro w' H' x le R' rx
    split at ok
    · rename_i it μ' q
      split at q
      · rename_i i hi
        cases q
        exact hf w' _ H' x v _ R R' rx hi fun J hJ => ok w' H' J le R' hJ
      · cases q
    · rename_i q
      split at q
      · cases q
      · cases q
    · exact ok.elim
def big : Int := 4611686018427387904
def rngA (vs : List Val) (_ : Mem) : Option Its := match vs with
  | [.d (.int j)] => if (-big ≤ j ∧ j < big) then some (rngIts 0 j.toNat) else Option.none
  | _ => Option.none
def rng2 (vs : List Val) (_ : Mem) : Option Its := match vs with
  | [.d (.int i), .d (.int j)] => if (-big ≤ i ∧ i < big ∧ -big ≤ j ∧ j < big) then some (rngIts i (j - i).toNat) else Option.none
  | _ => Option.none
theorem sndi_rng1 : SndIA T (fun vs H R => ∃ j : Int, vs = [.int j] ∧ -(2 ^ 62) ≤ j ∧ j < 2 ^ 62 ∧ R (Itr 0 j.toNat) H) rngA := by
  intro w m H xs vs i R mr rx hi hR
  unfold rngA at hi
  split at hi
  · rename_i j
    obtain ⟨x, rfl, h⟩ := reps1 rx
    obtain rfl := h.int
    split at hi
    · rename_i h1
      cases hi
      unfold big at h1
      exact ⟨j, rfl, by omega, by omega, hR _ iter_rng⟩
    · cases hi
  · cases hi
theorem sndi_rng2 : SndIA T (fun vs H R => ∃ i j : Int, vs = [.int i, .int j] ∧ (-(2 ^ 62) ≤ i ∧ i < 2 ^ 62 ∧ -(2 ^ 62) ≤ j ∧ j < 2 ^ 62) ∧ R (Itr i (j - i).toNat) H) rng2 := by
  intro w m H xs vs it R mr rx hi hR
  unfold rng2 at hi
  split at hi
  · rename_i i j
    obtain ⟨x, y, rfl, h, h'⟩ := reps2 rx
    obtain rfl := h.int
    obtain rfl := h'.int
    split at hi
    · rename_i h1
      cases hi
      unfold big at h1
      exact ⟨i, j, rfl, by omega, hR _ iter_rng⟩
    · cases hi
  · cases hi
theorem di_range1 (B : Bx T N sc k W X) {tg a : Expr} {ma : AM} {p pos : Pos} (hg : sc.names.lookup ("range" : Str) = some NameKind.globalImplicit) (hm : T.mg ("range" : Str) = none) (ha : DA T W X [a] ma) (hs : starEach [a] X.env = [(false, eval a X.env)] := by rfl) :
    DI T W X tg (.Call (.Name "range" p) [a] [] pos) (iArg rngA ma) :=
  di_arg (fun te h => pi_range1 (show X.env.scope.names.lookup _ = _ by rw [B.hsc]; exact hg) (by rw [B.mg]; exact hm) h hs) sndi_rng1 ha
theorem di_range2 (B : Bx T N sc k W X) {tg a b : Expr} {ma : AM} {p pos : Pos} (hg : sc.names.lookup ("range" : Str) = some NameKind.globalImplicit) (hm : T.mg ("range" : Str) = none) (ha : DA T W X [a, b] ma) (hs : starEach [a, b] X.env = [(false, eval a X.env), (false, eval b X.env)] := by rfl) (hs2 : starEach [b] X.env = [(false, eval b X.env)] := by rfl) :
    DI T W X tg (.Call (.Name "range" p) [a, b] [] pos) (iArg rng2 ma) :=
  di_arg (fun te h => pi_range2 (show X.env.scope.names.lookup _ = _ by rw [B.hsc]; exact hg) (by rw [B.mg]; exact hm) h hs hs2) sndi_rng2 ha
/-- the items turned -/
def itRv (v : Val) (m : Mem) : Option Its := match v with
  | .loc l => (lstV m (.loc l)).map fun vs => ⟨vs.reverse, some (l, vs)⟩
  | .ro _ => Option.none
  | v => (seqV m v).map fun vs => ⟨vs.reverse, Option.none⟩
theorem iter_rvL {w : Wd} {a : Addr} {xs : List V} {vs : List Val} {g : Option (Nat × List Val)} (r : VReps T w xs vs)
    (h : ∀ (w' : Wd) (μ : Mem) (H : Hp), w.Le w' → MRel T w' μ H → GOk g μ → ∃ ys, SqL T.K H a ys ∧ VReps T w' ys vs) : IterOk T w (Itv T.K a xs.length) ⟨vs.reverse, g⟩ := by
  intro w1 i μ H le R gk
  obtain ⟨ys, h1, h2⟩ := h w1 μ H le R gk
  have e1 := r.length
  refine ⟨fun v hv => ?_, fun hl => ?_⟩
  · have hv : vs.reverse[i]? = some v := hv
    have hlt := (List.getElem?_eq_some_iff.mp hv).1
    rw [List.length_reverse] at hlt
    rw [List.getElem?_reverse hlt, ← e1] at hv
    obtain ⟨y, h3, h4⟩ := h2.get hv
    refine ⟨⟨by omega, ys, y, h1, h3⟩, fun x H' z => ?_⟩
    obtain ⟨rfl, q⟩ := z
    have e := q ys h1
    rw [h3] at e
    cases e
    exact ⟨w1, Wd.Le.refl _, R, h4⟩
  · have hl : vs.reverse.length ≤ i := hl
    rw [List.length_reverse] at hl
    show xs.length ≤ i
    omega
theorem iter_rvT {w : Wd} {a : Addr} {xs : List V} {vs : List Val} (r : VReps T w xs vs) (h : SqT T.K w.F a xs) : IterOk T w (RT.ItvT T.K a xs.length) ⟨vs.reverse, Option.none⟩ := by
  intro w1 i μ H le R _
  have h1 : SqT T.K H a xs := R.sub.sqT (le.F.sqT h)
  have h2 := r.mono le
  have e1 := r.length
  refine ⟨fun v hv => ?_, fun hl => ?_⟩
  · have hv : vs.reverse[i]? = some v := hv
    have hlt := (List.getElem?_eq_some_iff.mp hv).1
    rw [List.length_reverse] at hlt
    rw [List.getElem?_reverse hlt, ← e1] at hv
    obtain ⟨y, h3, h4⟩ := h2.get hv
    refine ⟨⟨by omega, xs, y, h1, h3⟩, fun x H' z => ?_⟩
    obtain ⟨rfl, q⟩ := z
    have e := q xs h1
    rw [h3] at e
    cases e
    exact ⟨w1, Wd.Le.refl _, R, h4⟩
  · have hl : vs.reverse.length ≤ i := hl
    rw [List.length_reverse] at hl
    show xs.length ≤ i
    omega
def rvW (K : PySem.W.Frag) (v : V) (H : Hp) (R : It → Hp → Prop) : Prop := ∃ (a : Addr) (xs : List V), v = .ref a ∧ ((SqL K H a xs ∧ R (Itv K a xs.length) H) ∨ (SqT K H a xs ∧ R (RT.ItvT K a xs.length) H))
theorem sndi_rev : SndI T (rvW T.K) itRv := by
  intro w m H x v i R mr rx hi hR
  cases rx with
  | d h =>
    cases h with
    | @lst a xs ds h r =>
      cases hi
      exact ⟨a, xs, rfl, .inl ⟨.of (mr.sub _ _ h), hR _ (iter_rvL r.vals fun w' μ H le R' _ => ⟨xs, .of (R'.sub _ _ (le.F _ _ h)), r.vals.mono le⟩)⟩⟩
    | @tup a xs ds h r =>
      cases hi
      exact ⟨a, xs, rfl, .inr ⟨mr.sub.sqT h, hR _ (iter_rvT r.vals h)⟩⟩
    | _ => cases hi
  | @loc l a h =>
    obtain ⟨vs, h1, h2⟩ := Option.map_eq_some_iff.mp (show (lstV m (.loc l)).map _ = some i from hi)
    subst h2
    obtain ⟨b, xs, e, h3, h4⟩ := mr.lst (.loc h) h1
    cases e
    refine ⟨a, xs, rfl, .inl ⟨.of h3, hR _ (iter_rvL h4 fun w' μ H le R' gk => ?_)⟩⟩
    obtain ⟨_, ys, h5, h6⟩ := R'.cell l a _ (le.at h) (show μ[l]? = some (.lst vs) from gk)
    exact ⟨ys, .of h5, h6⟩
  | @tup a xs vs h r =>
    cases hi
    exact ⟨a, xs, rfl, .inr ⟨.of (mr.sub _ _ h), hR _ (iter_rvT r (.of h))⟩⟩
  | obj h l d q r => cases hi
  | slo h d q r => cases hi
  | @ro a ns h => cases hi
theorem di_rev (B : Bx T N sc k W X) {tg e : Expr} {me : EM} {p pos : Pos} (hg : sc.names.lookup ("reversed" : Str) = some NameKind.globalImplicit) (hm : T.mg ("reversed" : Str) = none) (he : DE T W X e me) (hs : starEach [e] X.env = (false, eval e X.env) :: starEach [] X.env := by rfl) :
    DI T W X tg (.Call (.Name "reversed" p) [e] [] pos) (iOf itRv me) :=
  di_of (r := rvW T.K) (fun te h => by rw [← B.K]; exact RT.pi_revA (show X.env.scope.names.lookup _ = _ by rw [B.hsc]; exact hg) (by rw [B.mg]; exact hm) h hs) sndi_rev he

/-! ### names of the module -/
theorem de_gl (B : Bx T N sc k W X) {x : Str} {pos : Pos} {u : Value} {v : V} {d : Data} (hg : sc.names.lookup x = some NameKind.globalImplicit) (hm : T.mg x = some u) (r : RelV v u) (h : ∀ F, DRep T F v d) (hd : (x == ("__debug__" : Str)) = false := by decide) : DE T W X (.Name x pos) (eC d) :=
  (pe_glob (show X.env.scope.names.lookup x = _ by rw [B.hsc]; exact hg) (by rw [B.mg]; exact hm) r hd).mono fun _ _ _ z => z.c h
end
end Fs
/-! ### what the head tells; the end -/
namespace Fs
open PySem PySem.Spec L2

/-- the kinds of a def's names, looked at once -/
structure Sk (sc : Scope) (L : List (Str × NameKind)) : Prop where
  all : (L.all fun p => sc.names.lookup p.1 == some p.2) = true
theorem Sk.at_ {sc : Scope} {L : List (Str × NameKind)} (S : Sk sc L) (i : Nat) {x : Str} {k : NameKind} (h : L[i]? = some (x, k)) : sc.names.lookup x = some k :=
  eq_of_beq (List.all_eq_true.mp S.all (x, k) (List.mem_of_getElem? h))
theorem Sk.vis {sc : Scope} {L : List (Str × NameKind)} (S : Sk sc L) (i : Nat) {x : Str} (h : L[i]? = some (x, NameKind.local)) : Vis sc x := .inl (S.at_ i h)
theorem Sk.loc {sc : Scope} {L : List (Str × NameKind)} (S : Sk sc L) (i : Nat) {x : Str} (h : L[i]? = some (x, NameKind.local)) : Loc sc x := .inl (S.at_ i h)

/-- what is known of the module -/
structure Ev (T : Tbl) (fa : List He.Fa) (fn : List He.DefD) : Prop where
  says : He.SaysD fa fn T.K
  heap : ∃ h : Heap, T.K.In h ∧ h.Ns mainGlobals T.mg
section
variable {T : Tbl} {fa : List He.Fa} {fn : List He.DefD}
theorem Ev.fr (E : Ev T fa fn) (i : Nat) {x : Str} (h : fa[i]? = some (.free x)) : T.mg x = none := by
  obtain ⟨hp, h1, h2⟩ := E.heap
  exact He.free_ok h1 h2 (E.says.fact i h)
theorem Ev.gl (E : Ev T fa fn) (i : Nat) {x : Str} (h : fa[i]? = some (.glo x)) : T.mg x = some (.ref (He.fAd T.K (x, none))) := by
  obtain ⟨hp, h1, h2⟩ := E.heap
  exact He.glo_ok h1 h2 (E.says.fact i h)
theorem Ev.int (E : Ev T fa fn) (i : Nat) {x : Str} {j : Int} (h : fa[i]? = some (.int x j)) : ∃ u, T.mg x = some u ∧ RelV (.int j) u := by
  obtain ⟨hp, h1, h2⟩ := E.heap
  obtain ⟨t, e⟩ := He.int_ok h1 h2 (E.says.fact i h)
  exact ⟨_, e, t, rfl⟩
theorem Ev.str (E : Ev T fa fn) (i : Nat) {x z : Str} (h : fa[i]? = some (.str x z)) : ∃ u, T.mg x = some u ∧ RelV (.str z) u := by
  obtain ⟨hp, h1, h2⟩ := E.heap
  obtain ⟨t, e⟩ := He.str_ok h1 h2 (E.says.fact i h)
  exact ⟨_, e, t, rfl⟩
variable {N : List Str} {sc : Scope} {k : Nat} {W : WX} {X : Cx}
theorem de_gi (B : Bx T N sc k W X) (E : Ev T fa fn) (i : Nat) {x : Str} {pos : Pos} {j : Int} (hg : sc.names.lookup x = some NameKind.globalImplicit) (h : fa[i]? = some (.int x j)) (hd : (x == ("__debug__" : Str)) = false := by decide) : DE T W X (.Name x pos) (eC (.int j)) := by
  obtain ⟨u, e, r⟩ := E.int i h
  exact de_gl B hg e r (fun _ => .int j) hd
theorem de_gs (B : Bx T N sc k W X) (E : Ev T fa fn) (i : Nat) {x z : Str} {pos : Pos} (hg : sc.names.lookup x = some NameKind.globalImplicit) (h : fa[i]? = some (.str x z)) (hd : (x == ("__debug__" : Str)) = false := by decide) : DE T W X (.Name x pos) (eC (.str z)) := by
  obtain ⟨u, e, r⟩ := E.str i h
  exact de_gl B hg e r (fun _ => .str z) hd
end

/-! ### the end -/
theorem walk_fs {l : PySem.W.OpenLaw} {n k : Nat} {q : Program} {loose : List Str} {XP : (Str → Option Value) → Heap → Prop} {YP : World → Heap → Prop} {d : DefRec} {x : Str} {f : Fn} {fa : List He.Fa} {fn : List He.DefD} (cadr : PySem.W.Frag → Nat → Addr)
    (hn : l.most = some n) (hn2 : n ≤ sizeLine) (hdf : d.params.defaults = []) (hr : Room k callerA)
    (hY : ∀ (w : World) (h : Heap), YP w h → ∃ K : PySem.W.Frag, K.In h ∧ He.SaysD fa fn K)
    (F : ∀ (K : PySem.W.Frag), He.SaysD fa fn K → ∃ (fd : FuncData) (a : Addr), (∀ (s : Shared) (u : Value), BindsTo s fd ⟨[u], []⟩ [(x, u)]) ∧
      ∀ T : Tbl, T.P = l.prog → T.K = K → T.cadr = cadr K → Ev T fa fn → T.mg d.name = some (.ref a) ∧ FnOk T.P T.w T.K T.mg T.base (L2.CX T.P T.w) k a fd [x] (spM T 1 f))
    (hf : ∀ ns : List Int, ns.length ≤ n → ∃ m, f [.ro ns] [] = .ok (.d (.bool true)) m) :
    PySem.W.WalkO q loose XP YP l.row.toRowW d [] (fun f vs => PySem.call f vs) := by
  refine LamX.walk_ofTsE (CX := fun w => L2.CX l.prog w) (x := x) (k := k) hn hn2 hdf hr (fun w mg fa' h Y G hm => ?_) (fun w H s e s' z => ?_)
  · obtain ⟨K, KX, c⟩ := hY w h Y
    obtain ⟨fd, a, hb, hF⟩ := F K c
    refine ⟨K, KX, fd, [], (fun vs H Q E => ∃ ns : List Int, ns.length ≤ n ∧ ∃ a, vs = [.ref a] ∧ SqL K H a (ns.map V.int) ∧ ∀ v H', v = V.bl true → Q v H'), (fun _ z => by cases z), (fun _ z => by cases z), (fun _ z => by cases z), hb, fun H a ns hl _ _ hS => ⟨ns, hl, a, rfl, hS, fun v _ e => e⟩, fun base KB GB _ => ?_⟩
    obtain ⟨e1, e2⟩ := hF ⟨l.prog, w, K, mg, base, cadr K⟩ rfl rfl rfl ⟨c, base, KB, GB⟩
    obtain rfl : a = fa' := by
      have e3 := e1.symm.trans hm
      injection e3 with e3
      injection e3
    refine e2.imp fun vs H Q E ⟨ns, hl, b, e, hS, hQ⟩ => ?_
    obtain ⟨m, hm⟩ := hf ns hl
    subst e
    refine ⟨⟨[], H⟩, [], [.ro ns], ⟨rfl, fun l l' a h => ?_, Sub.refl _, fun l a h => ?_, fun l a c h => ?_⟩, .cons (.ro hS) .nil, rfl, ?_⟩
    · cases h
    · cases h
    · cases h
    · rw [hm]
      refine fun w' H' x _ _ r => hQ x H' ?_
      cases r with
      | d r => cases r with
        | bl => rfl
  · obtain ⟨a, B, H', cls, d, _, _, _, _, _, _, _, hE⟩ := z
    exact hE
end Fs
/-! ### one word a construct -/
namespace Fs
open PySem PySem.Spec L2
section
variable {T : Tbl} {N : List Str} {sc : Scope} {k : Nat} {W : WX} {X : Cx}
theorem Bx.hu (B : Bx T N sc k W X) : X.A.units + 65 < cLine := by
  have := B.room.un
  omega
theorem Bx.hu1 (B : Bx T N sc k W X) : X.A.units + 64 < cLine := B.room.units
variable {a b e : Expr} {es : List Expr} {ma mb me : EM} {ms : AM} {pos apos p : Pos}
theorem de_add (B : Bx T N sc k W X) (f : Bool) (ha : DE T W X a ma) (hb : DE T W X b mb) : DE T W X (.BinOp a .Add b pos) (eBin (addV f) ma mb) := de_bin op_addV (by rw [B.K]; exact snd_add f) ha hb
theorem de_sub (ha : DE T W X a ma) (hb : DE T W X b mb) : DE T W X (.BinOp a .Sub b pos) (eBin (intOp subI) ma mb) := de_bin op_sub snd_sub ha hb
theorem de_mul (f : Bool) (ha : DE T W X a ma) (hb : DE T W X b mb) : DE T W X (.BinOp a .Mult b pos) (eBin (repV f) ma mb) := de_bin op_repM (snd_rep f) ha hb
theorem de_fdv (ha : DE T W X a ma) (hb : DE T W X b mb) : DE T W X (.BinOp a .FloorDiv b pos) (eBin (intOp fdvI) ma mb) := de_bin op_fdiv snd_fdv ha hb
theorem de_mod (ha : DE T W X a ma) (hb : DE T W X b mb) : DE T W X (.BinOp a .Mod b pos) (eBin (intOp modI) ma mb) := de_bin op_mod snd_mod ha hb
theorem de_pow (ha : DE T W X a ma) (hb : DE T W X b mb) : DE T W X (.BinOp a .Pow b pos) (eBin (intOp powI) ma mb) := de_bin op_pow snd_pow ha hb
theorem de_neg (ha : DE T W X a ma) : DE T W X (.UnaryOp .USub a pos) (eUn negV ma) := de_un un_neg snd_neg ha
/-- a comparison: its reading, its machine -/
structure CmpB (T : Tbl) (X : Cx) (op : CmpOp) (f : Val → Val → Mem → Res Val) : Prop where
  ex : ∃ r : R2, OpR X (compareOp op) r ∧ Snd2 T r f
def ltI (i j : Int) : Bool := decide (i < j)
def leI (i j : Int) : Bool := decide (i ≤ j)
def gtI (i j : Int) : Bool := decide (j < i)
def geI (i j : Int) : Bool := decide (j ≤ i)
theorem c_eq (B : Bx T N sc k W X) : CmpB T X .Eq (eqV false) := ⟨_, op_eqB B.hu1, by rw [B.K]; exact snd_eq⟩
theorem c_ne (B : Bx T N sc k W X) : CmpB T X .NotEq (eqV true) := ⟨_, op_neB B.hu1, by rw [B.K]; exact snd_ne⟩
theorem c_in (B : Bx T N sc k W X) : CmpB T X .In (inV false) := ⟨_, op_inV B.hu, by rw [B.K]; exact snd_in false⟩
theorem c_notIn (B : Bx T N sc k W X) : CmpB T X .NotIn (inV true) := ⟨_, op_notInV B.hu, by rw [B.K]; exact snd_in true⟩
theorem c_lt (B : Bx T N sc k W X) : CmpB T X .Lt (cmpI ltI) := ⟨_, op_lt, snd_cmpI ltI⟩
theorem c_le (B : Bx T N sc k W X) : CmpB T X .LtE (cmpI leI) := ⟨_, op_le, snd_cmpI leI⟩
theorem c_gt (B : Bx T N sc k W X) : CmpB T X .Gt (cmpI gtI) := ⟨_, op_gt, snd_cmpI gtI⟩
theorem c_ge (B : Bx T N sc k W X) : CmpB T X .GtE (cmpI geI) := ⟨_, op_ge, snd_cmpI geI⟩
theorem c_is (B : Bx T N sc k W X) : CmpB T X .Is (isV false) := ⟨_, op_isN, snd_is⟩
theorem c_isNot (B : Bx T N sc k W X) : CmpB T X .IsNot (isV true) := ⟨_, op_notN, snd_isnot⟩
theorem de_c {op : CmpOp} {f : Val → Val → Mem → Res Val} (c : CmpB T X op f) (ha : DE T W X a ma) (hb : DE T W X b mb) (hm : behindInMarks op b = false := by with_unfolding_all rfl) : DE T W X (.Compare a [op] [b] pos) (eBin f ma mb) := by
  obtain ⟨r, h1, h2⟩ := c.ex
  exact de_cmp h1 h2 ha hb hm
theorem dt_c {op : CmpOp} {f : Val → Val → Mem → Res Val} (c : CmpB T X op f) (ha : DE T W X a ma) (hb : DE T W X b mb) (hm : behindInMarks op b = false := by with_unfolding_all rfl) : DT T W X (.Compare a [op] [b] pos) (tOf (eBin f ma mb)) := by
  obtain ⟨r, h1, h2⟩ := c.ex
  refine (pt_cmpR h1 ha hb hm).mono fun σ H Q h => ?_
  refine rd_bin (f := f) (W := W) h2 ?_
  obtain ⟨w, e, μ, er, mr, ok⟩ := h
  refine (OkR.go (P := VRep T) er mr ok).imp fun x H1 ⟨w1, v, μ1, le1, mr1, p1, ok1⟩ => ?_
  have ok1 : OkR T BRep w1 (match asB v with
    | some b => .ok b μ1
    | Option.none => .bad) Q (fun c d H' => W c d σ H') := ok1
  split at ok1
  · rename_i b hb
    exact ⟨b, asB_rep p1 hb, ok1 w1 H1 b (Wd.Le.refl _) mr1 rfl⟩
  · exact ok1.elim

/-! ### not, and, or as values: of bools -/
def eNot (a : EM) : EM := fun e μ => (a e μ).bind fun x μ => match asB x with
  | some b => .ok (.d (.bool (!b))) μ
  | Option.none => .bad
def eAnd (a b : EM) : EM := fun e μ => (a e μ).bind fun x μ => match asB x with
  | some c => if c = true then b e μ else .ok (.d (.bool false)) μ
  | Option.none => .bad
def eOr (a b : EM) : EM := fun e μ => (a e μ).bind fun x μ => match asB x with
  | some c => if c = true then .ok (.d (.bool true)) μ else b e μ
  | Option.none => .bad
theorem de_not (ha : DE T W X a ma) : DE T W X (.UnaryOp .Not a pos) (eNot ma) := by
  refine (pe_not ha).mono fun σ H Q h => ?_
  obtain ⟨w, e, μ, er, mr, ok⟩ := h
  refine (OkR.go (P := VRep T) er mr ok).imp fun x H1 ⟨w1, v, μ1, le1, mr1, p1, ok1⟩ => ?_
  have ok1 : OkR T (VRep T) w1 (match asB v with
    | some b => .ok (.d (.bool (!b))) μ1
    | Option.none => .bad) Q (fun c d H' => W c d σ H') := ok1
  split at ok1
  · rename_i b hb
    exact ⟨b, asB_rep p1 hb, ok1.ok mr1 (rBool _)⟩
  · exact ok1.elim
theorem de_one {op : BoolOp} (ha : DE T W X a ma) : DE T W X (.BoolOp op [a] pos) ma := pe_one ha
theorem de_and {rest : List Expr} (ha : DE T W X a ma) (hb : DE T W X (.BoolOp .And (b :: rest) pos) mb) : DE T W X (.BoolOp .And (a :: b :: rest) pos) (eAnd ma mb) := by
  refine (pe_and ha hb).mono fun σ H Q h => ?_
  obtain ⟨w, e, μ, er, mr, ok⟩ := h
  refine (OkR.go (P := VRep T) er mr ok).imp fun x H1 ⟨w1, v, μ1, le1, mr1, p1, ok1⟩ => ?_
  have ok1 : OkR T (VRep T) w1 (match asB v with
    | some c => if c = true then mb e μ1 else .ok (.d (.bool false)) μ1
    | Option.none => .bad) Q (fun c d H' => W c d σ H') := ok1
  split at ok1
  · rename_i b hb
    refine ⟨b, asB_rep p1 hb, ?_⟩
    cases b with
    | true => exact ⟨w1, e, μ1, er.mono le1, mr1, ok1⟩
    | false => exact ok1.ok mr1 (rBool _)
  · exact ok1.elim
theorem de_or {rest : List Expr} (ha : DE T W X a ma) (hb : DE T W X (.BoolOp .Or (b :: rest) pos) mb) : DE T W X (.BoolOp .Or (a :: b :: rest) pos) (eOr ma mb) := by
  refine (pe_or ha hb).mono fun σ H Q h => ?_
  obtain ⟨w, e, μ, er, mr, ok⟩ := h
  refine (OkR.go (P := VRep T) er mr ok).imp fun x H1 ⟨w1, v, μ1, le1, mr1, p1, ok1⟩ => ?_
  have ok1 : OkR T (VRep T) w1 (match asB v with
    | some c => if c = true then .ok (.d (.bool true)) μ1 else mb e μ1
    | Option.none => .bad) Q (fun c d H' => W c d σ H') := ok1
  split at ok1
  · rename_i b hb
    refine ⟨b, asB_rep p1 hb, ?_⟩
    cases b with
    | true => exact ok1.ok mr1 (rBool _)
    | false => exact ⟨w1, e, μ1, er.mono le1, mr1, ok1⟩
  · exact ok1.elim

/-! ### calls of built-ins (hg: the name is global; hm: the module does not bind it) -/
theorem de_len (B : Bx T N sc k W X) (hg : sc.names.lookup ("len" : Str) = some NameKind.globalImplicit) (hm : T.mg ("len" : Str) = none) (ha : DA T W X (e :: es) ms) (he : starEach (e :: es) X.env = (false, eval e X.env) :: starEach es X.env := by rfl) (hpl : (backTo pos (starEach es X.env)).any (·.1) = false := by rfl) :
    DE T W X (.Call (.Name "len" p) (e :: es) [] pos) (eArgs lenV ms) := de_bi B call_len (by rw [B.K]; exact snd_len) hg hm PySem.boot_len ha (he := he) (hpl := hpl)
theorem de_abs (B : Bx T N sc k W X) (hg : sc.names.lookup ("abs" : Str) = some NameKind.globalImplicit) (hm : T.mg ("abs" : Str) = none) (ha : DA T W X (e :: es) ms) (he : starEach (e :: es) X.env = (false, eval e X.env) :: starEach es X.env := by rfl) (hpl : (backTo pos (starEach es X.env)).any (·.1) = false := by rfl) :
    DE T W X (.Call (.Name "abs" p) (e :: es) [] pos) (eArgs absV ms) := de_bi B call_abs snd_abs hg hm PyProof.Rows.boot_abs ha (he := he) (hpl := hpl)
theorem de_min (B : Bx T N sc k W X) (hg : sc.names.lookup ("min" : Str) = some NameKind.globalImplicit) (hm : T.mg ("min" : Str) = none) (ha : DA T W X (e :: es) ms) (he : starEach (e :: es) X.env = (false, eval e X.env) :: starEach es X.env := by rfl) (hpl : (backTo pos (starEach es X.env)).any (·.1) = false := by rfl) :
    DE T W X (.Call (.Name "min" p) (e :: es) [] pos) (eArgs minV ms) := de_bi B (call_min2 B.calm) snd_min hg hm PyProof.Rows.boot_min ha (he := he) (hpl := hpl)
theorem de_max (B : Bx T N sc k W X) (hg : sc.names.lookup ("max" : Str) = some NameKind.globalImplicit) (hm : T.mg ("max" : Str) = none) (ha : DA T W X (e :: es) ms) (he : starEach (e :: es) X.env = (false, eval e X.env) :: starEach es X.env := by rfl) (hpl : (backTo pos (starEach es X.env)).any (·.1) = false := by rfl) :
    DE T W X (.Call (.Name "max" p) (e :: es) [] pos) (eArgs maxV ms) := de_bi B (call_max2 B.calm) snd_max hg hm PyProof.Rows.boot_max ha (he := he) (hpl := hpl)
theorem de_intC (B : Bx T N sc k W X) (hg : sc.names.lookup ("int" : Str) = some NameKind.globalImplicit) (hm : T.mg ("int" : Str) = none) (ha : DA T W X (e :: es) ms) (he : starEach (e :: es) X.env = (false, eval e X.env) :: starEach es X.env := by rfl) (hpl : (backTo pos (starEach es X.env)).any (·.1) = false := by rfl) :
    DE T W X (.Call (.Name "int" p) (e :: es) [] pos) (eArgs intV ms) := de_ty B call_int1 snd_int hg hm PyProof.Rows.boot_int ha (he := he) (hpl := hpl)
theorem de_strC (B : Bx T N sc k W X) (hg : sc.names.lookup ("str" : Str) = some NameKind.globalImplicit) (hm : T.mg ("str" : Str) = none) (ha : DA T W X (e :: es) ms) (he : starEach (e :: es) X.env = (false, eval e X.env) :: starEach es X.env := by rfl) (hpl : (backTo pos (starEach es X.env)).any (·.1) = false := by rfl) :
    DE T W X (.Call (.Name "str" p) (e :: es) [] pos) (eArgs strV ms) := de_ty B call_str_int snd_str hg hm PyProof.Rows.boot_str ha (he := he) (hpl := hpl)
theorem de_listC (B : Bx T N sc k W X) (f : Bool) (hg : sc.names.lookup ("list" : Str) = some NameKind.globalImplicit) (hm : T.mg ("list" : Str) = none) (ha : DA T W X (e :: es) ms) (he : starEach (e :: es) X.env = (false, eval e X.env) :: starEach es X.env := by rfl) (hpl : (backTo pos (starEach es X.env)).any (·.1) = false := by rfl) :
    DE T W X (.Call (.Name "list" p) (e :: es) [] pos) (eArgs (listV f) ms) := de_ty B call_list_of (by rw [B.K]; exact snd_list f) hg hm PyProof.Rows.boot_list ha (he := he) (hpl := hpl)
theorem de_tupleC (B : Bx T N sc k W X) (hg : sc.names.lookup ("tuple" : Str) = some NameKind.globalImplicit) (hm : T.mg ("tuple" : Str) = none) (ha : DA T W X (e :: es) ms) (he : starEach (e :: es) X.env = (false, eval e X.env) :: starEach es X.env := by rfl) (hpl : (backTo pos (starEach es X.env)).any (·.1) = false := by rfl) :
    DE T W X (.Call (.Name "tuple" p) (e :: es) [] pos) (eArgs tupleV ms) := de_ty B call_tuple_of (by rw [B.K]; exact snd_tuple) hg hm PyProof.Rows.boot_tuple ha (he := he) (hpl := hpl)

/-! ### methods -/
variable {o : Expr} {mo : EM}
theorem de_app (B : Bx T N sc k W X) (ho : DE T W X o mo) (ha : DA T W X [e] ms) (hbase : attributeBase o "append" X.env (eval o X.env) = eval o X.env := by rfl) (hfew : ((backTo pos (starEach (e :: []) X.env)).all (fun x => !x.1) && (backToKw pos (keywordEach [] X.env)).all (fun x => x.1.isSome)
      && decide ((e :: []).length + ([] : List Keyword).length + (if ([] : List Keyword).isEmpty then 0 else 1) < 30)) = true := by rfl) (hs : starEach (e :: []) X.env = (false, eval e X.env) :: starEach [] X.env := by rfl) (hpl : (backTo pos (starEach [] X.env)).any (·.1) = false := by rfl) (hline : (apos.endLine == pos.line) = true := by rfl) :
    DE T W X (.Call (.Attribute o "append" apos) [e] [] pos) (eBm isL appV mo ms) := de_bm B PySem.F.plainAttrs_list PySem.F.slot_list_append PySem.F.type_list_append mt_append ty_list snd_app ho ha hbase hfew hline hs hpl
theorem de_popAt (B : Bx T N sc k W X) (ho : DE T W X o mo) (ha : DA T W X [e] ms) (hbase : attributeBase o "pop" X.env (eval o X.env) = eval o X.env := by rfl) (hfew : ((backTo pos (starEach (e :: []) X.env)).all (fun x => !x.1) && (backToKw pos (keywordEach [] X.env)).all (fun x => x.1.isSome)
      && decide ((e :: []).length + ([] : List Keyword).length + (if ([] : List Keyword).isEmpty then 0 else 1) < 30)) = true := by rfl) (hs : starEach (e :: []) X.env = (false, eval e X.env) :: starEach [] X.env := by rfl) (hpl : (backTo pos (starEach [] X.env)).any (·.1) = false := by rfl) (hline : (apos.endLine == pos.line) = true := by rfl) :
    DE T W X (.Call (.Attribute o "pop" apos) [e] [] pos) (eBm isL popAtV mo ms) := de_bm B PySem.F.plainAttrs_list PySem.F.slot_list_pop PySem.F.type_list_pop mt_popAt ty_list snd_popAt ho ha hbase hfew hline hs hpl
theorem de_pop (B : Bx T N sc k W X) (ho : DE T W X o mo) (hbase : attributeBase o "pop" X.env (eval o X.env) = eval o X.env := by rfl) (hline : (apos.endLine == pos.line) = true := by rfl) :
    DE T W X (.Call (.Attribute o "pop" apos) [] [] pos) (eBm isL popV mo aNil) := de_bm0 B PySem.F.plainAttrs_list PySem.F.slot_list_pop PySem.F.type_list_pop mt_pop ty_list snd_pop ho hbase hline
theorem de_ins (B : Bx T N sc k W X) (ho : DE T W X o mo) (ha : DA T W X [e, a] ms) (hbase : attributeBase o "insert" X.env (eval o X.env) = eval o X.env := by rfl) (hfew : ((backTo pos (starEach (e :: [a]) X.env)).all (fun x => !x.1) && (backToKw pos (keywordEach [] X.env)).all (fun x => x.1.isSome)
      && decide ((e :: [a]).length + ([] : List Keyword).length + (if ([] : List Keyword).isEmpty then 0 else 1) < 30)) = true := by rfl) (hs : starEach (e :: [a]) X.env = (false, eval e X.env) :: starEach [a] X.env := by rfl) (hpl : (backTo pos (starEach [a] X.env)).any (·.1) = false := by rfl) (hline : (apos.endLine == pos.line) = true := by rfl) :
    DE T W X (.Call (.Attribute o "insert" apos) [e, a] [] pos) (eBm isL insV mo ms) := de_bm B PySem.F.plainAttrs_list PySem.F.slot_list_insert PySem.F.type_list_insert mt_insert ty_list snd_ins ho ha hbase hfew hline hs hpl
theorem de_join (B : Bx T N sc k W X) (ho : DE T W X o mo) (ha : DA T W X [e] ms) (hbase : attributeBase o "join" X.env (eval o X.env) = eval o X.env := by rfl) (hfew : ((backTo pos (starEach (e :: []) X.env)).all (fun x => !x.1) && (backToKw pos (keywordEach [] X.env)).all (fun x => x.1.isSome)
      && decide ((e :: []).length + ([] : List Keyword).length + (if ([] : List Keyword).isEmpty then 0 else 1) < 30)) = true := by rfl) (hs : starEach (e :: []) X.env = (false, eval e X.env) :: starEach [] X.env := by rfl) (hpl : (backTo pos (starEach [] X.env)).any (·.1) = false := by rfl) (hline : (apos.endLine == pos.line) = true := by rfl) :
    DE T W X (.Call (.Attribute o "join" apos) [e] [] pos) (eBm isS joinV mo ms) := de_bm B PySem.F.plainAttrs_str PySem.F.slot_str_join PySem.F.type_str_join mt_join ty_str (by rw [B.K]; exact snd_join) ho ha hbase hfew hline hs hpl
theorem de_split (B : Bx T N sc k W X) (f : Bool) (ho : DE T W X o mo) (ha : DA T W X [e] ms) (hbase : attributeBase o "split" X.env (eval o X.env) = eval o X.env := by rfl) (hfew : ((backTo pos (starEach (e :: []) X.env)).all (fun x => !x.1) && (backToKw pos (keywordEach [] X.env)).all (fun x => x.1.isSome)
      && decide ((e :: []).length + ([] : List Keyword).length + (if ([] : List Keyword).isEmpty then 0 else 1) < 30)) = true := by rfl) (hs : starEach (e :: []) X.env = (false, eval e X.env) :: starEach [] X.env := by rfl) (hpl : (backTo pos (starEach [] X.env)).any (·.1) = false := by rfl) (hline : (apos.endLine == pos.line) = true := by rfl) :
    DE T W X (.Call (.Attribute o "split" apos) [e] [] pos) (eBm isS (splitV f) mo ms) := de_bm B PySem.F.plainAttrs_str PySem.F.slot_str_split PySem.F.type_str_split mt_split ty_str (snd_split f) ho ha hbase hfew hline hs hpl
end
end Fs
/-! ### running the machines by simp -/
namespace Fs
open PySem PySem.Spec L2
section
variable {e : Env} {μ m : Mem} {x y z v u : Val} {a b c d g : EM}
@[simp] theorem r_eVar {i : Nat} : eVar i e μ = (match e[i]? with
  | some (some v) => .ok (norm μ v) μ
  | _ => .bad) := rfl
@[simp] theorem r_eBin {f : Val → Val → Mem → Res Val} : eBin f a b e μ = (a e μ).bind fun x μ => (b e μ).bind fun y μ => f x y μ := rfl
@[simp] theorem r_eUn {f : Val → Mem → Res Val} : eUn f a e μ = (a e μ).bind fun x μ => f x μ := rfl
@[simp] theorem r_eIf {t : TM} : eIf t a b e μ = (t e μ).bind fun t μ => if t = true then a e μ else b e μ := rfl
@[simp] theorem r_aNil : aNil e μ = .ok [] μ := rfl
@[simp] theorem r_aCons {r : AM} : aCons a r e μ = (a e μ).bind fun x μ => (r e μ).bind fun xs μ => .ok (x :: xs) μ := rfl
@[simp] theorem r_eArgs {f : Fn} {r : AM} : eArgs f r e μ = (r e μ).bind fun xs μ => f xs μ := rfl
@[simp] theorem r_tOf : tOf a e μ = (a e μ).bind fun x μ => match asB x with
  | some b => .ok b μ
  | Option.none => .bad := rfl
@[simp] theorem r_asB {b : Bool} : asB (.d (.bool b)) = some b := rfl
@[simp] theorem r_asI {b : Int} : asI (.d (.int b)) = some b := rfl
@[simp] theorem r_asS {b : Str} : asS (.d (.str b)) = some b := rfl
@[simp] theorem r_tNot {t : TM} : tNot t e μ = (t e μ).bind fun b μ => .ok (!b) μ := rfl
@[simp] theorem r_tAnd {t s : TM} : Fs.tAnd t s e μ = (t e μ).bind fun b μ => if b = true then s e μ else .ok false μ := rfl
@[simp] theorem r_tOr {t s : TM} : Fs.tOr t s e μ = (t e μ).bind fun b μ => if b = true then .ok true μ else s e μ := rfl
@[simp] theorem r_eNot : eNot a e μ = (a e μ).bind fun x μ => match asB x with
  | some b => .ok (.d (.bool (!b))) μ
  | Option.none => .bad := rfl
@[simp] theorem r_eAnd : eAnd a b e μ = (a e μ).bind fun x μ => match asB x with
  | some c => if c = true then b e μ else .ok (.d (.bool false)) μ
  | Option.none => .bad := rfl
@[simp] theorem r_eOr : eOr a b e μ = (a e μ).bind fun x μ => match asB x with
  | some c => if c = true then .ok (.d (.bool true)) μ else b e μ
  | Option.none => .bad := rfl
@[simp] theorem r_eCall {n : Nat} {fz : Bool} {f : Fn} {r : AM} : eCall n fz f r e μ = (r e μ).bind fun xs μ => if xs.length = n then callF fz f xs μ else .bad := rfl
@[simp] theorem r_callF {f : Fn} {vs : List Val} : callF false f vs μ = f vs μ := rfl
@[simp] theorem r_eBm {ty : Mem → Val → Bool} {f : Val → List Val → Mem → Res Val} {r : AM} : eBm ty f a r e μ = (a e μ).bind fun x μ => if ty μ x = true then (r e μ).bind fun xs μ => f x xs μ else .bad := rfl
@[simp] theorem r_eSlc {fl : Bool} {lo hi : OM} : eSlc fl a lo hi e μ = (a e μ).bind fun x μ => (lo e μ).bind fun l μ => (hi e μ).bind fun h μ => slcV fl x l h μ := rfl
@[simp] theorem r_oNone : oNone e μ = .ok Option.none μ := rfl
@[simp] theorem r_oSome : oSome a e μ = (a e μ).bind fun x μ => match asI x with
  | some i => .ok (some i) μ
  | Option.none => .bad := rfl
@[simp] theorem r_eIsi {t : String} : eIsi t a e μ = (a e μ).bind fun x μ => match kind μ x with
  | some k => .ok (.d (.bool (subK k t))) μ
  | Option.none => .bad := rfl
@[simp] theorem r_sNext : sNext e μ = .next e μ := rfl
@[simp] theorem r_sSeq {s t : SM} : sSeq s t e μ = (match s e μ with
  | .next e m => t e m
  | r => r) := rfl
@[simp] theorem r_sSet {i : Nat} : sSet i a e μ = (a e μ).st e fun v m => .next (e.set i (some v)) m := rfl
@[simp] theorem r_sDo : sDo a e μ = (a e μ).st e fun _ m => .next e m := rfl
@[simp] theorem r_sRet : sRet a e μ = (a e μ).st e fun v m => .ret v m := rfl
@[simp] theorem r_sRetN : sRetN e μ = .ret (.d .none) μ := rfl
@[simp] theorem r_sIf {t : TM} {p q : SM} : sIf t p q e μ = (t e μ).st e fun t m => if t = true then p e m else q e m := rfl
@[simp] theorem r_sAsg {t : Val → Env → Option Env} : sAsg t a e μ = (a e μ).st e fun v m => match t v e with
  | some e' => .next e' m
  | Option.none => .bad := rfl
@[simp] theorem r_gN {i : Nat} : gN i v e = some (e.set i (some v)) := rfl
@[simp] theorem r_gsNil : gsNil [] e = some e := rfl
@[simp] theorem r_gsCons {g : Val → Env → Option Env} {r : List Val → Env → Option Env} {vs : List Val} : gsCons g r (v :: vs) e = (g v e).bind (r vs) := rfl
@[simp] theorem r_gT {g : List Val → Env → Option Env} : gT g v e = (tupV v).bind fun vs => g vs e := rfl
@[simp] theorem r_sSetIx : sSetIx a b c e μ = (c e μ).st e fun v m => (a e m).st e fun x m => (b e m).st e fun y m => setIx x y v e m := rfl
@[simp] theorem r_iOf {f : Val → Mem → Option Its} : iOf f a e μ = (a e μ).bind fun x μ => match f x μ with
  | some i => .ok i μ
  | Option.none => .bad := rfl
@[simp] theorem r_iArg {f : List Val → Mem → Option Its} {r : AM} : iArg f r e μ = (r e μ).bind fun x μ => match f x μ with
  | some i => .ok i μ
  | Option.none => .bad := rfl
@[simp] theorem r_sFor {it : IM} {t : Val → Env → Option Env} {s : SM} : sFor it t s e μ = (it e μ).st e fun i μ => sForL i.guard t s i.items e μ := rfl
@[simp] theorem r_tupD {xs : List Data} : tupV (.d (.tup xs)) = some (xs.map .d) := rfl
@[simp] theorem r_tupT {xs : List Val} : tupV (.tup xs) = some xs := rfl
@[simp] theorem GOk_none : GOk Option.none μ := trivial
@[simp] theorem GOk_some {l : Nat} {vs : List Val} : GOk (some (l, vs)) μ ↔ μ[l]? = some (.lst vs) := Iff.rfl

/-! ### operations on scalars -/
@[simp] theorem p_addI {f : Bool} {i j : Int} : addV f (.d (.int i)) (.d (.int j)) m = .ok (.d (.int (i + j))) m := rfl
theorem p_addS {f : Bool} {i j : Str} (h : i.length + j.length ≤ 16777216) : addV f (.d (.str i)) (.d (.str j)) m = .ok (.d (.str (i ++ j))) m := if_neg (by omega)
@[simp] theorem p_sub {i j : Int} : intOp subI (.d (.int i)) (.d (.int j)) m = .ok (.d (.int (i - j))) m := rfl
theorem p_mod {i j : Int} (h : 0 < j) : intOp modI (.d (.int i)) (.d (.int j)) m = .ok (.d (.int (i % j))) m := by
  show (match modI i j with
    | some r => Res.ok (Val.d (.int r)) m
    | Option.none => .bad) = _
  unfold modI
  rw [if_pos h]
theorem p_fdv {i j : Int} (h : 0 < j ∧ j < 1073741824) : intOp fdvI (.d (.int i)) (.d (.int j)) m = .ok (.d (.int (i / j))) m := by
  show (match fdvI i j with
    | some r => Res.ok (Val.d (.int r)) m
    | Option.none => .bad) = _
  unfold fdvI
  rw [if_pos h]
theorem p_pow {i j : Int} (h : 0 ≤ j ∧ j ≤ 1000000 ∧ i.natAbs < 2 ^ 64) : intOp powI (.d (.int i)) (.d (.int j)) m = .ok (.d (.int (i ^ j.toNat))) m := by
  show (match powI i j with
    | some r => Res.ok (Val.d (.int r)) m
    | Option.none => .bad) = _
  unfold powI
  rw [if_pos h]
theorem p_mul {f : Bool} {i j : Int} (h : -(2 ^ 64) < j ∧ j < 2 ^ 64) : repV f (.d (.int i)) (.d (.int j)) m = .ok (.d (.int (i * j))) m := by
  show (match mulI i j with
    | some r => Res.ok (Val.d (.int r)) m
    | Option.none => .bad) = _
  unfold mulI
  rw [if_pos (.inl h)]
@[simp] theorem p_neg {i : Int} : negV (.d (.int i)) m = .ok (.d (.int (-i))) m := rfl
@[simp] theorem p_cmp {f : Int → Int → Bool} {i j : Int} : cmpI f (.d (.int i)) (.d (.int j)) m = .ok (.d (.bool (f i j))) m := rfl
@[simp] theorem p_isN {n : Bool} : isV n x (.d .none) m = .ok (.d (.bool (if n then !isNone x else isNone x))) m := rfl
@[simp] theorem p_isNone {d : Data} : isNone (.d d) = (match d with
  | .none => true
  | _ => false) := by cases d <;> rfl
@[simp] theorem p_isNoneL {l : Nat} : isNone (.loc l) = false := rfl
@[simp] theorem p_isNoneT {l : List Val} : isNone (.tup l) = false := rfl
@[simp] theorem p_isNoneO {c : Nat} {l : List Val} : isNone (.obj c l) = false := rfl
@[simp] theorem p_eqI {n : Bool} {i j : Int} : eqV n (.d (.int i)) (.d (.int j)) m = .ok (.d (.bool (if n then !decide (i = j) else decide (i = j)))) m := by
  show (match pyEq m (.d (.int i)) (.d (.int j)) with
    | some b => Res.ok (Val.d (.bool (if n then !b else b))) m
    | Option.none => .bad) = _
  have e : pyEq m (.d (.int i)) (.d (.int j)) = some (decide (i = j)) := by
    unfold pyEq
    rw [pyV_d, pyV_d]
    show (if (scalP (.int i) (.int j) || _) = true then some (PyData.eqv (.int i) (.int j)) else Option.none) = _
    rw [show scalP (.int i) (.int j) = true from rfl, Bool.true_or, if_pos rfl]
    congr 1
  rw [e]
@[simp] theorem p_eqS {n : Bool} {i j : Str} : eqV n (.d (.str i)) (.d (.str j)) m = .ok (.d (.bool (if n then !decide (i = j) else decide (i = j)))) m := by
  show (match pyEq m (.d (.str i)) (.d (.str j)) with
    | some b => Res.ok (Val.d (.bool (if n then !b else b))) m
    | Option.none => .bad) = _
  have e : pyEq m (.d (.str i)) (.d (.str j)) = some (decide (i = j)) := by
    unfold pyEq
    rw [pyV_d, pyV_d]
    show (if (scalP (.str i) (.str j) || _) = true then some (PyData.eqv (.str i) (.str j)) else Option.none) = _
    rw [show scalP (.str i) (.str j) = true from rfl, Bool.true_or, if_pos rfl]
    congr 1
  rw [e]
@[simp] theorem p_eqB {n : Bool} {i j : Bool} : eqV n (.d (.bool i)) (.d (.bool j)) m = .ok (.d (.bool (if n then !decide (i = j) else decide (i = j)))) m := by
  cases i <;> cases j <;> cases n <;> rfl
theorem p_inS {n : Bool} {ch : Nat} {z : Str} : inV n (.d (.str ⟨#[ch]⟩)) (.d (.str z)) m = .ok (.d (.bool (negB n (decide (ch ∈ z.cps.toList))))) m := rfl
@[simp] theorem p_negB {b : Bool} : negB true b = !b := rfl
@[simp] theorem p_negB' {b : Bool} : negB false b = b := rfl
@[simp] theorem p_abs {i : Int} : absV [.d (.int i)] m = .ok (.d (.int (if i < 0 then -i else i))) m := rfl
@[simp] theorem p_min {i j : Int} : minV [.d (.int i), .d (.int j)] m = .ok (.d (.int (if j < i then j else i))) m := rfl
@[simp] theorem p_max {i j : Int} : maxV [.d (.int i), .d (.int j)] m = .ok (.d (.int (if j > i then j else i))) m := rfl
@[simp] theorem p_int {i : Int} : intV [.d (.int i)] m = .ok (.d (.int i)) m := rfl
@[simp] theorem p_intB {b : Bool} : intV [.d (.bool b)] m = .ok (.d (.int (if b then 1 else 0))) m := rfl
theorem p_lenS {s : Str} (h : s.length ≤ 16777216) : lenV [.d (.str s)] m = .ok (.d (.int s.length)) m := if_neg (by omega)
@[simp] theorem p_lenD {ds : List Data} : lenV [.d (.list ds)] m = .ok (.d (.int ds.length)) m := by
  show (match seqV m (.d (.list ds)) with
    | some xs => Res.ok (Val.d (.int xs.length)) m
    | Option.none => .bad) = _
  show Res.ok (Val.d (.int (ds.map Val.d).length)) m = _
  rw [List.length_map]
@[simp] theorem p_lenT {ds : List Data} : lenV [.d (.tup ds)] m = .ok (.d (.int ds.length)) m := by
  show Res.ok (Val.d (.int (ds.map Val.d).length)) m = _
  rw [List.length_map]
@[simp] theorem p_lenR {ns : List Int} : lenV [.ro ns] m = .ok (.d (.int ns.length)) m := by
  show Res.ok (Val.d (.int (ns.map fun i => Val.d (.int i)).length)) m = _
  rw [List.length_map]
theorem p_lenL {l : Nat} {vs : List Val} (h : m[l]? = some (.lst vs)) : lenV [.loc l] m = .ok (.d (.int vs.length)) m := by
  show (match seqV m (.loc l) with
    | some xs => Res.ok (Val.d (.int xs.length)) m
    | Option.none => .bad) = _
  have e : seqV m (.loc l) = some vs := by
    show lstV m (.loc l) = some vs
    simp only [lstV, h]
  rw [e]
theorem p_norm {l : Nat} {vs : List Val} (h : m[l]? = some (.lst vs)) : norm m (.loc l) = .loc l := by
  simp only [norm, h]
theorem p_atL {l : Nat} {vs : List Val} (h : m[l]? = some (.lst vs)) : atL m (.loc l) = some (l, vs) := by
  simp only [atL, h]
theorem p_lstV {l : Nat} {vs : List Val} (h : m[l]? = some (.lst vs)) : lstV m (.loc l) = some vs := by
  simp only [lstV, h]
theorem p_isL {l : Nat} {vs : List Val} (h : m[l]? = some (.lst vs)) : isL m (.loc l) = true := by
  unfold isL
  rw [p_lstV h]
  rfl
@[simp] theorem p_isLD {ds : List Data} : isL m (.d (.list ds)) = true := rfl
@[simp] theorem p_isS {s : Str} : isS m (.d (.str s)) = true := rfl
theorem p_app {l : Nat} {vs : List Val} (h : m[l]? = some (.lst vs)) (hl : vs.length < 16777216) : appV (.loc l) [v] m = .ok (.d .none) (m.set l (.lst (vs ++ [v]))) := by
  unfold appV
  rw [p_atL h]
  exact if_pos hl
theorem p_pop0 {l : Nat} {vs : List Val} (h : m[l]? = some (.lst (v :: vs))) (hl : vs.length < 16777216) : popAtV (.loc l) [.d (.int 0)] m = .ok v (m.set l (.lst vs)) := by
  unfold popAtV
  rw [p_atL h]
  have hc : (0 : Int) ≤ 0 ∧ (0 : Int) < (v :: vs).length ∧ (v :: vs).length ≤ 16777216 := ⟨Int.le_refl _, by simp only [List.length_cons]; omega, by simp only [List.length_cons]; omega⟩
  exact if_pos hc
theorem p_idxL {l : Nat} {vs : List Val} {i : Int} (h : m[l]? = some (.lst vs)) (hi : atI vs i = some v) : idxV (.loc l) (.d (.int i)) m = .ok (norm m v) m := by
  show (match (seqV m (.loc l)).bind fun xs => atI xs i with
    | some v => Res.ok (norm m v) m
    | Option.none => .bad) = _
  rw [show seqV m (.loc l) = some vs from p_lstV h]
  show (match atI vs i with
    | some v => Res.ok (norm m v) m
    | Option.none => .bad) = _
  rw [hi]
theorem atI_nn {α : Type} {xs : List α} {i : Int} (h0 : 0 ≤ i) (h1 : i < xs.length) : atI xs i = xs[i.toNat]? := by
  have e : L2.ixN xs.length i = some i.toNat := by
    unfold L2.ixN
    grind
  unfold atI
  rw [e]
  rfl
theorem p_idxD {ds : List Data} {i : Int} {x : Data} (hi : atI ds i = some x) : idxV (.d (.list ds)) (.d (.int i)) m = .ok (.d x) m := by
  show (match (some (ds.map Val.d)).bind fun xs => atI xs i with
    | some v => Res.ok (norm m v) m
    | Option.none => .bad) = _
  have e : atI (ds.map Val.d) i = some (.d x) := by
    unfold atI at hi ⊢
    rw [List.length_map]
    obtain ⟨j, h1, h2⟩ := Option.bind_eq_some_iff.mp hi
    exact Option.bind_eq_some_iff.mpr ⟨j, h1, by rw [List.getElem?_map, h2]; rfl⟩
  show (match atI (ds.map Val.d) i with
    | some v => Res.ok (norm m v) m
    | Option.none => .bad) = _
  rw [e]
  rfl
theorem p_idxT {ds : List Data} {i : Int} {x : Data} (hi : atI ds i = some x) : idxV (.d (.tup ds)) (.d (.int i)) m = .ok (.d x) m := by
  have e : atI (ds.map Val.d) i = some (.d x) := by
    unfold atI at hi ⊢
    rw [List.length_map]
    obtain ⟨j, h1, h2⟩ := Option.bind_eq_some_iff.mp hi
    exact Option.bind_eq_some_iff.mpr ⟨j, h1, by rw [List.getElem?_map, h2]; rfl⟩
  show (match atI (ds.map Val.d) i with
    | some v => Res.ok (norm m v) m
    | Option.none => .bad) = _
  rw [e]
  rfl
theorem p_idxR {ns : List Int} {i x : Int} (hi : atI ns i = some x) : idxV (.ro ns) (.d (.int i)) m = .ok (.d (.int x)) m := by
  have e : atI (ns.map fun i => Val.d (.int i)) i = some (.d (.int x)) := by
    unfold atI at hi ⊢
    rw [List.length_map]
    obtain ⟨j, h1, h2⟩ := Option.bind_eq_some_iff.mp hi
    exact Option.bind_eq_some_iff.mpr ⟨j, h1, by rw [List.getElem?_map, h2]; rfl⟩
  show (match atI (ns.map fun i => Val.d (.int i)) i with
    | some v => Res.ok (norm m v) m
    | Option.none => .bad) = _
  rw [e]
  rfl
theorem p_idxS {s : Str} {i : Int} {ch : Nat} (hl : s.length ≤ 16777216) (hi : atI s.cps.toList i = some ch) : idxV (.d (.str s)) (.d (.int i)) m = .ok (.d (.str ⟨#[ch]⟩)) m := by
  show (if 16777216 < s.length then Res.bad else match atI s.cps.toList i with
    | some c => Res.ok (Val.d (.str ⟨#[c]⟩)) m
    | Option.none => .bad) = _
  rw [if_neg (by omega), hi]
theorem p_mkL0 : mkL true [] m = .ok (.loc m.length) (m ++ [.lst []]) := rfl
@[simp] theorem p_rng {i : Int} (h : -big ≤ i ∧ i < big) : rngA [.d (.int i)] m = some (rngIts 0 i.toNat) := if_pos h
@[simp] theorem p_itS {s : Str} : itA (.d (.str s)) m = some ⟨s.cps.toList.map fun c => .d (.str ⟨#[c]⟩), Option.none⟩ := rfl
@[simp] theorem p_itD {ds : List Data} : itA (.d (.list ds)) m = some ⟨ds.map .d, Option.none⟩ := rfl
@[simp] theorem p_itT {ds : List Data} : itA (.d (.tup ds)) m = some ⟨ds.map .d, Option.none⟩ := rfl
theorem p_itL {l : Nat} {vs : List Val} (h : m[l]? = some (.lst vs)) : itA (.loc l) m = some ⟨vs, some (l, vs)⟩ := by
  show (lstV m (.loc l)).map _ = _
  rw [p_lstV h]
  rfl
end

/-! ### loops -/
section
variable {tg : Val → Env → Option Env} {b : SM} {gd : Option (Nat × List Val)}
theorem for_nil {e : Env} {μ : Mem} (h : GOk gd μ) : sForL gd tg b [] e μ = .next e μ := by
  unfold sForL
  exact if_pos h
theorem for_cons {v : Val} {r : List Val} {e e1 : Env} {μ : Mem} (h : GOk gd μ) (h1 : tg v e = some e1) : sForL gd tg b (v :: r) e μ = (match b e1 μ with
    | .next e2 μ2 => sForL gd tg b r e2 μ2
    | q => q) := by
  conv => lhs; unfold sForL
  simp only [if_pos h, h1]
  all_goals (cases b e1 μ <;> rfl)
/-- a loop that goes to its end | is left by a return -/
theorem for_inv (items : List Val) (I : Nat → Env → Mem → Prop) (R : SRes → Prop) (hg : ∀ i e μ, I i e μ → GOk gd μ)
    (hs : ∀ i v e μ, items[i]? = some v → I i e μ → ∃ e1, tg v e = some e1 ∧ ((∃ e2 μ2, b e1 μ = .next e2 μ2 ∧ I (i + 1) e2 μ2) ∨ ((∀ e2 μ2, b e1 μ ≠ .next e2 μ2) ∧ R (b e1 μ)))) :
    ∀ e μ, I 0 e μ → (∃ e' μ', sForL gd tg b items e μ = .next e' μ' ∧ I items.length e' μ') ∨ ((∀ e2 μ2, sForL gd tg b items e μ ≠ .next e2 μ2) ∧ R (sForL gd tg b items e μ)) := by
  have main : ∀ (r : List Val) (k : Nat), items.drop k = r → ∀ e μ, I k e μ → k ≤ items.length → (∃ e' μ', sForL gd tg b r e μ = .next e' μ' ∧ I items.length e' μ') ∨ ((∀ e2 μ2, sForL gd tg b r e μ ≠ .next e2 μ2) ∧ R (sForL gd tg b r e μ)) := by
    intro r
    induction r with
    | nil =>
      intro k hk e μ h hl
      have hlen : items.length ≤ k := List.drop_eq_nil_iff.mp hk
      have e1 : k = items.length := by omega
      subst e1
      exact .inl ⟨e, μ, for_nil (hg _ _ _ h), h⟩
    | cons v r ih =>
      intro k hk e μ h hl
      have hv : items[k]? = some v := by
        have e := List.getElem?_drop (xs := items) (i := k) (j := 0)
        rw [hk] at e
        simpa using e.symm
      have hr : items.drop (k + 1) = r := by
        rw [← List.drop_drop, hk]
        rfl
      have hlt : k < items.length := (List.getElem?_eq_some_iff.mp hv).1
      obtain ⟨e1, h1, h2⟩ := hs k v e μ hv h
      rw [for_cons (hg _ _ _ h) h1]
      rcases h2 with ⟨e2, μ2, h3, h4⟩ | ⟨h3, h4⟩
      · rw [h3]
        exact ih (k + 1) hr e2 μ2 h4 hlt
      · cases hb : b e1 μ with
        | next e2 μ2 => exact absurd hb (h3 e2 μ2)
        | ret v' m' =>
          rw [hb] at h3 h4
          exact .inr ⟨h3, h4⟩
        | exc c p e' m' =>
          rw [hb] at h3 h4
          exact .inr ⟨h3, h4⟩
        | bad =>
          rw [hb] at h3 h4
          exact .inr ⟨h3, h4⟩
  intro e μ h
  exact main items 0 rfl e μ h (Nat.zero_le _)
/-- a loop that always goes to its end -/
theorem for_all (items : List Val) (I : Nat → Env → Mem → Prop) (hg : ∀ i e μ, I i e μ → GOk gd μ)
    (hs : ∀ i v e μ, items[i]? = some v → I i e μ → ∃ e1, tg v e = some e1 ∧ ∃ e2 μ2, b e1 μ = .next e2 μ2 ∧ I (i + 1) e2 μ2) :
    ∀ e μ, I 0 e μ → ∃ e' μ', sForL gd tg b items e μ = .next e' μ' ∧ I items.length e' μ' := by
  intro e μ h
  rcases for_inv (b := b) items I (fun _ => False) hg (fun i v e μ h1 h2 => by
    obtain ⟨e1, h3, h4⟩ := hs i v e μ h1 h2
    exact ⟨e1, h3, .inl h4⟩) e μ h with h | ⟨_, h⟩
  · exact h
  · exact h.elim
end

/-! ### the law's numbers: the pool stands at place 0 -/
structure Pl where
  ps : List Int
  nn : ∀ p ∈ ps, 0 ≤ p
  len : ps.length ≤ 4000
def ival (i : Int) : Val := .d (.int i)
def Pl.cell (q : Pl) : Cell := .lst (q.ps.map ival)
/-- what is left of the pool; the other places -/
def PM (q : Pl) (R : Mem) : Mem := q.cell :: R
theorem PM_at (q : Pl) (R : Mem) : (PM q R)[0]? = some (.lst (q.ps.map ival)) := rfl
theorem PM_set (q : Pl) (R : Mem) (ps : List Int) (h1 : ∀ p ∈ ps, 0 ≤ p) (h2 : ps.length ≤ 4000) : (PM q R).set 0 (.lst (ps.map ival)) = PM ⟨ps, h1, h2⟩ R := rfl
theorem PM_len (q : Pl) (R : Mem) : (PM q R).length = R.length + 1 := rfl
@[simp] theorem PM_norm (q : Pl) (R : Mem) : norm (PM q R) (.loc 0) = .loc 0 := rfl
theorem Below_ints {n : Nat} (ps : List Int) : Below n (.lst (ps.map ival)) := by
  intro v hv
  obtain ⟨i, _, rfl⟩ := List.mem_map.mp hv
  exact trivial
/-- a call's end over the pool: new places are forgotten -/
theorem trunc_PM {q q' : Pl} {R ext : Mem} : trunc (PM q R) (PM q' (R ++ ext)) = PM q' R := by
  have tk : TOk (PM q R) (PM q' (R ++ ext)) := by
    refine ⟨by simp [PM], fun l c hl hc => ?_⟩
    cases l with
    | zero =>
      cases hc
      exact .inr (Below_ints q'.ps)
    | succ l =>
      have hl : l < R.length := by simpa [PM] using hl
      have hc : (R ++ ext)[l]? = some c := hc
      rw [List.getElem?_append_left hl] at hc
      exact .inl hc
  unfold trunc
  rw [if_pos tk]
  show (q'.cell :: (R ++ ext)).take (R.length + 1) = q'.cell :: R
  rw [List.take_succ_cons, List.take_left]
theorem call_d {f : Fn} {vs : List Val} {q q' : Pl} {R ext : Mem} {d : Data} (h : f vs (PM q R) = .ok (.d d) (PM q' (R ++ ext))) : callF true f vs (PM q R) = .ok (.d d) (PM q' R) := by
  unfold callF
  simp only [h]
  show (match (some (d, PM q' (R ++ ext)) : Option (Data × Mem)) with
    | some (x, m2) => Res.ok (Val.d x) (trunc (PM q R) m2)
    | Option.none => .bad) = _
  simp only [trunc_PM]
theorem call_exc {f : Fn} {vs : List Val} {q q' : Pl} {R ext : Mem} {c : Nat} {p : List Data} (h : f vs (PM q R) = .exc c p (PM q' (R ++ ext))) : callF true f vs (PM q R) = .exc c p (PM q' R) := by
  unfold callF
  simp only [h, trunc_PM]
end Fs
namespace Fs
open PySem PySem.Spec L2
section
variable {s t : SM} {e e1 : Env} {μ μ1 m : Mem}
theorem seq_next (h : s e μ = .next e1 μ1) : sSeq s t e μ = t e1 μ1 := by
  simp only [r_sSeq, h]
theorem seq_ret {v : Val} (h : s e μ = .ret v m) : sSeq s t e μ = .ret v m := by
  simp only [r_sSeq, h]
theorem seq_exc {c : Nat} {p : List Data} (h : s e μ = .exc c p e1 m) : sSeq s t e μ = .exc c p e1 m := by
  simp only [r_sSeq, h]
theorem fn_ret {n : Nat} {us : List Val} {v : Val} (h : s (us.map some ++ List.replicate (n - us.length) none) μ = .ret v m) : fnM n s us μ = .ok v m := by
  simp only [fnM, h]
theorem fn_exc {n : Nat} {us : List Val} {c : Nat} {p : List Data} (h : s (us.map some ++ List.replicate (n - us.length) none) μ = .exc c p e1 m) : fnM n s us μ = .exc c p m := by
  simp only [fnM, h]
theorem if_true {c : TM} {a b : SM} (h : c e μ = .ok true m) : sIf c a b e μ = a e m := by
  simp [r_sIf, h]
theorem if_false {c : TM} {a b : SM} (h : c e μ = .ok false m) : sIf c a b e μ = b e m := by
  simp [r_sIf, h]
end
theorem set_set_last (m : Mem) (a b : Cell) : (m ++ [a]).set m.length b = m ++ [b] := by simp
theorem rng_at {lo : Int} {n i : Nat} {v : Val} (h : (rngIts lo n).items[i]? = some v) : i < n ∧ v = .d (.int (lo + (i : Nat))) := by
  have hv : ((List.range n).map fun i => Val.d (.int (lo + (i : Nat))))[i]? = some v := h
  rw [List.getElem?_map, Option.map_eq_some_iff] at hv
  obtain ⟨j, h1, rfl⟩ := hv
  obtain ⟨h2, h3⟩ := List.getElem?_eq_some_iff.mp h1
  rw [List.getElem_range] at h3
  subst h3
  rw [List.length_range] at h2
  exact ⟨h2, rfl⟩
@[simp] theorem rng_len {lo : Int} {n : Nat} : (rngIts lo n).items.length = n := by simp [rngIts]
@[simp] theorem rng_guard {lo : Int} {n : Nat} : (rngIts lo n).guard = Option.none := rfl
end Fs
namespace Fs
open PySem PySem.Spec L2
/-- a loop that looks at each item and may leave by a return -/
theorem for_check {j : Nat} {b : SM} {P : Val → Bool} {r : Val} {m : Mem} {gd : Option (Nat × List Val)} (hg : GOk gd m) (E : Fs.Env → Prop) : ∀ (items : List Val),
    (∀ e v, v ∈ items → E e → E (e.set j (some v)) ∧ ((P v = true → ∃ e', E e' ∧ b (e.set j (some v)) m = .next e' m) ∧ (P v = false → b (e.set j (some v)) m = .ret r m))) →
    ∀ e, E e → (items.all P = true → ∃ e', E e' ∧ sForL gd (gN j) b items e m = .next e' m) ∧ (items.all P = false → sForL gd (gN j) b items e m = .ret r m)
  | [], _, e, he => ⟨fun _ => ⟨e, he, for_nil hg⟩, fun h => by simp at h⟩
  | v :: vs, hb, e, he => by
    obtain ⟨h1, h2, h3⟩ := hb e v (List.mem_cons_self ..) he
    rw [for_cons hg (r_gN (i := j))]
    cases hp : P v with
    | true =>
      obtain ⟨e', h4, h5⟩ := h2 hp
      have ih := for_check hg E vs (fun e u hu => hb e u (List.mem_cons_of_mem _ hu)) e' h4
      rw [h5]
      simpa [hp] using ih
    | false =>
      rw [h3 hp]
      simp [hp]
def sgn (c : Nat) : Val := .d (.str ⟨#[c]⟩)
theorem str_at {s : Str} {i : Int} (h0 : 0 ≤ i) (h1 : i < s.length) : ∃ c, L2.atI s.cps.toList i = some c := by
  have hl : s.length = s.cps.toList.length := by
    rw [Array.length_toList]
    rfl
  rw [atI_nn h0 (by omega)]
  exact ⟨s.cps.toList[i.toNat]'(by omega), List.getElem?_eq_getElem (by omega)⟩
theorem str_len (s : Str) : s.length = s.cps.toList.length := by
  rw [Array.length_toList]
  rfl
end Fs
/-! ### the machines -/
namespace Fm
open PySem PySem.Spec L2 Fs
noncomputable def b1__law_named : SM := (sIf (Fs.tAnd (tOf (eBin (inV true) (eVar 2) (eVar 1))) (tOf (eBin (inV true) (eVar 2) (eC (.str "0123456789"))))) (sRet (eC (.bool false))) sNext)
noncomputable def m__law_named : SM := (sSeq (sSet 1 (eC (.str "abcdefghijklmnopqrstuvwxyz"))) (sSeq (sIf (Fs.tOr (tOf (eBin (cmpI ltI) (eArgs lenV (aCons (eVar 0) aNil)) (eC (.int 1)))) (tOf (eBin (cmpI gtI) (eArgs lenV (aCons (eVar 0) aNil)) (eC (.int 12))))) (sRet (eC (.bool false))) sNext) (sSeq (sIf (tOf (eBin (inV true) (eBin idxV (eVar 0) (eC (.int 0))) (eVar 1))) (sRet (eC (.bool false))) sNext) (sSeq (sFor (iOf itA (eVar 0)) (gN 2) b1__law_named) (sRet (eC (.bool true)))))))
noncomputable def f__law_named : Fn := fnM 3 m__law_named
noncomputable def b1__law_pool : SM := (sSeq (sIf (tOf (eBin (cmpI gtI) (eVar 3) (eC (.int 0)))) (sDo (eBm isL appV (eVar 1) (aCons (eBin (intOp modI) (eArgs intV (aCons (eVar 3) aNil)) (eC (.int 100))) aNil))) sNext) (sSet 3 (eBin (intOp fdvI) (eVar 3) (eC (.int 100)))))
noncomputable def b2__law_pool : SM := (sSeq (sSet 5 (eBin (intOp modI) (eArgs intV (aCons (eBin (addV false) (eBin (addV false) (eBin (repV false) (eVar 5) (eVar 5)) (eBin (repV false) (eVar 4) (eC (.int 69621)))) (eVar 2)) aNil)) (eC (.int 998244353)))) (sDo (eBm isL appV (eVar 1) (aCons (eBin (intOp modI) (eArgs intV (aCons (eBin (intOp fdvI) (eVar 5) (eC (.int 7))) aNil)) (eC (.int 9973))) aNil))))
noncomputable def b3__law_pool : SM := (sSeq (sSet 3 (eArgs absV (aCons (eBin idxV (eVar 0) (eVar 2)) aNil))) (sIf (tOf (eBin (cmpI geI) (eVar 3) (eBin (intOp powI) (eC (.int 10)) (eC (.int 18))))) (sFor (iArg rngA (aCons (eC (.int 60)) aNil)) (gN 4) b1__law_pool) (sSeq (sSet 5 (eBin (intOp modI) (eArgs intV (aCons (eBin (addV false) (eBin (addV false) (eBin (addV false) (eBin (repV false) (eVar 3) (eC (.int 48271))) (eBin (repV false) (eVar 2) (eC (.int 7919)))) (eBin (repV false) (eArgs intV (aCons (eBin (cmpI ltI) (eBin idxV (eVar 0) (eVar 2)) (eC (.int 0))) aNil)) (eC (.int 104729)))) (eC (.int 11))) aNil)) (eC (.int 2147483647)))) (sFor (iArg rngA (aCons (eC (.int 12)) aNil)) (gN 4) b2__law_pool))))
noncomputable def m__law_pool : SM := (sSeq (sSet 1 (eArgs (mkL true) aNil)) (sSeq (sFor (iArg rngA (aCons (eArgs minV (aCons (eArgs lenV (aCons (eVar 0) aNil)) (aCons (eC (.int 63)) aNil))) aNil)) (gN 2) b3__law_pool) (sRet (eVar 1))))
noncomputable def f__law_pool : Fn := fnM 6 m__law_pool
noncomputable def m__law_take : SM := (sSeq (sIf (tOf (eBin (eqV false) (eArgs lenV (aCons (eVar 0) aNil)) (eC (.int 0)))) (sRet (eC (.int 0))) sNext) (sRet (eBin (intOp modI) (eArgs intV (aCons (eBm isL popAtV (eVar 0) (aCons (eC (.int 0)) aNil)) aNil)) (eVar 1))))
noncomputable def f__law_take : Fn := fnM 2 m__law_take
noncomputable def b1__law_word : SM := (sSeq (sSet 8 (eVar 2)) (sSeq (sIf (tOf (eBin (eqV false) (eVar 7) (eC (.int 0)))) (sSet 8 (eVar 1)) sNext) (sSeq (sIf (tOf (eBin (eqV false) (eVar 5) (eC (.int 3)))) (sSet 8 (eBin (addV false) (eVar 2) (eVar 3))) sNext) (sDo (eBm isL appV (eVar 6) (aCons (eBin idxV (eVar 8) (eCall 2 false f__law_take (aCons (eVar 0) (aCons (eArgs lenV (aCons (eVar 8) aNil)) aNil)))) aNil))))))
noncomputable def m__law_word : SM := (sSeq (sSet 1 (eC (.str "abcdefghijklmnopqrstuvwxyz"))) (sSeq (sSet 2 (eBin (addV false) (eVar 1) (eC (.str "0123456789")))) (sSeq (sSet 3 (eC (.str "ABZ_- ./:~!\"#$&'()*+,;<=>?\x40[\\]^{|}\n\t"))) (sSeq (sSet 4 (eCall 2 false f__law_take (aCons (eVar 0) (aCons (eC (.int 16)) aNil)))) (sSeq (sSet 5 (eCall 2 false f__law_take (aCons (eVar 0) (aCons (eC (.int 4)) aNil)))) (sSeq (sSet 6 (eArgs (mkL true) aNil)) (sSeq (sFor (iArg rngA (aCons (eVar 4) aNil)) (gN 7) b1__law_word) (sSeq (sIf (Fs.tAnd (tOf (eBin (eqV false) (eVar 5) (eC (.int 1)))) (tOf (eBin (cmpI gtI) (eVar 4) (eC (.int 0))))) (sSeq (sSet 9 (eCall 2 false f__law_take (aCons (eVar 0) (aCons (eVar 4) aNil)))) (sSetIx (eVar 6) (eVar 9) (eBin idxV (eVar 3) (eCall 2 false f__law_take (aCons (eVar 0) (aCons (eArgs lenV (aCons (eVar 3) aNil)) aNil)))))) sNext) (sSeq (sIf (Fs.tAnd (tOf (eBin (eqV false) (eVar 5) (eC (.int 2)))) (tOf (eBin (cmpI gtI) (eVar 4) (eC (.int 0))))) (sSetIx (eVar 6) (eC (.int 0)) (eBin idxV (eC (.str "0123456789")) (eCall 2 false f__law_take (aCons (eVar 0) (aCons (eC (.int 10)) aNil))))) sNext) (sRet (eBm isS joinV (eC (.str "")) (aCons (eVar 6) aNil))))))))))))
noncomputable def f__law_word : Fn := fnM 10 m__law_word
noncomputable def b1_is_name : SM := (sIf (Fs.tAnd (tOf (eBin (inV true) (eVar 1) (eC (.str "abcdefghijklmnopqrstuvwxyz")))) (tOf (eBin (inV true) (eVar 1) (eC (.str "0123456789"))))) (sRet (eC (.bool false))) sNext)
noncomputable def m_is_name : SM := (sSeq (sIf (Fs.tOr (tOf (eBin (eqV false) (eVar 0) (eC (.str "")))) (Fs.tOr (tOf (eBin (cmpI gtI) (eArgs lenV (aCons (eVar 0) aNil)) (eC (.int 12)))) (tOf (eBin (inV true) (eBin idxV (eVar 0) (eC (.int 0))) (eC (.str "abcdefghijklmnopqrstuvwxyz")))))) (sRet (eC (.bool false))) sNext) (sSeq (sFor (iOf itA (eVar 0)) (gN 1) b1_is_name) (sRet (eC (.bool true)))))
noncomputable def f_is_name : Fn := fnM 2 m_is_name
noncomputable def b1_law : SM := (sSeq (sSet 5 (eCall 1 false f_is_name (aCons (eVar 4) aNil))) (sIf (Fs.tOr (tNot (tOf (eIsi "bool" (eVar 5)))) (tOf (eBin (eqV true) (eVar 5) (eCall 1 false f__law_named (aCons (eVar 4) aNil))))) (sRet (eC (.bool false))) sNext))
noncomputable def m_law : SM := (sSeq (sSet 1 (eCall 1 false f__law_pool (aCons (eVar 0) aNil))) (sSeq (sSet 2 (eCall 1 true f__law_word (aCons (eVar 1) aNil))) (sSeq (sSet 3 (eCall 1 true f__law_word (aCons (eVar 1) aNil))) (sSeq (sFor (iOf itA (eArgs (mkL false) (aCons (eVar 2) (aCons (eVar 3) (aCons (eVar 2) aNil))))) (gN 4) b1_law) (sRet (eC (.bool true)))))))
noncomputable def f_law : Fn := fnM 6 m_law
end Fm
/-! ### the law's numbers -/
namespace Fm
open PySem PySem.Spec L2 Fs
theorem take_spec (q : Pl) (R : Mem) (k : Int) (hk : 0 < k) : ∃ (n : Int) (q' : Pl), 0 ≤ n ∧ n < k ∧ f__law_take [.loc 0, .d (.int k)] (PM q R) = .ok (.d (.int n)) (PM q' R) := by
  obtain ⟨ps, nn, len⟩ := q
  cases ps with
  | nil =>
    refine ⟨0, ⟨[], nn, len⟩, Int.le_refl _, hk, ?_⟩
    simp -implicitDefEqProofs [f__law_take, fnM, m__law_take, p_lenL (PM_at _ R)]
  | cons p ps =>
    have n1 : ∀ x ∈ ps, 0 ≤ x := fun x hx => nn x (List.mem_cons_of_mem _ hx)
    have n2 : ps.length ≤ 4000 := by
      simp only [List.length_cons] at len
      omega
    refine ⟨p % k, ⟨ps, n1, n2⟩, Int.emod_nonneg _ (by omega), Int.emod_lt_of_pos _ hk, ?_⟩
    have h0 := PM_at ⟨p :: ps, nn, len⟩ R
    have h1 : (PM ⟨p :: ps, nn, len⟩ R)[0]? = some (.lst (ival p :: ps.map ival)) := h0
    have e1 : popAtV (.loc 0) [.d (.int 0)] (PM ⟨p :: ps, nn, len⟩ R) = .ok (ival p) (PM ⟨ps, n1, n2⟩ R) := p_pop0 h1 (by simp only [List.length_map]; omega)
    have e2 : ¬ ((ps.length : Int) + 1 = 0) := by omega
    simp -implicitDefEqProofs [f__law_take, fnM, m__law_take, p_lenL h0, p_isL h1, e1, ival, p_mod hk, e2]

/-- the pool while it is made: the script, the list, the rest -/
def PoolI (ns : List Int) (b : Nat) (a1 : Option Val) (a2 : Int) (e : Fs.Env) (m : Mem) : Prop := ∃ (x a3 a4 : Option Val) (j : Int) (ps : List Int), e = [some (.ro ns), some (.loc 0), a1, x, a3, a4] ∧ m = [.lst (ps.map ival)] ∧ (∀ p ∈ ps, 0 ≤ p) ∧ ps.length ≤ b ∧ (a2 = 0 → x = some (.d (.int j))) ∧ (a2 = 1 → a4 = some (.d (.int j)) ∧ 0 ≤ j ∧ j < 2147483647)
theorem pool_b1 {ns : List Int} {b : Nat} {a1 : Option Val} {e : Fs.Env} {m : Mem} (v : Val) (hb : b + 1 ≤ 4000) (h : PoolI ns b a1 0 e m) : ∃ e2 μ2, b1__law_pool (e.set 4 (some v)) m = .next e2 μ2 ∧ PoolI ns (b + 1) a1 0 e2 μ2 := by
  obtain ⟨x, a3, a4, j, ps, rfl, rfl, nn, len, hx, -⟩ := h
  obtain rfl := hx rfl
  by_cases hj : j > 0
  · have e1 : appV (.loc 0) [.d (.int (j % 100))] [.lst (ps.map ival)] = .ok (.d .none) [.lst ((ps ++ [j % 100]).map ival)] := by
      rw [p_app (vs := ps.map ival) rfl (by rw [List.length_map]; omega), List.map_append]
      rfl
    refine ⟨[some (.ro ns), some (.loc 0), a1, some (.d (.int (j / 100))), some v, a4], [.lst ((ps ++ [j % 100]).map ival)], ?_, _, _, _, j / 100, ps ++ [j % 100], rfl, rfl, fun p hp => ?_, by simp; omega, fun _ => rfl, fun z => by omega⟩
    · simp -implicitDefEqProofs [b1__law_pool, gtI, hj, isL, lstV, p_mod, e1, p_fdv, norm]
    · rcases List.mem_append.mp hp with hp | hp
      · exact nn p hp
      · rw [List.mem_singleton.mp hp]
        exact Int.emod_nonneg _ (by omega)
  · refine ⟨[some (.ro ns), some (.loc 0), a1, some (.d (.int (j / 100))), some v, a4], [.lst (ps.map ival)], ?_, _, _, _, j / 100, ps, rfl, rfl, nn, by omega, fun _ => rfl, fun z => by omega⟩
    simp -implicitDefEqProofs [b1__law_pool, gtI, hj, p_fdv]
theorem pool_b2 {ns : List Int} {b : Nat} {k t : Int} {e : Fs.Env} {m : Mem} (hk : 0 ≤ k ∧ k < 63) (ht : 0 ≤ t) (hb : b + 1 ≤ 4000) (h : PoolI ns b (some (.d (.int k))) 1 e m) : ∃ e2 μ2, b2__law_pool (e.set 4 (some (.d (.int t)))) m = .next e2 μ2 ∧ PoolI ns (b + 1) (some (.d (.int k))) 1 e2 μ2 := by
  obtain ⟨x, a3, a4, j, ps, rfl, rfl, nn, len, -, hx⟩ := h
  obtain ⟨rfl, h0, h1⟩ := hx rfl
  generalize hj : (j * j + t * 69621 + k) % 998244353 = j2
  have h2 : 0 ≤ j2 ∧ j2 < 998244353 := by
    subst hj
    exact ⟨Int.emod_nonneg _ (by omega), Int.emod_lt_of_pos _ (by omega)⟩
  have e1 : appV (.loc 0) [.d (.int (j2 / 7 % 9973))] [.lst (ps.map ival)] = .ok (.d .none) [.lst ((ps ++ [j2 / 7 % 9973]).map ival)] := by
    rw [p_app (vs := ps.map ival) rfl (by rw [List.length_map]; omega), List.map_append]
    rfl
  have e2 : repV false (.d (.int j)) (.d (.int j)) [.lst (ps.map ival)] = .ok (.d (.int (j * j))) [.lst (ps.map ival)] := p_mul (by omega)
  refine ⟨[some (.ro ns), some (.loc 0), some (.d (.int k)), x, some (.d (.int t)), some (.d (.int j2))], [.lst ((ps ++ [j2 / 7 % 9973]).map ival)], ?_, _, _, _, j2, ps ++ [j2 / 7 % 9973], rfl, rfl, fun p hp => ?_, by simp; omega, fun z => by omega, fun _ => ⟨rfl, by omega, by omega⟩⟩
  · simp -implicitDefEqProofs [b2__law_pool, isL, lstV, p_mod, e1, p_fdv, norm, p_mul, e2, hj]
  · rcases List.mem_append.mp hp with hp | hp
    · exact nn p hp
    · rw [List.mem_singleton.mp hp]
      exact Int.emod_nonneg _ (by omega)
theorem pool_b3 {ns : List Int} {b : Nat} {k : Nat} {a1 : Option Val} {e : Fs.Env} {m : Mem} (hk : k < 63 ∧ k < ns.length) (hb : b + 60 ≤ 4000) (h : PoolI ns b a1 2 e m) : ∃ e2 μ2, b3__law_pool (e.set 2 (some (.d (.int k)))) m = .next e2 μ2 ∧ PoolI ns (b + 60) (some (.d (.int k))) 2 e2 μ2 := by
  obtain ⟨x, a3, a4, j, ps, rfl, rfl, nn, len, -, -⟩ := h
  have hi : atI ns (k : Int) = some ns[k] := by
    rw [atI_nn (by omega) (by omega)]
    simp -implicitDefEqProofs [hk.2]
  generalize ns[k] = z at hi
  have i1 : ∀ m : Mem, idxV (.ro ns) (.d (.int k)) m = .ok (.d (.int z)) m := fun m => p_idxR hi
  have hp : ∀ m : Mem, intOp powI (.d (.int 10)) (.d (.int 18)) m = .ok (.d (.int 1000000000000000000)) m := fun m => rfl
  by_cases hz : (1000000000000000000 : Int) ≤ (if z < 0 then -z else z)
  · have L := for_all (gd := none) (tg := gN 4) (b := b1__law_pool) (rngIts 0 60).items (fun i e m => i ≤ 60 ∧ PoolI ns (b + i) (some (.d (.int k))) 0 e m) (fun _ _ _ _ => trivial)
      (fun i v e μ hv ⟨hi, hI⟩ => by
        obtain ⟨h1, rfl⟩ := rng_at hv
        obtain ⟨e2, μ2, h2, h3⟩ := pool_b1 (.d (.int (0 + (i : Nat)))) (by omega) hI
        exact ⟨_, rfl, e2, μ2, h2, by omega, h3⟩)
      [some (.ro ns), some (.loc 0), some (.d (.int k)), some (.d (.int (if z < 0 then -z else z))), a3, a4] [.lst (ps.map ival)] ⟨by omega, _, _, _, _, ps, rfl, rfl, nn, by omega, fun _ => rfl, fun z => by omega⟩
    obtain ⟨e', μ', h1, _, y, y3, y4, j', ps', rfl, rfl, nn', len', -, -⟩ := L
    refine ⟨_, _, ?_, y, y3, y4, j', ps', rfl, rfl, nn', by simpa using len', fun z => by omega, fun z => by omega⟩
    simp -implicitDefEqProofs [b3__law_pool, i1, hp, geI, hz, big, h1]
  · generalize hw : ((if z < 0 then -z else z) * 48271 + (k : Int) * 7919 + (if z < 0 then 1 else 0) * 104729 + 11) % 2147483647 = w
    have h2 : 0 ≤ w ∧ w < 2147483647 := by
      subst hw
      exact ⟨Int.emod_nonneg _ (by omega), Int.emod_lt_of_pos _ (by omega)⟩
    have L := for_all (gd := none) (tg := gN 4) (b := b2__law_pool) (rngIts 0 12).items (fun i e m => i ≤ 12 ∧ PoolI ns (b + i) (some (.d (.int k))) 1 e m) (fun _ _ _ _ => trivial)
      (fun i v e μ hv ⟨hi, hI⟩ => by
        obtain ⟨h1, rfl⟩ := rng_at hv
        obtain ⟨e2, μ2, h2, h3⟩ := pool_b2 (t := 0 + (i : Nat)) (by omega) (by omega) (by omega) hI
        exact ⟨_, rfl, e2, μ2, h2, by omega, h3⟩)
      [some (.ro ns), some (.loc 0), some (.d (.int k)), some (.d (.int (if z < 0 then -z else z))), a3, some (.d (.int w))] [.lst (ps.map ival)] ⟨by omega, _, _, _, w, ps, rfl, rfl, nn, by omega, fun z => by omega, fun _ => ⟨rfl, h2⟩⟩
    obtain ⟨e', μ', h1, _, y, y3, y4, j', ps', rfl, rfl, nn', len', -, -⟩ := L
    refine ⟨_, _, ?_, y, y3, y4, j', ps', rfl, rfl, nn', by simp at len'; omega, fun z => by omega, fun z => by omega⟩
    simp -implicitDefEqProofs [b3__law_pool, i1, hp, geI, hz, big, p_mul, p_mod, ltI, hw, h1]
theorem pool_spec (ns : List Int) : ∃ q : Pl, f__law_pool [.ro ns] [] = .ok (.loc 0) (PM q []) := by
  have L := for_all (gd := none) (tg := gN 2) (b := b3__law_pool) (rngIts 0 (min ns.length 63)).items (fun i e m => i ≤ 63 ∧ ∃ a1, PoolI ns (60 * i) a1 2 e m) (fun _ _ _ _ => trivial)
    (fun i v e μ hv ⟨hi, a1, hI⟩ => by
      obtain ⟨h1, rfl⟩ := rng_at hv
      obtain ⟨e2, μ2, h2, h3⟩ := pool_b3 (k := i) (by omega) (by omega) hI
      refine ⟨_, rfl, e2, μ2, ?_, by omega, _, h3⟩
      rw [Int.zero_add]
      exact h2)
    [some (.ro ns), some (.loc 0), none, none, none, none] [.lst []] ⟨by omega, none, _, _, _, 0, [], rfl, rfl, by simp, by simp, fun z => by omega, fun z => by omega⟩
  obtain ⟨e', μ', h1, _, a1, y, y3, y4, j', ps', rfl, rfl, nn', len', -, -⟩ := L
  refine ⟨⟨ps', nn', by simp at len'; omega⟩, ?_⟩
  have hm : ∀ m : Mem, minV [.d (.int ns.length), .d (.int 63)] m = .ok (.d (.int ((min ns.length 63 : Nat) : Int))) m := fun m => by
    rw [p_min]
    congr 3
    split <;> omega
  have hr : ∀ m : Mem, rngA [.d (.int ((min ns.length 63 : Nat) : Int))] m = some (rngIts 0 (min ns.length 63)) := fun m => by
    rw [p_rng (by unfold big; omega), Int.toNat_natCast]
  simp -implicitDefEqProofs [-p_min, f__law_pool, fnM, m__law_pool, p_mkL0, hm, hr, h1, PM, Pl.cell, norm]
end Fm
namespace Fm
open PySem PySem.Spec L2 Fs
/-! ### names -/
def sL : Str := "abcdefghijklmnopqrstuvwxyz"
def sD : Str := "0123456789"
def nameC (c : Nat) : Bool := decide (c ∈ sL.cps.toList) || decide (c ∈ sD.cps.toList)
/-- the rule of names -/
def isNm (s : Str) : Bool := match s.cps.toList with
  | [] => false
  | c :: r => decide (r.length + 1 ≤ 12) && (decide (c ∈ sL.cps.toList) && (c :: r).all nameC)
def inP (v : Val) : Bool := match v with
  | .d (.str s) => (match s.cps.toList with
    | [c] => nameC c
    | _ => false)
  | _ => false
@[simp] theorem inP_sgn (c : Nat) : inP (sgn c) = nameC c := rfl
theorem all_sgn (cs : List Nat) : (cs.map sgn).all inP = cs.all nameC := by
  rw [List.all_map]
  rfl
theorem is_name_spec (s : Str) (m : Mem) (hl : s.length ≤ 16777216) : f_is_name [.d (.str s)] m = .ok (.d (.bool (isNm s))) m := by
  obtain ⟨⟨cs⟩⟩ := s
  have hl0 : (⟨⟨cs⟩⟩ : Str).length = cs.length := rfl
  cases cs with
  | nil =>
    have e0 : (⟨⟨[]⟩⟩ : Str) = ("" : Str) := by decide +kernel
    simp -implicitDefEqProofs [f_is_name, fnM, m_is_name, isNm, e0]
  | cons c r =>
    have e0 : (⟨⟨c :: r⟩⟩ : Str) ≠ ("" : Str) := fun z => by
      have z2 : (⟨⟨c :: r⟩⟩ : Str).length = ("" : Str).length := by rw [z]
      rw [show ("" : Str).length = 0 from by decide +kernel, hl0] at z2
      simp at z2
    have e1 : lenV [.d (.str ⟨⟨c :: r⟩⟩)] m = .ok (.d (.int ((r.length + 1 : Nat) : Int))) m := by
      rw [p_lenS hl]
      rfl
    have e2 : idxV (.d (.str ⟨⟨c :: r⟩⟩)) (.d (.int 0)) m = .ok (sgn c) m := by
      refine p_idxS hl ?_
      rw [atI_nn (by omega) (by simp)]
      rfl
    have L := for_check (gd := none) (j := 1) (b := b1_is_name) (P := inP) (r := .d (.bool false)) (m := m) trivial (fun e => ∃ x, e = [some (.d (.str ⟨⟨c :: r⟩⟩)), x]) ((c :: r).map sgn)
      (fun e v hv ⟨x, he⟩ => by
        obtain ⟨ch, -, rfl⟩ := List.mem_map.mp hv
        subst he
        refine ⟨⟨_, rfl⟩, ?_⟩
        have i1 : ∀ z : Str, inV true (sgn ch) (.d (.str z)) m = .ok (.d (.bool (negB true (decide (ch ∈ z.cps.toList))))) m := fun z => p_inS
        have i2 : norm m (sgn ch) = sgn ch := rfl
        by_cases h1 : ch ∈ sL.cps.toList
        · refine ⟨fun _ => ⟨_, ⟨some (sgn ch), rfl⟩, ?_⟩, fun z => ?_⟩
          · unfold sL at h1
            simp -implicitDefEqProofs [b1_is_name, i1, i2, h1]
          · simp [nameC, h1] at z
        · by_cases h2 : ch ∈ sD.cps.toList
          · refine ⟨fun _ => ⟨_, ⟨some (sgn ch), rfl⟩, ?_⟩, fun z => ?_⟩
            · unfold sL at h1
              unfold sD at h2
              simp -implicitDefEqProofs [b1_is_name, i1, i2, h1, h2]
            · simp [nameC, h2] at z
          · refine ⟨fun z => ?_, fun _ => ?_⟩
            · simp [nameC, h1, h2] at z
            · unfold sL at h1
              unfold sD at h2
              simp -implicitDefEqProofs [b1_is_name, i1, i2, h1, h2])
      [some (.d (.str ⟨⟨c :: r⟩⟩)), none] ⟨_, rfl⟩
    rw [all_sgn] at L
    have i0 : inV true (sgn c) (.d (.str ("abcdefghijklmnopqrstuvwxyz" : Str))) m = .ok (.d (.bool (negB true (decide (c ∈ sL.cps.toList))))) m := p_inS
    have it : itA (.d (.str ⟨⟨c :: r⟩⟩)) m = some ⟨(c :: r).map sgn, none⟩ := rfl
    generalize (c :: r).map sgn = its at L it
    by_cases h1 : r.length + 1 ≤ 12
    · have h7 : ¬ ((12 : Int) < (r.length : Int) + 1) := by omega
      by_cases h2 : c ∈ sL.cps.toList
      · cases h3 : (c :: r).all nameC with
        | true =>
          obtain ⟨e', -, h4⟩ := L.1 h3
          have e5 : isNm ⟨⟨c :: r⟩⟩ = true := by simp only [isNm, h1, h2, h3, decide_true, Bool.and_self]
          rw [e5]
          simp -implicitDefEqProofs [-p_itS, f_is_name, fnM, m_is_name, e0, e1, e2, i0, gtI, h2, it, h4, h7]
        | false =>
          have h4 := L.2 h3
          have e5 : isNm ⟨⟨c :: r⟩⟩ = false := by simp only [isNm, h3, Bool.and_false]
          rw [e5]
          simp -implicitDefEqProofs [-p_itS, f_is_name, fnM, m_is_name, e0, e1, e2, i0, gtI, h2, it, h4, h7]
      · have e5 : isNm ⟨⟨c :: r⟩⟩ = false := by simp [isNm, h2]
        rw [e5]
        simp -implicitDefEqProofs [-p_itS, f_is_name, fnM, m_is_name, e0, e1, e2, i0, gtI, h2, h7]
    · have e5 : isNm ⟨⟨c :: r⟩⟩ = false := by simp [isNm]; omega
      have h6 : (12 : Int) < (r.length : Int) + 1 := by omega
      rw [e5]
      simp -implicitDefEqProofs [-p_itS, f_is_name, fnM, m_is_name, e0, e1, e2, i0, gtI, h6]
theorem named_spec (s : Str) (m : Mem) (hl : s.length ≤ 16777216) : f__law_named [.d (.str s)] m = .ok (.d (.bool (isNm s))) m := by
  obtain ⟨⟨cs⟩⟩ := s
  cases cs with
  | nil =>
    have e1 : lenV [.d (.str ⟨⟨[]⟩⟩)] m = .ok (.d (.int 0)) m := by
      rw [p_lenS hl]
      rfl
    simp -implicitDefEqProofs [f__law_named, fnM, m__law_named, isNm, e1, ltI]
  | cons c r =>
    have e1 : lenV [.d (.str ⟨⟨c :: r⟩⟩)] m = .ok (.d (.int ((r.length + 1 : Nat) : Int))) m := by
      rw [p_lenS hl]
      rfl
    have e2 : idxV (.d (.str ⟨⟨c :: r⟩⟩)) (.d (.int 0)) m = .ok (sgn c) m := by
      refine p_idxS hl ?_
      rw [atI_nn (by omega) (by simp)]
      rfl
    have L := for_check (gd := none) (j := 2) (b := b1__law_named) (P := inP) (r := .d (.bool false)) (m := m) trivial (fun e => ∃ x, e = [some (.d (.str ⟨⟨c :: r⟩⟩)), some (.d (.str "abcdefghijklmnopqrstuvwxyz")), x]) ((c :: r).map sgn)
      (fun e v hv ⟨x, he⟩ => by
        obtain ⟨ch, -, rfl⟩ := List.mem_map.mp hv
        subst he
        refine ⟨⟨_, rfl⟩, ?_⟩
        have i1 : ∀ z : Str, inV true (sgn ch) (.d (.str z)) m = .ok (.d (.bool (negB true (decide (ch ∈ z.cps.toList))))) m := fun z => p_inS
        have i2 : norm m (sgn ch) = sgn ch := rfl
        by_cases h1 : ch ∈ sL.cps.toList
        · refine ⟨fun _ => ⟨_, ⟨some (sgn ch), rfl⟩, ?_⟩, fun z => ?_⟩
          · unfold sL at h1
            simp -implicitDefEqProofs [b1__law_named, i1, i2, h1]
          · simp [nameC, h1] at z
        · by_cases h2 : ch ∈ sD.cps.toList
          · refine ⟨fun _ => ⟨_, ⟨some (sgn ch), rfl⟩, ?_⟩, fun z => ?_⟩
            · unfold sL at h1
              unfold sD at h2
              simp -implicitDefEqProofs [b1__law_named, i1, i2, h1, h2]
            · simp [nameC, h2] at z
          · refine ⟨fun z => ?_, fun _ => ?_⟩
            · simp [nameC, h1, h2] at z
            · unfold sL at h1
              unfold sD at h2
              simp -implicitDefEqProofs [b1__law_named, i1, i2, h1, h2])
      [some (.d (.str ⟨⟨c :: r⟩⟩)), some (.d (.str "abcdefghijklmnopqrstuvwxyz")), none] ⟨_, rfl⟩
    rw [all_sgn] at L
    have i0 : inV true (sgn c) (.d (.str ("abcdefghijklmnopqrstuvwxyz" : Str))) m = .ok (.d (.bool (negB true (decide (c ∈ sL.cps.toList))))) m := p_inS
    have it : itA (.d (.str ⟨⟨c :: r⟩⟩)) m = some ⟨(c :: r).map sgn, none⟩ := rfl
    have h8 : ¬ ((r.length : Int) + 1 < 1) := by omega
    generalize (c :: r).map sgn = its at L it
    by_cases h1 : r.length + 1 ≤ 12
    · have h7 : ¬ ((12 : Int) < (r.length : Int) + 1) := by omega
      by_cases h2 : c ∈ sL.cps.toList
      · cases h3 : (c :: r).all nameC with
        | true =>
          obtain ⟨e', -, h4⟩ := L.1 h3
          have e5 : isNm ⟨⟨c :: r⟩⟩ = true := by simp only [isNm, h1, h2, h3, decide_true, Bool.and_self]
          rw [e5]
          simp -implicitDefEqProofs [-p_itS, f__law_named, fnM, m__law_named, e1, e2, i0, gtI, ltI, h2, it, h4, h7, h8]
        | false =>
          have h4 := L.2 h3
          have e5 : isNm ⟨⟨c :: r⟩⟩ = false := by simp only [isNm, h3, Bool.and_false]
          rw [e5]
          simp -implicitDefEqProofs [-p_itS, f__law_named, fnM, m__law_named, e1, e2, i0, gtI, ltI, h2, it, h4, h7, h8]
      · have e5 : isNm ⟨⟨c :: r⟩⟩ = false := by simp [isNm, h2]
        rw [e5]
        simp -implicitDefEqProofs [-p_itS, f__law_named, fnM, m__law_named, e1, e2, i0, gtI, ltI, h2, h7, h8]
    · have e5 : isNm ⟨⟨c :: r⟩⟩ = false := by simp [isNm]; omega
      have h6 : (12 : Int) < (r.length : Int) + 1 := by omega
      rw [e5]
      simp -implicitDefEqProofs [-p_itS, f__law_named, fnM, m__law_named, e1, e2, i0, gtI, ltI, h6, h8]
/-! ### a drawn word -/
def sg (c : Nat) : Str := ⟨#[c]⟩
theorem fold_sg (g : Array Nat) (hg : g = #[]) : ∀ (cs : List Nat) (acc : Array Nat), ((cs.map sg).foldl (fun acc p => acc ++ g ++ p.cps) acc).toList = acc.toList ++ cs
  | [], acc => by simp
  | c :: r, acc => by
    rw [List.map_cons, List.foldl_cons, fold_sg g hg r]
    subst hg
    simp [sg]
theorem join_sgn (a : Str) (ha : a.cps = #[]) (cs : List Nat) : (Txt.join a (cs.map sg)).cps.toList = cs := by
  show (((cs.map sg).drop 1).foldl (fun acc p => acc ++ a.cps ++ p.cps) ((cs.map sg).headD Str.empty).cps).toList = cs
  cases cs with
  | nil => rfl
  | cons c r =>
    rw [List.map_cons, List.drop_succ_cons, List.drop_zero, fold_sg a.cps ha]
    rfl
theorem asS_sgn : ∀ cs : List Nat, mapO asS (cs.map sgn) = some (cs.map sg)
  | [] => rfl
  | c :: r => by
    rw [List.map_cons, mapO, asS_sgn r]
    rfl
theorem sum_sg : ∀ cs : List Nat, ((cs.map sg).map Str.length).sum = cs.length
  | [] => rfl
  | c :: r => by
    rw [List.map_cons, List.map_cons, List.sum_cons, sum_sg r]
    show 1 + r.length = _
    rw [List.length_cons]
    omega
theorem PM_last (q : Pl) (R : Mem) (c : Cell) : (PM q (R ++ [c]))[R.length + 1]? = some c := by
  show (q.cell :: (R ++ [c]))[R.length + 1]? = some c
  simp
theorem PM_setlast (q : Pl) (R : Mem) (c d : Cell) : (PM q (R ++ [c])).set (R.length + 1) d = PM q (R ++ [d]) := by
  show (q.cell :: (R ++ [c])).set (R.length + 1) d = q.cell :: (R ++ [d])
  simp
theorem PM_app (q : Pl) (R : Mem) (c : Cell) : PM q R ++ [c] = PM q (R ++ [c]) := rfl
theorem p_join {m : Mem} {l : Nat} {cs : List Nat} {a : Str} (h : m[l]? = some (.lst (cs.map sgn))) (ha : a.cps = #[]) (hl : cs.length ≤ 1000) : ∃ s : Str, s.cps.toList = cs ∧ joinV (.d (.str a)) [.loc l] m = .ok (.d (.str s)) m := by
  refine ⟨Txt.join a (cs.map sg), join_sgn a ha cs, ?_⟩
  show (match (seqV m (.loc l)).bind (mapO asS) with
    | some ys => if 16777216 < (ys.map Str.length).sum + ys.length * a.length then Res.bad else Res.ok (Val.d (.str (Txt.join a ys))) m
    | Option.none => .bad) = _
  have e1 : seqV m (.loc l) = some (cs.map sgn) := p_lstV h
  have e2 : a.length = 0 := by
    show a.cps.size = 0
    rw [ha]
    rfl
  rw [e1]
  show (match mapO asS (cs.map sgn) with
    | some ys => if 16777216 < (ys.map Str.length).sum + ys.length * a.length then Res.bad else Res.ok (Val.d (.str (Txt.join a ys))) m
    | Option.none => .bad) = _
  rw [asS_sgn]
  show (if 16777216 < ((cs.map sg).map Str.length).sum + (cs.map sg).length * a.length then Res.bad else Res.ok (Val.d (.str (Txt.join a (cs.map sg)))) m) = _
  rw [sum_sg, e2, Nat.mul_zero, if_neg (by omega)]
def sU : Str := ("abcdefghijklmnopqrstuvwxyz" : Str) ++ ("0123456789" : Str)
def sO : Str := "ABZ_- ./:~!\"#$&'()*+,;<=>?\x40[\\]^{|}\n\t"
theorem add_U (m : Mem) : addV false (.d (.str "abcdefghijklmnopqrstuvwxyz")) (.d (.str "0123456789")) m = .ok (.d (.str sU)) m := p_addS (by decide +kernel)
theorem add_UO (m : Mem) : addV false (.d (.str sU)) (.d (.str sO)) m = .ok (.d (.str (sU ++ sO))) m := p_addS (by decide +kernel)
/-- a text that signs are drawn from -/
def RowOk (s : Str) : Prop := 0 < s.length ∧ s.length ≤ 1000
theorem rowL : RowOk ("abcdefghijklmnopqrstuvwxyz" : Str) := ⟨by decide +kernel, by decide +kernel⟩
theorem rowD : RowOk ("0123456789" : Str) := ⟨by decide +kernel, by decide +kernel⟩
theorem rowU : RowOk sU := ⟨by decide +kernel, by decide +kernel⟩
theorem rowO : RowOk sO := ⟨by decide +kernel, by decide +kernel⟩
theorem rowUO : RowOk (sU ++ sO) := ⟨by decide +kernel, by decide +kernel⟩
/-- a sign drawn from a text -/
theorem draw_spec {s : Str} (h : RowOk s) (q : Pl) (R : Mem) : ∃ (n : Int) (q' : Pl) (c : Nat), f__law_take [.loc 0, .d (.int s.length)] (PM q R) = .ok (.d (.int n)) (PM q' R) ∧ ∀ m, idxV (.d (.str s)) (.d (.int n)) m = .ok (sgn c) m := by
  obtain ⟨n, q', h1, h2, h3⟩ := take_spec q R s.length (by have := h.1; omega)
  obtain ⟨c, hc⟩ := str_at h1 h2
  exact ⟨n, q', c, h3, fun m => p_idxS (by have := h.2; omega) hc⟩
theorem p_setSgn {m : Mem} {l : Nat} {cs : List Nat} {i : Int} {c : Nat} {e : Fs.Env} (h : m[l]? = some (.lst (cs.map sgn))) (h0 : 0 ≤ i) (h1 : i < cs.length) : setIx (.loc l) (.d (.int i)) (sgn c) e m = .next e (m.set l (.lst ((cs.set i.toNat c).map sgn))) := by
  have e1 : L2.ixN (cs.map sgn).length i = some i.toNat := by
    unfold L2.ixN
    rw [List.length_map]
    grind
  simp only [setIx, p_atL h, e1, List.map_set]
/-- the word while it is made -/
def WI (R : Mem) (sz md : Int) (i : Nat) (e : Fs.Env) (m : Mem) : Prop := ∃ (q : Pl) (cs : List Nat) (x y z : Option Val), e = [some (.loc 0), some (.d (.str "abcdefghijklmnopqrstuvwxyz")), some (.d (.str sU)), some (.d (.str sO)), some (.d (.int sz)), some (.d (.int md)), some (.loc (R.length + 1)), x, y, z] ∧ m = PM q (R ++ [.lst (cs.map sgn)]) ∧ cs.length = i
theorem word_b1 {R : Mem} {sz md : Int} {i : Nat} {k : Int} {e : Fs.Env} {m : Mem} (hi : i < 100) (h : WI R sz md i e m) : ∃ e2 μ2, b1__law_word (e.set 7 (some (.d (.int k)))) m = .next e2 μ2 ∧ WI R sz md (i + 1) e2 μ2 := by
  obtain ⟨q, cs, x, y, z, rfl, rfl, hc⟩ := h
  have at1 := fun q => PM_last q R (.lst (cs.map sgn))
  have fin : ∀ row : Str, RowOk row → ∃ e2 μ2, sDo (eBm isL appV (eVar 6) (aCons (eBin idxV (eVar 8) (eCall 2 false f__law_take (aCons (eVar 0) (aCons (eArgs lenV (aCons (eVar 8) aNil)) aNil)))) aNil))
      [some (.loc 0), some (.d (.str "abcdefghijklmnopqrstuvwxyz")), some (.d (.str sU)), some (.d (.str sO)), some (.d (.int sz)), some (.d (.int md)), some (.loc (R.length + 1)), some (.d (.int k)), some (.d (.str row)), z] (PM q (R ++ [.lst (cs.map sgn)])) = .next e2 μ2 ∧ WI R sz md (i + 1) e2 μ2 := by
    intro row hr
    obtain ⟨n, q', c, h1, h2⟩ := draw_spec hr q (R ++ [.lst (cs.map sgn)])
    have e3 : appV (.loc (R.length + 1)) [sgn c] (PM q' (R ++ [.lst (cs.map sgn)])) = .ok (.d .none) (PM q' (R ++ [.lst ((cs ++ [c]).map sgn)])) := by
      rw [p_app (at1 q') (by rw [List.length_map]; omega), PM_setlast, List.map_append]
      rfl
    have e4 : norm (PM q (R ++ [.lst (cs.map sgn)])) (.loc (R.length + 1)) = .loc (R.length + 1) := p_norm (at1 q)
    have e5 : isL (PM q (R ++ [.lst (cs.map sgn)])) (.loc (R.length + 1)) = true := p_isL (at1 q)
    refine ⟨_, _, ?_, q', cs ++ [c], some (.d (.int k)), some (.d (.str row)), z, rfl, rfl, by simp; omega⟩
    simp -implicitDefEqProofs [e4, e5, p_lenS (s := row) (by have := hr.2; omega), h1, h2, e3]
  unfold b1__law_word
  by_cases h3 : md = 3
  · obtain ⟨e2, μ2, h4, h5⟩ := fin _ rowUO
    refine ⟨e2, μ2, ?_, h5⟩
    rw [← h4]
    by_cases h0 : k = 0
    · simp -implicitDefEqProofs [h3, h0, add_UO]
    · simp -implicitDefEqProofs [h3, h0, add_UO]
  · by_cases h0 : k = 0
    · obtain ⟨e2, μ2, h4, h5⟩ := fin _ rowL
      refine ⟨e2, μ2, ?_, h5⟩
      rw [← h4]
      simp -implicitDefEqProofs [h3, h0]
    · obtain ⟨e2, μ2, h4, h5⟩ := fin _ rowU
      refine ⟨e2, μ2, ?_, h5⟩
      rw [← h4]
      simp -implicitDefEqProofs [h3, h0]
theorem word_spec (q : Pl) (R : Mem) : ∃ (s : Str) (q' : Pl), s.length ≤ 16 ∧ callF true f__law_word [.loc 0] (PM q R) = .ok (.d (.str s)) (PM q' R) := by
  obtain ⟨n1, q1, a1, a2, a3⟩ := take_spec q R 16 (by omega)
  obtain ⟨n2, q2, b1, b2, b3⟩ := take_spec q1 R 4 (by omega)
  have at1 := fun (q : Pl) (cs : List Nat) => PM_last q R (.lst (cs.map sgn))
  have L := for_all (gd := none) (tg := gN 7) (b := b1__law_word) (rngIts 0 n1.toNat).items (fun i e m => i ≤ 16 ∧ WI R n1 n2 i e m) (fun _ _ _ _ => trivial)
    (fun i v e μ hv ⟨hi, hI⟩ => by
      obtain ⟨h1, rfl⟩ := rng_at hv
      obtain ⟨e2, μ2, h2, h3⟩ := word_b1 (k := 0 + (i : Nat)) (by omega) hI
      exact ⟨_, rfl, e2, μ2, h2, by omega, h3⟩)
    _ (PM q2 (R ++ [.lst []])) ⟨by omega, q2, [], none, none, none, rfl, rfl, rfl⟩
  obtain ⟨e', m', c1, c2, q3, cs, x, y, z, rfl, rfl, c3⟩ := L
  rw [rng_len] at c2 c3
  -- what the two tests leave
  have mid : ∃ (q4 : Pl) (ds : List Nat) (z4 : Option Val), ds.length ≤ 16 ∧ (sIf (Fs.tAnd (tOf (eBin (eqV false) (eVar 5) (eC (.int 1)))) (tOf (eBin (cmpI gtI) (eVar 4) (eC (.int 0))))) (sSeq (sSet 9 (eCall 2 false f__law_take (aCons (eVar 0) (aCons (eVar 4) aNil)))) (sSetIx (eVar 6) (eVar 9) (eBin idxV (eVar 3) (eCall 2 false f__law_take (aCons (eVar 0) (aCons (eArgs lenV (aCons (eVar 3) aNil)) aNil)))))) sNext)
      [some (.loc 0), some (.d (.str "abcdefghijklmnopqrstuvwxyz")), some (.d (.str sU)), some (.d (.str sO)), some (.d (.int n1)), some (.d (.int n2)), some (.loc (R.length + 1)), x, y, z] (PM q3 (R ++ [.lst (cs.map sgn)])) =
      .next [some (.loc 0), some (.d (.str "abcdefghijklmnopqrstuvwxyz")), some (.d (.str sU)), some (.d (.str sO)), some (.d (.int n1)), some (.d (.int n2)), some (.loc (R.length + 1)), x, y, z4] (PM q4 (R ++ [.lst (ds.map sgn)])) ∧ ds.length = cs.length := by
    by_cases h1 : n2 = 1 ∧ 0 < n1
    · obtain ⟨h1, h2⟩ := h1
      obtain ⟨n, q4, d1, d2, d3⟩ := take_spec q3 (R ++ [.lst (cs.map sgn)]) n1 h2
      obtain ⟨n', q5, c, d4, d5⟩ := draw_spec rowO q4 (R ++ [.lst (cs.map sgn)])
      have e4 := fun q => p_norm (at1 q cs)
      have e6 : ∀ E : Fs.Env, setIx (.loc (R.length + 1)) (.d (.int n)) (sgn c) E (PM q5 (R ++ [.lst (cs.map sgn)])) = .next E (PM q5 (R ++ [.lst ((cs.set n.toNat c).map sgn)])) := fun E => by
        rw [p_setSgn (at1 q5 cs) d1 (by omega), PM_setlast]
      refine ⟨q5, cs.set n.toNat c, some (.d (.int n)), by simp; omega, ?_, by simp⟩
      subst h1
      simp -implicitDefEqProofs [gtI, h2, d3, p_lenS (s := sO) (by decide +kernel), d4, d5, e4, e6]
    · refine ⟨q3, cs, z, by omega, ?_, rfl⟩
      by_cases h2 : n2 = 1
      · have h3 : ¬ 0 < n1 := fun w => h1 ⟨h2, w⟩
        simp -implicitDefEqProofs [gtI, h2, h3]
      · simp -implicitDefEqProofs [gtI, h2]
  obtain ⟨q4, ds, z4, d1, d2, d3⟩ := mid
  have mid2 : ∃ (q5 : Pl) (es : List Nat), es.length ≤ 16 ∧ (sIf (Fs.tAnd (tOf (eBin (eqV false) (eVar 5) (eC (.int 2)))) (tOf (eBin (cmpI gtI) (eVar 4) (eC (.int 0))))) (sSetIx (eVar 6) (eC (.int 0)) (eBin idxV (eC (.str "0123456789")) (eCall 2 false f__law_take (aCons (eVar 0) (aCons (eC (.int 10)) aNil))))) sNext)
      [some (.loc 0), some (.d (.str "abcdefghijklmnopqrstuvwxyz")), some (.d (.str sU)), some (.d (.str sO)), some (.d (.int n1)), some (.d (.int n2)), some (.loc (R.length + 1)), x, y, z4] (PM q4 (R ++ [.lst (ds.map sgn)])) =
      .next [some (.loc 0), some (.d (.str "abcdefghijklmnopqrstuvwxyz")), some (.d (.str sU)), some (.d (.str sO)), some (.d (.int n1)), some (.d (.int n2)), some (.loc (R.length + 1)), x, y, z4] (PM q5 (R ++ [.lst (es.map sgn)])) := by
    by_cases h1 : n2 = 2 ∧ 0 < n1
    · obtain ⟨h1, h2⟩ := h1
      obtain ⟨n', q5, c, d4, d5⟩ := draw_spec rowD q4 (R ++ [.lst (ds.map sgn)])
      rw [show ((("0123456789" : Str).length : Nat) : Int) = 10 from by decide +kernel] at d4
      have e4 := fun q => p_norm (at1 q ds)
      have e6 : ∀ E : Fs.Env, setIx (.loc (R.length + 1)) (.d (.int 0)) (sgn c) E (PM q5 (R ++ [.lst (ds.map sgn)])) = .next E (PM q5 (R ++ [.lst ((ds.set (0 : Int).toNat c).map sgn)])) := fun E => by
        rw [p_setSgn (at1 q5 ds) (Int.le_refl _) (by omega), PM_setlast]
      refine ⟨q5, ds.set (0 : Int).toNat c, by simp; omega, ?_⟩
      subst h1
      simp -implicitDefEqProofs [gtI, h2, d4, d5, e4, e6]
    · refine ⟨q4, ds, by omega, ?_⟩
      by_cases h2 : n2 = 2
      · have h3 : ¬ 0 < n1 := fun w => h1 ⟨h2, w⟩
        simp -implicitDefEqProofs [gtI, h2, h3]
      · simp -implicitDefEqProofs [gtI, h2]
  obtain ⟨q5, es, g1, g2⟩ := mid2
  obtain ⟨s, s1, s2⟩ := p_join (a := ("" : Str)) (at1 q5 es) (by decide +kernel) (by omega)
  refine ⟨s, q5, by rw [str_len, s1]; omega, call_d (ext := [.lst (es.map sgn)]) ?_⟩
  unfold f__law_word
  refine fn_ret ?_
  unfold m__law_word
  have hr : ∀ m : Mem, rngA [.d (.int n1)] m = some (rngIts 0 n1.toNat) := fun m => p_rng (by unfold big; omega)
  refine (seq_next (e1 := [some (.loc 0), some (.d (.str "abcdefghijklmnopqrstuvwxyz")), none, none, none, none, none, none, none, none]) (μ1 := PM q R) rfl).trans ?_
  refine (seq_next (e1 := [some (.loc 0), some (.d (.str "abcdefghijklmnopqrstuvwxyz")), some (.d (.str sU)), none, none, none, none, none, none, none]) (μ1 := PM q R) (by simp -implicitDefEqProofs [add_U])).trans ?_
  refine (seq_next (e1 := [some (.loc 0), some (.d (.str "abcdefghijklmnopqrstuvwxyz")), some (.d (.str sU)), some (.d (.str sO)), none, none, none, none, none, none]) (μ1 := PM q R) rfl).trans ?_
  refine (seq_next (e1 := [some (.loc 0), some (.d (.str "abcdefghijklmnopqrstuvwxyz")), some (.d (.str sU)), some (.d (.str sO)), some (.d (.int n1)), none, none, none, none, none]) (μ1 := PM q1 R) (by simp -implicitDefEqProofs [a3])).trans ?_
  refine (seq_next (e1 := [some (.loc 0), some (.d (.str "abcdefghijklmnopqrstuvwxyz")), some (.d (.str sU)), some (.d (.str sO)), some (.d (.int n1)), some (.d (.int n2)), none, none, none, none]) (μ1 := PM q2 R) (by simp -implicitDefEqProofs [b3])).trans ?_
  refine (seq_next (e1 := [some (.loc 0), some (.d (.str "abcdefghijklmnopqrstuvwxyz")), some (.d (.str sU)), some (.d (.str sO)), some (.d (.int n1)), some (.d (.int n2)), some (.loc (R.length + 1)), none, none, none]) (μ1 := PM q2 (R ++ [.lst []])) (by simp -implicitDefEqProofs [p_mkL0, PM_len, PM_app])).trans ?_
  refine (seq_next (e1 := [some (.loc 0), some (.d (.str "abcdefghijklmnopqrstuvwxyz")), some (.d (.str sU)), some (.d (.str sO)), some (.d (.int n1)), some (.d (.int n2)), some (.loc (R.length + 1)), x, y, z]) (μ1 := PM q3 (R ++ [.lst (cs.map sgn)])) (by simp -implicitDefEqProofs [hr, c1])).trans ?_
  refine (seq_next d2).trans ?_
  refine (seq_next g2).trans ?_
  simp -implicitDefEqProofs [p_norm (at1 q5 es), s2]
theorem law_b1 {a b c d y : Option Val} {s : Str} {m : Mem} (h : s.length ≤ 16) : b1_law ([a, b, c, d, none, y].set 4 (some (.d (.str s)))) m = .next [a, b, c, d, some (.d (.str s)), some (.d (.bool (isNm s)))] m := by
  have h1 := is_name_spec s m (by omega)
  have h2 := named_spec s m (by omega)
  simp -implicitDefEqProofs [b1_law, h1, h2, kind, subK]
theorem law_spec (ns : List Int) : ∃ m, f_law [.ro ns] [] = .ok (.d (.bool true)) m := by
  obtain ⟨q, h0⟩ := pool_spec ns
  obtain ⟨s1, q1, l1, h1⟩ := word_spec q []
  obtain ⟨s2, q2, l2, h2⟩ := word_spec q1 []
  have L := for_all (gd := none) (tg := gN 4) (b := b1_law) [.d (.str s1), .d (.str s2), .d (.str s1)] (fun i e m => m = PM q2 [] ∧ ∃ x y, e = [some (.ro ns), some (.loc 0), some (.d (.str s1)), some (.d (.str s2)), x, y]) (fun _ _ _ _ => trivial)
    (fun i v e μ hv ⟨hm, x, y, he⟩ => by
      subst hm he
      have hs : ∃ s : Str, v = .d (.str s) ∧ s.length ≤ 16 := by
        have hv := List.mem_of_getElem? hv
        simp only [List.mem_cons, List.not_mem_nil, or_false] at hv
        rcases hv with rfl | rfl | rfl
        · exact ⟨_, rfl, l1⟩
        · exact ⟨_, rfl, l2⟩
        · exact ⟨_, rfl, l1⟩
      obtain ⟨s, rfl, hl⟩ := hs
      exact ⟨_, rfl, _, _, law_b1 (y := y) hl, rfl, _, _, rfl⟩)
    [some (.ro ns), some (.loc 0), some (.d (.str s1)), some (.d (.str s2)), none, none] (PM q2 []) ⟨rfl, none, none, rfl⟩
  obtain ⟨e', m', h3, rfl, x, y, rfl⟩ := L
  refine ⟨PM q2 [], ?_⟩
  unfold f_law
  refine fn_ret ?_
  unfold m_law
  have e1 : ∀ m : Mem, mkL false [.d (.str s1), .d (.str s2), .d (.str s1)] m = .ok (.d (.list [.str s1, .str s2, .str s1])) m := fun m => rfl
  simp -implicitDefEqProofs [h0, h1, h2, e1, h3]
end Fm
/-! ### the text -/
namespace Fp
open PySem PySem.Spec L2 Fs Fm
def tops : List Stmt := PySem.Challenge.pw_sparedjoins_k01_names.main.body
def topAt (i : Nat) : Stmt := tops.getD i (.Pass ⟨0, 0, 0, 0⟩)
abbrev s__law_named : Stmt := topAt 9
def d__law_named : He.DefD := ⟨("_law_named", none), "_law_named", "_law_named", defArgs s__law_named, defBody s__law_named, defScope s__law_named, [], []⟩
abbrev s__law_pool : Stmt := topAt 6
def d__law_pool : He.DefD := ⟨("_law_pool", none), "_law_pool", "_law_pool", defArgs s__law_pool, defBody s__law_pool, defScope s__law_pool, [], []⟩
abbrev s__law_take : Stmt := topAt 7
def d__law_take : He.DefD := ⟨("_law_take", none), "_law_take", "_law_take", defArgs s__law_take, defBody s__law_take, defScope s__law_take, [], []⟩
abbrev s__law_word : Stmt := topAt 8
def d__law_word : He.DefD := ⟨("_law_word", none), "_law_word", "_law_word", defArgs s__law_word, defBody s__law_word, defScope s__law_word, [], []⟩
abbrev s_is_name : Stmt := topAt 4
def d_is_name : He.DefD := ⟨("is_name", none), "is_name", "is_name", defArgs s_is_name, defBody s_is_name, defScope s_is_name, [], []⟩
abbrev s_law : Stmt := topAt 10
def d_law : He.DefD := ⟨("law", none), "law", "law", defArgs s_law, defBody s_law, defScope s_law, [], []⟩
def fns : List He.DefD := [d__law_named, d__law_pool, d__law_take, d__law_word, d_is_name, d_law]
def fas : List He.Fa := [.free "len", .int "LONGEST" 12, .str "LETTERS" "abcdefghijklmnopqrstuvwxyz", .str "DIGITS" "0123456789", .free "min", .free "range", .free "abs", .free "int", .glo "_law_take", .glo "_law_pool", .glo "_law_word", .glo "is_name", .free "isinstance", .free "bool", .glo "_law_named", .glo "law"]
section
variable {T : Tbl}
def n__law_named : List Str := ["_law_word_here", "_law_letters", "_law_sign"]
def p__law_named : List Str := ["_law_word_here"]
theorem sc__law_named : FnScope n__law_named p__law_named (defScope s__law_named) := ⟨by rfl, by rfl, by rfl, by decide +kernel, by rfl, by decide +kernel, by decide +kernel⟩
def k__law_named : List (Str × NameKind) := [("_law_letters", .local), ("len", .globalImplicit), ("_law_word_here", .local), ("_law_sign", .local)]
theorem sk__law_named : Sk (defScope s__law_named) k__law_named := ⟨by decide +kernel⟩
theorem bd__law_named {X : Cx} {W : WX} (E : Ev T fas fns) (S : Sk (defScope s__law_named) k__law_named) (B : Bx T n__law_named (defScope s__law_named) 1 W X) : DSs T W X (defBody s__law_named) m__law_named :=
  (dss_cons (ds_set B 1 rfl (S.loc 0 rfl) de_str) (dss_cons (ds_if (dt_w (dw_or (dt_c (c_lt B) (de_len B (S.at_ 1 rfl) (E.fr 0 rfl) (da_cons (de_var B 0 rfl (S.vis 2 rfl)) da_nil)) de_int) (dw_or1 (dt_c (c_gt B) (de_len B (S.at_ 1 rfl) (E.fr 0 rfl) (da_cons (de_var B 0 rfl (S.vis 2 rfl)) da_nil)) de_int)))) (dss_one (ds_ret de_bl)) dss_nil) (dss_cons (ds_if (dt_c (c_notIn B) (de_idx B (de_var B 0 rfl (S.vis 2 rfl)) de_int) (de_var B 1 rfl (S.vis 0 rfl))) (dss_one (ds_ret de_bl)) dss_nil) (dss_cons (ds_for B (di_any B (de_var B 0 rfl (S.vis 2 rfl))) (dg_name B 2 rfl (S.loc 3 rfl)) (dss_one (ds_if (dt_w (dw_and (dt_c (c_notIn B) (de_var B 2 rfl (S.vis 3 rfl)) (de_var B 1 rfl (S.vis 0 rfl))) (dw_and1 (dt_c (c_notIn B) (de_var B 2 rfl (S.vis 3 rfl)) de_str)))) (dss_one (ds_ret de_bl)) dss_nil))) (dss_one (ds_ret de_bl))))))
theorem fo__law_named (E : Ev T fas fns) {fd : FuncData} (F : FunD T.K "_law_named" "_law_named" (defArgs s__law_named) (defBody s__law_named) (defScope s__law_named) [] [] (He.fAd T.K ("_law_named", none)) fd) : FnOk T.P T.w T.K T.mg T.base (L2.CX T.P T.w) 2 (He.fAd T.K ("_law_named", none)) fd p__law_named (spM T 1 f__law_named) :=
  fn_ok F sc__law_named fun X W B _ => bd__law_named E sk__law_named B
theorem ok__law_named (E : Ev T fas fns) : FnAt T 2 (He.fAd T.K ("_law_named", none)) p__law_named f__law_named := by
  obtain ⟨fd, F⟩ := E.says.def_ 0 (d := d__law_named) rfl
  exact ⟨⟨fd, fo__law_named E F, FunD.bindsN F fun _ _ _ _ _ _ us hl => match us, hl with | [_], _ => rfl⟩, F.kp⟩
def n__law_pool : List Str := ["_law_script", "_law_pool_here", "_law_k", "_law_number", "_law_turn", "_law_value"]
def p__law_pool : List Str := ["_law_script"]
theorem sc__law_pool : FnScope n__law_pool p__law_pool (defScope s__law_pool) := ⟨by rfl, by rfl, by rfl, by decide +kernel, by rfl, by decide +kernel, by decide +kernel⟩
def k__law_pool : List (Str × NameKind) := [("_law_pool_here", .local), ("min", .globalImplicit), ("len", .globalImplicit), ("_law_script", .local), ("range", .globalImplicit), ("_law_k", .local), ("abs", .globalImplicit), ("_law_number", .local), ("_law_turn", .local), ("int", .globalImplicit), ("_law_value", .local)]
theorem sk__law_pool : Sk (defScope s__law_pool) k__law_pool := ⟨by decide +kernel⟩
theorem bd__law_pool {X : Cx} {W : WX} (E : Ev T fas fns) (S : Sk (defScope s__law_pool) k__law_pool) (B : Bx T n__law_pool (defScope s__law_pool) 1 W X) : DSs T W X (defBody s__law_pool) m__law_pool :=
  (dss_cons (ds_set B 1 rfl (S.loc 0 rfl) (de_lst true da_nil)) (dss_cons (ds_for B (di_range1 B (S.at_ 4 rfl) (E.fr 5 rfl) (da_cons (de_min B (S.at_ 1 rfl) (E.fr 4 rfl) (da_cons (de_len B (S.at_ 2 rfl) (E.fr 0 rfl) (da_cons (de_var B 0 rfl (S.vis 3 rfl)) da_nil)) (da_cons de_int da_nil))) da_nil)) (dg_name B 2 rfl (S.loc 5 rfl)) (dss_cons (ds_set B 3 rfl (S.loc 7 rfl) (de_abs B (S.at_ 6 rfl) (E.fr 6 rfl) (da_cons (de_idx B (de_var B 0 rfl (S.vis 3 rfl)) (de_var B 2 rfl (S.vis 5 rfl))) da_nil))) (dss_one (ds_if (dt_c (c_ge B) (de_var B 3 rfl (S.vis 7 rfl)) (de_pow de_int de_int)) (dss_one (ds_for B (di_range1 B (S.at_ 4 rfl) (E.fr 5 rfl) (da_cons de_int da_nil)) (dg_name B 4 rfl (S.loc 8 rfl)) (dss_cons (ds_if (dt_c (c_gt B) (de_var B 3 rfl (S.vis 7 rfl)) de_int) (dss_one (ds_do (de_app B (de_var B 1 rfl (S.vis 0 rfl)) (da_cons (de_mod (de_intC B (S.at_ 9 rfl) (E.fr 7 rfl) (da_cons (de_var B 3 rfl (S.vis 7 rfl)) da_nil)) de_int) da_nil)))) dss_nil) (dss_one (ds_set B 3 rfl (S.loc 7 rfl) (de_fdv (de_var B 3 rfl (S.vis 7 rfl)) de_int)))))) (dss_cons (ds_set B 5 rfl (S.loc 10 rfl) (de_mod (de_intC B (S.at_ 9 rfl) (E.fr 7 rfl) (da_cons (de_add B false (de_add B false (de_add B false (de_mul false (de_var B 3 rfl (S.vis 7 rfl)) de_int) (de_mul false (de_var B 2 rfl (S.vis 5 rfl)) de_int)) (de_mul false (de_intC B (S.at_ 9 rfl) (E.fr 7 rfl) (da_cons (de_c (c_lt B) (de_idx B (de_var B 0 rfl (S.vis 3 rfl)) (de_var B 2 rfl (S.vis 5 rfl))) de_int) da_nil)) de_int)) de_int) da_nil)) de_int)) (dss_one (ds_for B (di_range1 B (S.at_ 4 rfl) (E.fr 5 rfl) (da_cons de_int da_nil)) (dg_name B 4 rfl (S.loc 8 rfl)) (dss_cons (ds_set B 5 rfl (S.loc 10 rfl) (de_mod (de_intC B (S.at_ 9 rfl) (E.fr 7 rfl) (da_cons (de_add B false (de_add B false (de_mul false (de_var B 5 rfl (S.vis 10 rfl)) (de_var B 5 rfl (S.vis 10 rfl))) (de_mul false (de_var B 4 rfl (S.vis 8 rfl)) de_int)) (de_var B 2 rfl (S.vis 5 rfl))) da_nil)) de_int)) (dss_one (ds_do (de_app B (de_var B 1 rfl (S.vis 0 rfl)) (da_cons (de_mod (de_intC B (S.at_ 9 rfl) (E.fr 7 rfl) (da_cons (de_fdv (de_var B 5 rfl (S.vis 10 rfl)) de_int) da_nil)) de_int) da_nil)))))))))))) (dss_one (ds_ret (de_var B 1 rfl (S.vis 0 rfl))))))
theorem fo__law_pool (E : Ev T fas fns) {fd : FuncData} (F : FunD T.K "_law_pool" "_law_pool" (defArgs s__law_pool) (defBody s__law_pool) (defScope s__law_pool) [] [] (He.fAd T.K ("_law_pool", none)) fd) : FnOk T.P T.w T.K T.mg T.base (L2.CX T.P T.w) 2 (He.fAd T.K ("_law_pool", none)) fd p__law_pool (spM T 1 f__law_pool) :=
  fn_ok F sc__law_pool fun X W B _ => bd__law_pool E sk__law_pool B
theorem ok__law_pool (E : Ev T fas fns) : FnAt T 2 (He.fAd T.K ("_law_pool", none)) p__law_pool f__law_pool := by
  obtain ⟨fd, F⟩ := E.says.def_ 1 (d := d__law_pool) rfl
  exact ⟨⟨fd, fo__law_pool E F, FunD.bindsN F fun _ _ _ _ _ _ us hl => match us, hl with | [_], _ => rfl⟩, F.kp⟩
def n__law_take : List Str := ["_law_pool_here", "_law_size"]
def p__law_take : List Str := ["_law_pool_here", "_law_size"]
theorem sc__law_take : FnScope n__law_take p__law_take (defScope s__law_take) := ⟨by rfl, by rfl, by rfl, by decide +kernel, by rfl, by decide +kernel, by decide +kernel⟩
def k__law_take : List (Str × NameKind) := [("len", .globalImplicit), ("_law_pool_here", .local), ("int", .globalImplicit), ("_law_size", .local)]
theorem sk__law_take : Sk (defScope s__law_take) k__law_take := ⟨by decide +kernel⟩
theorem bd__law_take {X : Cx} {W : WX} (E : Ev T fas fns) (S : Sk (defScope s__law_take) k__law_take) (B : Bx T n__law_take (defScope s__law_take) 1 W X) : DSs T W X (defBody s__law_take) m__law_take :=
  (dss_cons (ds_if (dt_c (c_eq B) (de_len B (S.at_ 0 rfl) (E.fr 0 rfl) (da_cons (de_var B 0 rfl (S.vis 1 rfl)) da_nil)) de_int) (dss_one (ds_ret de_int)) dss_nil) (dss_one (ds_ret (de_mod (de_intC B (S.at_ 2 rfl) (E.fr 7 rfl) (da_cons (de_popAt B (de_var B 0 rfl (S.vis 1 rfl)) (da_cons de_int da_nil)) da_nil)) (de_var B 1 rfl (S.vis 3 rfl))))))
theorem fo__law_take (E : Ev T fas fns) {fd : FuncData} (F : FunD T.K "_law_take" "_law_take" (defArgs s__law_take) (defBody s__law_take) (defScope s__law_take) [] [] (He.fAd T.K ("_law_take", none)) fd) : FnOk T.P T.w T.K T.mg T.base (L2.CX T.P T.w) 2 (He.fAd T.K ("_law_take", none)) fd p__law_take (spM T 2 f__law_take) :=
  fn_ok F sc__law_take fun X W B _ => bd__law_take E sk__law_take B
theorem ok__law_take (E : Ev T fas fns) : FnAt T 2 (He.fAd T.K ("_law_take", none)) p__law_take f__law_take := by
  obtain ⟨fd, F⟩ := E.says.def_ 2 (d := d__law_take) rfl
  exact ⟨⟨fd, fo__law_take E F, FunD.bindsN F fun _ _ _ _ _ _ us hl => match us, hl with | [_, _], _ => rfl⟩, F.kp⟩
def n__law_word : List Str := ["_law_pool_here", "_law_letters", "_law_usual", "_law_other", "_law_size", "_law_mode", "_law_signs", "_law_k", "_law_row", "_law_at"]
def p__law_word : List Str := ["_law_pool_here"]
theorem sc__law_word : FnScope n__law_word p__law_word (defScope s__law_word) := ⟨by rfl, by rfl, by rfl, by decide +kernel, by rfl, by decide +kernel, by decide +kernel⟩
def k__law_word : List (Str × NameKind) := [("_law_letters", .local), ("_law_usual", .local), ("_law_other", .local), ("_law_pool_here", .local), ("_law_take", .globalImplicit), ("_law_size", .local), ("_law_mode", .local), ("_law_signs", .local), ("range", .globalImplicit), ("_law_k", .local), ("_law_row", .local), ("len", .globalImplicit), ("_law_at", .local)]
theorem sk__law_word : Sk (defScope s__law_word) k__law_word := ⟨by decide +kernel⟩
theorem bd__law_word {X : Cx} {W : WX} (E : Ev T fas fns) (S : Sk (defScope s__law_word) k__law_word) (B : Bx T n__law_word (defScope s__law_word) 2 W X) : DSs T W X (defBody s__law_word) m__law_word :=
  (dss_cons (ds_set B 1 rfl (S.loc 0 rfl) de_str) (dss_cons (ds_set B 2 rfl (S.loc 1 rfl) (de_add B false (de_var B 1 rfl (S.vis 0 rfl)) de_str)) (dss_cons (ds_set B 3 rfl (S.loc 2 rfl) de_str) (dss_cons (ds_set B 4 rfl (S.loc 5 rfl) (de_call B false (ok__law_take E) (by decide) (S.at_ 4 rfl) (E.gl 8 rfl) (da_cons (de_var B 0 rfl (S.vis 3 rfl)) (da_cons de_int da_nil)) rfl)) (dss_cons (ds_set B 5 rfl (S.loc 6 rfl) (de_call B false (ok__law_take E) (by decide) (S.at_ 4 rfl) (E.gl 8 rfl) (da_cons (de_var B 0 rfl (S.vis 3 rfl)) (da_cons de_int da_nil)) rfl)) (dss_cons (ds_set B 6 rfl (S.loc 7 rfl) (de_lst true da_nil)) (dss_cons (ds_for B (di_range1 B (S.at_ 8 rfl) (E.fr 5 rfl) (da_cons (de_var B 4 rfl (S.vis 5 rfl)) da_nil)) (dg_name B 7 rfl (S.loc 9 rfl)) (dss_cons (ds_set B 8 rfl (S.loc 10 rfl) (de_var B 2 rfl (S.vis 1 rfl))) (dss_cons (ds_if (dt_c (c_eq B) (de_var B 7 rfl (S.vis 9 rfl)) de_int) (dss_one (ds_set B 8 rfl (S.loc 10 rfl) (de_var B 1 rfl (S.vis 0 rfl)))) dss_nil) (dss_cons (ds_if (dt_c (c_eq B) (de_var B 5 rfl (S.vis 6 rfl)) de_int) (dss_one (ds_set B 8 rfl (S.loc 10 rfl) (de_add B false (de_var B 2 rfl (S.vis 1 rfl)) (de_var B 3 rfl (S.vis 2 rfl))))) dss_nil) (dss_one (ds_do (de_app B (de_var B 6 rfl (S.vis 7 rfl)) (da_cons (de_idx B (de_var B 8 rfl (S.vis 10 rfl)) (de_call B false (ok__law_take E) (by decide) (S.at_ 4 rfl) (E.gl 8 rfl) (da_cons (de_var B 0 rfl (S.vis 3 rfl)) (da_cons (de_len B (S.at_ 11 rfl) (E.fr 0 rfl) (da_cons (de_var B 8 rfl (S.vis 10 rfl)) da_nil)) da_nil)) rfl)) da_nil)))))))) (dss_cons (ds_if (dt_w (dw_and (dt_c (c_eq B) (de_var B 5 rfl (S.vis 6 rfl)) de_int) (dw_and1 (dt_c (c_gt B) (de_var B 4 rfl (S.vis 5 rfl)) de_int)))) (dss_cons (ds_set B 9 rfl (S.loc 12 rfl) (de_call B false (ok__law_take E) (by decide) (S.at_ 4 rfl) (E.gl 8 rfl) (da_cons (de_var B 0 rfl (S.vis 3 rfl)) (da_cons (de_var B 4 rfl (S.vis 5 rfl)) da_nil)) rfl)) (dss_one (ds_setIx (de_var B 6 rfl (S.vis 7 rfl)) (de_var B 9 rfl (S.vis 12 rfl)) (de_idx B (de_var B 3 rfl (S.vis 2 rfl)) (de_call B false (ok__law_take E) (by decide) (S.at_ 4 rfl) (E.gl 8 rfl) (da_cons (de_var B 0 rfl (S.vis 3 rfl)) (da_cons (de_len B (S.at_ 11 rfl) (E.fr 0 rfl) (da_cons (de_var B 3 rfl (S.vis 2 rfl)) da_nil)) da_nil)) rfl))))) dss_nil) (dss_cons (ds_if (dt_w (dw_and (dt_c (c_eq B) (de_var B 5 rfl (S.vis 6 rfl)) de_int) (dw_and1 (dt_c (c_gt B) (de_var B 4 rfl (S.vis 5 rfl)) de_int)))) (dss_one (ds_setIx (de_var B 6 rfl (S.vis 7 rfl)) de_int (de_idx B de_str (de_call B false (ok__law_take E) (by decide) (S.at_ 4 rfl) (E.gl 8 rfl) (da_cons (de_var B 0 rfl (S.vis 3 rfl)) (da_cons de_int da_nil)) rfl)))) dss_nil) (dss_one (ds_ret (de_join B de_str (da_cons (de_var B 6 rfl (S.vis 7 rfl)) da_nil)))))))))))))
theorem fo__law_word (E : Ev T fas fns) {fd : FuncData} (F : FunD T.K "_law_word" "_law_word" (defArgs s__law_word) (defBody s__law_word) (defScope s__law_word) [] [] (He.fAd T.K ("_law_word", none)) fd) : FnOk T.P T.w T.K T.mg T.base (L2.CX T.P T.w) 3 (He.fAd T.K ("_law_word", none)) fd p__law_word (spM T 1 f__law_word) :=
  fn_ok F sc__law_word fun X W B _ => bd__law_word E sk__law_word B
theorem ok__law_word (E : Ev T fas fns) : FnAt T 3 (He.fAd T.K ("_law_word", none)) p__law_word f__law_word := by
  obtain ⟨fd, F⟩ := E.says.def_ 3 (d := d__law_word) rfl
  exact ⟨⟨fd, fo__law_word E F, FunD.bindsN F fun _ _ _ _ _ _ us hl => match us, hl with | [_], _ => rfl⟩, F.kp⟩
def n_is_name : List Str := ["word", "char"]
def p_is_name : List Str := ["word"]
theorem sc_is_name : FnScope n_is_name p_is_name (defScope s_is_name) := ⟨by rfl, by rfl, by rfl, by decide +kernel, by rfl, by decide +kernel, by decide +kernel⟩
def k_is_name : List (Str × NameKind) := [("word", .local), ("len", .globalImplicit), ("LONGEST", .globalImplicit), ("LETTERS", .globalImplicit), ("char", .local), ("DIGITS", .globalImplicit)]
theorem sk_is_name : Sk (defScope s_is_name) k_is_name := ⟨by decide +kernel⟩
theorem bd_is_name {X : Cx} {W : WX} (E : Ev T fas fns) (S : Sk (defScope s_is_name) k_is_name) (B : Bx T n_is_name (defScope s_is_name) 1 W X) : DSs T W X (defBody s_is_name) m_is_name :=
  (dss_cons (ds_if (dt_w (dw_or (dt_c (c_eq B) (de_var B 0 rfl (S.vis 0 rfl)) de_str) (dw_or (dt_c (c_gt B) (de_len B (S.at_ 1 rfl) (E.fr 0 rfl) (da_cons (de_var B 0 rfl (S.vis 0 rfl)) da_nil)) (de_gi B E 1 (S.at_ 2 rfl) rfl)) (dw_or1 (dt_c (c_notIn B) (de_idx B (de_var B 0 rfl (S.vis 0 rfl)) de_int) (de_gs B E 2 (S.at_ 3 rfl) rfl)))))) (dss_one (ds_ret de_bl)) dss_nil) (dss_cons (ds_for B (di_any B (de_var B 0 rfl (S.vis 0 rfl))) (dg_name B 1 rfl (S.loc 4 rfl)) (dss_one (ds_if (dt_w (dw_and (dt_c (c_notIn B) (de_var B 1 rfl (S.vis 4 rfl)) (de_gs B E 2 (S.at_ 3 rfl) rfl)) (dw_and1 (dt_c (c_notIn B) (de_var B 1 rfl (S.vis 4 rfl)) (de_gs B E 3 (S.at_ 5 rfl) rfl))))) (dss_one (ds_ret de_bl)) dss_nil))) (dss_one (ds_ret de_bl))))
theorem fo_is_name (E : Ev T fas fns) {fd : FuncData} (F : FunD T.K "is_name" "is_name" (defArgs s_is_name) (defBody s_is_name) (defScope s_is_name) [] [] (He.fAd T.K ("is_name", none)) fd) : FnOk T.P T.w T.K T.mg T.base (L2.CX T.P T.w) 2 (He.fAd T.K ("is_name", none)) fd p_is_name (spM T 1 f_is_name) :=
  fn_ok F sc_is_name fun X W B _ => bd_is_name E sk_is_name B
theorem ok_is_name (E : Ev T fas fns) : FnAt T 2 (He.fAd T.K ("is_name", none)) p_is_name f_is_name := by
  obtain ⟨fd, F⟩ := E.says.def_ 4 (d := d_is_name) rfl
  exact ⟨⟨fd, fo_is_name E F, FunD.bindsN F fun _ _ _ _ _ _ us hl => match us, hl with | [_], _ => rfl⟩, F.kp⟩
def n_law : List Str := ["_law_script", "_law_pool_here", "_law_first", "_law_second", "_law_word_here", "_law_actual"]
def p_law : List Str := ["_law_script"]
theorem sc_law : FnScope n_law p_law (defScope s_law) := ⟨by rfl, by rfl, by rfl, by decide +kernel, by rfl, by decide +kernel, by decide +kernel⟩
def k_law : List (Str × NameKind) := [("_law_script", .local), ("_law_pool", .globalImplicit), ("_law_pool_here", .local), ("_law_word", .globalImplicit), ("_law_first", .local), ("_law_second", .local), ("_law_word_here", .local), ("is_name", .globalImplicit), ("_law_actual", .local), ("isinstance", .globalImplicit), ("bool", .globalImplicit), ("_law_named", .globalImplicit)]
theorem sk_law : Sk (defScope s_law) k_law := ⟨by decide +kernel⟩
theorem bd_law {X : Cx} {W : WX} (E : Ev T fas fns) (S : Sk (defScope s_law) k_law) (B : Bx T n_law (defScope s_law) 3 W X) : DSs T W X (defBody s_law) m_law :=
  (dss_cons (ds_set B 1 rfl (S.loc 2 rfl) (de_call B false (ok__law_pool E) (by decide) (S.at_ 1 rfl) (E.gl 9 rfl) (da_cons (de_var B 0 rfl (S.vis 0 rfl)) da_nil) rfl)) (dss_cons (ds_set B 2 rfl (S.loc 4 rfl) (de_call B true (ok__law_word E) (by decide) (S.at_ 3 rfl) (E.gl 10 rfl) (da_cons (de_var B 1 rfl (S.vis 2 rfl)) da_nil) rfl)) (dss_cons (ds_set B 3 rfl (S.loc 5 rfl) (de_call B true (ok__law_word E) (by decide) (S.at_ 3 rfl) (E.gl 10 rfl) (da_cons (de_var B 1 rfl (S.vis 2 rfl)) da_nil) rfl)) (dss_cons (ds_for B (di_any B (de_lst false (da_cons (de_var B 2 rfl (S.vis 4 rfl)) (da_cons (de_var B 3 rfl (S.vis 5 rfl)) (da_cons (de_var B 2 rfl (S.vis 4 rfl)) da_nil))))) (dg_name B 4 rfl (S.loc 6 rfl)) (dss_cons (ds_set B 5 rfl (S.loc 8 rfl) (de_call B false (ok_is_name E) (by decide) (S.at_ 7 rfl) (E.gl 11 rfl) (da_cons (de_var B 4 rfl (S.vis 6 rfl)) da_nil) rfl)) (dss_one (ds_if (dt_w (dw_or (dt_not (dt_of (de_isi B "bool" (de_var B 5 rfl (S.vis 8 rfl)) (S.at_ 9 rfl) (E.fr 12 rfl) (S.at_ 10 rfl) (E.fr 13 rfl) PyProof.Rows.boot_bool (by decide)))) (dw_or1 (dt_c (c_ne B) (de_var B 5 rfl (S.vis 8 rfl)) (de_call B false (ok__law_named E) (by decide) (S.at_ 11 rfl) (E.gl 14 rfl) (da_cons (de_var B 4 rfl (S.vis 6 rfl)) da_nil) rfl))))) (dss_one (ds_ret de_bl)) dss_nil)))) (dss_one (ds_ret de_bl))))))
theorem fo_law (E : Ev T fas fns) {fd : FuncData} (F : FunD T.K "law" "law" (defArgs s_law) (defBody s_law) (defScope s_law) [] [] (He.fAd T.K ("law", none)) fd) : FnOk T.P T.w T.K T.mg T.base (L2.CX T.P T.w) 4 (He.fAd T.K ("law", none)) fd p_law (spM T 1 f_law) :=
  fn_ok F sc_law fun X W B _ => bd_law E sk_law B
end
def cadr (K : PySem.W.Frag) (c : Nat) : Addr := He.ga K (([] : List Str).getD c "")
abbrev R : PySem.W.OpenRow := PySem.W.OpenLaw.row PySem.Challenge.rw_sparedjoins_k01_names
abbrev hk : PySem.W.Hook := He.hookX 5 fas fns [] [] fun _ => true
def ob (s : PySem.W.SharedT) : He.AlX := He.obsX 5 fas fns [] [] (fun _ => true) (HandSHeadRun.getT s)
theorem ob_eq (s : PySem.W.SharedT) : ob s = hk.obs s.abs := He.obsX_eq (HandSHeadRun.getT_eq s)
def loose : List Str := ["LETTERS", "DIGITS", "LONGEST", "is_name", "_law_pool", "_law_take", "_law_word", "_law_named"]
theorem run (w : World) : HandSHeadRun.RunEq R (PySem.W.view R.prog [10]) hk ob 3000 loose w := by
  intro os
  kernel_rfl
end Fp
open PySem PySem.W PySem.Calls PyProof.Rows in
theorem PySem.Challenge.cw_sparedjoins_k01_names_of (hf : ∀ ns : List Int, ns.length ≤ 63 → ∃ m, Fm.f_law [.ro ns] [] = .ok (.d (.bool true)) m) : PySem.Challenge.rw_sparedjoins_k01_names.Holds := by
  w_on; o_law
  refine HandSHeadRun.head_any (r := Fp.R) (q := view Fp.R.prog [10]) (H := Fp.hk) (ob := Fp.ob) (M := 3000) (loose := Fp.loose) (d := HandSHeadRun.topDef Fp.R.prog 10) (kwd := []) Fp.ob_eq
    (by kernel_rfl) (fun s => by kernel_rfl) Fp.run (by kernel_rfl) (by kernel_rfl) (by kernel_rfl) (by rfl) (by first | assumption | decide +kernel) (by decide +kernel) ⟨rfl, rfl, rfl, rfl, rfl, by decide +kernel⟩ ?hw ?hc
  case hw => w_witness2
  case hc =>
    refine Fs.walk_fs (l := PySem.Challenge.rw_sparedjoins_k01_names) (n := 63) (k := 4) (x := "_law_script") (f := Fm.f_law) (fa := Fp.fas) (fn := Fp.fns) Fp.cadr rfl (by decide) (by kernel_rfl) ⟨rfl, by decide, by decide⟩ ?hY ?hF hf
    · intro w h z
      obtain ⟨K, KX, c⟩ := z
      exact ⟨K, KX, c.t.d⟩
    · intro K c
      obtain ⟨fd, F⟩ := c.def_ 5 (d := Fp.d_law) rfl
      have b := L2.FunD.bindsA (ps := Fp.p_law) F fun _ _ _ _ _ _ us hl => match us, hl with | [_], _ => rfl
      refine ⟨fd, He.fAd K ("law", none), fun s v => b s [v] rfl, fun T e1 e2 e3 E => ?_⟩
      subst e2
      refine ⟨?_, Fp.fo_law E F⟩
      have e : (HandSHeadRun.topDef Fp.R.prog 10).name = ("law" : PySem.Str) := by kernel_rfl
      rw [e]
      exact E.gl 15 rfl
theorem PySem.Challenge.cw_sparedjoins_k01_names_holds : PySem.Challenge.rw_sparedjoins_k01_names.Holds := by
  exact PySem.Challenge.cw_sparedjoins_k01_names_of fun ns _ => Fm.law_spec ns
