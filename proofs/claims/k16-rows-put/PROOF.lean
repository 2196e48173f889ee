import PyProof.Rows.All
import Wide.All
import OpenK.AllK
import Wide.FinOn
import HandS.Base
import HandS.Call
import HandS.CallSlots
import HandS.ClsMeth
import HandS.Comp
import HandS.Deep
import HandS.Defaults
import HandS.Dict
import HandS.DictComp
import HandS.Exc
import HandS.ExcCtx
import HandS.ExcField
import HandS.ExcInit
import HandS.Head0
import HandS.Head1
import HandS.Head2
import HandS.HeadEnd
import HandS.HeadHook2
import HandS.HeadHook3
import HandS.HeadHook4
import HandS.HeadWalk
import HandS.IsInst
import HandS.Iter
import HandS.IterVal
import HandS.List
import HandS.More
import HandS.Nested
import HandS.Rev
import HandS.Slots
import HandS.SlotsOwn
import HandS.Star
import HandS.Text
import HandS.TryMany
import HandS.TupAny
import HandS.Words
import KE.GoesEnumKw
import KE.GoesMore
import KE.KDictCopyH
import KE.KExcIs
import KE.KExcSuper
import KE.KSuper
import PySem.Challenge.RW_sparedjoins_k16_rows_put
set_option Elab.async false
set_option linter.all false
set_option autoImplicit false
set_option maxRecDepth 100000
set_option maxHeartbeats 0
namespace Fs
open PySem L2
def flds : Nat → List Str
  | 0 => ["_names", "_columns"]
  | 1 => ["schema", "_rules"]
  | 2 => ["schema", "_rows"]
  | 3 => ["_store", "_kept"]
  | 4 => ["column", "name", "parent", "table", "target"]
  | 5 => ["column", "name", "parent", "table", "target"]
  | 6 => ["column", "name", "parent", "table", "target"]
  | 7 => ["column", "name", "parent", "table", "target"]
  | 8 => ["schema", "base", "head", "_table", "_steps", "_checks", "_asked", "_sums"]
  | 9 => ["_book", "_question", "_kept", "_stands", "_dropped", "_added"]
  | 10 => ["alias", "column", "field", "positives", "bars", "lefts"]
  | 11 => ["_book", "_store", "_last"]
  | 12 => ["whole", "least", "_told", "_words"]
  | 20 => ["what"]
  | 21 => ["rule"]
  | 22 => ["number"]
  | 23 => ["table"]
  | 24 => ["what"]
  | 25 => ["name"]
  | 26 => ["name"]
  | 27 => ["name"]
  | 28 => ["name"]
  | 29 => ["name"]
  | 30 => ["what"]
  | _ => []
def slotted : Nat → Bool
  | 4 => true
  | 5 => true
  | 6 => true
  | 7 => true
  | 10 => true
  | _ => false
inductive Data where
  | none
  | bool (b : Bool)
  | int (i : Int)
  | str (s : Str)
  | list (xs : List Data)
  | tup (xs : List Data)
  | dk (kvs : List (Key × Data))
  | dt (kvs : List (List Key × Data))
  | ins (c : Nat) (fs : List Data)
  | lf (ks : List Data)
inductive Val where
  | d (x : Data)
  | loc (l : Nat)
  | tup (vs : List Val)
  | obj (c : Nat) (fs : List Val)
  | ro (ns : List Int)
inductive Cell where
  | lst (vs : List Val)
  | dk (kvs : List (Key × Val))
  | dt (kvs : List (List Key × Val))
  | ins (c : Nat) (fs : List Val)
  | lf (ks : List Data)
  | frz (x : Data)
abbrev Mem := List Cell
inductive Res (α : Type) where
  | ok (a : α) (m : Mem)
  | exc (c : Nat) (p : List Data) (m : Mem)
  | bad
abbrev Env := List (Option Val)
inductive SRes where
  | next (e : Env) (m : Mem)
  | ret (v : Val) (m : Mem)
  | exc (c : Nat) (p : List Data) (e : Env) (m : Mem)
  | bad
abbrev EM := Env → Mem → Res Val
abbrev TM := Env → Mem → Res Bool
abbrev AM := Env → Mem → Res (List Val)
abbrev SM := Env → Mem → SRes
abbrev Fn := List Val → Mem → Res Val
def Res.bind {α β : Type} : Res α → (α → Mem → Res β) → Res β
  | .ok a m, f => f a m
  | .exc c p m, _ => .exc c p m
  | .bad, _ => .bad
@[simp] theorem Res.bind_ok {α β : Type} (a : α) (m : Mem) (f : α → Mem → Res β) : (Res.ok a m).bind f = f a m := rfl
@[simp] theorem Res.bind_exc {α β : Type} (c : Nat) (p : List Data) (m : Mem) (f : α → Mem → Res β) : (Res.exc c p m : Res α).bind f = .exc c p m := rfl
@[simp] theorem Res.bind_bad {α β : Type} (f : α → Mem → Res β) : (Res.bad : Res α).bind f = .bad := rfl
def allD : List Val → Option (List Data)
  | [] => some []
  | .d x :: r => (allD r).map (x :: ·)
  | _ :: _ => Option.none
@[simp] theorem allD_nil : allD [] = some [] := rfl
@[simp] theorem allD_cons (x : Data) (r : List Val) : allD (.d x :: r) = (allD r).map (x :: ·) := rfl
@[simp] theorem allD_loc (x : Nat) (r : List Val) : allD (.loc x :: r) = Option.none := rfl
@[simp] theorem allD_tup (x : List Val) (r : List Val) : allD (.tup x :: r) = Option.none := rfl
@[simp] theorem allD_obj (c : Nat) (x : List Val) (r : List Val) : allD (.obj c x :: r) = Option.none := rfl
@[simp] theorem allD_map (xs : List Data) : allD (xs.map .d) = some xs := by
  induction xs with
  | nil => rfl
  | cons x r ih => simp [ih]
@[simp] theorem allD_mapf {α : Type} (f : α → Data) (xs : List α) : allD (xs.map fun x => .d (f x)) = some (xs.map f) := by
  induction xs with
  | nil => rfl
  | cons x r ih => simp [ih]
@[simp] theorem allD_append (xs ys : List Val) : allD (xs ++ ys) = (allD xs).bind fun a => (allD ys).map fun b => a ++ b := by
  induction xs with
  | nil => simp
  | cons x r ih =>
    cases x with
    | d x =>
      simp only [List.cons_append, allD_cons, ih]
      cases allD r with
      | none => rfl
      | some a => cases allD ys <;> rfl
    | _ => rfl
theorem allD_eq : ∀ {vs : List Val} {xs : List Data}, allD vs = some xs → vs = xs.map .d
  | [], xs, h => by
    cases h
    rfl
  | .d x :: r, xs, h => by
    simp only [allD, Option.map_eq_some_iff] at h
    obtain ⟨ys, h1, h2⟩ := h
    subst h2
    rw [allD_eq h1]
    rfl
  | .loc _ :: _, _, h => by simp [allD] at h
  | .tup _ :: _, _, h => by simp [allD] at h
  | .obj _ _ :: _, _, h => by simp [allD] at h
  | .ro _ :: _, _, h => by simp [allD] at h
def norm (m : Mem) : Val → Val
  | .loc l => match m[l]? with
    | some (.frz x) => .d x
    | _ => .loc l
  | v => v
@[simp] theorem norm_d (m : Mem) (x : Data) : norm m (.d x) = .d x := rfl
@[simp] theorem norm_tup (m : Mem) (x : List Val) : norm m (.tup x) = .tup x := rfl
@[simp] theorem norm_obj (m : Mem) (c : Nat) (x : List Val) : norm m (.obj c x) = .obj c x := rfl
@[simp] theorem norm_ro (m : Mem) (x : List Int) : norm m (.ro x) = .ro x := rfl
def lstV (m : Mem) : Val → Option (List Val)
  | .d (.list xs) => some (xs.map .d)
  | .loc l => match m[l]? with
    | some (.lst vs) => some vs
    | _ => Option.none
  | _ => Option.none
def tupV : Val → Option (List Val)
  | .d (.tup xs) => some (xs.map .d)
  | .tup vs => some vs
  | _ => Option.none
def seqV (m : Mem) : Val → Option (List Val)
  | .d (.tup xs) => some (xs.map .d)
  | .tup vs => some vs
  | .ro ns => some (ns.map fun i => .d (.int i))
  | v => lstV m v
def mkL (cell : Bool) (vs : List Val) (m : Mem) : Res Val :=
  if 16777216 < vs.length then .bad else
  match cell, allD vs with
  | false, some ds => .ok (.d (.list ds)) m
  | _, _ => .ok (.loc m.length) (m ++ [.lst vs])
def mkT (vs : List Val) (m : Mem) : Res Val :=
  if 16777216 < vs.length then .bad else
  match allD vs with
  | some ds => .ok (.d (.tup ds)) m
  | Option.none => .ok (.tup vs) m
def VBelow (n : Nat) : Val → Prop
  | .d _ => True
  | .loc l => l < n
  | _ => False
def Below (n : Nat) : Cell → Prop
  | .lst vs => ∀ v ∈ vs, VBelow n v
  | .dk kvs => ∀ p ∈ kvs, VBelow n p.2
  | .dt kvs => ∀ p ∈ kvs, VBelow n p.2
  | .ins _ fs => ∀ v ∈ fs, VBelow n v
  | .lf _ => True
  | .frz _ => True
def TOk (m m' : Mem) : Prop := m.length ≤ m'.length ∧ ∀ (l : Nat) (c : Cell), l < m.length → m'[l]? = some c → m[l]? = some c ∨ Below m.length c
open Classical in
noncomputable def trunc (m m' : Mem) : Mem := if TOk m m' then m'.take m.length else m'
def frzL (f : Val → Mem → Option (Data × Mem)) : List Val → Mem → Option (List Data × Mem)
  | [], m => some ([], m)
  | v :: r, m => (f v m).bind fun p => (frzL f r p.2).map fun q => (p.1 :: q.1, q.2)
def frzV : Nat → Val → Mem → Option (Data × Mem)
  | 0, v, m => match v with
    | .d x => some (x, m)
    | _ => Option.none
  | n + 1, v, m => match v with
    | .d x => some (x, m)
    | .loc l => match m[l]? with
      | some (.frz x) => some (x, m)
      | some (.lst vs) => (frzL (frzV n) vs m).bind fun r => match r.2[l]? with
        | some (.lst _) => some (.list r.1, r.2.set l (.frz (.list r.1)))
        | _ => Option.none
      | some (.dk kvs) => (frzL (frzV n) (kvs.map (·.2)) m).bind fun r => match r.2[l]? with
        | some (.dk _) => some (.dk ((kvs.map (·.1)).zip r.1), r.2.set l (.frz (.dk ((kvs.map (·.1)).zip r.1))))
        | _ => Option.none
      | some (.dt kvs) => (frzL (frzV n) (kvs.map (·.2)) m).bind fun r => match r.2[l]? with
        | some (.dt _) => some (.dt ((kvs.map (·.1)).zip r.1), r.2.set l (.frz (.dt ((kvs.map (·.1)).zip r.1))))
        | _ => Option.none
      | some (.ins c fs) => (frzL (frzV n) fs m).bind fun r => match r.2[l]? with
        | some (.ins _ _) => some (.ins c r.1, r.2.set l (.frz (.ins c r.1)))
        | _ => Option.none
      | some (.lf ks) => some (.lf ks, m.set l (.frz (.lf ks)))
      | Option.none => Option.none
    | .tup vs => (frzL (frzV n) vs m).map fun r => (.tup r.1, r.2)
    | .obj c vs => (frzL (frzV n) vs m).map fun r => (.ins c r.1, r.2)
    | .ro _ => Option.none
noncomputable def callF (fz : Bool) (f : Fn) (vs : List Val) (m : Mem) : Res Val :=
  match fz with
  | false => f vs m
  | true => match f vs m with
    | .ok v m' => match frzV 9 v m' with
      | some (x, m2) => .ok (.d x) (trunc m m2)
      | Option.none => .bad
    | .exc c p m' => .exc c p (trunc m m')
    | .bad => .bad
end Fs
namespace Fs
open PySem PySem.Spec PyProof.Rows L2
structure Tbl where
  P : Program
  w : World
  K : PySem.W.Frag
  mg : Str → Option Value
  base : Heap
  cadr : Nat → Addr
def lfD : Leaf → Data
  | .none => .none
  | .num i => .int i
  | .text x => .str x
def LfP (P : Program) (w : World) (a : Addr) (ks : List Data) (h : Heap) : Prop := ks.length ≤ sizeLine ∧ (a == sysModules) = false ∧ ∃ ls : List Leaf, ls.map lfD = ks ∧ h.DictOf (leafKind P w) a (ls.map fun l => (l, Value.bool true))
def LfO (T : Tbl) (a : Addr) (ks : List Data) : HO := .ext (LfP T.P T.w a ks)
mutual
inductive DRep (T : Tbl) (F : Hp) : V → Data → Prop
  | non : DRep T F .non .none
  | bl (b : Bool) : DRep T F (.bl b) (.bool b)
  | int (i : Int) : DRep T F (.int i) (.int i)
  | str (s : Str) : DRep T F (.str s) (.str s)
  | lst {a : Addr} {xs : List V} {ds : List Data} : F a = some (.lst xs) → DReps T F xs ds → DRep T F (.ref a) (.list ds)
  | tup {a : Addr} {xs : List V} {ds : List Data} : SqT T.K F a xs → DReps T F xs ds → DRep T F (.ref a) (.tup ds)
  | dk {a : Addr} {xs : List (Key × V)} {ds : List (Key × Data)} : F a = some (.dK xs) → DRepK T F xs ds → DRep T F (.ref a) (.dk ds)
  | dt {a : Addr} {xs : List (List Key × V)} {ds : List (List Key × Data)} : F a = some (.dT xs) → DRepT T F xs ds → DRep T F (.ref a) (.dt ds)
  | ins {a dx : Addr} {c : Nat} {xs : List V} {ds : List Data} : F a = some (.ins (T.cadr c) dx ((flds c).zip xs)) → xs.length ≤ (flds c).length → F dx = some (.own a) → slotted c = false → DReps T F xs ds → DRep T F (.ref a) (.ins c ds)
  | slo {a dx : Addr} {c : Nat} {xs : List V} {ds : List Data} : F a = some (SlX.SlO a (T.cadr c) dx (xs.map some)) → F dx = some (.xd []) → slotted c = true → DReps T F xs ds → DRep T F (.ref a) (.ins c ds)
  | lf {a : Addr} {ks : List Data} : F a = some (LfO T a ks) → DRep T F (.ref a) (.lf ks)
inductive DReps (T : Tbl) (F : Hp) : List V → List Data → Prop
  | nil : DReps T F [] []
  | cons {v : V} {x : Data} {vs : List V} {xs : List Data} : DRep T F v x → DReps T F vs xs → DReps T F (v :: vs) (x :: xs)
inductive DRepK (T : Tbl) (F : Hp) : List (Key × V) → List (Key × Data) → Prop
  | nil : DRepK T F [] []
  | cons {k : Key} {v : V} {x : Data} {vs : List (Key × V)} {xs : List (Key × Data)} : DRep T F v x → DRepK T F vs xs → DRepK T F ((k, v) :: vs) ((k, x) :: xs)
inductive DRepT (T : Tbl) (F : Hp) : List (List Key × V) → List (List Key × Data) → Prop
  | nil : DRepT T F [] []
  | cons {k : List Key} {v : V} {x : Data} {vs : List (List Key × V)} {xs : List (List Key × Data)} : DRep T F v x → DRepT T F vs xs → DRepT T F ((k, v) :: vs) ((k, x) :: xs)
end
def Sub (F F' : Hp) : Prop := ∀ a o, F a = some o → F' a = some o
theorem Sub.refl (F : Hp) : Sub F F := fun _ _ h => h
theorem Sub.trans {F G H : Hp} (a : Sub F G) (b : Sub G H) : Sub F H := fun x o h => b x o (a x o h)
theorem Sub.upd {F : Hp} {p : Addr} {o : HO} (h : F p = none) : Sub F (upd F p o) := fun a u e => by
  rw [upd_ne (ne_of_none e h)]
  exact e
theorem Sub.sqT {K : PySem.W.Frag} {F F' : Hp} {a : Addr} {xs : List V} (s : Sub F F') (h : SqT K F a xs) : SqT K F' a xs := by
  rcases h with (h | ⟨o, h⟩) | h
  · exact .inl (.inl (s _ _ h))
  · exact .inl (.inr ⟨o, s _ _ h⟩)
  · exact .inr h
theorem Sub.sqL {K : PySem.W.Frag} {F F' : Hp} {a : Addr} {xs : List V} (s : Sub F F') (h : SqL K F a xs) : SqL K F' a xs := by
  rcases h with (h | ⟨o, h⟩) | h
  · exact .inl (.inl (s _ _ h))
  · exact .inl (.inr ⟨o, s _ _ h⟩)
  · exact .inr h
mutual
theorem DRep.mono {T : Tbl} {F F' : Hp} (s : Sub F F') : ∀ {v : V} {x : Data}, DRep T F v x → DRep T F' v x
  | _, _, .non => .non
  | _, _, .bl b => .bl b
  | _, _, .int i => .int i
  | _, _, .str z => .str z
  | _, _, .lst h r => .lst (s _ _ h) (DReps.mono s r)
  | _, _, .tup h r => .tup (s.sqT h) (DReps.mono s r)
  | _, _, .dk h r => .dk (s _ _ h) (DRepK.mono s r)
  | _, _, .dt h r => .dt (s _ _ h) (DRepT.mono s r)
  | _, _, .ins h l d q r => .ins (s _ _ h) l (s _ _ d) q (DReps.mono s r)
  | _, _, .slo h d q r => .slo (s _ _ h) (s _ _ d) q (DReps.mono s r)
  | _, _, .lf h => .lf (s _ _ h)
theorem DReps.mono {T : Tbl} {F F' : Hp} (s : Sub F F') : ∀ {v : List V} {x : List Data}, DReps T F v x → DReps T F' v x
  | _, _, .nil => .nil
  | _, _, .cons h r => .cons (DRep.mono s h) (DReps.mono s r)
theorem DRepK.mono {T : Tbl} {F F' : Hp} (s : Sub F F') : ∀ {v : List (Key × V)} {x : List (Key × Data)}, DRepK T F v x → DRepK T F' v x
  | _, _, .nil => .nil
  | _, _, .cons h r => .cons (DRep.mono s h) (DRepK.mono s r)
theorem DRepT.mono {T : Tbl} {F F' : Hp} (s : Sub F F') : ∀ {v : List (List Key × V)} {x : List (List Key × Data)}, DRepT T F v x → DRepT T F' v x
  | _, _, .nil => .nil
  | _, _, .cons h r => .cons (DRep.mono s h) (DRepT.mono s r)
end
structure Wd where
  r : List Addr
  F : Hp
structure Wd.Le (w w' : Wd) : Prop where
  r : ∃ t, w'.r = w.r ++ t
  F : Sub w.F w'.F
theorem Wd.Le.refl (w : Wd) : w.Le w := ⟨⟨[], by simp⟩, Sub.refl _⟩
theorem Wd.Le.trans {w w' w'' : Wd} (a : w.Le w') (b : w'.Le w'') : w.Le w'' := by
  obtain ⟨⟨t, h⟩, s⟩ := a
  obtain ⟨⟨u, k⟩, s'⟩ := b
  exact ⟨⟨t ++ u, by rw [k, h, List.append_assoc]⟩, s.trans s'⟩
theorem Wd.Le.at {w w' : Wd} (a : w.Le w') {l : Nat} {x : Addr} (h : w.r[l]? = some x) : w'.r[l]? = some x := by
  obtain ⟨⟨t, e⟩, _⟩ := a
  rw [e, List.getElem?_append_left (List.getElem?_eq_some_iff.mp h).1]
  exact h
mutual
inductive VRep (T : Tbl) (w : Wd) : V → Val → Prop
  | d {v : V} {x : Data} : DRep T w.F v x → VRep T w v (.d x)
  | loc {l : Nat} {a : Addr} : w.r[l]? = some a → VRep T w (.ref a) (.loc l)
  | tup {a : Addr} {xs : List V} {vs : List Val} : w.F a = some (.tup xs) → VReps T w xs vs → VRep T w (.ref a) (.tup vs)
  | obj {a dx : Addr} {c : Nat} {xs : List V} {vs : List Val} : w.F a = some (.ins (T.cadr c) dx ((flds c).zip xs)) → xs.length ≤ (flds c).length → w.F dx = some (.own a) → slotted c = false → VReps T w xs vs → VRep T w (.ref a) (.obj c vs)
  | slo {a dx : Addr} {c : Nat} {xs : List V} {vs : List Val} : w.F a = some (SlX.SlO a (T.cadr c) dx (xs.map some)) → w.F dx = some (.xd []) → slotted c = true → VReps T w xs vs → VRep T w (.ref a) (.obj c vs)
  | ro {a : Addr} {ns : List Int} : SqL T.K w.F a (ns.map V.int) → VRep T w (.ref a) (.ro ns)
inductive VReps (T : Tbl) (w : Wd) : List V → List Val → Prop
  | nil : VReps T w [] []
  | cons {v : V} {x : Val} {vs : List V} {xs : List Val} : VRep T w v x → VReps T w vs xs → VReps T w (v :: vs) (x :: xs)
end
mutual
theorem VRep.mono {T : Tbl} {w w' : Wd} (s : w.Le w') : ∀ {v : V} {x : Val}, VRep T w v x → VRep T w' v x
  | _, _, .d h => .d (h.mono s.F)
  | _, _, .loc h => .loc (s.at h)
  | _, _, .tup h r => .tup (s.F _ _ h) (VReps.mono s r)
  | _, _, .obj h l d q r => .obj (s.F _ _ h) l (s.F _ _ d) q (VReps.mono s r)
  | _, _, .slo h d q r => .slo (s.F _ _ h) (s.F _ _ d) q (VReps.mono s r)
  | _, _, .ro h => .ro (s.F.sqL h)
theorem VReps.mono {T : Tbl} {w w' : Wd} (s : w.Le w') : ∀ {v : List V} {x : List Val}, VReps T w v x → VReps T w' v x
  | _, _, .nil => .nil
  | _, _, .cons h r => .cons (VRep.mono s h) (VReps.mono s r)
end
section
variable {T : Tbl} {w : Wd}
theorem VReps.length : ∀ {xs : List V} {vs : List Val}, VReps T w xs vs → xs.length = vs.length
  | _, _, .nil => rfl
  | _, _, .cons _ r => by rw [List.length_cons, List.length_cons, VReps.length r]
theorem DReps.length {F : Hp} : ∀ {xs : List V} {vs : List Data}, DReps T F xs vs → xs.length = vs.length
  | _, _, .nil => rfl
  | _, _, .cons _ r => by rw [List.length_cons, List.length_cons, DReps.length r]
theorem DReps.vals : ∀ {xs : List V} {ds : List Data}, DReps T w.F xs ds → VReps T w xs (ds.map .d)
  | _, _, .nil => .nil
  | _, _, .cons h r => .cons (.d h) (DReps.vals r)
theorem VReps.datas : ∀ {xs : List V} {ds : List Data}, VReps T w xs (ds.map .d) → DReps T w.F xs ds
  | [], [], _ => .nil
  | _ :: _, _ :: _, .cons (.d h) r => .cons h (VReps.datas r)
theorem VReps.get : ∀ {xs : List V} {vs : List Val} {i : Nat} {v : Val}, VReps T w xs vs → vs[i]? = some v → ∃ x, xs[i]? = some x ∧ VRep T w x v
  | _, _, _, _, .nil, e => by simp at e
  | _, _, 0, _, .cons h _, e => by
    simp at e
    subst e
    exact ⟨_, rfl, h⟩
  | _, _, i + 1, _, .cons _ r, e => by
    obtain ⟨x, h1, h2⟩ := VReps.get (i := i) r (by simpa using e)
    exact ⟨x, by simpa using h1, h2⟩
theorem VReps.append : ∀ {xs ys : List V} {us vs : List Val}, VReps T w xs us → VReps T w ys vs → VReps T w (xs ++ ys) (us ++ vs)
  | _, _, _, _, .nil, r => r
  | _, _, _, _, .cons h t, r => .cons h (VReps.append t r)
theorem VReps.take (n : Nat) : ∀ {xs : List V} {us : List Val}, VReps T w xs us → VReps T w (xs.take n) (us.take n) := by
  induction n with
  | zero => intro xs us _; exact .nil
  | succ n ih =>
    intro xs us h
    cases h with
    | nil => exact .nil
    | cons h t => exact .cons h (ih t)
theorem VReps.drop (n : Nat) : ∀ {xs : List V} {us : List Val}, VReps T w xs us → VReps T w (xs.drop n) (us.drop n) := by
  induction n with
  | zero => intro xs us h; exact h
  | succ n ih =>
    intro xs us h
    cases h with
    | nil => exact .nil
    | cons h t => exact ih t
theorem VReps.set {x : V} {v : Val} (h : VRep T w x v) : ∀ {xs : List V} {us : List Val} (i : Nat), VReps T w xs us → VReps T w (xs.set i x) (us.set i v)
  | _, _, _, .nil => .nil
  | _, _, 0, .cons _ t => .cons h t
  | _, _, i + 1, .cons q t => .cons q (VReps.set h i t)
theorem VReps.erase : ∀ {xs : List V} {us : List Val} (i : Nat), VReps T w xs us → VReps T w (xs.eraseIdx i) (us.eraseIdx i)
  | _, _, _, .nil => .nil
  | _, _, 0, .cons _ t => t
  | _, _, i + 1, .cons q t => .cons q (VReps.erase i t)
theorem VReps.of_all {vs : List Val} {xs : List V} {ds : List Data} (h : VReps T w xs vs) (e : allD vs = some ds) : DReps T w.F xs ds := by
  rw [allD_eq e] at h
  exact h.datas
end
def VPair {κ : Type} (T : Tbl) (w : Wd) : List (κ × V) → List (κ × Val) → Prop := Paired fun p q => p.1 = q.1 ∧ VRep T w p.2 q.2
theorem VPair.mono {κ : Type} {T : Tbl} {w w' : Wd} (s : w.Le w') : ∀ {xs : List (κ × V)} {vs : List (κ × Val)}, VPair T w xs vs → VPair T w' xs vs
  | _, _, .nil => .nil
  | _, _, .cons h t => .cons ⟨h.1, h.2.mono s⟩ (VPair.mono s t)
def CRep (T : Tbl) (w : Wd) (H : Hp) (a : Addr) : Cell → Prop
  | .lst vs => w.F a = none ∧ ∃ xs, H a = some (.lst xs) ∧ VReps T w xs vs
  | .dk kvs => w.F a = none ∧ ∃ xs, H a = some (.dK xs) ∧ VPair T w xs kvs
  | .dt kvs => w.F a = none ∧ ∃ xs, H a = some (.dT xs) ∧ VPair T w xs kvs
  | .ins c fs => w.F a = none ∧ ∃ dx xs, H a = some (.ins (T.cadr c) dx ((flds c).zip xs)) ∧ xs.length ≤ (flds c).length ∧ w.F dx = some (.own a) ∧ slotted c = false ∧ VReps T w xs fs
  | .lf ks => w.F a = none ∧ H a = some (LfO T a ks)
  | .frz x => DRep T w.F (.ref a) x
theorem CRep.free {T : Tbl} {w : Wd} {H : Hp} {a : Addr} : ∀ {c : Cell}, CRep T w H a c → (∀ x, c ≠ .frz x) → w.F a = none
  | .lst _, h, _ => h.1
  | .dk _, h, _ => h.1
  | .dt _, h, _ => h.1
  | .ins _ _, h, _ => h.1
  | .lf _, h, _ => h.1
  | .frz x, _, n => absurd rfl (n x)
theorem CRep.mono {T : Tbl} {w w' : Wd} {H H' : Hp} {a : Addr} (s : w.Le w') (hF : w.F a = none → w'.F a = none) (hH : w.F a = none → H' a = H a) : ∀ {c : Cell}, CRep T w H a c → CRep T w' H' a c
  | .lst _, ⟨f, xs, h, r⟩ => ⟨hF f, xs, by rw [hH f]; exact h, r.mono s⟩
  | .dk _, ⟨f, xs, h, r⟩ => ⟨hF f, xs, by rw [hH f]; exact h, r.mono s⟩
  | .dt _, ⟨f, xs, h, r⟩ => ⟨hF f, xs, by rw [hH f]; exact h, r.mono s⟩
  | .ins _ _, ⟨f, dx, xs, h, l, o, q, r⟩ => ⟨hF f, dx, xs, by rw [hH f]; exact h, l, s.F _ _ o, q, r.mono s⟩
  | .lf ks, ⟨f, h⟩ => ⟨hF f, by rw [hH f]; exact h⟩
  | .frz x, h => DRep.mono s.F h
structure MRel (T : Tbl) (w : Wd) (m : Mem) (H : Hp) : Prop where
  len : w.r.length = m.length
  inj : ∀ (l l' : Nat) (a : Addr), w.r[l]? = some a → w.r[l']? = some a → l = l'
  sub : Sub w.F H
  there : ∀ (l : Nat) (a : Addr), w.r[l]? = some a → ∃ o, H a = some o
  cell : ∀ (l : Nat) (a : Addr) (c : Cell), w.r[l]? = some a → m[l]? = some c → CRep T w H a c
section
variable {T : Tbl} {w : Wd} {m : Mem} {H : Hp}
theorem MRel.at (R : MRel T w m H) {l : Nat} {c : Cell} (h : m[l]? = some c) : ∃ a, w.r[l]? = some a ∧ CRep T w H a c := by
  have hl : l < w.r.length := by
    rw [R.len]
    exact (List.getElem?_eq_some_iff.mp h).1
  exact ⟨w.r[l], List.getElem?_eq_getElem hl, R.cell l _ c (List.getElem?_eq_getElem hl) h⟩
theorem MRel.newF (R : MRel T w m H) {p : Addr} (h : H p = none) : w.F p = none := by
  cases e : w.F p with
  | none => rfl
  | some o =>
    rw [R.sub _ _ e] at h
    cases h
theorem MRel.newR (R : MRel T w m H) {p : Addr} (h : H p = none) {l : Nat} : w.r[l]? ≠ some p := fun e => by
  obtain ⟨o, q⟩ := R.there l p e
  rw [h] at q
  cases q
theorem MRel.newD (R : MRel T w m H) {p : Addr} {o : HO} (h : H p = none) : w.Le ⟨w.r, upd w.F p o⟩ ∧ MRel T ⟨w.r, upd w.F p o⟩ m (upd H p o) := by
  have le : w.Le ⟨w.r, upd w.F p o⟩ := ⟨⟨[], by simp⟩, Sub.upd (R.newF h)⟩
  have ne : ∀ {l : Nat} {a : Addr}, w.r[l]? = some a → a ≠ p := fun {l a} e z => R.newR h (z ▸ e)
  refine ⟨le, R.len, R.inj, fun a u e => ?_, fun l a e => ?_, fun l a c e1 e2 => ?_⟩
  · by_cases z : a = p
    · subst z
      have e : upd w.F a o a = some u := e
      rw [upd_same] at e ⊢
      exact e
    · have e : upd w.F p o a = some u := e
      rw [upd_ne z]
      rw [upd_ne z] at e
      exact R.sub _ _ e
  · obtain ⟨u, q⟩ := R.there l a e
    exact ⟨u, by rw [upd_ne (ne e)]; exact q⟩
  · exact (R.cell l a c e1 e2).mono le (fun f => (upd_ne (ne e1)).trans f) fun _ => upd_ne (ne e1)
theorem MRel.newC (R : MRel T w m H) {p : Addr} {o : HO} {c : Cell} (h : H p = none) (hc : CRep T ⟨w.r ++ [p], w.F⟩ (upd H p o) p c) : w.Le ⟨w.r ++ [p], w.F⟩ ∧ MRel T ⟨w.r ++ [p], w.F⟩ (m ++ [c]) (upd H p o) := by
  have le : w.Le ⟨w.r ++ [p], w.F⟩ := ⟨⟨[p], rfl⟩, Sub.refl _⟩
  have ne : ∀ {l : Nat} {a : Addr}, w.r[l]? = some a → a ≠ p := fun {l a} e z => R.newR h (z ▸ e)
  have cs : ∀ {l : Nat} {a : Addr}, (w.r ++ [p])[l]? = some a → w.r[l]? = some a ∨ (l = w.r.length ∧ a = p) := fun {l a} e => by
    by_cases hl : l < w.r.length
    · rw [List.getElem?_append_left hl] at e
      exact .inl e
    · rw [List.getElem?_append_right (by omega)] at e
      have h1 := (List.getElem?_eq_some_iff.mp e).1
      rw [List.length_singleton] at h1
      have h2 : a = p := by
        have := List.mem_of_getElem? e
        simpa using this
      exact .inr ⟨by omega, h2⟩
  refine ⟨le, by simp [R.len], ?_, fun a u e => ?_, fun l a e => ?_, fun l a c' e1 e2 => ?_⟩
  · intro l l' a e1 e2
    rcases cs e1 with h1 | ⟨h1, h2⟩
    · rcases cs e2 with h3 | ⟨h3, h4⟩
      · exact R.inj _ _ _ h1 h3
      · exact absurd h4 (ne h1)
    · rcases cs e2 with h3 | ⟨h3, h4⟩
      · exact absurd h2 (ne h3)
      · omega
  · rw [upd_ne (fun z => by rw [z, R.newF h] at e; cases e)]
    exact R.sub _ _ e
  · by_cases hl : l < w.r.length
    · have e' : w.r[l]? = some a := by
        rw [List.getElem?_append_left hl] at e
        exact e
      obtain ⟨u, q⟩ := R.there l a e'
      exact ⟨u, by rw [upd_ne (ne e')]; exact q⟩
    · have e' : (w.r ++ [p])[l]? = some a := e
      rw [List.getElem?_append_right (by omega)] at e'
      have ha : a = p := by
        have := List.mem_of_getElem? e'
        simpa using this
      exact ⟨o, by rw [ha, upd_same]⟩
  · by_cases hl : l < w.r.length
    · have e1' : w.r[l]? = some a := by
        rw [List.getElem?_append_left hl] at e1
        exact e1
      rw [List.getElem?_append_left (by rw [← R.len]; exact hl)] at e2
      exact (R.cell l a c' e1' e2).mono le (fun f => f) fun _ => upd_ne (ne e1')
    · have e' : (w.r ++ [p])[l]? = some a := e1
      rw [List.getElem?_append_right (by omega)] at e'
      have ha : a = p := by
        have := List.mem_of_getElem? e'
        simpa using this
      rw [List.getElem?_append_right (by rw [← R.len]; omega)] at e2
      have hc' : c' = c := by
        have := List.mem_of_getElem? e2
        simpa using this
      rw [ha, hc']
      exact hc
theorem MRel.write (R : MRel T w m H) {l : Nat} {a : Addr} {o : HO} {c : Cell} (h : w.r[l]? = some a) (hF : w.F a = none) (hc : CRep T w (upd H a o) a c) : MRel T w (m.set l c) (upd H a o) := by
  have ne : ∀ {l' : Nat} {b : Addr}, w.r[l']? = some b → l' ≠ l → b ≠ a := fun {l' b} e z q => by
    subst q
    exact z (R.inj _ _ _ e h)
  refine ⟨by simp [R.len], R.inj, fun b u e => ?_, fun l' b e => ?_, fun l' b c' e1 e2 => ?_⟩
  · rw [upd_ne (fun z => by rw [z, hF] at e; cases e)]
    exact R.sub _ _ e
  · by_cases z : b = a
    · exact ⟨o, by rw [z, upd_same]⟩
    · obtain ⟨u, q⟩ := R.there l' b e
      exact ⟨u, by rw [upd_ne z]; exact q⟩
  · by_cases z : l' = l
    · subst z
      rw [h] at e1
      cases e1
      have hl : l' < m.length := by
        rw [← R.len]
        exact (List.getElem?_eq_some_iff.mp h).1
      rw [List.getElem?_set_self hl] at e2
      cases e2
      exact hc
    · rw [List.getElem?_set_ne (Ne.symm z)] at e2
      exact (R.cell l' b c' e1 e2).mono (Wd.Le.refl _) (fun f => f) fun _ => upd_ne (ne e1 z)
theorem MRel.fix (R : MRel T w m H) {l : Nat} {a : Addr} {o : HO} {x : Data} (h : w.r[l]? = some a) (hF : w.F a = none) (hH : H a = some o) (hc : DRep T (upd w.F a o) (.ref a) x) :
    w.Le ⟨w.r, upd w.F a o⟩ ∧ MRel T ⟨w.r, upd w.F a o⟩ (m.set l (.frz x)) H := by
  have le : w.Le ⟨w.r, upd w.F a o⟩ := ⟨⟨[], by simp⟩, Sub.upd hF⟩
  have ne : ∀ {l' : Nat} {b : Addr}, w.r[l']? = some b → l' ≠ l → b ≠ a := fun {l' b} e z q => by
    subst q
    exact z (R.inj _ _ _ e h)
  refine ⟨le, by simp [R.len], R.inj, fun b u e => ?_, R.there, fun l' b c' e1 e2 => ?_⟩
  · by_cases z : b = a
    · subst z
      have e : upd w.F b o b = some u := e
      rw [upd_same] at e
      cases e
      exact hH
    · have e : upd w.F a o b = some u := e
      rw [upd_ne z] at e
      exact R.sub _ _ e
  · by_cases z : l' = l
    · subst z
      rw [h] at e1
      cases e1
      have hl : l' < m.length := by
        rw [← R.len]
        exact (List.getElem?_eq_some_iff.mp h).1
      rw [List.getElem?_set_self hl] at e2
      cases e2
      exact hc
    · rw [List.getElem?_set_ne (Ne.symm z)] at e2
      exact (R.cell l' b c' e1 e2).mono le (fun f => (upd_ne (ne e1 z)).trans f) fun _ => rfl
theorem VRep.norm (R : MRel T w m H) {x : V} {v : Val} (h : VRep T w x v) : VRep T w x (Fs.norm m v) := by
  cases h with
  | d h => exact .d h
  | @loc l a h =>
    have e1 : Fs.norm m (.loc l) = (match m[l]? with
      | some (.frz x) => .d x
      | _ => .loc l) := rfl
    rw [e1]
    split
    · rename_i x e
      exact .d (R.cell l a _ h e)
    · exact .loc h
  | tup h r => exact .tup h r
  | obj h l d q r => exact .obj h l d q r
  | slo h d q r => exact .slo h d q r
  | ro h => exact .ro h
theorem MRel.lst (R : MRel T w m H) {x : V} {v : Val} {vs : List Val} (h : VRep T w x v) (e : lstV m v = some vs) : ∃ a xs, x = .ref a ∧ H a = some (.lst xs) ∧ VReps T w xs vs := by
  cases h with
  | d h =>
    cases h with
    | lst h r =>
      cases e
      exact ⟨_, _, rfl, R.sub _ _ h, r.vals⟩
    | _ => cases e
  | @loc l a h =>
    have e : (match m[l]? with
      | some (.lst vs) => some vs
      | _ => Option.none) = some vs := e
    split at e
    · rename_i q
      cases e
      obtain ⟨f, xs, h1, h2⟩ := R.cell l a _ h q
      exact ⟨_, _, rfl, h1, h2⟩
    · cases e
  | _ => cases e
theorem MRel.tup (R : MRel T w m H) {x : V} {v : Val} {vs : List Val} (h : VRep T w x v) (e : tupV v = some vs) : ∃ a xs, x = .ref a ∧ SqT T.K H a xs ∧ VReps T w xs vs := by
  cases h with
  | d h =>
    cases h with
    | tup h r =>
      cases e
      exact ⟨_, _, rfl, R.sub.sqT h, r.vals⟩
    | _ => cases e
  | tup h r =>
    cases e
    exact ⟨_, _, rfl, .of (R.sub _ _ h), r⟩
  | _ => cases e
theorem VReps.ints : ∀ ns : List Int, VReps T w (ns.map V.int) (ns.map fun i => .d (.int i))
  | [] => .nil
  | i :: r => .cons (.d (.int i)) (VReps.ints r)
theorem MRel.seq (R : MRel T w m H) {x : V} {v : Val} {vs : List Val} (h : VRep T w x v) (e : seqV m v = some vs) : ∃ a xs, x = .ref a ∧ (SqL T.K H a xs ∨ SqT T.K H a xs) ∧ VReps T w xs vs := by
  have byL : lstV m v = some vs → ∃ a xs, x = .ref a ∧ (SqL T.K H a xs ∨ SqT T.K H a xs) ∧ VReps T w xs vs := fun e => by
    obtain ⟨a, xs, h1, h2, h3⟩ := R.lst h e
    exact ⟨a, xs, h1, .inl (.of h2), h3⟩
  have byT : tupV v = some vs → ∃ a xs, x = .ref a ∧ (SqL T.K H a xs ∨ SqT T.K H a xs) ∧ VReps T w xs vs := fun e => by
    obtain ⟨a, xs, h1, h2, h3⟩ := R.tup h e
    exact ⟨a, xs, h1, .inr h2, h3⟩
  cases v with
  | d y =>
    cases y with
    | tup ys => exact byT e
    | _ => exact byL e
  | loc l => exact byL e
  | tup us => exact byT e
  | obj c fs => exact byL e
  | ro ns =>
    cases h with
    | @ro a _ h =>
      cases e
      exact ⟨a, _, rfl, .inl (R.sub.sqL h), VReps.ints ns⟩
end
end Fs
namespace Fs
open PySem PySem.Spec L2
structure ERel (T : Tbl) (w : Wd) (σ : L2.St) (e : Env) : Prop where
  len : σ.length = e.length
  at_ : ∀ (i : Nat) (v : Val), e[i]? = some (some v) → ∃ x, σ[i]? = some (some x) ∧ VRep T w x v
theorem ERel.mono {T : Tbl} {w w' : Wd} {σ : L2.St} {e : Env} (h : ERel T w σ e) (s : w.Le w') : ERel T w' σ e := ⟨h.len, fun i v q => by
  obtain ⟨x, h1, h2⟩ := h.at_ i v q
  exact ⟨x, h1, h2.mono s⟩⟩
theorem ERel.set {T : Tbl} {w : Wd} {σ : L2.St} {e : Env} {x : V} {v : Val} (h : ERel T w σ e) (i : Nat) (r : VRep T w x v) : ERel T w (σ.set i (some x)) (e.set i (some v)) := by
  refine ⟨by simp [h.len], fun j u q => ?_⟩
  by_cases hj : i = j
  · subst hj
    by_cases hi : i < e.length
    · rw [List.getElem?_set_self hi] at q
      cases q
      exact ⟨x, List.getElem?_set_self (by rw [h.len]; exact hi), r⟩
    · rw [List.getElem?_eq_none (by simpa using hi)] at q
      cases q
  · rw [List.getElem?_set_ne hj] at q ⊢
    exact h.at_ j u q
theorem ERel.unset {T : Tbl} {w : Wd} {σ : L2.St} {e : Env} (h : ERel T w σ e) (i : Nat) : ERel T w (σ.set i none) (e.set i none) := by
  refine ⟨by simp [h.len], fun j u q => ?_⟩
  by_cases hj : i = j
  · subst hj
    by_cases hi : i < e.length
    · rw [List.getElem?_set_self hi] at q
      cases q
    · rw [List.getElem?_eq_none (by simpa using hi)] at q
      cases q
  · rw [List.getElem?_set_ne hj] at q ⊢
    exact h.at_ j u q
def XRep (T : Tbl) (w : Wd) (H : Hp) (cls : Value) (d : Option Addr) (c : Nat) (p : List Data) : Prop :=
  cls = .ref (T.cadr c) ∧ ∃ (dx : Addr) (xs : List V), d = some dx ∧ w.F dx = some (.xd ((flds c).zip xs)) ∧ DReps T w.F xs p
def OkR {α β : Type} (T : Tbl) (P : Wd → β → α → Prop) (w : Wd) (r : Res α) (Q : β → Hp → Prop) (E : XK) : Prop :=
  match r with
  | .ok a m => ∀ (w' : Wd) (H' : Hp) (x : β), w.Le w' → MRel T w' m H' → P w' x a → Q x H'
  | .exc c p m => ∀ (w' : Wd) (H' : Hp) (cls : Value) (d : Option Addr), w.Le w' → MRel T w' m H' → XRep T w' H' cls d c p → E cls d H'
  | .bad => False
section
variable {T : Tbl} {α β α' β' : Type} {P : Wd → β → α → Prop} {P' : Wd → β' → α' → Prop} {w : Wd} {r : Res α} {Q : β → Hp → Prop} {Q' : β' → Hp → Prop} {E : XK}
theorem OkR.later (h : OkR T P w r Q E) {w' : Wd} (s : w.Le w') : OkR T P w' r Q E := by
  cases r with
  | ok a m => exact fun w2 H2 x le R p => h w2 H2 x (s.trans le) R p
  | exc c p m => exact fun w2 H2 cls d le R q => h w2 H2 cls d (s.trans le) R q
  | bad => exact h
theorem OkR.bind {f : α → Mem → Res α'} (h : OkR T P' w (r.bind f) Q' E) :
    OkR T P w r (fun x H' => ∃ (w' : Wd) (a : α) (m : Mem), w.Le w' ∧ MRel T w' m H' ∧ P w' x a ∧ OkR T P' w' (f a m) Q' E) E := by
  cases r with
  | ok a m => exact fun w' H' x le R p => ⟨w', a, m, le, R, p, OkR.later h le⟩
  | exc c p m => exact h
  | bad => exact h
theorem OkR.ok {a : α} {m : Mem} (h : OkR T P w (.ok a m) Q E) {H' : Hp} {x : β} (R : MRel T w m H') (p : P w x a) : Q x H' := h w H' x (Wd.Le.refl w) R p
theorem OkR.ok' {a : α} {m : Mem} (h : OkR T P w (.ok a m) Q E) {w' : Wd} {H' : Hp} {x : β} (s : w.Le w') (R : MRel T w' m H') (p : P w' x a) : Q x H' := h w' H' x s R p
end
def rdG {α β : Type} (T : Tbl) (P : Wd → β → α → Prop) (W : WX) (m : Env → Mem → Res α) : L2.St → Hp → (β → Hp → Prop) → Prop := fun σ H Q =>
  ∃ (w : Wd) (e : Env) (μ : Mem), ERel T w σ e ∧ MRel T w μ H ∧ OkR T P w (m e μ) Q (fun c d H' => W c d σ H')
section
variable {T : Tbl} {α β α' β' : Type} {P : Wd → β → α → Prop} {P' : Wd → β' → α' → Prop} {W : WX} {m : Env → Mem → Res α} {σ : L2.St} {H : Hp} {Q : β' → Hp → Prop}
theorem rdG.imp {m : Env → Mem → Res α} {σ : L2.St} {H : Hp} {Q Q' : β → Hp → Prop} (h : rdG T P W m σ H Q) (k : ∀ x H', Q x H' → Q' x H') : rdG T P W m σ H Q' := by
  obtain ⟨w, e, μ, er, mr, ok⟩ := h
  refine ⟨w, e, μ, er, mr, ?_⟩
  cases hm : m e μ with
  | bad =>
    rw [hm] at ok
    exact ok
  | exc c p m =>
    rw [hm] at ok
    exact ok
  | ok v m =>
    rw [hm] at ok
    exact fun w1 H1 x le R1 p1 => k x H1 (ok w1 H1 x le R1 p1)
theorem OkR.go {w : Wd} {e : Env} {μ : Mem} {f : α → Mem → Res α'} (er : ERel T w σ e) (mr : MRel T w μ H) (ok : OkR T P' w ((m e μ).bind f) Q (fun c d H' => W c d σ H')) :
    rdG T P W m σ H fun x H1 => ∃ (w' : Wd) (a : α) (μ' : Mem), w.Le w' ∧ MRel T w' μ' H1 ∧ P w' x a ∧ OkR T P' w' (f a μ') Q (fun c d H' => W c d σ H') := ⟨w, e, μ, er, mr, OkR.bind ok⟩
end
abbrev rdE (T : Tbl) (W : WX) (m : EM) : TE := rdG T (VRep T) W m
def BRep : Wd → Bool → Bool → Prop := fun _ b c => b = c
abbrev rdT (T : Tbl) (W : WX) (m : TM) : TT := rdG T BRep W m
abbrev rdA (T : Tbl) (W : WX) (m : AM) : TA := rdG T (VReps T) W m
theorem _root_.L2.PE.mono {X : Cx} {e : Expr} {t t' : TE} (h : PE X e t) (k : ∀ σ H Q, t' σ H Q → t σ H Q) : PE X e t' := ⟨fun pins s σ H Q I q => h.run pins s σ H Q I (k σ H Q q)⟩
theorem _root_.L2.PT.mono {X : Cx} {e : Expr} {t t' : TT} (h : PT X e t) (k : ∀ σ H Q, t' σ H Q → t σ H Q) : PT X e t' := ⟨fun pins s σ H Q I q => h.run pins s σ H Q I (k σ H Q q)⟩
theorem _root_.L2.PW.mono {X : Cx} {e : Expr} {t t' : TT} (h : PW X e t) (k : ∀ σ H Q, t' σ H Q → t σ H Q) : PW X e t' := ⟨fun wh pins s σ H Q I q => h.run wh pins s σ H Q I (k σ H Q q)⟩
theorem _root_.L2.PA.mono {X : Cx} {e : List Expr} {t t' : TA} (h : PA X e t) (k : ∀ σ H Q, t' σ H Q → t σ H Q) : PA X e t' := ⟨fun p pins s σ H Q I q => h.run p pins s σ H Q I (k σ H Q q)⟩
theorem _root_.L2.PS.mono {X : Cx} {e : Stmt} {t t' : TS} (h : PS X e t) (k : ∀ D σ H, t' D σ H → t D σ H) : PS X e t' := ⟨fun pins s σ H D I q => h.run pins s σ H D I (k D σ H q)⟩
theorem _root_.L2.PSs.mono {X : Cx} {e : List Stmt} {t t' : TS} (h : PSs X e t) (k : ∀ D σ H, t' D σ H → t D σ H) : PSs X e t' := ⟨fun pins s σ H D I q => h.run pins s σ H D I (k D σ H q)⟩
abbrev DE (T : Tbl) (W : WX) (X : Cx) (e : Expr) (m : EM) : Prop := PE X e (rdE T W m)
abbrev DT (T : Tbl) (W : WX) (X : Cx) (e : Expr) (m : TM) : Prop := PT X e (rdT T W m)
abbrev DW (T : Tbl) (W : WX) (X : Cx) (e : Expr) (m : TM) : Prop := PW X e (rdT T W m)
abbrev DA (T : Tbl) (W : WX) (X : Cx) (e : List Expr) (m : AM) : Prop := PA X e (rdA T W m)
structure Bx (T : Tbl) (N : List Str) (sc : Scope) (k : Nat) (W : WX) (X : Cx) : Prop where
  P : X.prog = T.P
  w : X.w = T.w
  K : X.K = T.K
  mg : X.mg = T.mg
  base : X.base = T.base
  hN : X.N = N
  hsc : X.env.scope = sc
  nd : N.Nodup
  calm : X.calm = true
  room : Room k X.A
  tk : Takes X W
  po : PassesOwn (model X.prog X.w) X.A X.env X.xe
structure Fx (X : Cx) : Prop where
  st : X.stack = X.env :: X.outer
  fr : X.env.frame = some X.env.locals
  fn : ∀ x, X.fn x = true
@[simp] def eC (x : Data) : EM := fun _ μ => .ok (.d x) μ
def eVar (i : Nat) : EM := fun e μ => match e[i]? with
  | some (some v) => .ok (norm μ v) μ
  | _ => .bad
def eBin (f : Val → Val → Mem → Res Val) (a b : EM) : EM := fun e μ => (a e μ).bind fun x μ => (b e μ).bind fun y μ => f x y μ
def eUn (f : Val → Mem → Res Val) (a : EM) : EM := fun e μ => (a e μ).bind fun x μ => f x μ
def eIf (c : TM) (a b : EM) : EM := fun e μ => (c e μ).bind fun t μ => if t = true then a e μ else b e μ
def aNil : AM := fun _ μ => .ok [] μ
def aCons (a : EM) (r : AM) : AM := fun e μ => (a e μ).bind fun x μ => (r e μ).bind fun xs μ => .ok (x :: xs) μ
def eArgs (f : Fn) (a : AM) : EM := fun e μ => (a e μ).bind fun xs μ => f xs μ
def asB : Val → Option Bool
  | .d (.bool b) => some b
  | _ => Option.none
def tOf (a : EM) : TM := fun e μ => (a e μ).bind fun x μ => match asB x with
  | some b => .ok b μ
  | Option.none => .bad
def tNot (a : TM) : TM := fun e μ => (a e μ).bind fun b μ => .ok (!b) μ
def tAnd (a b : TM) : TM := fun e μ => (a e μ).bind fun t μ => if t = true then b e μ else .ok false μ
def tOr (a b : TM) : TM := fun e μ => (a e μ).bind fun t μ => if t = true then .ok true μ else b e μ
def Snd2 (T : Tbl) (r : R2) (f : Val → Val → Mem → Res Val) : Prop := ∀ (w : Wd) (m : Mem) (H : Hp) (x y : V) (v u : Val) (Q : VK) (E : XK), MRel T w m H → VRep T w x v → VRep T w y u → OkR T (VRep T) w (f v u m) Q E → r x y H Q
def Snd1 (T : Tbl) (r : V → Hp → VK → Prop) (f : Val → Mem → Res Val) : Prop := ∀ (w : Wd) (m : Mem) (H : Hp) (x : V) (v : Val) (Q : VK) (E : XK), MRel T w m H → VRep T w x v → OkR T (VRep T) w (f v m) Q E → r x H Q
def SndA (T : Tbl) (r : List V → Hp → VK → Prop) (f : Fn) : Prop := ∀ (w : Wd) (m : Mem) (H : Hp) (xs : List V) (vs : List Val) (Q : VK) (E : XK), MRel T w m H → VReps T w xs vs → OkR T (VRep T) w (f vs m) Q E → r xs H Q
section
variable {T : Tbl} {N : List Str} {sc : Scope} {k : Nat} {W : WX} {X : Cx}
theorem rdE.c {x : Data} {v : V} (hv : ∀ F, DRep T F v x) {σ : L2.St} {H : Hp} {Q : VK} (h : rdE T W (eC x) σ H Q) : Q v H := by
  obtain ⟨w, e, μ, er, mr, ok⟩ := h
  exact ok w H v (Wd.Le.refl w) mr (.d (hv _))
theorem de_non {j pos} : DE T W X (.Constant .none j pos) (eC .none) := pe_non.mono fun _ _ _ h => h.c fun _ => .non
theorem de_bl {b j pos} : DE T W X (.Constant (.bool b) j pos) (eC (.bool b)) := pe_bl.mono fun _ _ _ h => h.c fun _ => .bl b
theorem de_int {i j pos} : DE T W X (.Constant (.int i) j pos) (eC (.int i)) := pe_int.mono fun _ _ _ h => h.c fun _ => .int i
theorem de_str {x j pos} : DE T W X (.Constant (.str x) j pos) (eC (.str x)) := pe_str.mono fun _ _ _ h => h.c fun _ => .str x
theorem de_var (B : Bx T N sc k W X) (i : Nat) {x : Str} {pos : Pos} (hN : N[i]? = some x) (hv : Vis sc x) (hd : (x == ("__debug__" : Str)) = false := by decide) (hcd : (x == ("__classdict__" : Str)) = false := by decide) : DE T W X (.Name x pos) (eVar i) := by
  refine (pe_var (i := i) (by rw [B.hN]; exact hN) (by rw [B.hsc]; exact hv) hd hcd).mono fun σ H Q h => ?_
  obtain ⟨w, e, μ, er, mr, ok⟩ := h
  have ok : OkR T (VRep T) w (match e[i]? with
    | some (some v) => .ok (norm μ v) μ
    | _ => .bad) Q (fun c d H' => W c d σ H') := ok
  split at ok
  · rename_i v hv
    obtain ⟨x, h1, h2⟩ := er.at_ i v hv
    exact ⟨x, h1, ok w H x (Wd.Le.refl w) mr (h2.norm mr)⟩
  · exact ok.elim
theorem rd_bin {f : Val → Val → Mem → Res Val} {ma mb : EM} {r : R2} (hf : Snd2 T r f) {σ : L2.St} {H : Hp} {Q : VK} (h : rdE T W (eBin f ma mb) σ H Q) : tOp r (rdE T W ma) (rdE T W mb) σ H Q := by
  obtain ⟨w, e, μ, er, mr, ok⟩ := h
  refine (OkR.go (P := VRep T) er mr ok).imp fun x H1 ⟨w1, v, μ1, le1, mr1, p1, ok1⟩ => ?_
  refine (OkR.go (P := VRep T) (er.mono le1) mr1 ok1).imp fun y H2 ⟨w2, u, μ2, le2, mr2, p2, ok2⟩ => ?_
  exact hf w2 μ2 H2 x y v u Q _ mr2 (p1.mono le2) p2 ok2
theorem de_bin {f : Val → Val → Mem → Res Val} {ma mb : EM} {r : R2} {a b : Expr} {op : Operator} {pos : Pos} (ho : OpR X (binaryOp op) r) (hf : Snd2 T r f) (ha : DE T W X a ma) (hb : DE T W X b mb) : DE T W X (.BinOp a op b pos) (eBin f ma mb) :=
  (pe_op ho ha hb).mono fun _ _ _ h => rd_bin hf h
theorem de_cmp {f : Val → Val → Mem → Res Val} {ma mb : EM} {r : R2} {a b : Expr} {op : CmpOp} {pos : Pos} (ho : OpR X (compareOp op) r) (hf : Snd2 T r f) (ha : DE T W X a ma) (hb : DE T W X b mb) (hm : behindInMarks op b = false) : DE T W X (.Compare a [op] [b] pos) (eBin f ma mb) :=
  (pe_cmpR ho ha hb hm).mono fun _ _ _ h => rd_bin hf h
theorem de_un {f : Val → Mem → Res Val} {ma : EM} {r : V → Hp → VK → Prop} {a : Expr} {op : UnaryOp} {pos : Pos} (ho : UnR X (unaryOp op) r) (hf : Snd1 T r f) (ha : DE T W X a ma) : DE T W X (.UnaryOp op a pos) (eUn f ma) := by
  refine (pe_un ho ha).mono fun σ H Q h => ?_
  obtain ⟨w, e, μ, er, mr, ok⟩ := h
  refine (OkR.go (P := VRep T) er mr ok).imp fun x H1 ⟨w1, v, μ1, le1, mr1, p1, ok1⟩ => ?_
  exact hf w1 μ1 H1 x v Q _ mr1 p1 ok1
theorem asB_rep {w : Wd} {x : V} {v : Val} {b : Bool} (h : VRep T w x v) (e : asB v = some b) : x = .bl b := by
  cases h with
  | d h =>
    cases h with
    | bl c =>
      cases e
      rfl
    | _ => cases e
  | _ => cases e
theorem dt_of {a : Expr} {ma : EM} (ha : DE T W X a ma) (he : ∀ whole, isTrue a X.env whole = (do let v ← whole; standAt a.pos; holding [v] (truthy v)) := by intro _; rfl) : DT T W X a (tOf ma) := by
  refine (pt_val ha he).mono fun σ H Q h => ?_
  obtain ⟨w, e, μ, er, mr, ok⟩ := h
  refine (OkR.go (P := VRep T) er mr ok).imp fun x H1 ⟨w1, v, μ1, le1, mr1, p1, ok1⟩ => ?_
  have ok1 : OkR T BRep w1 (match asB v with
    | some b => .ok b μ1
    | Option.none => .bad) Q (fun c d H' => W c d σ H') := ok1
  split at ok1
  · rename_i b hb
    exact ⟨b, asB_rep p1 hb, ok1 w1 H1 b (Wd.Le.refl _) mr1 rfl⟩
  · exact ok1.elim
theorem dt_not {a : Expr} {ma : TM} {pos : Pos} (ha : DT T W X a ma) : DT T W X (.UnaryOp .Not a pos) (tNot ma) := by
  refine (pt_not ha).mono fun σ H Q h => ?_
  obtain ⟨w, e, μ, er, mr, ok⟩ := h
  refine (OkR.go (P := BRep) er mr ok).imp fun x H1 ⟨w1, v, μ1, le1, mr1, p1, ok1⟩ => ?_
  exact ok1 w1 H1 _ (Wd.Le.refl _) mr1 (by rw [show x = v from p1]; rfl)
theorem dw_and1 {a : Expr} {ma : TM} {pos : Pos} (ha : DT T W X a ma) : DW T W X (.BoolOp .And [a] pos) ma := pw_and1 ha
theorem dw_or1 {a : Expr} {ma : TM} {pos : Pos} (ha : DT T W X a ma) : DW T W X (.BoolOp .Or [a] pos) ma := pw_or1 ha
theorem dw_and {a b : Expr} {rest : List Expr} {ma mb : TM} {pos : Pos} (ha : DT T W X a ma) (hb : DW T W X (.BoolOp .And (b :: rest) pos) mb) : DW T W X (.BoolOp .And (a :: b :: rest) pos) (Fs.tAnd ma mb) := by
  refine (pw_and ha hb).mono fun σ H Q h => ?_
  obtain ⟨w, e, μ, er, mr, ok⟩ := h
  refine (OkR.go (P := BRep) er mr ok).imp fun x H1 ⟨w1, v, μ1, le1, mr1, p1, ok1⟩ => ?_
  obtain rfl : x = v := p1
  cases x with
  | true => exact ⟨w1, e, μ1, er.mono le1, mr1, ok1⟩
  | false => exact ok1 w1 H1 _ (Wd.Le.refl _) mr1 rfl
theorem dw_or {a b : Expr} {rest : List Expr} {ma mb : TM} {pos : Pos} (ha : DT T W X a ma) (hb : DW T W X (.BoolOp .Or (b :: rest) pos) mb) : DW T W X (.BoolOp .Or (a :: b :: rest) pos) (Fs.tOr ma mb) := by
  refine (pw_or ha hb).mono fun σ H Q h => ?_
  obtain ⟨w, e, μ, er, mr, ok⟩ := h
  refine (OkR.go (P := BRep) er mr ok).imp fun x H1 ⟨w1, v, μ1, le1, mr1, p1, ok1⟩ => ?_
  obtain rfl : x = v := p1
  cases x with
  | false => exact ⟨w1, e, μ1, er.mono le1, mr1, ok1⟩
  | true => exact ok1 w1 H1 _ (Wd.Le.refl _) mr1 rfl
theorem dt_w {a : Expr} {ma : TM} (h : DW T W X a ma) : DT T W X a ma := PW.pt h
theorem da_nil : DA T W X [] aNil := pa_nil.mono fun σ H Q h => by
  obtain ⟨w, e, μ, er, mr, ok⟩ := h
  exact ok w H [] (Wd.Le.refl _) mr .nil
theorem da_cons {e : Expr} {es : List Expr} {me : EM} {mr : AM} (he : DE T W X e me) (hr : DA T W X es mr) (hs : starEach (e :: es) X.env = (false, eval e X.env) :: starEach es X.env := by rfl) : DA T W X (e :: es) (aCons me mr) := by
  refine (pa_cons he hr hs).mono fun σ H Q h => ?_
  obtain ⟨w, e, μ, er, mr, ok⟩ := h
  refine (OkR.go (P := VRep T) er mr ok).imp fun x H1 ⟨w1, v, μ1, le1, mr1, p1, ok1⟩ => ?_
  refine (OkR.go (P := VReps T) (er.mono le1) mr1 ok1).imp fun xs H2 ⟨w2, vs, μ2, le2, mr2, p2, ok2⟩ => ?_
  exact ok2 w2 H2 _ (Wd.Le.refl _) mr2 (.cons (p1.mono le2) p2)
theorem mkL_ok {w : Wd} {m : Mem} {H : Hp} {xs : List V} {vs : List Val} {b : Bool} {Q : VK} {E : XK} (R : MRel T w m H) (r : VReps T w xs vs) (ok : OkR T (VRep T) w (mkL b vs m) Q E) : xs.length ≤ sizeLine ∧ ∀ p, H p = none → Q (.ref p) (upd H p (.lst xs)) := by
  unfold mkL at ok
  split at ok
  · exact ok.elim
  · rename_i hl
    have hz : xs.length ≤ sizeLine := by
      rw [r.length, sizeLine_eq]
      omega
    refine ⟨hz, fun p hp => ?_⟩
    have cell : OkR T (VRep T) w (.ok (.loc m.length) (m ++ [.lst vs])) Q E → Q (.ref p) (upd H p (.lst xs)) := fun ok => by
      obtain ⟨le, R'⟩ := R.newC (p := p) (o := .lst xs) (c := .lst vs) hp ⟨R.newF hp, xs, upd_same, VReps.mono (w' := ⟨w.r ++ [p], w.F⟩) ⟨⟨[p], rfl⟩, Sub.refl _⟩ r⟩
      refine ok _ _ _ le R' (.loc ?_)
      show (w.r ++ [p])[m.length]? = some p
      rw [← R.len, List.getElem?_append_right (Nat.le_refl _), Nat.sub_self]
      rfl
    split at ok
    · rename_i ds hds
      obtain ⟨le, R'⟩ := R.newD (p := p) (o := .lst xs) hp
      exact ok _ _ _ le R' (.d (.lst upd_same ((r.of_all hds).mono le.F)))
    · exact cell ok
theorem mkT_ok {w : Wd} {m : Mem} {H : Hp} {xs : List V} {vs : List Val} {Q : VK} {E : XK} (R : MRel T w m H) (r : VReps T w xs vs) (ok : OkR T (VRep T) w (mkT vs m) Q E) : xs.length ≤ sizeLine ∧ ∀ p, H p = none → Q (.ref p) (upd H p (.tup xs)) := by
  unfold mkT at ok
  split at ok
  · exact ok.elim
  · rename_i hl
    have hz : xs.length ≤ sizeLine := by
      rw [r.length, sizeLine_eq]
      omega
    refine ⟨hz, fun p hp => ?_⟩
    obtain ⟨le, R'⟩ := R.newD (p := p) (o := .tup xs) hp
    split at ok
    · rename_i ds hds
      exact ok _ _ _ le R' (.d (.tup (.of upd_same) ((r.of_all hds).mono le.F)))
    · exact ok _ _ _ le R' (.tup upd_same (r.mono le))
theorem de_lst {es : List Expr} {ma : AM} {pos : Pos} (b : Bool) (h : DA T W X es ma) : DE T W X (.List es pos) (eArgs (mkL b) ma) := by
  refine (pe_lst h).mono fun σ H Q h => ?_
  obtain ⟨w, e, μ, er, mr, ok⟩ := h
  refine (OkR.go (P := VReps T) er mr ok).imp fun xs H1 ⟨w1, vs, μ1, le1, mr1, p1, ok1⟩ => ?_
  exact mkL_ok mr1 p1 ok1
theorem de_tup {es : List Expr} {ma : AM} {pos : Pos} {x1 : Nat} (h : DA T W X es ma) : DE T W X (.Tuple es x1 pos) (eArgs mkT ma) := by
  refine (pe_tup h).mono fun σ H Q h => ?_
  obtain ⟨w, e, μ, er, mr, ok⟩ := h
  refine (OkR.go (P := VReps T) er mr ok).imp fun xs H1 ⟨w1, vs, μ1, le1, mr1, p1, ok1⟩ => ?_
  exact mkT_ok mr1 p1 ok1
end
end Fs
namespace Fs
open PySem PySem.Spec L2
section
variable {T : Tbl} {w : Wd} {x y : V} {m : Mem} {H : Hp}
theorem VRep.int {i : Int} (h : VRep T w x (.d (.int i))) : x = .int i := by
  cases h with
  | d h => cases h; rfl
theorem VRep.str {i : Str} (h : VRep T w x (.d (.str i))) : x = .str i := by
  cases h with
  | d h => cases h; rfl
theorem VRep.bl {i : Bool} (h : VRep T w x (.d (.bool i))) : x = .bl i := by
  cases h with
  | d h => cases h; rfl
theorem VRep.non (h : VRep T w x (.d .none)) : x = .non := by
  cases h with
  | d h => cases h; rfl
theorem rInt (i : Int) : VRep T w (.int i) (.d (.int i)) := .d (.int i)
theorem rStr (i : Str) : VRep T w (.str i) (.d (.str i)) := .d (.str i)
theorem rBool (i : Bool) : VRep T w (.bl i) (.d (.bool i)) := .d (.bl i)
theorem rNone : VRep T w .non (.d .none) := .d .non
end
def catT (xs ys : List Val) (x y : Val) (m : Mem) : Res Val :=
  if 16777216 < xs.length + ys.length then .bad else
  match xs, ys with
  | [], _ => .ok y m
  | _, [] => .ok x m
  | _, _ => mkT (xs ++ ys) m
def addV (b : Bool) (x y : Val) (m : Mem) : Res Val :=
  match x, y with
  | .d (.int i), .d (.int j) => .ok (.d (.int (i + j))) m
  | .d (.str i), .d (.str j) => if 16777216 < i.length + j.length then .bad else .ok (.d (.str (i ++ j))) m
  | x, y => match lstV m x, lstV m y with
    | some xs, some ys => mkL b (xs ++ ys) m
    | _, _ => match tupV x, tupV y with
      | some xs, some ys => catT xs ys x y m
      | _, _ => .bad
def intOp (f : Int → Int → Option Int) (x y : Val) (m : Mem) : Res Val :=
  match x, y with
  | .d (.int i), .d (.int j) => match f i j with
    | some r => .ok (.d (.int r)) m
    | Option.none => .bad
  | _, _ => .bad
def subI (i j : Int) : Option Int := some (i - j)
def mulI (i j : Int) : Option Int := if -(2 ^ 64) < j ∧ j < 2 ^ 64 ∨ -(2 ^ 64) < i ∧ i < 2 ^ 64 then some (i * j) else Option.none
def fdvI (i j : Int) : Option Int := if 0 < j ∧ j < 1073741824 then some (i / j) else Option.none
def modI (i j : Int) : Option Int := if 0 < j then some (i % j) else Option.none
def powI (i j : Int) : Option Int := if 0 ≤ j ∧ j ≤ 1000000 ∧ i.natAbs < 2 ^ 64 then some (i ^ j.toNat) else Option.none
def negV (x : Val) (m : Mem) : Res Val :=
  match x with
  | .d (.int i) => .ok (.d (.int (-i))) m
  | _ => .bad
def repV (b : Bool) (x y : Val) (m : Mem) : Res Val :=
  match x, y with
  | .d (.int i), .d (.int j) => match mulI i j with
    | some r => .ok (.d (.int r)) m
    | Option.none => .bad
  | x, .d (.int k) => match lstV m x with
    | some xs => if -(2 ^ 63) ≤ k ∧ k < 2 ^ 63 then mkL b (List.replicate k.toNat xs).flatten m else .bad
    | Option.none => .bad
  | _, _ => .bad
section
variable {T : Tbl} {X : Cx}
theorem snd_intOp {f : Int → Int → Option Int} {C : Int → Int → Prop} {g : Int → Int → Int} (h : ∀ i j r, f i j = some r → C i j ∧ r = g i j) : Snd2 T (rI C fun i j => .int (g i j)) (intOp f) := by
  intro w m H x y v u Q E R rx ry ok
  unfold intOp at ok
  split at ok
  · rename_i i j
    split at ok
    · rename_i r e
      obtain ⟨hc, rfl⟩ := h i j r e
      exact ⟨i, j, rx.int, ry.int, hc, ok.ok R (rInt _)⟩
    · exact ok.elim
  · exact ok.elim
theorem snd_intOp0 {f : Int → Int → Option Int} {g : Int → Int → Int} (h : ∀ i j r, f i j = some r → r = g i j) : Snd2 T (rI0 fun i j => .int (g i j)) (intOp f) := by
  intro w m H x y v u Q E R rx ry ok
  unfold intOp at ok
  split at ok
  · rename_i i j
    split at ok
    · rename_i r e
      obtain rfl := h i j r e
      exact ⟨i, j, rx.int, ry.int, ok.ok R (rInt _)⟩
    · exact ok.elim
  · exact ok.elim
theorem snd_sub : Snd2 T (rI0 fun i j => .int (i - j)) (intOp subI) := snd_intOp0 fun i j r e => (Option.some.inj e).symm
theorem snd_fdv : Snd2 T (rI CDiv fun i j => .int (i / j)) (intOp fdvI) := snd_intOp fun i j r e => by
  unfold fdvI at e
  split at e
  · rename_i h
    exact ⟨h, (Option.some.inj e).symm⟩
  · cases e
theorem snd_mod : Snd2 T (rI (fun _ j => 0 < j) fun i j => .int (i % j)) (intOp modI) := snd_intOp fun i j r e => by
  unfold modI at e
  split at e
  · rename_i h
    exact ⟨h, (Option.some.inj e).symm⟩
  · cases e
theorem snd_pow : Snd2 T (rI CPow fun i j => .int (i ^ j.toNat)) (intOp powI) := snd_intOp fun i j r e => by
  unfold powI at e
  split at e
  · rename_i h
    exact ⟨h, (Option.some.inj e).symm⟩
  · cases e
theorem mulI_ok {i j r : Int} (e : mulI i j = some r) : CMul i j ∧ r = i * j := by
  unfold mulI at e
  split at e
  · rename_i h
    refine ⟨?_, (Option.some.inj e).symm⟩
    rcases h with h | h
    · exact .inr h
    · exact .inl h
  · cases e
theorem snd_rep (b : Bool) : Snd2 T (fun x y H Q => rI CMul (fun i j => .int (i * j)) x y H Q ∨ rRep x y H Q) (repV b) := by
  intro w m H x y v u Q E R rx ry ok
  unfold repV at ok
  split at ok
  · rename_i i j
    split at ok
    · rename_i r e
      obtain ⟨hc, rfl⟩ := mulI_ok e
      exact .inl ⟨i, j, rx.int, ry.int, hc, ok.ok R (rInt _)⟩
    · exact ok.elim
  · rename_i z k hz
    split at ok
    · rename_i xs hxs
      split at ok
      · rename_i hk
        obtain ⟨a, us, rfl, ha, hr⟩ := R.lst rx hxs
        have hv : VReps T w (List.replicate k.toNat us).flatten (List.replicate k.toNat xs).flatten := by
          generalize k.toNat = n
          induction n with
          | zero => exact .nil
          | succ n ih =>
            rw [List.replicate_succ, List.flatten_cons, List.replicate_succ, List.flatten_cons]
            exact hr.append ih
        obtain ⟨hl, q⟩ := mkL_ok R hv ok
        refine .inr ⟨a, k, us, rfl, ry.int, ha, hk.1, hk.2, ?_, q⟩
        have e : (List.replicate k.toNat us).flatten.length = us.length * k.toNat := by
          rw [List.length_flatten]
          simp [Nat.mul_comm]
        rw [← e]
        exact hl
      · exact ok.elim
    · exact ok.elim
  · exact ok.elim
theorem op_repM : OpR X (binaryOp .Mult) (fun x y H Q => rI CMul (fun i j => .int (i * j)) x y H Q ∨ rRep x y H Q) := op_mul.or op_rep
theorem snd_neg : Snd1 T (rU fun i => .int (-i)) negV := by
  intro w m H x v Q E R rx ok
  unfold negV at ok
  split at ok
  · rename_i i
    exact ⟨i, rx.int, ok.ok R (rInt _)⟩
  · exact ok.elim
abbrev rAddV (K : PySem.W.Frag) : R2 := fun x y H Q => (rI0 fun i j => .int (i + j)) x y H Q ∨ ((fun x y H Q => ∃ i j, x = V.str i ∧ y = V.str j ∧ i.length + j.length ≤ sizeLine ∧ Q (.str (i ++ j)) H) : R2) x y H Q ∨ rCat x y H Q ∨ rCatA K x y H Q
theorem op_addV : OpR X (binaryOp .Add) (rAddV X.K) := op_add.or (op_add_str.or (op_cat.or op_catA))
theorem snd_add (b : Bool) : Snd2 T (rAddV T.K) (addV b) := by
  intro w m H x y v u Q E R rx ry ok
  unfold addV at ok
  split at ok
  · rename_i i j
    exact .inl ⟨i, j, rx.int, ry.int, ok.ok R (rInt _)⟩
  · rename_i i j
    split at ok
    · exact ok.elim
    · rename_i h
      exact .inr (.inl ⟨i, j, rx.str, ry.str, by rw [sizeLine_eq]; omega, ok.ok R (rStr _)⟩)
  · split at ok
    · rename_i xs ys hx hy
      obtain ⟨a, us, rfl, ha, hr⟩ := R.lst rx hx
      obtain ⟨c, vs, rfl, hc, hs⟩ := R.lst ry hy
      obtain ⟨hl, q⟩ := mkL_ok R (hr.append hs) ok
      exact .inr (.inr (.inl ⟨a, c, us, vs, rfl, rfl, ha, hc, by rw [List.length_append] at hl; exact hl, q⟩))
    · split at ok
      · rename_i xs ys hx hy
        obtain ⟨a, us, rfl, ha, hr⟩ := R.tup rx hx
        obtain ⟨c, vs, rfl, hc, hs⟩ := R.tup ry hy
        unfold catT at ok
        split at ok
        · exact ok.elim
        · rename_i hl
          refine .inr (.inr (.inr ⟨a, c, us, vs, rfl, rfl, ha, hc, by rw [hr.length, hs.length, sizeLine_eq]; omega, ?_⟩))
          split at ok
          · cases hr
            exact ⟨fun _ => ok.ok R ry, fun z => absurd rfl z, fun z => absurd rfl z⟩
          · rename_i hne
            cases hs
            refine ⟨fun z => ?_, fun _ _ => ok.ok R rx, fun _ z => absurd rfl z⟩
            subst z
            cases hr
            exact absurd rfl hne
          · rename_i h1 h2
            refine ⟨fun z => ?_, fun _ z => ?_, fun _ _ => (mkT_ok R (hr.append hs) ok).2⟩
            · subst z
              cases hr
              exact absurd rfl h1
            · subst z
              cases hs
              exact absurd rfl h2
      · exact ok.elim
end
mutual
def toPy : Data → Option PyData
  | .none => some .none
  | .bool b => some (.bool b)
  | .int i => some (.int i)
  | .str s => some (.str s)
  | .list xs => (toPys xs).map .list
  | .tup xs => (toPys xs).map .tuple
  | _ => Option.none
def toPys : List Data → Option (List PyData)
  | [] => some []
  | x :: r => (toPy x).bind fun y => (toPys r).map (y :: ·)
end
def mapO {α β : Type} (f : α → Option β) : List α → Option (List β)
  | [] => some []
  | v :: r => (f v).bind fun y => (mapO f r).map (y :: ·)
def pyV : Nat → Mem → Val → Option PyData
  | 0, m, v => match v with
    | .d x => toPy x
    | _ => Option.none
  | n + 1, m, v => match v with
    | .d x => toPy x
    | .loc l => match m[l]? with
      | some (.lst vs) => (mapO (pyV n m) vs).map .list
      | some (.frz x) => toPy x
      | _ => Option.none
    | .tup vs => (mapO (pyV n m) vs).map .tuple
    | _ => Option.none
theorem pyV_d (n : Nat) (m : Mem) (x : Data) : pyV n m (.d x) = toPy x := by cases n <;> rfl
theorem pyV_loc (n : Nat) (m : Mem) (l : Nat) : pyV (n + 1) m (.loc l) = (match m[l]? with
      | some (.lst vs) => (mapO (pyV n m) vs).map .list
      | some (.frz x) => toPy x
      | _ => Option.none) := rfl
theorem pyV_tup (n : Nat) (m : Mem) (vs : List Val) : pyV (n + 1) m (.tup vs) = (mapO (pyV n m) vs).map .tuple := rfl
theorem pyV_obj (n : Nat) (m : Mem) (c : Nat) (vs : List Val) : pyV n m (.obj c vs) = Option.none := by cases n <;> rfl
theorem pyV_ro (n : Nat) (m : Mem) (vs : List Int) : pyV n m (.ro vs) = Option.none := by cases n <;> rfl
mutual
theorem DRep.py {T : Tbl} {F H : Hp} (s : Sub F H) : ∀ {v : V} {x : Data} {y : PyData}, DRep T F v x → toPy x = some y → Dp T.K H v y
  | _, _, _, .non, e => by cases e; exact .non
  | _, _, _, .bl b, e => by cases e; exact .bl b
  | _, _, _, .int i, e => by cases e; exact .int i
  | _, _, _, .str z, e => by cases e; exact .str z
  | _, _, _, .lst h r, e => by
    simp only [toPy, Option.map_eq_some_iff] at e
    obtain ⟨ys, h1, rfl⟩ := e
    exact .lst (.of (s _ _ h)) (DReps.py s r h1)
  | _, _, _, .tup h r, e => by
    simp only [toPy, Option.map_eq_some_iff] at e
    obtain ⟨ys, h1, rfl⟩ := e
    exact .tup (s.sqT h) (DReps.py s r h1)
  | _, _, _, .dk _ _, e => by simp [toPy] at e
  | _, _, _, .dt _ _, e => by simp [toPy] at e
  | _, _, _, .ins _ _ _ _ _, e => by simp [toPy] at e
  | _, _, _, .slo _ _ _ _, e => by simp [toPy] at e
  | _, _, _, .lf _, e => by simp [toPy] at e
theorem DReps.py {T : Tbl} {F H : Hp} (s : Sub F H) : ∀ {v : List V} {x : List Data} {y : List PyData}, DReps T F v x → toPys x = some y → DpAll T.K H v y
  | _, _, _, .nil, e => by cases e; exact .nil
  | _, _, _, .cons h r, e => by
    simp only [toPys, Option.bind_eq_some_iff, Option.map_eq_some_iff] at e
    obtain ⟨y, h1, ys, h2, rfl⟩ := e
    exact .cons (DRep.py s h h1) (DReps.py s r h2)
end
section
variable {T : Tbl} {w : Wd} {m : Mem} {H : Hp}
theorem mapO_py {f : Val → Option PyData} (hv : ∀ {x : V} {v : Val} {y : PyData}, VRep T w x v → f v = some y → Dp T.K H x y) : ∀ {vs : List Val} {xs : List V} {ys : List PyData}, VReps T w xs vs → mapO f vs = some ys → DpAll T.K H xs ys := by
  intro vs
  induction vs with
  | nil =>
    intro xs ys r e
    cases r
    cases e
    exact .nil
  | cons v vs ih =>
    intro xs ys r e
    rw [mapO] at e
    simp only [Option.bind_eq_some_iff, Option.map_eq_some_iff] at e
    obtain ⟨y, h1, ys, h2, rfl⟩ := e
    cases r with
    | cons r1 r2 => exact .cons (hv r1 h1) (ih r2 h2)
theorem pyV_ok (R : MRel T w m H) : ∀ (n : Nat) {x : V} {v : Val} {y : PyData}, VRep T w x v → pyV n m v = some y → Dp T.K H x y := by
  intro n
  induction n with
  | zero =>
    intro x v y r e
    cases r with
    | d h => exact h.py R.sub ((pyV_d _ _ _).symm.trans e)
    | obj _ _ _ _ _ =>
      rw [pyV_obj] at e
      cases e
    | slo _ _ _ _ =>
      rw [pyV_obj] at e
      cases e
    | ro _ =>
      rw [pyV_ro] at e
      cases e
    | loc _ => cases (show Option.none = some y from e)
    | tup _ _ => cases (show Option.none = some y from e)
  | succ n ih =>
    intro x v y r e
    cases r with
    | d h => exact h.py R.sub ((pyV_d _ _ _).symm.trans e)
    | @loc l a h =>
      rw [pyV_loc] at e
      split at e
      · rename_i vs q
        simp only [Option.map_eq_some_iff] at e
        obtain ⟨ys, h1, rfl⟩ := e
        obtain ⟨_, xs, h2, h3⟩ := R.cell l a _ h q
        exact .lst (.of h2) (mapO_py ih h3 h1)
      · rename_i z q
        exact DRep.py R.sub (R.cell l a _ h q) e
      · cases e
    | tup h r =>
      rw [pyV_tup] at e
      simp only [Option.map_eq_some_iff] at e
      obtain ⟨ys, h1, rfl⟩ := e
      exact .tup (.of (R.sub _ _ h)) (mapO_py ih r h1)
    | obj _ _ _ _ _ =>
      rw [pyV_obj] at e
      cases e
    | slo _ _ _ _ =>
      rw [pyV_obj] at e
      cases e
    | ro _ =>
      rw [pyV_ro] at e
      cases e
end
def scalP : PyData → PyData → Bool
  | .none, .none => true | .none, .int _ => true | .int _, .none => true | .none, .bool _ => true | .bool _, .none => true | .none, .str _ => true | .str _, .none => true
  | .int _, .int _ => true | .bool _, .bool _ => true | .str _, .str _ => true
  | .int _, .str _ => true | .str _, .int _ => true | .bool _, .str _ => true | .str _, .bool _ => true
  | _, _ => false
def pyEq (m : Mem) (x y : Val) : Option Bool :=
  match pyV 6 m x, pyV 6 m y with
  | some d, some e => if scalP d e || (SeqAt.shaped d && SeqAt.shaped e) then some (PyData.eqv d e) else Option.none
  | _, _ => Option.none
def eqV (neg : Bool) (x y : Val) (m : Mem) : Res Val := match pyEq m x y with
  | some b => .ok (.d (.bool (if neg then !b else b))) m
  | Option.none => .bad
def isNone (x : Val) : Bool := match x with
  | .d .none => true
  | _ => false
def isV (neg : Bool) (x y : Val) (m : Mem) : Res Val := match y with
  | .d .none => .ok (.d (.bool (if neg then !isNone x else isNone x))) m
  | _ => .bad
def cmpI (f : Int → Int → Bool) (x y : Val) (m : Mem) : Res Val := match x, y with
  | .d (.int i), .d (.int j) => .ok (.d (.bool (f i j))) m
  | _, _ => .bad
section
variable {T : Tbl} {X : Cx}
theorem scal_eqv {K : PySem.W.Frag} {H : Hp} {x y : V} {d e : PyData} (hx : Dp K H x d) (hy : Dp K H y e) (h : scalP d e = true) : scal x y = true ∧ decide (x = y) = PyData.eqv d e := by
  cases hx <;> cases hy <;> first | (exact absurd h Bool.false_ne_true) | (refine ⟨rfl, ?_⟩; simp [PyData.eqv]) | skip
  all_goals rw [Bool.eq_iff_iff]; simp [PyData.eqv]
theorem op_eqB (hu : X.A.units + 64 < cLine) : OpR X (compareOp .Eq) (fun x y H Q => rEq x y H Q ∨ rEqD X.K x y H Q) := op_eq.or (op_eqD hu)
theorem op_neB (hu : X.A.units + 64 < cLine) : OpR X (compareOp .NotEq) (fun x y H Q => rNe x y H Q ∨ rNeD X.K x y H Q) := op_ne.or (op_neD hu)
theorem pyEq_ok {w : Wd} {m : Mem} {H : Hp} {x y : V} {v u : Val} {b : Bool} (R : MRel T w m H) (rx : VRep T w x v) (ry : VRep T w y u) (e : pyEq m v u = some b) :
    (scal x y = true ∧ decide (x = y) = b) ∨ ∃ d e, Dp T.K H x d ∧ Dp T.K H y e ∧ SeqAt.shaped d = true ∧ SeqAt.shaped e = true ∧ PyData.eqv d e = b := by
  unfold pyEq at e
  split at e
  · rename_i d f hd hf
    have h1 := pyV_ok R 6 rx hd
    have h2 := pyV_ok R 6 ry hf
    split at e
    · rename_i hc
      cases e
      rw [Bool.or_eq_true, Bool.and_eq_true] at hc
      rcases hc with hc | hc
      · exact .inl (scal_eqv h1 h2 hc)
      · exact .inr ⟨d, f, h1, h2, hc.1, hc.2, rfl⟩
    · cases e
  · cases e
theorem snd_eq : Snd2 T (fun x y H Q => rEq x y H Q ∨ rEqD T.K x y H Q) (eqV false) := by
  intro w m H x y v u Q E R rx ry ok
  unfold eqV at ok
  split at ok
  · rename_i b hb
    rcases pyEq_ok R rx ry hb with ⟨h1, h2⟩ | ⟨d, e, h1, h2, h3, h4, h5⟩
    · exact .inl ⟨h1, by rw [h2]; exact ok.ok R (rBool _)⟩
    · exact .inr ⟨d, e, h1, h2, h3, h4, by rw [h5]; exact ok.ok R (rBool _)⟩
  · exact ok.elim
theorem snd_ne : Snd2 T (fun x y H Q => rNe x y H Q ∨ rNeD T.K x y H Q) (eqV true) := by
  intro w m H x y v u Q E R rx ry ok
  unfold eqV at ok
  split at ok
  · rename_i b hb
    rcases pyEq_ok R rx ry hb with ⟨h1, h2⟩ | ⟨d, e, h1, h2, h3, h4, h5⟩
    · exact .inl ⟨h1, by rw [h2]; exact ok.ok R (rBool _)⟩
    · exact .inr ⟨d, e, h1, h2, h3, h4, by rw [h5]; exact ok.ok R (rBool _)⟩
  · exact ok.elim
theorem isNone_rep {w : Wd} {x : V} {v : Val} (h : VRep T w x v) : decide (x = .non) = isNone v := by
  cases h with
  | d h => cases h <;> simp [isNone]
  | _ => simp [isNone]
theorem snd_is : Snd2 T (fun x y H Q => y = .non ∧ Q (.bl (decide (x = .non))) H) (isV false) := by
  intro w m H x y v u Q E R rx ry ok
  unfold isV at ok
  split at ok
  · exact ⟨ry.non, by rw [isNone_rep rx]; exact ok.ok R (rBool _)⟩
  · exact ok.elim
theorem snd_cmpI (f : Int → Int → Bool) : Snd2 T (rI0 fun i j => .bl (f i j)) (cmpI f) := by
  intro w m H x y v u Q E R rx ry ok
  unfold cmpI at ok
  split at ok
  · rename_i i j
    exact ⟨i, j, rx.int, ry.int, ok.ok R (rBool _)⟩
  · exact ok.elim
end
def flatD : Data → Bool
  | .none => true
  | .bool _ => true
  | .int _ => true
  | .str _ => true
  | _ => false
def flatEq : Data → Data → Bool
  | .none, .none => true
  | .bool a, .bool b => a == b
  | .bool a, .int b => (if a then 1 else 0) == b
  | .int a, .bool b => a == (if b then 1 else 0)
  | .int a, .int b => a == b
  | .str a, .str b => a == b
  | _, _ => false
def sign1 (s : Str) : Option Nat := match s.cps.toList with
  | [c] => some c
  | _ => Option.none
theorem sign1_ok {s : Str} {c : Nat} (h : sign1 s = some c) : s = ⟨#[c]⟩ := by
  unfold sign1 at h
  split at h
  · rename_i c' e
    cases h
    obtain ⟨cs⟩ := s
    have e : cs.toList = [c] := e
    congr
    exact Array.toList_inj.mp e
  · cases h
def negB (neg b : Bool) : Bool := if neg then !b else b
def inSeq (neg : Bool) (a : Data) (y : Val) (m : Mem) : Res Val :=
  match (seqV m y).bind allD with
  | some ds => if flatD a && ds.all flatD then .ok (.d (.bool (negB neg (ds.any fun z => flatEq z a)))) m else
    match toPy a, ((lstV m y).bind allD).bind toPys with
    | some p, some ps => if SeqAt.shaped p && SeqAt.shaped (.list ps) then .ok (.d (.bool (negB neg (ps.any fun z => PyData.eqv z p)))) m else .bad
    | _, _ => .bad
  | Option.none => .bad
def inV (neg : Bool) (x y : Val) (m : Mem) : Res Val :=
  match x, y with
  | .d (.str s), .d (.str z) => match sign1 s with
    | some c => .ok (.d (.bool (negB neg (decide (c ∈ z.cps.toList))))) m
    | Option.none => .bad
  | .d a, y => inSeq neg a y m
  | _, _ => .bad
section
variable {T : Tbl} {X : Cx} {w : Wd}
theorem flat_rep {F : Hp} {x : V} {a : Data} (h : DRep T F x a) (f : flatD a = true) : flatV x = true := by
  cases h <;> first | rfl | exact absurd f Bool.false_ne_true
theorem flatEq_rep {F : Hp} {x y : V} {a b : Data} (h : DRep T F x a) (h' : DRep T F y b) : L2.eqV x y = flatEq a b := by
  cases h <;> cases h' <;> rfl
theorem flats_rep {F : Hp} : ∀ {xs : List V} {ds : List Data}, DReps T F xs ds → ds.all flatD = true → xs.all flatV = true
  | _, _, .nil, _ => rfl
  | _, _, .cons h r, f => by
    rw [List.all_cons, Bool.and_eq_true] at f ⊢
    exact ⟨flat_rep h f.1, flats_rep r f.2⟩
theorem inV_rep {F : Hp} {x : V} {a : Data} (h : DRep T F x a) : ∀ {xs : List V} {ds : List Data}, DReps T F xs ds → L2.inV x xs = ds.any fun z => flatEq z a
  | _, _, .nil => rfl
  | _, _, .cons h' r => by
    unfold L2.inV
    rw [List.any_cons, List.any_cons, flatEq_rep h' h]
    congr 1
    exact inV_rep h r
abbrev rInV (K : PySem.W.Frag) (neg : Bool) : R2 := fun x y H Q => (∃ (c : Nat) (z : Str), x = V.str ⟨#[c]⟩ ∧ y = .str z ∧ Q (.bl (negB neg (decide (c ∈ z.cps.toList)))) H) ∨ rIn K neg x y H Q ∨
  ∃ d ds, Dp K H x d ∧ Dp K H y (.list ds) ∧ SeqAt.shaped d = true ∧ SeqAt.shaped (.list ds) = true ∧ Q (.bl (negB neg (ds.any fun z => PyData.eqv z d))) H
theorem op_inV (hu : X.A.units + 65 < cLine) : OpR X (compareOp .In) (rInV X.K false) := op_in_sign.or (op_in_seq.or (op_inD hu))
theorem op_notInV (hu : X.A.units + 65 < cLine) : OpR X (compareOp .NotIn) (rInV X.K true) := op_notIn_sign.or (op_notIn_seq.or (op_notInD hu))
theorem snd_in (neg : Bool) : Snd2 T (rInV T.K neg) (inV neg) := by
  intro w m H x y v u Q E R rx ry ok
  unfold inV at ok
  split at ok
  · rename_i s z
    split at ok
    · rename_i c hc
      have e := sign1_ok hc
      exact .inl ⟨c, z, by rw [← e]; exact rx.str, ry.str, ok.ok R (rBool _)⟩
    · exact ok.elim
  · rename_i a u' _
    unfold inSeq at ok
    cases rx with
    | d rx =>
      split at ok
      · rename_i ds hds
        obtain ⟨vs, h1, h2⟩ := Option.bind_eq_some_iff.mp hds
        split at ok
        · rename_i hf
          obtain ⟨p, xs, rfl, h3, h4⟩ := R.seq ry h1
          have h5 := h4.of_all h2
          rw [Bool.and_eq_true] at hf
          refine .inr (.inl ⟨p, xs, rfl, h3, flat_rep rx hf.1, flats_rep h5 hf.2, ?_⟩)
          have q := ok.ok R (rBool _)
          rw [inV_rep rx h5]
          exact q
        · split at ok
          · rename_i q qs hq hqs
            obtain ⟨es, h6, h7⟩ := Option.bind_eq_some_iff.mp hqs
            obtain ⟨us, h8, h9⟩ := Option.bind_eq_some_iff.mp h6
            split at ok
            · rename_i hs
              rw [Bool.and_eq_true] at hs
              obtain ⟨p', xs', rfl, e2, e3⟩ := R.lst ry h8
              exact .inr (.inr ⟨q, qs, rx.py R.sub hq, .lst (.of e2) ((e3.of_all h9).py R.sub h7), hs.1, hs.2, ok.ok R (rBool _)⟩)
            · exact ok.elim
          · exact ok.elim
      · exact ok.elim
  · exact ok.elim
end
end Fs
namespace Fs
open PySem PySem.Spec L2
def OkS (T : Tbl) (w : Wd) (r : SRes) (D : Ends) (W : WX) : Prop :=
  match r with
  | .next e m => ∀ (w' : Wd) (σ' : L2.St) (H' : Hp), w.Le w' → ERel T w' σ' e → MRel T w' m H' → D.nx σ' H'
  | .ret v m => ∀ (w' : Wd) (H' : Hp) (x : V), w.Le w' → MRel T w' m H' → VRep T w' x v → D.rt x H'
  | .exc c p e m => ∀ (w' : Wd) (σ' : L2.St) (H' : Hp) (cls : Value) (d : Option Addr), w.Le w' → ERel T w' σ' e → MRel T w' m H' → XRep T w' H' cls d c p → W cls d σ' H'
  | .bad => False
def rdS (T : Tbl) (W : WX) (m : SM) : TS := fun D σ H => ∃ (w : Wd) (e : Env) (μ : Mem), ERel T w σ e ∧ MRel T w μ H ∧ OkS T w (m e μ) D W
abbrev DS (T : Tbl) (W : WX) (X : Cx) (st : Stmt) (m : SM) : Prop := PS X st (rdS T W m)
abbrev DSs (T : Tbl) (W : WX) (X : Cx) (st : List Stmt) (m : SM) : Prop := PSs X st (rdS T W m)
theorem OkS.later {T : Tbl} {w : Wd} {r : SRes} {D : Ends} {W : WX} (h : OkS T w r D W) {w' : Wd} (s : w.Le w') : OkS T w' r D W := by
  cases r with
  | next e m => exact fun w2 σ2 H2 le er R => h w2 σ2 H2 (s.trans le) er R
  | ret v m => exact fun w2 H2 x le R p => h w2 H2 x (s.trans le) R p
  | exc c p e m => exact fun w2 σ2 H2 cls d le er R q => h w2 σ2 H2 cls d (s.trans le) er R q
  | bad => exact h
def Res.st {α : Type} (r : Res α) (e : Env) (f : α → Mem → SRes) : SRes := match r with
  | .ok a m => f a m
  | .exc c p m => .exc c p e m
  | .bad => .bad
@[simp] theorem Res.st_ok {α : Type} (a : α) (m : Mem) (e : Env) (f : α → Mem → SRes) : (Res.ok a m).st e f = f a m := rfl
@[simp] theorem Res.st_exc {α : Type} (c : Nat) (p : List Data) (m : Mem) (e : Env) (f : α → Mem → SRes) : (Res.exc c p m : Res α).st e f = .exc c p e m := rfl
@[simp] theorem Res.st_bad {α : Type} (e : Env) (f : α → Mem → SRes) : (Res.bad : Res α).st e f = .bad := rfl
def sNext : SM := fun e m => .next e m
def sSeq (a b : SM) : SM := fun e m => match a e m with
  | .next e m => b e m
  | r => r
def sSet (i : Nat) (a : EM) : SM := fun e m => (a e m).st e fun v m => .next (e.set i (some v)) m
def sDo (a : EM) : SM := fun e m => (a e m).st e fun _ m => .next e m
def sRet (a : EM) : SM := fun e m => (a e m).st e fun v m => .ret v m
def sRetN : SM := fun _ m => .ret (.d .none) m
def sIf (c : TM) (a b : SM) : SM := fun e m => (c e m).st e fun t m => if t = true then a e m else b e m
section
variable {T : Tbl} {α β : Type} {P : Wd → β → α → Prop} {W : WX} {m : Env → Mem → Res α} {σ : L2.St} {H : Hp} {D : Ends}
theorem OkS.go {w : Wd} {e : Env} {μ : Mem} {f : α → Mem → SRes} (er : ERel T w σ e) (mr : MRel T w μ H) (ok : OkS T w ((m e μ).st e f) D W) :
    rdG T P W m σ H fun x H1 => ∃ (w' : Wd) (a : α) (μ' : Mem), w.Le w' ∧ MRel T w' μ' H1 ∧ P w' x a ∧ OkS T w' (f a μ') D W := by
  refine ⟨w, e, μ, er, mr, ?_⟩
  cases hm : m e μ with
  | bad =>
    rw [hm] at ok
    exact ok
  | exc c p m =>
    rw [hm] at ok
    exact fun w' H' cls d le R q => ok w' σ H' cls d le (er.mono le) R q
  | ok a m =>
    rw [hm] at ok
    exact fun w' H' x le R p => ⟨w', a, m, le, R, p, OkS.later ok le⟩
end
section
variable {T : Tbl} {N : List Str} {sc : Scope} {k : Nat} {W : WX} {X : Cx}
theorem rdS.nx {m : SM} {D : Ends} {σ : L2.St} {H : Hp} {w : Wd} {e : Env} {μ : Mem} (ok : OkS T w (.next e μ) D W) (er : ERel T w σ e) (mr : MRel T w μ H) : D.nx σ H := ok w σ H (Wd.Le.refl _) er mr
theorem dss_nil : DSs T W X [] sNext := pss_nil.mono fun D σ H h => by
  obtain ⟨w, e, μ, er, mr, ok⟩ := h
  exact ok w σ H (Wd.Le.refl _) er mr
theorem dss_cons {st : Stmt} {rest : List Stmt} {a b : SM} (h1 : DS T W X st a) (h2 : DSs T W X rest b) : DSs T W X (st :: rest) (sSeq a b) := by
  refine (pss_cons h1 h2).mono fun D σ H h => ?_
  obtain ⟨w, e, μ, er, mr, ok⟩ := h
  refine ⟨w, e, μ, er, mr, ?_⟩
  have ok : OkS T w (match a e μ with
    | .next e m => b e m
    | r => r) D W := ok
  cases ha : a e μ with
  | next e1 m1 =>
    rw [ha] at ok
    exact fun w' σ' H' le er' mr' => ⟨w', e1, m1, er', mr', ok.later le⟩
  | ret v m1 =>
    rw [ha] at ok
    exact ok
  | exc c p e1 m1 =>
    rw [ha] at ok
    exact ok
  | bad =>
    rw [ha] at ok
    exact ok
theorem dss_one {st : Stmt} {a : SM} (h1 : DS T W X st a) : DSs T W X [st] a := pss_one h1
theorem ds_setX (B : Bx T N sc k W X) (i : Nat) {x : Str} {e : Expr} {me : EM} {pos pos' : Pos} (hN : N[i]? = some x) (hx : Loc sc x) (hf : X.fn x = true ∨ sc.names.lookup x = some NameKind.local) (he : DE T W X e me) (hs : swapsWith e (some (.Name x pos')) pos.line X.env = pure false := by rfl) :
    DS T W X (.Assign [.Name x pos'] e pos) (sSet i me) := by
  refine (ps_set (i := i) (by rw [B.hN]; exact B.nd) (by rw [B.hN]; exact hN) (by rw [B.hsc]; exact hx) he hs (by rw [B.hsc]; exact hf)).mono fun D σ H h => ?_
  obtain ⟨w, e, μ, er, mr, ok⟩ := h
  refine (OkS.go (P := VRep T) er mr ok).imp fun x H1 ⟨w1, v, μ1, le1, mr1, p1, ok1⟩ => ?_
  exact ok1 w1 _ H1 (Wd.Le.refl _) ((er.mono le1).set i p1) mr1
theorem ds_set (B : Bx T N sc k W X) (i : Nat) {x : Str} {e : Expr} {me : EM} {pos pos' : Pos} (hN : N[i]? = some x) (hx : sc.names.lookup x = some NameKind.local) (he : DE T W X e me) (hs : swapsWith e (some (.Name x pos')) pos.line X.env = pure false := by rfl) :
    DS T W X (.Assign [.Name x pos'] e pos) (sSet i me) := ds_setX B i hN (.inl hx) (.inr hx) he hs
theorem ds_setC (B : Bx T N sc k W X) (F : Fx X) (i : Nat) {x : Str} {e : Expr} {me : EM} {pos pos' : Pos} (hN : N[i]? = some x) (hx : sc.names.lookup x = some NameKind.cell) (he : DE T W X e me) (hs : swapsWith e (some (.Name x pos')) pos.line X.env = pure false := by rfl) :
    DS T W X (.Assign [.Name x pos'] e pos) (sSet i me) := ds_setX B i hN (.inr hx) (.inl (F.fn x)) he hs
theorem ds_do {e : Expr} {me : EM} {pos : Pos} (he : DE T W X e me) (hs : swapsWith e none pos.line X.env = pure false := by rfl) : DS T W X (.Expr e pos) (sDo me) := by
  refine (ps_expr he hs).mono fun D σ H h => ?_
  obtain ⟨w, e, μ, er, mr, ok⟩ := h
  refine (OkS.go (P := VRep T) er mr ok).imp fun x H1 ⟨w1, v, μ1, le1, mr1, p1, ok1⟩ => ?_
  exact ok1 w1 _ H1 (Wd.Le.refl _) (er.mono le1) mr1
theorem ds_ret {e : Expr} {me : EM} {pos : Pos} (he : DE T W X e me) : DS T W X (.Return (some e) pos) (sRet me) := by
  refine (ps_ret he).mono fun D σ H h => ?_
  obtain ⟨w, e, μ, er, mr, ok⟩ := h
  refine (OkS.go (P := VRep T) er mr ok).imp fun x H1 ⟨w1, v, μ1, le1, mr1, p1, ok1⟩ => ?_
  exact ok1 w1 H1 x (Wd.Le.refl _) mr1 p1
theorem ds_if {c : Expr} {a b : List Stmt} {mc : TM} {ma mb : SM} {pos : Pos} (hc : DT T W X c mc) (ha : DSs T W X a ma) (hb : DSs T W X b mb) : DS T W X (.If c a b pos) (sIf mc ma mb) := by
  refine (ps_if hc ha hb).mono fun D σ H h => ?_
  obtain ⟨w, e, μ, er, mr, ok⟩ := h
  refine (OkS.go (P := BRep) er mr ok).imp fun x H1 ⟨w1, v, μ1, le1, mr1, p1, ok1⟩ => ?_
  obtain rfl : x = v := p1
  cases x with
  | true => exact ⟨w1, e, μ1, er.mono le1, mr1, ok1⟩
  | false => exact ⟨w1, e, μ1, er.mono le1, mr1, ok1⟩
end
structure DG (T : Tbl) (X : Cx) (tg : Expr) (js : List Nat) (g : Val → Env → Option Env) : Prop where
  ex : ∃ t : TG, PG X tg t ∧ ∀ (w : Wd) (v : V) (u : Val) (σ : L2.St) (e e' : Env) (H : Hp) (μ : Mem) (Q : L2.St → Hp → Prop), VRep T w v u → ERel T w σ e → MRel T w μ H → g u e = some e' →
    (∀ σ', ERel T w σ' e' → σ'.length = σ.length → (∀ i, i ∉ js → σ'[i]? = σ[i]?) → Q σ' H) → t v σ H Q
structure DGs (T : Tbl) (X : Cx) (tgs : List Expr) (js : List Nat) (g : List Val → Env → Option Env) : Prop where
  ex : ∃ t : TGs, PGs X tgs t ∧ ∀ (w : Wd) (v : List V) (u : List Val) (σ : L2.St) (e e' : Env) (H : Hp) (μ : Mem) (Q : L2.St → Hp → Prop), VReps T w v u → ERel T w σ e → MRel T w μ H → g u e = some e' →
    (∀ σ', ERel T w σ' e' → σ'.length = σ.length → (∀ i, i ∉ js → σ'[i]? = σ[i]?) → Q σ' H) → t v σ H Q
  len : ∀ u e e', g u e = some e' → u.length = tgs.length
def gN (i : Nat) (v : Val) (e : Env) : Option Env := some (e.set i (some v))
def gsNil (vs : List Val) (e : Env) : Option Env := match vs with
  | [] => some e
  | _ => Option.none
def gsCons (g : Val → Env → Option Env) (r : List Val → Env → Option Env) (vs : List Val) (e : Env) : Option Env := match vs with
  | v :: vs => (g v e).bind (r vs)
  | _ => Option.none
def gT (g : List Val → Env → Option Env) (v : Val) (e : Env) : Option Env := (tupV v).bind fun vs => g vs e
section
variable {T : Tbl} {N : List Str} {sc : Scope} {k : Nat} {W : WX} {X : Cx}
theorem dg_nameX (B : Bx T N sc k W X) (i : Nat) {x : Str} {pos : Pos} (hN : N[i]? = some x) (hx : Loc sc x) (hf : X.fn x = true ∨ sc.names.lookup x = some NameKind.local) : DG T X (.Name x pos) [i] (gN i) := by
  refine ⟨gName i, pg_name (by rw [B.hN]; exact B.nd) (by rw [B.hN]; exact hN) (by rw [B.hsc]; exact hx) (by rw [B.hsc]; exact hf), fun w v u σ e e' H μ Q rv er mr hg q => ?_⟩
  cases hg
  refine q _ (er.set i rv) (by simp) fun j hj => ?_
  rw [List.getElem?_set_ne (fun z => hj (by simp [z]))]
theorem dg_name (B : Bx T N sc k W X) (i : Nat) {x : Str} {pos : Pos} (hN : N[i]? = some x) (hx : sc.names.lookup x = some NameKind.local) : DG T X (.Name x pos) [i] (gN i) := dg_nameX B i hN (.inl hx) (.inr hx)
theorem dgs_nil : DGs T X [] [] gsNil := by
  refine ⟨⟨gNil, pgs_nil, fun w v u σ e e' H μ Q rv er mr hg q => ?_⟩, fun u e e' hg => ?_⟩
  · cases rv with
    | nil =>
      cases hg
      exact ⟨rfl, q σ er rfl fun _ _ => rfl⟩
    | cons _ _ => cases hg
  · cases u with
    | nil => rfl
    | cons _ _ => cases hg
theorem dgs_cons {t : Expr} {ts : List Expr} {js ks : List Nat} {g : Val → Env → Option Env} {r : List Val → Env → Option Env} (h1 : DG T X t js g) (h2 : DGs T X ts ks r)
    (hs : (assignEach (t :: ts) X.env).map (·.2) = assign t X.env :: (assignEach ts X.env).map (·.2) := by rfl) : DGs T X (t :: ts) (js ++ ks) (gsCons g r) := by
  obtain ⟨t1, p1, k1⟩ := h1.ex
  obtain ⟨t2, p2, k2⟩ := h2.ex
  refine ⟨⟨gCons t1 t2, pgs_cons p1 p2 hs, fun w v u σ e e' H μ Q rv er mr hg q => ?_⟩, fun u e e' hg => ?_⟩
  · cases rv with
    | nil => cases hg
    | @cons v x vs xs r1 r2 =>
      have hg : (g x e).bind (r xs) = some e' := hg
      obtain ⟨e1, h3, h4⟩ := Option.bind_eq_some_iff.mp hg
      refine ⟨v, vs, rfl, k1 w v x σ e e1 H μ _ r1 er mr h3 fun σ1 er1 l1 s1 => ?_⟩
      exact k2 w vs xs σ1 e1 e' H μ _ r2 er1 mr h4 fun σ2 er2 l2 s2 => q σ2 er2 (l2.trans l1) fun i hi => (s2 i fun z => hi (List.mem_append_right _ z)).trans (s1 i fun z => hi (List.mem_append_left _ z))
  · cases u with
    | nil => cases hg
    | cons x xs =>
      have hg : (g x e).bind (r xs) = some e' := hg
      obtain ⟨e1, h3, h4⟩ := Option.bind_eq_some_iff.mp hg
      rw [List.length_cons, List.length_cons, h2.len _ _ _ h4]
theorem dg_tup (B : Bx T N sc k W X) {ts : List Expr} {js : List Nat} {g : List Val → Env → Option Env} {kk : Nat} {pos : Pos} (h : DGs T X ts js g)
    (hn : (assignEach ts X.env).length = ts.length := by rfl) (hst : (assignEach ts X.env).findIdx? (·.1) = none := by rfl) : DG T X (.Tuple ts kk pos) js (gT g) := by
  obtain ⟨t, p, kt⟩ := h.ex
  refine ⟨gTup X.K ts.length t, pg_tup B.calm p hn hst, fun w v u σ e e' H μ Q rv er mr hg q => ?_⟩
  have hg : (tupV u).bind (fun vs => g vs e) = some e' := hg
  obtain ⟨us, h1, h2⟩ := Option.bind_eq_some_iff.mp hg
  obtain ⟨a, xs, rfl, h3, h4⟩ := mr.tup rv h1
  refine ⟨a, xs, rfl, by rw [B.K]; exact h3, by rw [h4.length]; exact h.len _ _ _ h2, ?_⟩
  exact kt w xs us σ e e' H μ Q h4 er mr h2 q
def sAsg (g : Val → Env → Option Env) (a : EM) : SM := fun e m => (a e m).st e fun v m => match g v e with
  | some e' => .next e' m
  | Option.none => .bad
end
structure Its where
  items : List Val
  guard : Option (Nat × List Val)
def GOk (g : Option (Nat × List Val)) (m : Mem) : Prop := match g with
  | Option.none => True
  | some (l, vs) => m[l]? = some (.lst vs)
def IterOk (T : Tbl) (w0 : Wd) (J : It) (it : Its) : Prop := ∀ (w : Wd) (i : Nat) (μ : Mem) (H : Hp), w0.Le w → MRel T w μ H → GOk it.guard μ →
  (∀ v, it.items[i]? = some v → J.go i H ∧ ∀ x H', J.yld i H x H' → ∃ w', w.Le w' ∧ MRel T w' μ H' ∧ VRep T w' x v) ∧ (it.items.length = i → J.stop i H)
abbrev IM := Env → Mem → Res Its
def rdI (T : Tbl) (W : WX) (m : IM) : TI := fun σ H R => ∃ (w : Wd) (e : Env) (μ : Mem), ERel T w σ e ∧ MRel T w μ H ∧ (match m e μ with
  | .ok it μ' => ∀ (w' : Wd) (H' : Hp) (J : It), w.Le w' → MRel T w' μ' H' → IterOk T w' J it → R J H'
  | .exc c p μ' => ∀ (w' : Wd) (H' : Hp) (cls : Value) (d : Option Addr), w.Le w' → MRel T w' μ' H' → XRep T w' H' cls d c p → W cls d σ H'
  | .bad => False)
abbrev DI (T : Tbl) (W : WX) (X : Cx) (tg it : Expr) (m : IM) : Prop := PI X tg it (rdI T W m)
theorem _root_.L2.PI.mono {X : Cx} {tg e : Expr} {t t' : TI} (h : PI X tg e t) (k : ∀ σ H R, t' σ H R → t σ H R) : PI X tg e t' := ⟨fun pins s σ H R I q => h.run pins s σ H R I (k σ H R q)⟩
open Classical in
noncomputable def sForL (g : Option (Nat × List Val)) (tg : Val → Env → Option Env) (b : SM) : List Val → SM
  | [] => fun e μ => if GOk g μ then .next e μ else .bad
  | v :: r => fun e μ => if GOk g μ then (match tg v e with
    | some e1 => (match b e1 μ with
      | .next e2 μ2 => sForL g tg b r e2 μ2
      | q => q)
    | Option.none => .bad) else .bad
noncomputable def sFor (it : IM) (tg : Val → Env → Option Env) (b : SM) : SM := fun e μ => (it e μ).st e fun i μ => sForL i.guard tg b i.items e μ
section
variable {T : Tbl} {N : List Str} {sc : Scope} {k : Nat} {W : WX} {X : Cx}
theorem ds_for (B : Bx T N sc k W X) {tg iter : Expr} {body : List Stmt} {mi : IM} {js : List Nat} {g : Val → Env → Option Env} {mb : SM} {pos : Pos} (hi : DI T W X tg iter mi) (hg : DG T X tg js g) (hb : DSs T W X body mb)
    (hs : ∀ x, foldedSetIterable iter X.env x = pure x := by intro _; rfl) : DS T W X (.For tg iter body [] pos) (sFor mi g mb) := by
  obtain ⟨t, p, kt⟩ := hg.ex
  refine (ps_for B.po B.calm hi p hb hs).mono fun D σ H h => ?_
  obtain ⟨w, e, μ, er, mr, ok⟩ := h
  refine ⟨w, e, μ, er, mr, ?_⟩
  have ok : OkS T w ((mi e μ).st e fun i μ => sForL i.guard g mb i.items e μ) D W := ok
  cases hm : mi e μ with
  | bad =>
    rw [hm] at ok
    exact ok
  | exc c p μ' =>
    rw [hm] at ok
    exact fun w' H' cls d le R q => ok w' σ H' cls d le (er.mono le) R q
  | ok it μ' =>
    rw [hm] at ok
    intro w1 H1 J le1 mr1 iok
    have ok1 := OkS.later (show OkS T w (sForL it.guard g mb it.items e μ') D W from ok) le1
    refine ⟨fun i m σ H => m = it.items.length - i ∧ i ≤ it.items.length ∧ ∃ (w : Wd) (e : Env) (μ : Mem), w1.Le w ∧ ERel T w σ e ∧ MRel T w μ H ∧ OkS T w (sForL it.guard g mb (it.items.drop i) e μ) D W,
      ⟨it.items.length, by simp, Nat.zero_le _, w1, e, μ', Wd.Le.refl _, er.mono le1, mr1, by rw [List.drop_zero]; exact ok1⟩, ?_⟩
    rintro i m σ2 H2 ⟨rfl, hi, w2, e2, μ2, le2, er2, mr2, ok2⟩
    cases hd : it.items.drop i with
    | nil =>
      rw [hd] at ok2
      have hlen : it.items.length ≤ i := List.drop_eq_nil_iff.mp hd
      unfold sForL at ok2
      split at ok2
      · rename_i gk
        exact .inl ⟨(iok w2 i μ2 H2 le2 mr2 gk).2 (Nat.le_antisymm hlen hi), ok2 w2 σ2 H2 (Wd.Le.refl _) er2 mr2⟩
      · exact ok2.elim
    | cons v r =>
      rw [hd] at ok2
      have hlt : i < it.items.length := by
        apply Classical.byContradiction
        intro z
        rw [List.drop_eq_nil_iff.mpr (by omega)] at hd
        cases hd
      have hv : it.items[i]? = some v := by
        have e := List.getElem?_drop (xs := it.items) (i := i) (j := 0)
        rw [hd] at e
        simpa using e.symm
      have hr : it.items.drop (i + 1) = r := by
        rw [← List.drop_drop, hd]
        rfl
      unfold sForL at ok2
      split at ok2
      · rename_i gk
        obtain ⟨j1, j2⟩ := (iok w2 i μ2 H2 le2 mr2 gk).1 v hv
        refine .inr ⟨j1, fun σ3 H3 => ∃ (w : Wd) (e : Env) (μ : Mem), w1.Le w ∧ ERel T w σ3 e ∧ MRel T w μ H3 ∧ OkS T w (sForL it.guard g mb r e μ) D W, fun σ' H' z => ?_, fun x H3 y => ?_⟩
        · obtain ⟨w4, e4, μ4, le4, er4, mr4, ok4⟩ := z
          exact ⟨it.items.length - (i + 1), by omega, rfl, hlt, w4, e4, μ4, le4, er4, mr4, by rw [hr]; exact ok4⟩
        · obtain ⟨w3, le3, mr3, rx⟩ := j2 x H3 y
          split at ok2
          · rename_i e3 he3
            refine kt w3 x v σ2 e2 e3 H3 μ2 _ rx (er2.mono le3) mr3 he3 fun σ3 er3 _ _ => ?_
            refine ⟨w3, e3, μ2, er3, mr3, ?_⟩
            cases hb : mb e3 μ2 with
            | next e4 m4 =>
              rw [hb] at ok2
              exact fun w' σ' H' le er' mr' => ⟨w', e4, m4, (le2.trans le3).trans le, er', mr', ok2.later (le3.trans le)⟩
            | ret v m4 =>
              rw [hb] at ok2
              exact OkS.later (r := .ret v m4) ok2 le3
            | exc c p e4 m4 =>
              rw [hb] at ok2
              exact OkS.later (r := .exc c p e4 m4) ok2 le3
            | bad =>
              rw [hb] at ok2
              exact ok2
          · exact ok2.elim
      · exact ok2.elim
end
end Fs
namespace Fs
open PySem PySem.Spec L2
section
variable {T : Tbl}
theorem Wd.Le.back {w w' : Wd} (a : w.Le w') {l : Nat} {x y : Addr} (h : w.r[l]? = some x) (h' : w'.r[l]? = some y) : x = y := by
  have := a.at h
  rw [this] at h'
  exact Option.some.inj h'
mutual
theorem VRep.cut {w w' : Wd} (s : w.Le w') : ∀ {v : Val} {x0 x : V}, VRep T w x0 v → VRep T w' x v → VRep T ⟨w.r, w'.F⟩ x v
  | .d _, _, _, _, .d h => .d h
  | .loc l, _, _, .loc h0, .loc h => .loc (by
      have e := s.back h0 h
      rw [← e]
      exact h0)
  | .tup vs, _, _, .tup _ r0, .tup h r => .tup h (VReps.cut s r0 r)
  | .obj c vs, _, _, .obj _ _ _ _ r0, .obj h l d q r => .obj h l d q (VReps.cut s r0 r)
  | .obj c vs, _, _, .slo _ _ _ r0, .slo h d q r => .slo h d q (VReps.cut s r0 r)
  | .obj c vs, _, _, .slo _ _ q0 _, .obj _ _ _ q _ => by
      rw [q] at q0
      cases q0
  | .obj c vs, _, _, .obj _ _ _ q0 _, .slo _ _ q _ => by
      rw [q] at q0
      cases q0
  | .ro ns, _, _, _, .ro h => .ro h
theorem VReps.cut {w w' : Wd} (s : w.Le w') : ∀ {v : List Val} {x0 x : List V}, VReps T w x0 v → VReps T w' x v → VReps T ⟨w.r, w'.F⟩ x v
  | [], _, _, .nil, .nil => .nil
  | _ :: _, _, _, .cons h0 r0, .cons h r => .cons (VRep.cut s h0 h) (VReps.cut s r0 r)
end
theorem VRep.bel {w w' : Wd} (s : w.Le w') {v : Val} {x : V} (b : VBelow w.r.length v) (h : VRep T w' x v) : VRep T ⟨w.r, w'.F⟩ x v := by
  cases h with
  | d h => exact .d h
  | @loc l a h =>
    have hl : l < w.r.length := b
    have e := s.back (List.getElem?_eq_getElem hl) h
    refine .loc ?_
    rw [← e]
    exact List.getElem?_eq_getElem hl
  | tup _ _ => exact b.elim
  | obj _ _ _ _ _ => exact b.elim
  | slo _ _ _ _ => exact b.elim
  | ro _ => exact b.elim
theorem VReps.bel {w w' : Wd} (s : w.Le w') : ∀ {vs : List Val} {xs : List V}, (∀ v ∈ vs, VBelow w.r.length v) → VReps T w' xs vs → VReps T ⟨w.r, w'.F⟩ xs vs
  | [], _, _, .nil => .nil
  | v :: vs, _, b, .cons h r => .cons (h.bel s (b v (List.mem_cons_self ..))) (VReps.bel s (fun u hu => b u (List.mem_cons_of_mem _ hu)) r)
theorem VPair.bel {κ : Type} {w w' : Wd} (s : w.Le w') : ∀ {vs : List (κ × Val)} {xs : List (κ × V)}, (∀ v ∈ vs, VBelow w.r.length v.2) → VPair T w' xs vs → VPair T ⟨w.r, w'.F⟩ xs vs
  | [], _, _, .nil => .nil
  | v :: vs, _, b, .cons h r => .cons ⟨h.1, h.2.bel s (b v (List.mem_cons_self ..))⟩ (VPair.bel s (fun u hu => b u (List.mem_cons_of_mem _ hu)) r)
theorem VPair.cut {κ : Type} {w w' : Wd} (s : w.Le w') : ∀ {vs : List (κ × Val)} {x0 xs : List (κ × V)}, VPair T w x0 vs → VPair T w' xs vs → VPair T ⟨w.r, w'.F⟩ xs vs
  | [], _, _, .nil, .nil => .nil
  | v :: vs, _, _, .cons h0 r0, .cons h r => .cons ⟨h.1, VRep.cut s h0.2 h.2⟩ (VPair.cut s r0 r)
theorem CRep.cut {w w' : Wd} {H H' : Hp} {a a' : Addr} (s : w.Le w') : ∀ {c : Cell}, CRep T w H a c → CRep T w' H' a' c → CRep T ⟨w.r, w'.F⟩ H' a' c
  | .lst vs, ⟨_, _, _, r0⟩, ⟨f, xs, h, r⟩ => ⟨f, xs, h, r0.cut s r⟩
  | .dk vs, ⟨_, _, _, r0⟩, ⟨f, xs, h, r⟩ => ⟨f, xs, h, r0.cut s r⟩
  | .dt vs, ⟨_, _, _, r0⟩, ⟨f, xs, h, r⟩ => ⟨f, xs, h, r0.cut s r⟩
  | .ins c vs, ⟨_, _, _, _, _, _, _, r0⟩, ⟨f, dx, xs, h, l, o, q, r⟩ => ⟨f, dx, xs, h, l, o, q, r0.cut s r⟩
  | .lf ks, _, h => h
  | .frz x, _, h => h
theorem CRep.bel {w w' : Wd} {H' : Hp} {a' : Addr} (s : w.Le w') : ∀ {c : Cell}, Below w.r.length c → CRep T w' H' a' c → CRep T ⟨w.r, w'.F⟩ H' a' c
  | .lst vs, b, ⟨f, xs, h, r⟩ => ⟨f, xs, h, r.bel s b⟩
  | .dk vs, b, ⟨f, xs, h, r⟩ => ⟨f, xs, h, r.bel s b⟩
  | .dt vs, b, ⟨f, xs, h, r⟩ => ⟨f, xs, h, r.bel s b⟩
  | .ins c vs, b, ⟨f, dx, xs, h, l, o, q, r⟩ => ⟨f, dx, xs, h, l, o, q, r.bel s b⟩
  | .lf ks, _, h => h
  | .frz x, _, h => h
theorem MRel.trunc {w w' : Wd} {m m' : Mem} {H H' : Hp} (R : MRel T w m H) (s : w.Le w') (R' : MRel T w' m' H') : ∃ w'', w.Le w'' ∧ MRel T w'' (Fs.trunc m m') H' ∧ Sub w'.F w''.F := by
  unfold Fs.trunc
  split
  · rename_i tk
    obtain ⟨hl, hc⟩ := tk
    refine ⟨⟨w.r, w'.F⟩, ⟨⟨[], by simp⟩, s.F⟩, ⟨?_, R.inj, R'.sub, fun l a h => R'.there l a (s.at h), fun l a c h1 h2 => ?_⟩, Sub.refl _⟩
    · rw [List.length_take, R.len]
      omega
    · have hlt : l < m.length := by
        rw [← R.len]
        exact (List.getElem?_eq_some_iff.mp h1).1
      rw [List.getElem?_take_of_lt hlt] at h2
      have c' := R'.cell l a c (s.at h1) h2
      rcases hc l c hlt h2 with e | b
      · exact (R.cell l a c h1 e).cut s c'
      · exact c'.bel s (by rw [R.len]; exact b)
  · exact ⟨w', s, R', Sub.refl _⟩
theorem zipK {F : Hp} {w : Wd} : ∀ {kvs : List (Key × Val)} {xs : List (Key × V)} {ds : List Data}, VPair T w xs kvs → DReps T F (xs.map (·.2)) ds → DRepK T F xs ((kvs.map (·.1)).zip ds)
  | [], _, _, .nil, .nil => .nil
  | (k, v) :: r, (k', x) :: xs, d :: ds, .cons h t, .cons q u => by
    have e : k' = k := h.1
    subst e
    exact .cons q (zipK t u)
theorem zipT {F : Hp} {w : Wd} : ∀ {kvs : List (List Key × Val)} {xs : List (List Key × V)} {ds : List Data}, VPair T w xs kvs → DReps T F (xs.map (·.2)) ds → DRepT T F xs ((kvs.map (·.1)).zip ds)
  | [], _, _, .nil, .nil => .nil
  | (k, v) :: r, (k', x) :: xs, d :: ds, .cons h t, .cons q u => by
    have e : k' = k := h.1
    subst e
    exact .cons q (zipT t u)
theorem VPair.snd {κ : Type} {w : Wd} : ∀ {kvs : List (κ × Val)} {xs : List (κ × V)}, VPair T w xs kvs → VReps T w (xs.map (·.2)) (kvs.map (·.2))
  | [], _, .nil => .nil
  | _ :: _, _, .cons h t => .cons h.2 (VPair.snd t)
theorem frzL_ok {H : Hp} {f : Val → Mem → Option (Data × Mem)}
    (hf : ∀ {w : Wd} {m m' : Mem} {x : V} {v : Val} {d : Data}, MRel T w m H → VRep T w x v → f v m = some (d, m') → ∃ w', w.Le w' ∧ MRel T w' m' H ∧ DRep T w'.F x d) :
    ∀ {vs : List Val} {w : Wd} {m m' : Mem} {xs : List V} {ds : List Data}, MRel T w m H → VReps T w xs vs → frzL f vs m = some (ds, m') → ∃ w', w.Le w' ∧ MRel T w' m' H ∧ DReps T w'.F xs ds := by
  intro vs
  induction vs with
  | nil =>
    intro w m m' xs ds R r e
    cases r
    cases e
    exact ⟨w, Wd.Le.refl _, R, .nil⟩
  | cons v vs ih =>
    intro w m m' xs ds R r e
    rw [frzL] at e
    obtain ⟨⟨d, m1⟩, h1, h2⟩ := Option.bind_eq_some_iff.mp e
    obtain ⟨⟨es, m2⟩, h3, h4⟩ := Option.map_eq_some_iff.mp h2
    cases h4
    cases r with
    | cons r1 r2 =>
      obtain ⟨w1, le1, R1, q1⟩ := hf R r1 h1
      obtain ⟨w2, le2, R2, q2⟩ := ih R1 (r2.mono le1) h3
      exact ⟨w2, le1.trans le2, R2, .cons (q1.mono le2.F) q2⟩
theorem frzV_ok {H : Hp} : ∀ (n : Nat) {w : Wd} {m m' : Mem} {x : V} {v : Val} {d : Data}, MRel T w m H → VRep T w x v → frzV n v m = some (d, m') → ∃ w', w.Le w' ∧ MRel T w' m' H ∧ DRep T w'.F x d := by
  intro n
  induction n with
  | zero =>
    intro w m m' x v d R r e
    cases r with
    | d h =>
      cases e
      exact ⟨w, Wd.Le.refl _, R, h⟩
    | _ => cases e
  | succ n ih =>
    intro w m m' x v d R r e
    cases r with
    | d h =>
      cases e
      exact ⟨w, Wd.Le.refl _, R, h⟩
    | ro h => cases e
    | tup h r =>
      obtain ⟨⟨ds, m1⟩, h1, h2⟩ := Option.map_eq_some_iff.mp (show (frzL (frzV n) _ m).map _ = some (d, m') from e)
      cases h2
      obtain ⟨w1, le1, R1, q1⟩ := frzL_ok ih R r h1
      exact ⟨w1, le1, R1, .tup (.of (le1.F _ _ h)) q1⟩
    | obj h l o q r =>
      obtain ⟨⟨ds, m1⟩, h1, h2⟩ := Option.map_eq_some_iff.mp (show (frzL (frzV n) _ m).map _ = some (d, m') from e)
      cases h2
      obtain ⟨w1, le1, R1, q1⟩ := frzL_ok ih R r h1
      exact ⟨w1, le1, R1, .ins (le1.F _ _ h) l (le1.F _ _ o) q q1⟩
    | slo h o q r =>
      obtain ⟨⟨ds, m1⟩, h1, h2⟩ := Option.map_eq_some_iff.mp (show (frzL (frzV n) _ m).map _ = some (d, m') from e)
      cases h2
      obtain ⟨w1, le1, R1, q1⟩ := frzL_ok ih R r h1
      exact ⟨w1, le1, R1, .slo (le1.F _ _ h) (le1.F _ _ o) q q1⟩
    | @loc l a h =>
      unfold frzV at e
      simp only at e
      split at e
      · rename_i z hz
        cases e
        exact ⟨w, Wd.Le.refl _, R, R.cell l a _ h hz⟩
      · rename_i vs hz
        obtain ⟨⟨ds, m1⟩, h1, h2⟩ := Option.bind_eq_some_iff.mp e
        dsimp only at h2
        split at h2
        · rename_i vs1 hv
          cases h2
          obtain ⟨_, xs, hH, hr⟩ := R.cell l a _ h hz
          obtain ⟨w1, le1, R1, q1⟩ := frzL_ok ih R hr h1
          have fr := (R1.cell l a _ (le1.at h) hv).free (fun _ z => nomatch z)
          obtain ⟨le2, R2⟩ := R1.fix (x := .list ds) (le1.at h) fr hH (.lst upd_same (q1.mono (Sub.upd fr)))
          exact ⟨_, le1.trans le2, R2, .lst upd_same (q1.mono le2.F)⟩
        · cases h2
      · rename_i vs hz
        obtain ⟨⟨ds, m1⟩, h1, h2⟩ := Option.bind_eq_some_iff.mp e
        dsimp only at h2
        split at h2
        · rename_i vs1 hv
          cases h2
          obtain ⟨_, xs, hH, hr⟩ := R.cell l a _ h hz
          obtain ⟨w1, le1, R1, q1⟩ := frzL_ok ih R hr.snd h1
          have fr := (R1.cell l a _ (le1.at h) hv).free (fun _ z => nomatch z)
          obtain ⟨le2, R2⟩ := R1.fix (x := .dk ((vs.map (·.1)).zip ds)) (le1.at h) fr hH (.dk upd_same (zipK hr (q1.mono (Sub.upd fr))))
          exact ⟨_, le1.trans le2, R2, .dk upd_same (zipK hr (q1.mono le2.F))⟩
        · cases h2
      · rename_i vs hz
        obtain ⟨⟨ds, m1⟩, h1, h2⟩ := Option.bind_eq_some_iff.mp e
        dsimp only at h2
        split at h2
        · rename_i vs1 hv
          cases h2
          obtain ⟨_, xs, hH, hr⟩ := R.cell l a _ h hz
          obtain ⟨w1, le1, R1, q1⟩ := frzL_ok ih R hr.snd h1
          have fr := (R1.cell l a _ (le1.at h) hv).free (fun _ z => nomatch z)
          obtain ⟨le2, R2⟩ := R1.fix (x := .dt ((vs.map (·.1)).zip ds)) (le1.at h) fr hH (.dt upd_same (zipT hr (q1.mono (Sub.upd fr))))
          exact ⟨_, le1.trans le2, R2, .dt upd_same (zipT hr (q1.mono le2.F))⟩
        · cases h2
      · rename_i c fs hz
        obtain ⟨⟨ds, m1⟩, h1, h2⟩ := Option.bind_eq_some_iff.mp e
        dsimp only at h2
        split at h2
        · rename_i c1 vs1 hv
          cases h2
          obtain ⟨_, dx, xs, hH, hl, hd, hs, hr⟩ := R.cell l a _ h hz
          obtain ⟨w1, le1, R1, q1⟩ := frzL_ok ih R hr h1
          have fr := (R1.cell l a _ (le1.at h) hv).free (fun _ z => nomatch z)
          obtain ⟨le2, R2⟩ := R1.fix (x := .ins c ds) (le1.at h) fr hH (.ins upd_same hl (Sub.upd fr _ _ (le1.F _ _ hd)) hs (q1.mono (Sub.upd fr)))
          exact ⟨_, le1.trans le2, R2, .ins upd_same hl (le2.F _ _ (le1.F _ _ hd)) hs (q1.mono le2.F)⟩
        · cases h2
      · rename_i ks hz
        cases e
        obtain ⟨fr, hH⟩ := R.cell l a _ h hz
        obtain ⟨le2, R2⟩ := R.fix (x := .lf ks) h fr hH (.lf upd_same)
        exact ⟨_, le2, R2, .lf upd_same⟩
      · cases e
theorem callF_ok {fz : Bool} {f : Fn} {us : List Val} {w : Wd} {μ : Mem} {H : Hp} {Q : VK} {E : XK} (R : MRel T w μ H) (ok : OkR T (VRep T) w (callF fz f us μ) Q E) : OkR T (VRep T) w (f us μ) Q E := by
  cases fz with
  | false => exact ok
  | true =>
    unfold callF at ok
    dsimp only at ok
    cases hf : f us μ with
    | bad =>
      rw [hf] at ok
      exact ok
    | exc c p m' =>
      rw [hf] at ok
      intro w' H' cls d le R' ⟨x1, dx, xs, x2, x3, x4⟩
      obtain ⟨w'', le'', R'', s⟩ := R.trunc le R'
      exact ok w'' H' cls d le'' R'' ⟨x1, dx, xs, x2, s _ _ x3, x4.mono s⟩
    | ok v m' =>
      rw [hf] at ok
      dsimp only at ok
      intro w' H' x le R' r
      split at ok
      · rename_i d m2 hz
        obtain ⟨w1, le1, R1, q1⟩ := frzV_ok 9 R' r hz
        obtain ⟨w'', le'', R'', s⟩ := R.trunc (le.trans le1) R1
        exact ok w'' H' x le'' R'' (.d (q1.mono s))
      · exact ok.elim
end
def spM (T : Tbl) (n : Nat) (f : Fn) : Sp := fun vs H Q E => ∃ (w : Wd) (μ : Mem) (us : List Val), MRel T w μ H ∧ VReps T w vs us ∧ us.length = n ∧ OkR T (VRep T) w (f us μ) Q E
structure FnAt (T : Tbl) (k : Nat) (a : Addr) (ps : List Str) (f : Fn) : Prop where
  ex : ∃ fd : FuncData, FnOk T.P T.w T.K T.mg T.base (L2.CX T.P T.w) k a fd ps (spM T ps.length f) ∧ Binds T.K fd ps []
  kp : PySem.W.keepIn T.K (.ref a) = true
def fnM (n : Nat) (body : SM) : Fn := fun us μ => match body (us.map some ++ List.replicate (n - us.length) none) μ with
  | .ret v m => .ok v m
  | .next _ m => .ok (.d .none) m
  | .exc c p _ m => .exc c p m
  | .bad => .bad
section
variable {T : Tbl}
theorem start_rel {w : Wd} {vs : List V} {us : List Val} {N : List Str} (r : VReps T w vs us) : ERel T w (L2.start N vs) (us.map some ++ List.replicate (N.length - us.length) none) := by
  unfold L2.start
  rw [r.length]
  refine ⟨by simp [r.length], fun i v h => ?_⟩
  by_cases hi : i < us.length
  · rw [List.getElem?_append_left (by simpa using hi), List.getElem?_map] at h
    cases e : us[i]? with
    | none =>
      rw [e] at h
      cases h
    | some u =>
      rw [e] at h
      cases h
      obtain ⟨x, h1, h2⟩ := r.get e
      refine ⟨x, ?_, h2⟩
      rw [List.getElem?_append_left (by simpa [r.length] using hi), List.getElem?_map, h1]
      rfl
  · rw [List.getElem?_append_right (by simpa using hi), List.getElem?_replicate] at h
    split at h
    · cases h
    · cases h
theorem fn_ok {x qual : Str} {params : Arguments} {body : List Stmt} {scope : Scope} {dvs : List V} {kws : List (Str × V)} {a : Addr} {fd : FuncData} {N ps : List Str} {k : Nat} {m : SM}
    (F : FunD T.K x qual params body scope dvs kws a fd) (S : FnScope N ps scope) (h : ∀ (X : Cx) (W : WX), Bx T N scope k W X → Fx X → DSs T W X body m) : FnOk T.P T.w T.K T.mg T.base (L2.CX T.P T.w) (k + 1) a fd ps (spM T ps.length (fnM N.length m)) := by
  refine F.ok S (fun vs H Q E z => ?_) (fun cdv A outer s H vs Q E hr z => ?_)
  · obtain ⟨w, μ, us, mr, r, l, ok⟩ := z
    rw [r.length, l]
  · refine ⟨rdS T (fun cls d _ H => E cls d H) m, h _ _ ⟨rfl, rfl, rfl, rfl, rfl, rfl, rfl, S.nd, rfl, hr, takes_of rfl rfl rfl rfl, passes_of rfl⟩ ⟨rfl, rfl, fun _ => rfl⟩, ?_⟩
    obtain ⟨w, μ, us, mr, r, l, ok⟩ := z
    refine ⟨w, _, μ, start_rel r, mr, ?_⟩
    have ok : OkR T (VRep T) w (match m (us.map some ++ List.replicate (N.length - us.length) none) μ with
      | .ret v m => .ok v m
      | .next _ m => .ok (.d .none) m
      | .exc c p _ m => .exc c p m
      | .bad => .bad) Q E := ok
    cases hm : m (us.map some ++ List.replicate (N.length - us.length) none) μ with
    | ret v m1 =>
      rw [hm] at ok
      exact ok
    | next e1 m1 =>
      rw [hm] at ok
      exact fun w' σ' H' le er' mr' => ok w' H' _ le mr' rNone
    | exc c p e1 m1 =>
      rw [hm] at ok
      exact fun w' σ' H' cls d le er' mr' q => ok w' H' cls d le mr' q
    | bad =>
      rw [hm] at ok
      exact ok
end
section
variable {T : Tbl} {N : List Str} {sc : Scope} {k : Nat} {W : WX} {X : Cx}
theorem run_at (B : Bx T N sc k W X) {j : Nat} {a : Addr} {ps : List Str} {f : Fn} (F : FnAt T j a ps f) (hj : j ≤ k) {pins : List (Addr × Obj)} {σ : L2.St} {H : Hp} {s : Shared} {Q : VK} {us : List Value} {xs : List V} {w : Wd} {μ : Mem} {vs : List Val}
    (I : Inv X pins σ H s) (r : Vals xs us) (mr : MRel T w μ H) (rv : VReps T w xs vs) (hl : vs.length = ps.length) (ok : OkR T (VRep T) w (f vs μ) Q (fun c d H' => W c d σ H')) : wpAny (model X.prog X.w) X.A (call (.ref a) us) (EP X pins σ Q) X.xe s := by
  obtain ⟨fd, G, hb⟩ := F.ex
  have G' : FnOk X.prog X.w X.K X.mg X.base (L2.CX X.prog X.w) j a fd ps (spM T ps.length f) := by
    rw [B.P, B.w, B.K, B.mg, B.base]
    exact G
  exact run_fnSD (dvs := []) (ds := []) (E := fun σ => WE W σ) G' (B.room.mono hj) (by rw [B.K]; exact hb) .nil (passAt B.tk σ) I r ⟨w, μ, vs, mr, by rw [List.append_nil]; exact rv, hl, ok⟩
noncomputable def eCall (n : Nat) (fz : Bool) (f : Fn) (a : AM) : EM := fun e μ => (a e μ).bind fun xs μ => if xs.length = n then callF fz f xs μ else .bad
theorem de_call (B : Bx T N sc k W X) (fz : Bool) {j n : Nat} {a : Addr} {ps : List Str} {f : Fn} {x : Str} {p pos : Pos} {e : Expr} {es : List Expr} {ma : AM} (F : FnAt T j a ps f) (hj : j ≤ k) (hg : sc.names.lookup x = some NameKind.globalImplicit) (hm : T.mg x = some (.ref a)) (ha : DA T W X (e :: es) ma) (hn : ps.length = n)
    (hdb : (x == ("__debug__" : Str)) = false := by decide) (he : starEach (e :: es) X.env = (false, eval e X.env) :: starEach es X.env := by rfl) (hpl : (backTo pos (starEach es X.env)).any (·.1) = false := by rfl) : DE T W X (.Call (.Name x p) (e :: es) [] pos) (eCall n fz f ma) := by
  refine ⟨fun pins s σ H Q I h => ?_⟩
  obtain ⟨w, en, μ, er, mr, ok⟩ := h
  refine wpAny_Call_Name_kw (ld_glob I (show X.env.scope.names.lookup x = _ by rw [B.hsc]; exact hg) (by rw [B.mg]; exact hm) ?_ hdb)
  refine PySem.W.callWith_K (h₀ := X.base) I.ok.mod.kin (by rw [B.K]; exact F.kp) (thn (ha.run pos pins s σ H _ I (OkR.go (P := VReps T) er mr ok)) fun us s1 ⟨vs, H1, I1, r, w1, as, μ1, le1, mr1, p1, ok1⟩ => ⟨I1.kIn, ?_⟩) he hpl
  have ok1 : OkR T (VRep T) w1 (if as.length = n then callF fz f as μ1 else .bad) Q (fun c d H' => W c d σ H') := ok1
  split at ok1
  · rename_i hl
    exact run_at B F hj I1 r mr1 p1 (by rw [hn]; exact hl) (callF_ok mr1 ok1)
  · exact ok1.elim
end
end Fs
namespace Fs
open PySem PySem.Spec L2
section
variable {T : Tbl} {N : List Str} {sc : Scope} {k : Nat} {W : WX} {X : Cx}
theorem de_bi (B : Bx T N sc k W X) {f : Fn} {id : String} {r : List V → Hp → VK → Prop} {x : Str} {p pos : Pos} {e : Expr} {es : List Expr} {ma : AM} (hc : CallR X (.builtin id) r) (hf : SndA T r f) (hg : sc.names.lookup x = some NameKind.globalImplicit) (hm : T.mg x = none)
    (hv : bootBuiltins x = some (.builtin id)) (ha : DA T W X (e :: es) ma) (hn : x ≠ "__name__" := by decide) (hdb : (x == ("__debug__" : Str)) = false := by decide)
    (he : starEach (e :: es) X.env = (false, eval e X.env) :: starEach es X.env := by rfl) (hpl : (backTo pos (starEach es X.env)).any (·.1) = false := by rfl) : DE T W X (.Call (.Name x p) (e :: es) [] pos) (eArgs f ma) := by
  refine (pe_callB hc (show X.env.scope.names.lookup x = _ by rw [B.hsc]; exact hg) (by rw [B.mg]; exact hm) hv ha hn hdb he hpl).mono fun σ H Q h => ?_
  obtain ⟨w, en, μ, er, mr, ok⟩ := h
  refine (OkR.go (P := VReps T) er mr ok).imp fun xs H1 ⟨w1, vs, μ1, le1, mr1, p1, ok1⟩ => ?_
  exact hf w1 μ1 H1 xs vs Q _ mr1 p1 ok1
theorem de_ty (B : Bx T N sc k W X) {f : Fn} {id : String} {r : List V → Hp → VK → Prop} {x : Str} {p pos : Pos} {e : Expr} {es : List Expr} {ma : AM} (hc : CallR X (.type id) r) (hf : SndA T r f) (hg : sc.names.lookup x = some NameKind.globalImplicit) (hm : T.mg x = none)
    (hv : bootBuiltins x = some (.type id)) (ha : DA T W X (e :: es) ma) (hn : x ≠ "__name__" := by decide) (hdb : (x == ("__debug__" : Str)) = false := by decide)
    (he : starEach (e :: es) X.env = (false, eval e X.env) :: starEach es X.env := by rfl) (hpl : (backTo pos (starEach es X.env)).any (·.1) = false := by rfl) : DE T W X (.Call (.Name x p) (e :: es) [] pos) (eArgs f ma) := by
  refine (pe_callTy hc (show X.env.scope.names.lookup x = _ by rw [B.hsc]; exact hg) (by rw [B.mg]; exact hm) hv ha hn hdb he hpl).mono fun σ H Q h => ?_
  obtain ⟨w, en, μ, er, mr, ok⟩ := h
  refine (OkR.go (P := VReps T) er mr ok).imp fun xs H1 ⟨w1, vs, μ1, le1, mr1, p1, ok1⟩ => ?_
  exact hf w1 μ1 H1 xs vs Q _ mr1 p1 ok1
end
def lenV : Fn := fun vs m => match vs with
  | [.d (.str s)] => if 16777216 < s.length then .bad else .ok (.d (.int s.length)) m
  | [v] => match seqV m v with
    | some xs => .ok (.d (.int xs.length)) m
    | Option.none => .bad
  | _ => .bad
def absV : Fn := fun vs m => match vs with
  | [.d (.int i)] => .ok (.d (.int (if i < 0 then -i else i))) m
  | _ => .bad
def minV : Fn := fun vs m => match vs with
  | [.d (.int i), .d (.int j)] => .ok (.d (.int (if j < i then j else i))) m
  | _ => .bad
def maxV : Fn := fun vs m => match vs with
  | [.d (.int i), .d (.int j)] => .ok (.d (.int (if j > i then j else i))) m
  | _ => .bad
def intV : Fn := fun vs m => match vs with
  | [.d (.int i)] => .ok (.d (.int i)) m
  | [.d (.bool b)] => .ok (.d (.int (if b then 1 else 0))) m
  | _ => .bad
def listV (b : Bool) : Fn := fun vs m => match vs with
  | [v] => match seqV m v with
    | some xs => mkL b xs m
    | Option.none => .bad
  | _ => .bad
def tupleV : Fn := fun vs m => match vs with
  | [v] => match lstV m v with
    | some xs => mkT xs m
    | Option.none => match tupV v with
      | some _ => .ok v m
      | Option.none => .bad
  | _ => .bad
section
variable {T : Tbl} {X : Cx}
theorem reps1 {w : Wd} {xs : List V} {v : Val} (h : VReps T w xs [v]) : ∃ x, xs = [x] ∧ VRep T w x v := by
  cases h with
  | cons h t => cases t; exact ⟨_, rfl, h⟩
theorem reps2 {w : Wd} {xs : List V} {v u : Val} (h : VReps T w xs [v, u]) : ∃ x y, xs = [x, y] ∧ VRep T w x v ∧ VRep T w y u := by
  cases h with
  | cons h t =>
    cases t with
    | cons h2 t => cases t; exact ⟨_, _, rfl, h, h2⟩
theorem snd_len : SndA T (fun xs H Q => ∃ x n, xs = [x] ∧ LenV T.K x H n ∧ Q (.int n) H) lenV := by
  intro w m H xs vs Q E R r ok
  unfold lenV at ok
  split at ok
  · rename_i s
    obtain ⟨x, rfl, h⟩ := reps1 r
    split at ok
    · exact ok.elim
    · rename_i hl
      obtain rfl := h.str
      exact ⟨_, s.length, rfl, ⟨by rw [sizeLine_eq]; omega, rfl⟩, ok.ok R (rInt _)⟩
  · rename_i v _
    obtain ⟨x, rfl, h⟩ := reps1 r
    split at ok
    · rename_i us hu
      obtain ⟨a, ys, rfl, h1, h2⟩ := R.seq h hu
      refine ⟨_, ys.length, rfl, ?_, by rw [h2.length]; exact ok.ok R (rInt _)⟩
      rcases h1 with h1 | h1
      · exact .inl ⟨ys, h1, rfl⟩
      · exact .inr ⟨ys, h1, rfl⟩
    · exact ok.elim
  · exact ok.elim
theorem snd_abs : SndA T (fun xs H Q => ∃ i, xs = [.int i] ∧ Q (.int (if i < 0 then -i else i)) H) absV := by
  intro w m H xs vs Q E R r ok
  unfold absV at ok
  split at ok
  · rename_i i
    obtain ⟨x, rfl, h⟩ := reps1 r
    obtain rfl := h.int
    exact ⟨i, rfl, ok.ok R (rInt _)⟩
  · exact ok.elim
theorem snd_min : SndA T (fun xs H Q => ∃ i j, xs = [.int i, .int j] ∧ Q (.int (if j < i then j else i)) H) minV := by
  intro w m H xs vs Q E R r ok
  unfold minV at ok
  split at ok
  · rename_i i j
    obtain ⟨x, y, rfl, h, h'⟩ := reps2 r
    obtain rfl := h.int
    obtain rfl := h'.int
    exact ⟨i, j, rfl, ok.ok R (rInt _)⟩
  · exact ok.elim
theorem snd_int : SndA T (fun xs H Q => (∃ i, xs = [.int i] ∧ Q (.int i) H) ∨ ∃ k, xs = [.bl k] ∧ Q (.int (if k then 1 else 0)) H) intV := by
  intro w m H xs vs Q E R r ok
  unfold intV at ok
  split at ok
  · rename_i i
    obtain ⟨x, rfl, h⟩ := reps1 r
    obtain rfl := h.int
    exact .inl ⟨i, rfl, ok.ok R (rInt _)⟩
  · rename_i b
    obtain ⟨x, rfl, h⟩ := reps1 r
    obtain rfl := h.bl
    exact .inr ⟨b, rfl, ok.ok R (rInt _)⟩
  · exact ok.elim
theorem snd_list (b : Bool) : SndA T (fun xs H Q => ∃ p ys, xs = [.ref p] ∧ (SqL T.K H p ys ∨ SqT T.K H p ys) ∧ ∀ l, H l = none → Q (.ref l) (upd H l (.lst ys))) (listV b) := by
  intro w m H xs vs Q E R r ok
  unfold listV at ok
  split at ok
  · rename_i v
    obtain ⟨x, rfl, h⟩ := reps1 r
    split at ok
    · rename_i us hu
      obtain ⟨a, ys, rfl, h1, h2⟩ := R.seq h hu
      exact ⟨a, ys, rfl, h1, (mkL_ok R h2 ok).2⟩
    · exact ok.elim
  · exact ok.elim
theorem snd_tuple : SndA T (fun xs H Q => ∃ p ys, xs = [.ref p] ∧ ((SqL T.K H p ys ∧ ∀ l, H l = none → Q (.ref l) (upd H l (.tup ys))) ∨ (SqT T.K H p ys ∧ Q (.ref p) H))) tupleV := by
  intro w m H xs vs Q E R r ok
  unfold tupleV at ok
  split at ok
  · rename_i v
    obtain ⟨x, rfl, h⟩ := reps1 r
    split at ok
    · rename_i us hu
      obtain ⟨a, ys, rfl, h1, h2⟩ := R.lst h hu
      exact ⟨a, ys, rfl, .inl ⟨.of h1, (mkT_ok R h2 ok).2⟩⟩
    · split at ok
      · rename_i us hu
        obtain ⟨a, ys, rfl, h1, h2⟩ := R.tup h hu
        exact ⟨a, ys, rfl, .inr ⟨h1, ok.ok R h⟩⟩
      · exact ok.elim
  · exact ok.elim
end
def kind (m : Mem) : Val → Option String
  | .d .none => some "NoneType"
  | .d (.bool _) => some "bool"
  | .d (.int _) => some "int"
  | .d (.str _) => some "str"
  | .d (.list _) => some "list"
  | .d (.tup _) => some "tuple"
  | .d (.dk _) => some "dict"
  | .d (.dt _) => some "dict"
  | .tup _ => some "tuple"
  | .loc l => match m[l]? with
    | some (.lst _) => some "list"
    | some (.dk _) => some "dict"
    | some (.dt _) => some "dict"
    | _ => Option.none
  | _ => Option.none
def subK (a b : String) : Bool := a == b || (a == "bool" && b == "int")
def kinds : List String := ["NoneType", "bool", "int", "str", "list", "tuple", "dict"]
theorem kit_all : (kinds.all fun a => ["bool", "int", "str", "list", "tuple", "dict"].all fun b => kitB a b == some (subK a b)) = true := by decide +kernel
theorem kit_sub {K : PySem.W.Frag} {a b : String} (ha : a ∈ kinds) (hb : b ∈ ["bool", "int", "str", "list", "tuple", "dict"]) : PySem.W.kitOne K (.type a) (.type b) = some (subK a b) := by
  have h := List.all_eq_true.mp (List.all_eq_true.mp kit_all a ha) b hb
  exact kit_ty (eq_of_beq h)
def eIsi (b : String) (a : EM) : EM := fun e μ => (a e μ).bind fun x μ => match kind μ x with
  | some t => .ok (.d (.bool (subK t b))) μ
  | Option.none => .bad
section
variable {T : Tbl} {N : List Str} {sc : Scope} {k : Nat} {W : WX} {X : Cx}
theorem tupTy {K : PySem.W.Frag} {H : Hp} {a : Addr} {xs : List V} (h : SqT K H a xs) : TyX K H (.ref a) (.type "tuple") := by
  rcases h with (h | ⟨o, h⟩) | ⟨o, its, n, h1, h2, _⟩
  · exact .base (.tup h)
  · exact .fTuple h
  · exact .kTuple h1 h2
theorem kind_ok {w : Wd} {m : Mem} {H : Hp} {x : V} {v : Val} {t : String} (R : MRel T w m H) (h : VRep T w x v) (e : kind m v = some t) : TyX T.K H x (.type t) ∧ t ∈ kinds := by
  cases h with
  | d h =>
    cases h with
    | non => cases e; exact ⟨.base .non, by decide⟩
    | bl b => cases e; exact ⟨.base (.bl b), by decide⟩
    | int i => cases e; exact ⟨.base (.int i), by decide⟩
    | str s => cases e; exact ⟨.base (.str s), by decide⟩
    | lst h r => cases e; exact ⟨.base (.lst (R.sub _ _ h)), by decide⟩
    | tup h r => cases e; exact ⟨tupTy (R.sub.sqT h), by decide⟩
    | dk h r => cases e; exact ⟨.base (.dK (R.sub _ _ h)), by decide⟩
    | dt h r => cases e; exact ⟨.base (.dT (R.sub _ _ h)), by decide⟩
    | ins _ _ _ _ _ => cases e
    | slo _ _ _ _ => cases e
    | lf _ => cases e
  | @loc l a h =>
    have e : (match m[l]? with
      | some (.lst _) => some "list"
      | some (.dk _) => some "dict"
      | some (.dt _) => some "dict"
      | _ => Option.none) = some t := e
    split at e
    · rename_i q
      cases e
      obtain ⟨_, xs, h1, _⟩ := R.cell l a _ h q
      exact ⟨.base (.lst h1), by decide⟩
    · rename_i q
      cases e
      obtain ⟨_, xs, h1, _⟩ := R.cell l a _ h q
      exact ⟨.base (.dK h1), by decide⟩
    · rename_i q
      cases e
      obtain ⟨_, xs, h1, _⟩ := R.cell l a _ h q
      exact ⟨.base (.dT h1), by decide⟩
    · cases e
  | tup h r => cases e; exact ⟨.base (.tup (R.sub _ _ h)), by decide⟩
  | obj _ _ _ _ _ => cases e
  | slo _ _ _ _ => cases e
  | ro _ => cases e
theorem de_isi (B : Bx T N sc k W X) (b : String) {p p2 pos : Pos} {y : Str} {e : Expr} {me : EM} (he : DE T W X e me) (hg : sc.names.lookup ("isinstance" : Str) = some NameKind.globalImplicit) (hm : T.mg ("isinstance" : Str) = none) (hg2 : sc.names.lookup y = some NameKind.globalImplicit) (hm2 : T.mg y = none)
    (hv : bootBuiltins y = some (.type b)) (hb : b ∈ ["bool", "int", "str", "list", "tuple", "dict"]) (hn : y ≠ "__name__" := by decide) (hdb : (y == ("__debug__" : Str)) = false := by decide)
    (hs : starEach [e, .Name y p2] X.env = (false, eval e X.env) :: starEach [.Name y p2] X.env := by rfl) : DE T W X (.Call (.Name "isinstance" p) [e, .Name y p2] [] pos) (eIsi b me) := by
  have p2 : PE X (.Name y p2) (tC (.ty b)) := pe_bltn (show X.env.scope.names.lookup y = _ by rw [B.hsc]; exact hg2) (by rw [B.mg]; exact hm2) hv rfl hn hdb
  refine (pe_callB call_isi (show X.env.scope.names.lookup _ = _ by rw [B.hsc]; exact hg) (by rw [B.mg]; exact hm) PyProof.Rows.boot_isinstance (pa_cons he (pa_cons p2 pa_nil) hs) (he := hs)).mono fun σ H Q h => ?_
  obtain ⟨w, en, μ, er, mr, ok⟩ := h
  refine (OkR.go (P := VRep T) er mr ok).imp fun x H1 ⟨w1, v, μ1, le1, mr1, p1, ok1⟩ => ?_
  have ok1 : OkR T (VRep T) w1 (match kind μ1 v with
    | some t => .ok (.d (.bool (subK t b))) μ1
    | Option.none => .bad) Q (fun c d H' => W c d σ H') := ok1
  split at ok1
  · rename_i t ht
    obtain ⟨h1, h2⟩ := kind_ok mr1 p1 ht
    exact ⟨x, .ty b, _, _, _, rfl, .ty b, by rw [B.K]; exact h1, kit_sub h2 hb, ok1.ok mr1 (rBool _)⟩
  · exact ok1.elim
end
def idxV (x y : Val) (m : Mem) : Res Val := match x, y with
  | .d (.str z), .d (.int i) => if 16777216 < z.length then .bad else match atI z.cps.toList i with
    | some c => .ok (.d (.str ⟨#[c]⟩)) m
    | Option.none => .bad
  | x, .d (.int i) => match (seqV m x).bind fun xs => atI xs i with
    | some v => .ok (norm m v) m
    | Option.none => .bad
  | _, _ => .bad
section
variable {T : Tbl} {N : List Str} {sc : Scope} {k : Nat} {W : WX} {X : Cx}
theorem VReps.atI {w : Wd} {xs : List V} {vs : List Val} {i : Int} {v : Val} (r : VReps T w xs vs) (h : L2.atI vs i = some v) : ∃ x, L2.atI xs i = some x ∧ VRep T w x v := by
  unfold L2.atI at h ⊢
  obtain ⟨j, h1, h2⟩ := Option.bind_eq_some_iff.mp h
  obtain ⟨x, h3, h4⟩ := r.get h2
  exact ⟨x, Option.bind_eq_some_iff.mpr ⟨j, by rw [r.length]; exact h1, h3⟩, h4⟩
theorem snd_idx : Snd2 T (rIx T.K) idxV := by
  intro w m H x y v u Q E R rx ry ok
  unfold idxV at ok
  split at ok
  · rename_i z i
    split at ok
    · exact ok.elim
    · rename_i hl
      split at ok
      · rename_i c hc
        exact .inr (.inr ⟨z, i, c, rx.str, ry.int, by rw [sizeLine_eq]; omega, hc, ok.ok R (rStr _)⟩)
      · exact ok.elim
  · rename_i i _
    split at ok
    · rename_i v' hv
      obtain ⟨us, h1, h2⟩ := Option.bind_eq_some_iff.mp hv
      obtain ⟨a, ys, rfl, h3, h4⟩ := R.seq rx h1
      obtain ⟨x, h5, h6⟩ := h4.atI h2
      have q := ok.ok R (h6.norm R)
      rcases h3 with h3 | h3
      · exact .inl ⟨a, ys, i, x, rfl, ry.int, h3, h5, q⟩
      · exact .inr (.inl ⟨a, ys, i, x, rfl, ry.int, h3, h5, q⟩)
    · exact ok.elim
  · exact ok.elim
theorem de_idx (B : Bx T N sc k W X) {a b : Expr} {ma mb : EM} {pos : Pos} (ha : DE T W X a ma) (hb : DE T W X b mb) (hs : PlainIx b := by intro _ _; rfl) : DE T W X (.Subscript a b pos) (eBin idxV ma mb) :=
  (pe_ix ix_seq ha hb hs).mono fun σ H Q h => rd_bin (by rw [B.K]; exact snd_idx) h
abbrev OM := Env → Mem → Res (Option Int)
def oNone : OM := fun _ μ => .ok Option.none μ
def asI : Val → Option Int
  | .d (.int i) => some i
  | _ => Option.none
def oSome (a : EM) : OM := fun e μ => (a e μ).bind fun x μ => match asI x with
  | some i => .ok (some i) μ
  | Option.none => .bad
theorem asI_rep {T : Tbl} {w : Wd} {x : V} {v : Val} {i : Int} (h : VRep T w x v) (e : asI v = some i) : x = .int i := by
  cases h with
  | d h =>
    cases h with
    | int c =>
      cases e
      rfl
    | _ => cases e
  | _ => cases e
def ORep : Wd → Option Int → Option Int → Prop := fun _ a b => a = b
abbrev DO (T : Tbl) (W : WX) (X : Cx) (e : Option Expr) (m : OM) : Prop := PO X e (rdG T ORep W m)
theorem _root_.L2.PO.mono {X : Cx} {e : Option Expr} {t t' : TO} (h : PO X e t) (k : ∀ σ H Q, t' σ H Q → t σ H Q) : PO X e t' := ⟨fun pins s σ H Q I q => h.run pins s σ H Q I (k σ H Q q)⟩
theorem do_none : DO T W X none oNone := po_none.mono fun σ H Q h => by
  obtain ⟨w, e, μ, er, mr, ok⟩ := h
  exact ok w H none (Wd.Le.refl _) mr rfl
theorem do_some {e : Expr} {me : EM} (he : DE T W X e me) : DO T W X (some e) (oSome me) := by
  refine (po_some he).mono fun σ H Q h => ?_
  obtain ⟨w, e, μ, er, mr, ok⟩ := h
  refine (OkR.go (P := VRep T) er mr ok).imp fun x H1 ⟨w1, v, μ1, le1, mr1, p1, ok1⟩ => ?_
  have ok1 : OkR T ORep w1 (match asI v with
    | some i => .ok (some i) μ1
    | Option.none => .bad) Q (fun c d H' => W c d σ H') := ok1
  split at ok1
  · rename_i i hi
    exact ⟨i, asI_rep p1 hi, ok1 w1 H1 _ (Wd.Le.refl _) mr1 rfl⟩
  · exact ok1.elim
def cutL (xs : List Val) (lo hi : Option Int) : List Val := (xs.drop (HT.sIx xs.length 0 lo)).take (HT.sIx xs.length xs.length hi - HT.sIx xs.length 0 lo)
def slcV (b : Bool) (x : Val) (lo hi : Option Int) (m : Mem) : Res Val := match x with
  | .d (.str z) => if 16777216 < z.length then .bad else .ok (.d (.str (cutS z lo hi))) m
  | x => match lstV m x with
    | some xs => mkL b (cutL xs lo hi) m
    | Option.none => match tupV x with
      | some xs => if HT.sIx xs.length 0 lo = 0 ∧ HT.sIx xs.length xs.length hi = xs.length then .ok x m else mkT (cutL xs lo hi) m
      | Option.none => .bad
def eSlc (b : Bool) (a : EM) (lo hi : OM) : EM := fun e μ => (a e μ).bind fun x μ => (lo e μ).bind fun l μ => (hi e μ).bind fun h μ => slcV b x l h μ
theorem VReps.cutL {w : Wd} {xs : List V} {vs : List Val} (r : VReps T w xs vs) (lo hi : Option Int) : VReps T w (cutV xs lo hi) (Fs.cutL vs lo hi) := by
  unfold cutV Fs.cutL
  rw [r.length]
  exact (r.drop _).take _
theorem de_slc (B : Bx T N sc k W X) (b : Bool) {e : Expr} {lo hi : Option Expr} {me : EM} {ml mh : OM} {pos p2 : Pos} (he : DE T W X e me) (hl : DO T W X lo ml) (hh : DO T W X hi mh) : DE T W X (.Subscript e (.Slice lo hi none p2) pos) (eSlc b me ml mh) := by
  refine (pe_slice (SlR.or sl_str (SlR.or sl_list sl_tupA)) he hl hh).mono fun σ H Q h => ?_
  obtain ⟨w, en, μ, er, mr, ok⟩ := h
  refine (OkR.go (P := VRep T) er mr ok).imp fun x H1 ⟨w1, v, μ1, le1, mr1, p1, ok1⟩ => ?_
  refine (OkR.go (P := ORep) (er.mono le1) mr1 ok1).imp fun l H2 ⟨w2, l', μ2, le2, mr2, p2, ok2⟩ => ?_
  obtain rfl : l = l' := p2
  refine (OkR.go (P := ORep) ((er.mono le1).mono le2) mr2 ok2).imp fun u H3 ⟨w3, u', μ3, le3, mr3, p3, ok3⟩ => ?_
  obtain rfl : u = u' := p3
  have p4 := (p1.mono le2).mono le3
  clear ok1 ok2 ok
  unfold slcV at ok3
  split at ok3
  · split at ok3
    · exact ok3.elim
    · rename_i hz
      exact .inl ⟨_, p4.str, by rw [sizeLine_eq]; omega, ok3.ok mr3 (rStr _)⟩
  · split at ok3
    · rename_i us hu
      obtain ⟨a, ys, rfl, h1, h2⟩ := mr3.lst p4 hu
      exact .inr (.inl ⟨a, ys, rfl, .of h1, (mkL_ok mr3 (h2.cutL l u) ok3).2⟩)
    · split at ok3
      · rename_i us hu
        obtain ⟨a, ys, rfl, h1, h2⟩ := mr3.tup p4 hu
        refine .inr (.inr ⟨a, ys, rfl, by rw [B.K]; exact h1, fun z => ?_, fun z => ?_⟩)
        · rw [h2.length] at z
          rw [if_pos z] at ok3
          exact ok3.ok mr3 p4
        · rw [h2.length] at z
          rw [if_neg z] at ok3
          exact (mkT_ok mr3 (h2.cutL l u) ok3).2
      · exact ok3.elim
end
def eBm (ty : Mem → Val → Bool) (f : Val → List Val → Mem → Res Val) (a : EM) (b : AM) : EM := fun e μ => (a e μ).bind fun x μ => if ty μ x = true then (b e μ).bind fun xs μ => f x xs μ else .bad
def isL (m : Mem) (v : Val) : Bool := (lstV m v).isSome
def isS (_ : Mem) (v : Val) : Bool := match v with
  | .d (.str _) => true
  | _ => false
def SndM (T : Tbl) (r : V → List V → Hp → VK → Prop) (f : Val → List Val → Mem → Res Val) : Prop := ∀ (w : Wd) (m : Mem) (H : Hp) (x : V) (v : Val) (xs : List V) (vs : List Val) (Q : VK) (E : XK), MRel T w m H → VRep T w x v → VReps T w xs vs → OkR T (VRep T) w (f v vs m) Q E → r x xs H Q
def SndTy (T : Tbl) (id : String) (ty : Mem → Val → Bool) : Prop := ∀ (w : Wd) (m : Mem) (H : Hp) (x : V) (v : Val), MRel T w m H → VRep T w x v → ty m v = true → tyV T.K id x H
section
variable {T : Tbl} {N : List Str} {sc : Scope} {k : Nat} {W : WX} {X : Cx}
theorem ty_list : SndTy T "list" isL := by
  intro w m H x v R r h
  obtain ⟨us, hu⟩ := Option.isSome_iff_exists.mp h
  obtain ⟨a, ys, rfl, h1, h2⟩ := R.lst r hu
  exact .inl ⟨rfl, ys, .of h1⟩
theorem de_bm (B : Bx T N sc k W X) {ty : Mem → Val → Bool} {f : Val → List Val → Mem → Res Val} {Ty id : String} {name : Str} {r : V → List V → Hp → VK → Prop} {o e : Expr} {es : List Expr} {mo : EM} {ma : AM} {apos cpos : Pos}
    (pa : PlainAttrs Ty) (slot : Slot Ty name id) (hty : typeOf (.builtin id) = pure (.type "method_descriptor")) (hm : MtR X id r) (ht : SndTy T Ty ty) (hf : SndM T r f) (ho : DE T W X o mo) (ha : DA T W X (e :: es) ma)
    (hbase : attributeBase o name X.env (eval o X.env) = eval o X.env := by rfl)
    (hfew : ((backTo cpos (starEach (e :: es) X.env)).all (fun x => !x.1) && (backToKw cpos (keywordEach [] X.env)).all (fun x => x.1.isSome)
      && decide ((e :: es).length + ([] : List Keyword).length + (if ([] : List Keyword).isEmpty then 0 else 1) < 30)) = true := by rfl)
    (hline : (apos.endLine == cpos.line) = true := by rfl) (hs : starEach (e :: es) X.env = (false, eval e X.env) :: starEach es X.env := by rfl) (hplain : (backTo cpos (starEach es X.env)).any (·.1) = false := by rfl) :
    DE T W X (.Call (.Attribute o name apos) (e :: es) [] cpos) (eBm ty f mo ma) := by
  refine (pe_bm pa slot hty hm ho ha hbase hfew hline hs hplain).mono fun σ H Q h => ?_
  obtain ⟨w, en, μ, er, mr, ok⟩ := h
  refine (OkR.go (P := VRep T) er mr ok).imp fun x H1 ⟨w1, v, μ1, le1, mr1, p1, ok1⟩ => ?_
  have ok1 : OkR T (VRep T) w1 (if ty μ1 v = true then (ma en μ1).bind fun xs μ => f v xs μ else .bad) Q (fun c d H' => W c d σ H') := ok1
  split at ok1
  · rename_i ht'
    refine ⟨by rw [B.K]; exact ht w1 μ1 H1 x v mr1 p1 ht', ?_⟩
    refine (OkR.go (P := VReps T) (er.mono le1) mr1 ok1).imp fun xs H2 ⟨w2, vs, μ2, le2, mr2, p2, ok2⟩ => ?_
    exact hf w2 μ2 H2 x v xs vs Q _ mr2 (p1.mono le2) p2 ok2
  · exact ok1.elim
def atL (m : Mem) (v : Val) : Option (Nat × List Val) := match v with
  | .loc l => match m[l]? with
    | some (.lst vs) => some (l, vs)
    | _ => Option.none
  | _ => Option.none
theorem atL_ok {w : Wd} {m : Mem} {H : Hp} {x : V} {v : Val} {l : Nat} {vs : List Val} (R : MRel T w m H) (h : VRep T w x v) (e : atL m v = some (l, vs)) : ∃ a xs, x = .ref a ∧ H a = some (.lst xs) ∧ VReps T w xs vs ∧ xs.length ≤ xs.length ∧
    ∀ {ys : List V} {us : List Val}, VReps T w ys us → MRel T w (m.set l (.lst us)) (upd H a (.lst ys)) := by
  cases h with
  | @loc l' a h =>
    have e : (match m[l']? with
      | some (.lst vs) => some (l', vs)
      | _ => Option.none) = some (l, vs) := e
    split at e
    · rename_i q
      cases e
      obtain ⟨f, xs, h1, h2⟩ := R.cell l a _ h q
      exact ⟨a, xs, rfl, h1, h2, Nat.le_refl _, fun r => R.write h f ⟨f, _, upd_same, r⟩⟩
    · cases e
  | _ => cases e
def appV (x : Val) (vs : List Val) (m : Mem) : Res Val := match atL m x, vs with
  | some (l, us), [v] => if us.length < 16777216 then .ok (.d .none) (m.set l (.lst (us ++ [v]))) else .bad
  | _, _ => .bad
def popAtV (x : Val) (vs : List Val) (m : Mem) : Res Val := match atL m x, vs with
  | some (l, us), [.d (.int i)] => if 0 ≤ i ∧ i < us.length ∧ us.length ≤ 16777216 then (match us[i.toNat]? with
    | some v => .ok v (m.set l (.lst (us.eraseIdx i.toNat)))
    | Option.none => .bad) else .bad
  | _, _ => .bad
def insV (x : Val) (vs : List Val) (m : Mem) : Res Val := match atL m x, vs with
  | some (l, us), [.d (.int i), v] => if us.length < 16777216 ∧ 0 ≤ i ∧ i < 2 ^ 63 then .ok (.d .none) (m.set l (.lst (us.take i.toNat ++ [v] ++ us.drop i.toNat))) else .bad
  | _, _ => .bad
theorem snd_app : SndM T rAppend appV := by
  intro w m H x v xs vs Q E R r rs ok
  unfold appV at ok
  split at ok
  · rename_i l us u hl
    obtain ⟨a, ys, rfl, h1, h2, _, h3⟩ := atL_ok R r hl
    obtain ⟨y, rfl, h4⟩ := reps1 rs
    split at ok
    · rename_i hz
      exact ⟨a, ys, y, rfl, rfl, h1, by rw [h2.length, sizeLine_eq]; exact hz, ok.ok (h3 (h2.append (.cons h4 .nil))) rNone⟩
    · exact ok.elim
  · exact ok.elim
theorem snd_popAt : SndM T rPopAt popAtV := by
  intro w m H x v xs vs Q E R r rs ok
  unfold popAtV at ok
  split at ok
  · rename_i l us i hl
    obtain ⟨a, ys, rfl, h1, h2, _, h3⟩ := atL_ok R r hl
    obtain ⟨y, rfl, h4⟩ := reps1 rs
    obtain rfl := h4.int
    split at ok
    · rename_i hi
      split at ok
      · rename_i u hu
        obtain ⟨z, h5, h6⟩ := h2.get hu
        refine ⟨a, ys, i, i.toNat, z, rfl, rfl, h1, by omega, by omega, ?_, h5, ok.ok (h3 (h2.erase _)) h6⟩
        exact PySem.StrLaws.seqIndex_nonneg hi.1 (by rw [h2.length]; exact hi.2.1)
      · exact ok.elim
    · exact ok.elim
  · exact ok.elim
theorem VReps.dropLast {w : Wd} : ∀ {xs : List V} {us : List Val}, VReps T w xs us → VReps T w xs.dropLast us.dropLast
  | _, _, .nil => .nil
  | _, _, .cons _ .nil => .nil
  | _, _, .cons h (.cons h2 t) => .cons h (VReps.dropLast (.cons h2 t))
theorem snd_ins : SndM T (fun x vs H Q => ∃ (l : Addr) (xs : List V) (i : Int) (y : V), x = .ref l ∧ vs = [.int i, y] ∧ H l = some (.lst xs) ∧ xs.length < sizeLine ∧ 0 ≤ i ∧ i < 2 ^ 63 ∧
    Q .non (upd H l (.lst (xs.take i.toNat ++ [y] ++ xs.drop i.toNat)))) insV := by
  intro w m H x v xs vs Q E R r rs ok
  unfold insV at ok
  split at ok
  · rename_i l us i u hl
    obtain ⟨a, ys, rfl, h1, h2, _, h3⟩ := atL_ok R r hl
    obtain ⟨y, z, rfl, h4, h5⟩ := reps2 rs
    obtain rfl := h4.int
    split at ok
    · rename_i hz
      exact ⟨a, ys, i, z, rfl, rfl, h1, by rw [h2.length, sizeLine_eq]; exact hz.1, hz.2.1, hz.2.2, ok.ok (h3 (((h2.take _).append (.cons h5 .nil)).append (h2.drop _))) rNone⟩
    · exact ok.elim
  · exact ok.elim
def asS : Val → Option Str
  | .d (.str s) => some s
  | _ => Option.none
def setIx (x y v : Val) (e : Env) (m : Mem) : SRes := match atL m x, y with
  | some (l, us), .d (.int i) => (match ixN us.length i with
    | some j => .next e (m.set l (.lst (us.set j v)))
    | Option.none => .bad)
  | _, _ => .bad
def sSetIx (a b c : EM) : SM := fun e m => (c e m).st e fun v m => (a e m).st e fun x m => (b e m).st e fun y m => setIx x y v e m
theorem ds_setIx {o i e : Expr} {mo mi me : EM} {pos p2 : Pos} (ho : DE T W X o mo) (hi : DE T W X i mi) (he : DE T W X e me) (hs : swapsWithSole [.Subscript o i p2] e pos.line X.env = pure false := by rfl) (hw : swappedStores [.Subscript o i p2] e X.env = pure none := by rfl)
    (h1 : (assignEach [.Subscript o i p2] X.env).map (·.2) = [assign (.Subscript o i p2) X.env] := by rfl)
    (ha : ∀ v, assign (.Subscript o i p2) X.env v = (do
      let ov ← holding [v] (eval o X.env)
      let iv ← holding [v, ov] (eval i X.env)
      standAt p2
      holding [v, ov, iv] (setItem ov iv v)
      release [v, ov, iv] []) := by intro _; rfl) : DS T W X (.Assign [.Subscript o i p2] e pos) (sSetIx mo mi me) := by
  refine (ps_asg he (pg_sub ho hi set_list ha) hs hw h1).mono fun D σ H h => ?_
  obtain ⟨w, en, μ, er, mr, ok⟩ := h
  refine (OkS.go (P := VRep T) er mr ok).imp fun x H1 ⟨w1, v, μ1, le1, mr1, p1, ok1⟩ => ?_
  refine (OkS.go (P := VRep T) (er.mono le1) mr1 ok1).imp fun y H2 ⟨w2, u, μ2, le2, mr2, p2, ok2⟩ => ?_
  refine (OkS.go (P := VRep T) ((er.mono le1).mono le2) mr2 ok2).imp fun z H3 ⟨w3, t, μ3, le3, mr3, p3, ok3⟩ => ?_
  have ok3 : OkS T w3 (setIx u t v en μ3) D W := ok3
  clear ok1 ok2 ok
  unfold setIx at ok3
  split at ok3
  · rename_i l us i' hl _
    obtain ⟨a, ys, rfl, h1, h2, _, h3⟩ := atL_ok mr3 (p2.mono le3) hl
    split at ok3
    · rename_i j hj
      refine ⟨a, ys, i', j, rfl, p3.int, h1, by rw [h2.length]; exact hj, ?_⟩
      exact ok3 w3 σ _ (Wd.Le.refl _) (((er.mono le1).mono le2).mono le3) (h3 (h2.set ((p1.mono le2).mono le3) j))
    · exact ok3.elim
  · exact ok3.elim
end
section
variable {T : Tbl} {N : List Str} {sc : Scope} {k : Nat} {W : WX} {X : Cx}
def iOf (f : Val → Mem → Option Its) (a : EM) : IM := fun e μ => (a e μ).bind fun x μ => match f x μ with
  | some i => .ok i μ
  | Option.none => .bad
def SndI (T : Tbl) (r : V → Hp → (It → Hp → Prop) → Prop) (f : Val → Mem → Option Its) : Prop := ∀ (w : Wd) (m : Mem) (H : Hp) (x : V) (v : Val) (i : Its) (R : It → Hp → Prop), MRel T w m H → VRep T w x v → f v m = some i → (∀ J, IterOk T w J i → R J H) → r x H R
theorem di_of {f : Val → Mem → Option Its} {r : V → Hp → (It → Hp → Prop) → Prop} {tg e e' : Expr} {me : EM} (h : ∀ te, PE X e te → PI X tg e' (fun σ H R => te σ H fun x H1 => r x H1 R)) (hf : SndI T r f) (he : DE T W X e me) : DI T W X tg e' (iOf f me) := by
  refine (h _ he).mono fun σ H R h => ?_
  obtain ⟨w, en, μ, er, mr, ok⟩ := h
  refine ⟨w, en, μ, er, mr, ?_⟩
  have ok : (match (me en μ).bind fun x μ => (match f x μ with
    | some i => (.ok i μ : Res Its)
    | Option.none => .bad) with
    | .ok it μ' => ∀ (w' : Wd) (H' : Hp) (J : It), w.Le w' → MRel T w' μ' H' → IterOk T w' J it → R J H'
    | .exc c p μ' => ∀ (w' : Wd) (H' : Hp) (cls : Value) (d : Option Addr), w.Le w' → MRel T w' μ' H' → XRep T w' H' cls d c p → W cls d σ H'
    | .bad => False) := ok
  cases hm : me en μ with
  | bad =>
    rw [hm] at ok
    exact ok
  | exc c p m =>
    rw [hm] at ok
    exact ok
  | ok v m =>
    rw [hm] at ok
    simp only [Res.bind_ok] at ok
    intro w' H' x le R' rx
    split at ok
    · rename_i it μ' q
      split at q
      · rename_i i hi
        cases q
        exact hf w' _ H' x v _ R R' rx hi fun J hJ => ok w' H' J le R' hJ
      · cases q
    · rename_i q
      split at q
      · cases q
      · cases q
    · exact ok.elim
end
end Fs
namespace Fs
open PySem PySem.Spec L2
section
variable {T : Tbl} {N : List Str} {sc : Scope} {k : Nat} {W : WX} {X : Cx}
def anyW (K : PySem.W.Frag) (x : V) (H : Hp) (R : It → Hp → Prop) : Prop :=
  (∃ a xs, x = .ref a ∧ SqL K H a xs ∧ R (Itl K a) H) ∨ (∃ a xs, x = .ref a ∧ SqT K H a xs ∧ R (Itt K a) H) ∨ ∃ z, x = .str z ∧ R (L2.Its z) H
theorem pi_any {X : Cx} {tg l : Expr} {tl : TE} (hl : PE X l tl) : PI X tg l (fun σ H R => tl σ H fun x H1 => anyW X.K x H1 R) := by
  refine ⟨fun pins s σ H R I h => thn (hl.run pins s σ H _ I h) fun v s1 ⟨x, H1, I1, r1, q1⟩ => ?_⟩
  rcases q1 with ⟨a, xs, e, hq, q⟩ | ⟨a, xs, e, hq, q⟩ | ⟨z, e, q⟩
  · subst e
    obtain rfl : v = Value.ref a := r1
    obtain ⟨its, rv, p, hz⟩ := I1.list hq
    exact wpAny_pyIter_list p.isList (pi_one (tk := s1.toks) I1 _ (turn_list a _) ⟨_, Heap.get?_push_size _ rfl, rfl, rfl⟩ q)
  · subst e
    obtain rfl : v = Value.ref a := r1
    obtain ⟨its, rv, p, hz⟩ := I1.tuple hq
    exact wpAny_pyIter_tuple (show s1.heap.IsTuple a its.toArray from p) (pi_one (tk := s1.toks) I1 _ (turn_tuple a _) ⟨_, Heap.get?_push_size _ rfl, rfl, rfl⟩ q)
  · subst e
    obtain ⟨t, rfl⟩ := r1
    by_cases ha : z.cps.all (· < 128) = true
    · exact wpAny_pyIter_ascii ha (pi_one (tk := s1.toks) I1 _ (turn_str _ z t "str_ascii_iterator" (.inl rfl)) ⟨_, Heap.get?_push_size _ rfl, rfl, rfl⟩ q)
    · exact wpAny_pyIter_wide (eq_false_of_ne_true ha) (pi_one (tk := s1.toks) I1 _ (turn_str _ z t "str_iterator" (.inr rfl)) ⟨_, Heap.get?_push_size _ rfl, rfl, rfl⟩ q)
def itA (v : Val) (m : Mem) : Option Its := match v with
  | .d (.str z) => some ⟨z.cps.toList.map fun c => .d (.str ⟨#[c]⟩), Option.none⟩
  | .loc l => (lstV m (.loc l)).map fun vs => ⟨vs, some (l, vs)⟩
  | v => (seqV m v).map fun vs => ⟨vs, Option.none⟩
theorem iter_lst {w : Wd} {a : Addr} {xs : List V} {vs : List Val} {g : Option (Nat × List Val)} (r : VReps T w xs vs)
    (h : ∀ (w' : Wd) (μ : Mem) (H : Hp), w.Le w' → MRel T w' μ H → GOk g μ → ∃ ys, SqL T.K H a ys ∧ VReps T w' ys vs) : IterOk T w (Itl T.K a) ⟨vs, g⟩ := by
  intro w1 i μ H le R gk
  obtain ⟨ys, h1, h2⟩ := h w1 μ H le R gk
  refine ⟨fun v hv => ?_, fun hl => ⟨ys, h1, by rw [h2.length]; exact Nat.le_of_eq hl⟩⟩
  obtain ⟨y, h3, h4⟩ := h2.get hv
  refine ⟨⟨ys, y, h1, h3⟩, fun x H' z => ?_⟩
  obtain ⟨rfl, q⟩ := z
  have e := q ys h1
  rw [h3] at e
  cases e
  exact ⟨w1, Wd.Le.refl _, R, h4⟩
theorem iter_tup {w : Wd} {a : Addr} {xs : List V} {vs : List Val} (r : VReps T w xs vs) (h : SqT T.K w.F a xs) : IterOk T w (Itt T.K a) ⟨vs, Option.none⟩ := by
  intro w1 i μ H le R _
  have h1 : SqT T.K H a xs := R.sub.sqT (le.F.sqT h)
  have h2 := r.mono le
  refine ⟨fun v hv => ?_, fun hl => ⟨xs, h1, by rw [h2.length]; exact Nat.le_of_eq hl⟩⟩
  obtain ⟨y, h3, h4⟩ := h2.get hv
  refine ⟨⟨xs, y, h1, h3⟩, fun x H' z => ?_⟩
  obtain ⟨rfl, q⟩ := z
  have e := q xs h1
  rw [h3] at e
  cases e
  exact ⟨w1, Wd.Le.refl _, R, h4⟩
theorem iter_str {w : Wd} {z : Str} : IterOk T w (L2.Its z) ⟨z.cps.toList.map fun c => .d (.str ⟨#[c]⟩), Option.none⟩ := by
  intro w1 i μ H le R _
  refine ⟨fun v hv => ?_, fun hl => ?_⟩
  · have hv : (z.cps.toList.map fun c => Val.d (.str ⟨#[c]⟩))[i]? = some v := hv
    rw [List.getElem?_map, Option.map_eq_some_iff] at hv
    obtain ⟨c, h1, rfl⟩ := hv
    rw [Array.getElem?_toList] at h1
    refine ⟨(Array.getElem?_eq_some_iff.mp h1).1, fun x H' y => ?_⟩
    obtain ⟨rfl, c', h2, rfl⟩ := y
    rw [h1] at h2
    cases h2
    exact ⟨w1, Wd.Le.refl _, R, .d (.str _)⟩
  · have hl : (z.cps.toList.map fun c => Val.d (.str ⟨#[c]⟩)).length = i := hl
    rw [List.length_map, Array.length_toList] at hl
    exact Nat.le_of_eq hl
theorem sndi_any : SndI T (anyW T.K) itA := by
  intro w m H x v i R mr rx hi hR
  cases rx with
  | d h =>
    cases h with
    | str z =>
      cases hi
      exact .inr (.inr ⟨z, rfl, hR _ iter_str⟩)
    | @lst a xs ds h r =>
      cases hi
      exact .inl ⟨a, xs, rfl, .of (mr.sub _ _ h), hR _ (iter_lst r.vals fun w' μ H le R' _ => ⟨xs, .of (R'.sub _ _ (le.F _ _ h)), r.vals.mono le⟩)⟩
    | @tup a xs ds h r =>
      cases hi
      exact .inr (.inl ⟨a, xs, rfl, mr.sub.sqT h, hR _ (iter_tup r.vals h)⟩)
    | _ => cases hi
  | @loc l a h =>
    obtain ⟨vs, h1, h2⟩ := Option.map_eq_some_iff.mp (show (lstV m (.loc l)).map _ = some i from hi)
    subst h2
    obtain ⟨b, xs, e, h3, h4⟩ := mr.lst (.loc h) h1
    cases e
    refine .inl ⟨a, xs, rfl, .of h3, hR _ (iter_lst h4 fun w' μ H le R' gk => ?_)⟩
    obtain ⟨_, ys, h5, h6⟩ := R'.cell l a _ (le.at h) (show μ[l]? = some (.lst vs) from gk)
    exact ⟨ys, .of h5, h6⟩
  | @tup a xs vs h r =>
    cases hi
    exact .inr (.inl ⟨a, xs, rfl, .of (mr.sub _ _ h), hR _ (iter_tup r (.of h))⟩)
  | obj h l d q r => cases hi
  | slo h d q r => cases hi
  | @ro a ns h =>
    cases hi
    refine .inl ⟨a, _, rfl, mr.sub.sqL h, hR _ (iter_lst (VReps.ints ns) fun w' μ H le R' _ => ⟨_, R'.sub.sqL (le.F.sqL h), (VReps.ints ns).mono le⟩)⟩
theorem di_any (B : Bx T N sc k W X) {tg e : Expr} {me : EM} (he : DE T W X e me) : DI T W X tg e (iOf itA me) :=
  di_of (r := anyW T.K) (fun te h => by rw [← B.K]; exact pi_any h) sndi_any he
def rngIts (lo : Int) (n : Nat) : Its := ⟨(List.range n).map fun i => .d (.int (lo + (i : Nat))), Option.none⟩
theorem iter_rng {w : Wd} {lo : Int} {n : Nat} : IterOk T w (Itr lo n) (rngIts lo n) := by
  intro w1 i μ H le R _
  refine ⟨fun v hv => ?_, fun hl => ?_⟩
  · have hv : ((List.range n).map fun i => Val.d (.int (lo + (i : Nat))))[i]? = some v := hv
    rw [List.getElem?_map, Option.map_eq_some_iff] at hv
    obtain ⟨j, h1, rfl⟩ := hv
    obtain ⟨h2, h3⟩ := List.getElem?_eq_some_iff.mp h1
    rw [List.getElem_range] at h3
    subst h3
    rw [List.length_range] at h2
    refine ⟨h2, fun x H' y => ?_⟩
    obtain ⟨rfl, rfl⟩ := y
    exact ⟨w1, Wd.Le.refl _, R, .d (.int _)⟩
  · have hl : ((List.range n).map fun i => Val.d (.int (lo + (i : Nat)))).length = i := hl
    rw [List.length_map, List.length_range] at hl
    exact Nat.le_of_eq hl
def iArg (f : List Val → Mem → Option Its) (a : AM) : IM := fun e μ => (a e μ).bind fun x μ => match f x μ with
  | some i => .ok i μ
  | Option.none => .bad
def SndIA (T : Tbl) (r : List V → Hp → (It → Hp → Prop) → Prop) (f : List Val → Mem → Option Its) : Prop := ∀ (w : Wd) (m : Mem) (H : Hp) (x : List V) (v : List Val) (i : Its) (R : It → Hp → Prop), MRel T w m H → VReps T w x v → f v m = some i → (∀ J, IterOk T w J i → R J H) → r x H R
theorem di_arg {f : List Val → Mem → Option Its} {r : List V → Hp → (It → Hp → Prop) → Prop} {tg e : Expr} {es : List Expr} {me : AM} (h : ∀ te, PA X es te → PI X tg e (fun σ H R => te σ H fun x H1 => r x H1 R)) (hf : SndIA T r f) (he : DA T W X es me) : DI T W X tg e (iArg f me) := by
  refine (h _ he).mono fun σ H R h => ?_
  obtain ⟨w, en, μ, er, mr, ok⟩ := h
  refine ⟨w, en, μ, er, mr, ?_⟩
  have ok : (match (me en μ).bind fun x μ => (match f x μ with
    | some i => (.ok i μ : Res Its)
    | Option.none => .bad) with
    | .ok it μ' => ∀ (w' : Wd) (H' : Hp) (J : It), w.Le w' → MRel T w' μ' H' → IterOk T w' J it → R J H'
    | .exc c p μ' => ∀ (w' : Wd) (H' : Hp) (cls : Value) (d : Option Addr), w.Le w' → MRel T w' μ' H' → XRep T w' H' cls d c p → W cls d σ H'
    | .bad => False) := ok
  cases hm : me en μ with
  | bad =>
    rw [hm] at ok
    exact ok
  | exc c p m =>
    rw [hm] at ok
    exact ok
  | ok v m =>
    rw [hm] at ok
    simp only [Res.bind_ok] at ok
    intro w' H' x le R' rx
    split at ok
    · rename_i it μ' q
      split at q
      · rename_i i hi
        cases q
        exact hf w' _ H' x v _ R R' rx hi fun J hJ => ok w' H' J le R' hJ
      · cases q
    · rename_i q
      split at q
      · cases q
      · cases q
    · exact ok.elim
def big : Int := 4611686018427387904
def rngA (vs : List Val) (_ : Mem) : Option Its := match vs with
  | [.d (.int j)] => if (-big ≤ j ∧ j < big) then some (rngIts 0 j.toNat) else Option.none
  | _ => Option.none
theorem sndi_rng1 : SndIA T (fun vs H R => ∃ j : Int, vs = [.int j] ∧ -(2 ^ 62) ≤ j ∧ j < 2 ^ 62 ∧ R (Itr 0 j.toNat) H) rngA := by
  intro w m H xs vs i R mr rx hi hR
  unfold rngA at hi
  split at hi
  · rename_i j
    obtain ⟨x, rfl, h⟩ := reps1 rx
    obtain rfl := h.int
    split at hi
    · rename_i h1
      cases hi
      unfold big at h1
      exact ⟨j, rfl, by omega, by omega, hR _ iter_rng⟩
    · cases hi
  · cases hi
theorem di_range1 (B : Bx T N sc k W X) {tg a : Expr} {ma : AM} {p pos : Pos} (hg : sc.names.lookup ("range" : Str) = some NameKind.globalImplicit) (hm : T.mg ("range" : Str) = none) (ha : DA T W X [a] ma) (hs : starEach [a] X.env = [(false, eval a X.env)] := by rfl) :
    DI T W X tg (.Call (.Name "range" p) [a] [] pos) (iArg rngA ma) :=
  di_arg (fun te h => pi_range1 (show X.env.scope.names.lookup _ = _ by rw [B.hsc]; exact hg) (by rw [B.mg]; exact hm) h hs) sndi_rng1 ha
theorem de_gl (B : Bx T N sc k W X) {x : Str} {pos : Pos} {u : Value} {v : V} {d : Data} (hg : sc.names.lookup x = some NameKind.globalImplicit) (hm : T.mg x = some u) (r : RelV v u) (h : ∀ F, DRep T F v d) (hd : (x == ("__debug__" : Str)) = false := by decide) : DE T W X (.Name x pos) (eC d) :=
  (pe_glob (show X.env.scope.names.lookup x = _ by rw [B.hsc]; exact hg) (by rw [B.mg]; exact hm) r hd).mono fun _ _ _ z => z.c h
end
end Fs
namespace Fs
open PySem PySem.Spec L2
structure Sk (sc : Scope) (L : List (Str × NameKind)) : Prop where
  all : (L.all fun p => sc.names.lookup p.1 == some p.2) = true
theorem Sk.at_ {sc : Scope} {L : List (Str × NameKind)} (S : Sk sc L) (i : Nat) {x : Str} {k : NameKind} (h : L[i]? = some (x, k)) : sc.names.lookup x = some k :=
  eq_of_beq (List.all_eq_true.mp S.all (x, k) (List.mem_of_getElem? h))
theorem Sk.vis {sc : Scope} {L : List (Str × NameKind)} (S : Sk sc L) (i : Nat) {x : Str} (h : L[i]? = some (x, NameKind.local)) : Vis sc x := .inl (S.at_ i h)
theorem Sk.visC {sc : Scope} {L : List (Str × NameKind)} (S : Sk sc L) (i : Nat) {x : Str} (h : L[i]? = some (x, NameKind.cell)) : Vis sc x := .inr (.inl (S.at_ i h))
structure Ev (T : Tbl) (fa : List He.Fa) (fn : List He.DefD) : Prop where
  says : He.SaysD fa fn T.K
  heap : ∃ h : Heap, T.K.In h ∧ h.Ns mainGlobals T.mg
section
variable {T : Tbl} {fa : List He.Fa} {fn : List He.DefD}
theorem Ev.fr (E : Ev T fa fn) (i : Nat) {x : Str} (h : fa[i]? = some (.free x)) : T.mg x = none := by
  obtain ⟨hp, h1, h2⟩ := E.heap
  exact He.free_ok h1 h2 (E.says.fact i h)
theorem Ev.gl (E : Ev T fa fn) (i : Nat) {x : Str} (h : fa[i]? = some (.glo x)) : T.mg x = some (.ref (He.fAd T.K (x, none))) := by
  obtain ⟨hp, h1, h2⟩ := E.heap
  exact He.glo_ok h1 h2 (E.says.fact i h)
theorem Ev.int (E : Ev T fa fn) (i : Nat) {x : Str} {j : Int} (h : fa[i]? = some (.int x j)) : ∃ u, T.mg x = some u ∧ RelV (.int j) u := by
  obtain ⟨hp, h1, h2⟩ := E.heap
  obtain ⟨t, e⟩ := He.int_ok h1 h2 (E.says.fact i h)
  exact ⟨_, e, t, rfl⟩
theorem Ev.str (E : Ev T fa fn) (i : Nat) {x z : Str} (h : fa[i]? = some (.str x z)) : ∃ u, T.mg x = some u ∧ RelV (.str z) u := by
  obtain ⟨hp, h1, h2⟩ := E.heap
  obtain ⟨t, e⟩ := He.str_ok h1 h2 (E.says.fact i h)
  exact ⟨_, e, t, rfl⟩
variable {N : List Str} {sc : Scope} {k : Nat} {W : WX} {X : Cx}
theorem de_gi (B : Bx T N sc k W X) (E : Ev T fa fn) (i : Nat) {x : Str} {pos : Pos} {j : Int} (hg : sc.names.lookup x = some NameKind.globalImplicit) (h : fa[i]? = some (.int x j)) (hd : (x == ("__debug__" : Str)) = false := by decide) : DE T W X (.Name x pos) (eC (.int j)) := by
  obtain ⟨u, e, r⟩ := E.int i h
  exact de_gl B hg e r (fun _ => .int j) hd
theorem de_gs (B : Bx T N sc k W X) (E : Ev T fa fn) (i : Nat) {x z : Str} {pos : Pos} (hg : sc.names.lookup x = some NameKind.globalImplicit) (h : fa[i]? = some (.str x z)) (hd : (x == ("__debug__" : Str)) = false := by decide) : DE T W X (.Name x pos) (eC (.str z)) := by
  obtain ⟨u, e, r⟩ := E.str i h
  exact de_gl B hg e r (fun _ => .str z) hd
end
end Fs
namespace Fs
open PySem PySem.Spec L2
section
variable {T : Tbl} {N : List Str} {sc : Scope} {k : Nat} {W : WX} {X : Cx}
theorem Bx.hu (B : Bx T N sc k W X) : X.A.units + 65 < cLine := by
  have := B.room.un
  omega
theorem Bx.hu1 (B : Bx T N sc k W X) : X.A.units + 64 < cLine := B.room.units
variable {a b e : Expr} {es : List Expr} {ma mb me : EM} {ms : AM} {pos apos p : Pos}
theorem de_add (B : Bx T N sc k W X) (f : Bool) (ha : DE T W X a ma) (hb : DE T W X b mb) : DE T W X (.BinOp a .Add b pos) (eBin (addV f) ma mb) := de_bin op_addV (by rw [B.K]; exact snd_add f) ha hb
theorem de_sub (ha : DE T W X a ma) (hb : DE T W X b mb) : DE T W X (.BinOp a .Sub b pos) (eBin (intOp subI) ma mb) := de_bin op_sub snd_sub ha hb
theorem de_mul (f : Bool) (ha : DE T W X a ma) (hb : DE T W X b mb) : DE T W X (.BinOp a .Mult b pos) (eBin (repV f) ma mb) := de_bin op_repM (snd_rep f) ha hb
theorem de_fdv (ha : DE T W X a ma) (hb : DE T W X b mb) : DE T W X (.BinOp a .FloorDiv b pos) (eBin (intOp fdvI) ma mb) := de_bin op_fdiv snd_fdv ha hb
theorem de_mod (ha : DE T W X a ma) (hb : DE T W X b mb) : DE T W X (.BinOp a .Mod b pos) (eBin (intOp modI) ma mb) := de_bin op_mod snd_mod ha hb
theorem de_pow (ha : DE T W X a ma) (hb : DE T W X b mb) : DE T W X (.BinOp a .Pow b pos) (eBin (intOp powI) ma mb) := de_bin op_pow snd_pow ha hb
theorem de_neg (ha : DE T W X a ma) : DE T W X (.UnaryOp .USub a pos) (eUn negV ma) := de_un un_neg snd_neg ha
structure CmpB (T : Tbl) (X : Cx) (op : CmpOp) (f : Val → Val → Mem → Res Val) : Prop where
  ex : ∃ r : R2, OpR X (compareOp op) r ∧ Snd2 T r f
def ltI (i j : Int) : Bool := decide (i < j)
def gtI (i j : Int) : Bool := decide (j < i)
def geI (i j : Int) : Bool := decide (j ≤ i)
theorem c_eq (B : Bx T N sc k W X) : CmpB T X .Eq (eqV false) := ⟨_, op_eqB B.hu1, by rw [B.K]; exact snd_eq⟩
theorem c_ne (B : Bx T N sc k W X) : CmpB T X .NotEq (eqV true) := ⟨_, op_neB B.hu1, by rw [B.K]; exact snd_ne⟩
theorem c_in (B : Bx T N sc k W X) : CmpB T X .In (inV false) := ⟨_, op_inV B.hu, by rw [B.K]; exact snd_in false⟩
theorem c_notIn (B : Bx T N sc k W X) : CmpB T X .NotIn (inV true) := ⟨_, op_notInV B.hu, by rw [B.K]; exact snd_in true⟩
theorem c_lt (B : Bx T N sc k W X) : CmpB T X .Lt (cmpI ltI) := ⟨_, op_lt, snd_cmpI ltI⟩
theorem c_gt (B : Bx T N sc k W X) : CmpB T X .Gt (cmpI gtI) := ⟨_, op_gt, snd_cmpI gtI⟩
theorem c_ge (B : Bx T N sc k W X) : CmpB T X .GtE (cmpI geI) := ⟨_, op_ge, snd_cmpI geI⟩
theorem c_is (B : Bx T N sc k W X) : CmpB T X .Is (isV false) := ⟨_, op_isN, snd_is⟩
theorem de_c {op : CmpOp} {f : Val → Val → Mem → Res Val} (c : CmpB T X op f) (ha : DE T W X a ma) (hb : DE T W X b mb) (hm : behindInMarks op b = false := by with_unfolding_all rfl) : DE T W X (.Compare a [op] [b] pos) (eBin f ma mb) := by
  obtain ⟨r, h1, h2⟩ := c.ex
  exact de_cmp h1 h2 ha hb hm
theorem dt_c {op : CmpOp} {f : Val → Val → Mem → Res Val} (c : CmpB T X op f) (ha : DE T W X a ma) (hb : DE T W X b mb) (hm : behindInMarks op b = false := by with_unfolding_all rfl) : DT T W X (.Compare a [op] [b] pos) (tOf (eBin f ma mb)) := by
  obtain ⟨r, h1, h2⟩ := c.ex
  refine (pt_cmpR h1 ha hb hm).mono fun σ H Q h => ?_
  refine rd_bin (f := f) (W := W) h2 ?_
  obtain ⟨w, e, μ, er, mr, ok⟩ := h
  refine (OkR.go (P := VRep T) er mr ok).imp fun x H1 ⟨w1, v, μ1, le1, mr1, p1, ok1⟩ => ?_
  have ok1 : OkR T BRep w1 (match asB v with
    | some b => .ok b μ1
    | Option.none => .bad) Q (fun c d H' => W c d σ H') := ok1
  split at ok1
  · rename_i b hb
    exact ⟨b, asB_rep p1 hb, ok1 w1 H1 b (Wd.Le.refl _) mr1 rfl⟩
  · exact ok1.elim
def eNot (a : EM) : EM := fun e μ => (a e μ).bind fun x μ => match asB x with
  | some b => .ok (.d (.bool (!b))) μ
  | Option.none => .bad
def eAnd (a b : EM) : EM := fun e μ => (a e μ).bind fun x μ => match asB x with
  | some c => if c = true then b e μ else .ok (.d (.bool false)) μ
  | Option.none => .bad
def eOr (a b : EM) : EM := fun e μ => (a e μ).bind fun x μ => match asB x with
  | some c => if c = true then .ok (.d (.bool true)) μ else b e μ
  | Option.none => .bad
theorem de_not (ha : DE T W X a ma) : DE T W X (.UnaryOp .Not a pos) (eNot ma) := by
  refine (pe_not ha).mono fun σ H Q h => ?_
  obtain ⟨w, e, μ, er, mr, ok⟩ := h
  refine (OkR.go (P := VRep T) er mr ok).imp fun x H1 ⟨w1, v, μ1, le1, mr1, p1, ok1⟩ => ?_
  have ok1 : OkR T (VRep T) w1 (match asB v with
    | some b => .ok (.d (.bool (!b))) μ1
    | Option.none => .bad) Q (fun c d H' => W c d σ H') := ok1
  split at ok1
  · rename_i b hb
    exact ⟨b, asB_rep p1 hb, ok1.ok mr1 (rBool _)⟩
  · exact ok1.elim
theorem de_one {op : BoolOp} (ha : DE T W X a ma) : DE T W X (.BoolOp op [a] pos) ma := pe_one ha
theorem de_and {rest : List Expr} (ha : DE T W X a ma) (hb : DE T W X (.BoolOp .And (b :: rest) pos) mb) : DE T W X (.BoolOp .And (a :: b :: rest) pos) (eAnd ma mb) := by
  refine (pe_and ha hb).mono fun σ H Q h => ?_
  obtain ⟨w, e, μ, er, mr, ok⟩ := h
  refine (OkR.go (P := VRep T) er mr ok).imp fun x H1 ⟨w1, v, μ1, le1, mr1, p1, ok1⟩ => ?_
  have ok1 : OkR T (VRep T) w1 (match asB v with
    | some c => if c = true then mb e μ1 else .ok (.d (.bool false)) μ1
    | Option.none => .bad) Q (fun c d H' => W c d σ H') := ok1
  split at ok1
  · rename_i b hb
    refine ⟨b, asB_rep p1 hb, ?_⟩
    cases b with
    | true => exact ⟨w1, e, μ1, er.mono le1, mr1, ok1⟩
    | false => exact ok1.ok mr1 (rBool _)
  · exact ok1.elim
theorem de_or {rest : List Expr} (ha : DE T W X a ma) (hb : DE T W X (.BoolOp .Or (b :: rest) pos) mb) : DE T W X (.BoolOp .Or (a :: b :: rest) pos) (eOr ma mb) := by
  refine (pe_or ha hb).mono fun σ H Q h => ?_
  obtain ⟨w, e, μ, er, mr, ok⟩ := h
  refine (OkR.go (P := VRep T) er mr ok).imp fun x H1 ⟨w1, v, μ1, le1, mr1, p1, ok1⟩ => ?_
  have ok1 : OkR T (VRep T) w1 (match asB v with
    | some c => if c = true then .ok (.d (.bool true)) μ1 else mb e μ1
    | Option.none => .bad) Q (fun c d H' => W c d σ H') := ok1
  split at ok1
  · rename_i b hb
    refine ⟨b, asB_rep p1 hb, ?_⟩
    cases b with
    | true => exact ok1.ok mr1 (rBool _)
    | false => exact ⟨w1, e, μ1, er.mono le1, mr1, ok1⟩
  · exact ok1.elim
theorem de_len (B : Bx T N sc k W X) (hg : sc.names.lookup ("len" : Str) = some NameKind.globalImplicit) (hm : T.mg ("len" : Str) = none) (ha : DA T W X (e :: es) ms) (he : starEach (e :: es) X.env = (false, eval e X.env) :: starEach es X.env := by rfl) (hpl : (backTo pos (starEach es X.env)).any (·.1) = false := by rfl) :
    DE T W X (.Call (.Name "len" p) (e :: es) [] pos) (eArgs lenV ms) := de_bi B call_len (by rw [B.K]; exact snd_len) hg hm PySem.boot_len ha (he := he) (hpl := hpl)
theorem de_abs (B : Bx T N sc k W X) (hg : sc.names.lookup ("abs" : Str) = some NameKind.globalImplicit) (hm : T.mg ("abs" : Str) = none) (ha : DA T W X (e :: es) ms) (he : starEach (e :: es) X.env = (false, eval e X.env) :: starEach es X.env := by rfl) (hpl : (backTo pos (starEach es X.env)).any (·.1) = false := by rfl) :
    DE T W X (.Call (.Name "abs" p) (e :: es) [] pos) (eArgs absV ms) := de_bi B call_abs snd_abs hg hm PyProof.Rows.boot_abs ha (he := he) (hpl := hpl)
theorem de_min (B : Bx T N sc k W X) (hg : sc.names.lookup ("min" : Str) = some NameKind.globalImplicit) (hm : T.mg ("min" : Str) = none) (ha : DA T W X (e :: es) ms) (he : starEach (e :: es) X.env = (false, eval e X.env) :: starEach es X.env := by rfl) (hpl : (backTo pos (starEach es X.env)).any (·.1) = false := by rfl) :
    DE T W X (.Call (.Name "min" p) (e :: es) [] pos) (eArgs minV ms) := de_bi B (call_min2 B.calm) snd_min hg hm PyProof.Rows.boot_min ha (he := he) (hpl := hpl)
theorem de_intC (B : Bx T N sc k W X) (hg : sc.names.lookup ("int" : Str) = some NameKind.globalImplicit) (hm : T.mg ("int" : Str) = none) (ha : DA T W X (e :: es) ms) (he : starEach (e :: es) X.env = (false, eval e X.env) :: starEach es X.env := by rfl) (hpl : (backTo pos (starEach es X.env)).any (·.1) = false := by rfl) :
    DE T W X (.Call (.Name "int" p) (e :: es) [] pos) (eArgs intV ms) := de_ty B call_int1 snd_int hg hm PyProof.Rows.boot_int ha (he := he) (hpl := hpl)
theorem de_listC (B : Bx T N sc k W X) (f : Bool) (hg : sc.names.lookup ("list" : Str) = some NameKind.globalImplicit) (hm : T.mg ("list" : Str) = none) (ha : DA T W X (e :: es) ms) (he : starEach (e :: es) X.env = (false, eval e X.env) :: starEach es X.env := by rfl) (hpl : (backTo pos (starEach es X.env)).any (·.1) = false := by rfl) :
    DE T W X (.Call (.Name "list" p) (e :: es) [] pos) (eArgs (listV f) ms) := de_ty B call_list_of (by rw [B.K]; exact snd_list f) hg hm PyProof.Rows.boot_list ha (he := he) (hpl := hpl)
theorem de_tupleC (B : Bx T N sc k W X) (hg : sc.names.lookup ("tuple" : Str) = some NameKind.globalImplicit) (hm : T.mg ("tuple" : Str) = none) (ha : DA T W X (e :: es) ms) (he : starEach (e :: es) X.env = (false, eval e X.env) :: starEach es X.env := by rfl) (hpl : (backTo pos (starEach es X.env)).any (·.1) = false := by rfl) :
    DE T W X (.Call (.Name "tuple" p) (e :: es) [] pos) (eArgs tupleV ms) := de_ty B call_tuple_of (by rw [B.K]; exact snd_tuple) hg hm PyProof.Rows.boot_tuple ha (he := he) (hpl := hpl)
variable {o : Expr} {mo : EM}
theorem de_app (B : Bx T N sc k W X) (ho : DE T W X o mo) (ha : DA T W X [e] ms) (hbase : attributeBase o "append" X.env (eval o X.env) = eval o X.env := by rfl) (hfew : ((backTo pos (starEach (e :: []) X.env)).all (fun x => !x.1) && (backToKw pos (keywordEach [] X.env)).all (fun x => x.1.isSome)
      && decide ((e :: []).length + ([] : List Keyword).length + (if ([] : List Keyword).isEmpty then 0 else 1) < 30)) = true := by rfl) (hs : starEach (e :: []) X.env = (false, eval e X.env) :: starEach [] X.env := by rfl) (hpl : (backTo pos (starEach [] X.env)).any (·.1) = false := by rfl) (hline : (apos.endLine == pos.line) = true := by rfl) :
    DE T W X (.Call (.Attribute o "append" apos) [e] [] pos) (eBm isL appV mo ms) := de_bm B PySem.F.plainAttrs_list PySem.F.slot_list_append PySem.F.type_list_append mt_append ty_list snd_app ho ha hbase hfew hline hs hpl
theorem de_popAt (B : Bx T N sc k W X) (ho : DE T W X o mo) (ha : DA T W X [e] ms) (hbase : attributeBase o "pop" X.env (eval o X.env) = eval o X.env := by rfl) (hfew : ((backTo pos (starEach (e :: []) X.env)).all (fun x => !x.1) && (backToKw pos (keywordEach [] X.env)).all (fun x => x.1.isSome)
      && decide ((e :: []).length + ([] : List Keyword).length + (if ([] : List Keyword).isEmpty then 0 else 1) < 30)) = true := by rfl) (hs : starEach (e :: []) X.env = (false, eval e X.env) :: starEach [] X.env := by rfl) (hpl : (backTo pos (starEach [] X.env)).any (·.1) = false := by rfl) (hline : (apos.endLine == pos.line) = true := by rfl) :
    DE T W X (.Call (.Attribute o "pop" apos) [e] [] pos) (eBm isL popAtV mo ms) := de_bm B PySem.F.plainAttrs_list PySem.F.slot_list_pop PySem.F.type_list_pop mt_popAt ty_list snd_popAt ho ha hbase hfew hline hs hpl
theorem de_ins (B : Bx T N sc k W X) (ho : DE T W X o mo) (ha : DA T W X [e, a] ms) (hbase : attributeBase o "insert" X.env (eval o X.env) = eval o X.env := by rfl) (hfew : ((backTo pos (starEach (e :: [a]) X.env)).all (fun x => !x.1) && (backToKw pos (keywordEach [] X.env)).all (fun x => x.1.isSome)
      && decide ((e :: [a]).length + ([] : List Keyword).length + (if ([] : List Keyword).isEmpty then 0 else 1) < 30)) = true := by rfl) (hs : starEach (e :: [a]) X.env = (false, eval e X.env) :: starEach [a] X.env := by rfl) (hpl : (backTo pos (starEach [a] X.env)).any (·.1) = false := by rfl) (hline : (apos.endLine == pos.line) = true := by rfl) :
    DE T W X (.Call (.Attribute o "insert" apos) [e, a] [] pos) (eBm isL insV mo ms) := de_bm B PySem.F.plainAttrs_list PySem.F.slot_list_insert PySem.F.type_list_insert mt_insert ty_list snd_ins ho ha hbase hfew hline hs hpl
end
end Fs
namespace Fs
open PySem PySem.Spec L2
def wipeE (e : Env) : List Nat → Env
  | [] => e
  | v :: vs => (wipeE e vs).set v none
theorem ERel.wipe {T : Tbl} {w : Wd} {σ : L2.St} {e : Env} (h : ERel T w σ e) : ∀ vs : List Nat, ERel T w (L2.wipe σ vs) (wipeE e vs)
  | [] => h
  | v :: vs => (ERel.wipe h vs).unset v
theorem wipe_in {σ : L2.St} {i : Nat} : ∀ {vs : List Nat}, i ∈ vs → (L2.wipe σ vs)[i]? = if i < σ.length then some none else Option.none
  | [], h => by cases h
  | v :: vs, h => by
    show ((L2.wipe σ vs).set v none)[i]? = _
    by_cases hi : v = i
    · subst hi
      by_cases hl : v < σ.length
      · rw [List.getElem?_set_self (by rw [wipe_length]; exact hl), if_pos hl]
      · rw [List.getElem?_eq_none (by simp [wipe_length]; omega), if_neg hl]
    · rw [List.getElem?_set_ne hi]
      rcases List.mem_cons.mp h with z | z
      · exact absurd z.symm hi
      · exact wipe_in z
theorem wipe_out {σ : L2.St} {i : Nat} : ∀ {vs : List Nat}, i ∉ vs → (L2.wipe σ vs)[i]? = σ[i]?
  | [], _ => rfl
  | v :: vs, h => by
    show ((L2.wipe σ vs).set v none)[i]? = _
    rw [List.getElem?_set_ne (fun z => h (by simp [z]))]
    exact wipe_out fun z => h (List.mem_cons_of_mem _ z)
theorem wipe_eq {σ τ : L2.St} {vs : List Nat} (hl : σ.length = τ.length) (h : ∀ i, i ∉ vs → σ[i]? = τ[i]?) : L2.wipe σ vs = L2.wipe τ vs := by
  apply List.ext_getElem?
  intro i
  by_cases hi : i ∈ vs
  · rw [wipe_in hi, wipe_in hi, hl]
  · rw [wipe_out hi, wipe_out hi, h i hi]
theorem wipe_idem (σ : L2.St) (vs : List Nat) : L2.wipe (L2.wipe σ vs) vs = L2.wipe σ vs :=
  wipe_eq (wipe_length _ _) fun i hi => wipe_out hi
def W0 : WX := fun _ _ _ _ => False
section
variable {T : Tbl} {N : List Str} {sc : Scope} {k : Nat} {W : WX} {X : Cx}
theorem Bx.blk (B : Bx T N sc k W X) (s : Shared) (H : Hp) (scope : Scope) (cl : List (Str × Addr)) (C : Addr) (fp : List Addr) : Bx T N (relS scope sc) k W0 (X.blk s H scope (compEnvC scope cl C X.env) fp) where
  P := B.P
  w := B.w
  K := B.K
  mg := B.mg
  base := B.base
  hN := B.hN
  hsc := by
    rw [← B.hsc]
    rfl
  nd := B.nd
  calm := B.calm
  room := B.room
  tk := by
    intro u s' z
    obtain ⟨_, _, _, _, _, _, _, _, _, _, _, _, _, _, _, _, z⟩ := z
    exact z
  po := PassesOwn.never
def rdGt (T : Tbl) (js : List Nat) (g : Val → Fs.Env → Option Fs.Env) : TG := fun v σ H Q => ∃ (w : Wd) (u : Val) (e e' : Fs.Env) (μ : Mem), VRep T w v u ∧ ERel T w σ e ∧ MRel T w μ H ∧ g u e = some e' ∧
  ∀ σ', ERel T w σ' e' → σ'.length = σ.length → (∀ i, i ∉ js → σ'[i]? = σ[i]?) → Q σ' H
theorem DG.can {tg : Expr} {js : List Nat} {g : Val → Fs.Env → Option Fs.Env} (h : DG T X tg js g) : PG X tg (rdGt T js g) := by
  obtain ⟨t, p, kt⟩ := h.ex
  refine ⟨fun pins s σ H v u Q I r q => p.run pins s σ H v u Q I r ?_⟩
  obtain ⟨w, z, e, e', μ, h1, h2, h3, h4, h5⟩ := q
  exact kt w v z σ e e' H μ Q h1 h2 h3 h4 h5
abbrev DTs (T : Tbl) (W : WX) (X : Cx) (ifs : List Expr) (m : TM) : Prop := PTs X ifs (rdT T W m)
def tYesM : TM := fun _ μ => .ok true μ
theorem dts_nil : DTs T W X [] tYesM := ⟨fun pins s σ H Q I h => by
  obtain ⟨w, e, μ, er, mr, ok⟩ := h
  exact pts_nil.run pins s σ H Q I (ok w H true (Wd.Le.refl _) mr rfl)⟩
open Classical in
noncomputable def lcL (gd : Option (Nat × List Val)) (l : Nat) (tg : Val → Fs.Env → Option Fs.Env) (t : TM) (el : EM) : List Val → Fs.Env → Mem → Res Unit
  | [], _, μ => if GOk gd μ then .ok () μ else .bad
  | v :: r, e, μ => if GOk gd μ then (match tg v e with
    | some e1 => (match t e1 μ with
      | .ok b μ => if b = true then (match el e1 μ with
        | .ok y μ => (match μ[l]? with
          | some (.lst acc) => if acc.length < 16777216 then lcL gd l tg t el r e (μ.set l (.lst (acc ++ [y]))) else .bad
          | _ => .bad)
        | _ => .bad) else lcL gd l tg t el r e μ
      | _ => .bad)
    | Option.none => .bad) else .bad
noncomputable def lcEnd (b : Bool) (m0 m : Mem) (l : Nat) : Res Val := match m[l]? with
  | some (.lst vs) => match b, allD vs with
    | false, some ds => .ok (.d (.list ds)) (trunc m0 (m.set l (.frz (.list ds))))
    | _, _ => .ok (.loc l) m
  | _ => .bad
noncomputable def eLc (b : Bool) (vs : List Nat) (it : IM) (tg : Val → Fs.Env → Option Fs.Env) (t : TM) (el : EM) : EM := fun e μ => (it e μ).bind fun i μ => match lcL i.guard μ.length tg t el i.items (wipeE e vs) (μ ++ [.lst []]) with
  | .ok _ μ' => lcEnd b μ μ' μ.length
  | _ => .bad
theorem lcEnd_ok {b : Bool} {w w1 w' : Wd} {m0 m : Mem} {H1 H' : Hp} {D : Addr} {Q : VK} {E : XK} (R0 : MRel T w1 m0 H1) (le0 : w.Le w1) (le : w1.Le w') (R : MRel T w' m H') (hl : w'.r[m0.length]? = some D) (ok : OkR T (VRep T) w (lcEnd b m0 m m0.length) Q E) : Q (.ref D) H' := by
  unfold lcEnd at ok
  split at ok
  · rename_i vs hv
    split at ok
    · rename_i ds hds
      obtain ⟨fr, xs, hH, r⟩ := R.cell _ D _ hl hv
      obtain ⟨le2, R2⟩ := R.fix (x := .list ds) hl fr hH (.lst upd_same ((r.of_all hds).mono (Sub.upd fr)))
      obtain ⟨w3, le3, R3, s3⟩ := R0.trunc (le.trans le2) R2
      exact ok w3 H' _ (le0.trans le3) R3 (.d (.lst (s3 _ _ upd_same) (((r.of_all hds).mono le2.F).mono s3)))
    · exact ok w' H' _ (le0.trans le) R (.loc hl)
  · exact ok.elim
def LcI (T : Tbl) (σ0 : L2.St) (e0 : Fs.Env) (w2 : Wd) (gd : Option (Nat × List Val)) (l : Nat) (tg : Val → Fs.Env → Option Fs.Env) (t : TM) (el : EM) (r : List Val) (μ2 : Mem) (H : Hp) : Prop :=
  ∃ (w : Wd) (μ : Mem), w2.Le w ∧ ERel T w σ0 e0 ∧ MRel T w μ H ∧ lcL gd l tg t el r e0 μ = .ok () μ2
theorem lc_turn {vs js : List Nat} {σ : L2.St} {e0 : Fs.Env} {w2 : Wd} {it : Its} {l : Nat} {tg : Val → Fs.Env → Option Fs.Env} {t : TM} {el : EM} {μ2 : Mem} {D : Addr} {J : It} {w1 : Wd} {Q : VK} (hjs : ∀ j ∈ js, j ∈ vs) (hw : w1.Le w2) (hl : w2.r[l]? = some D) (iok : IterOk T w1 J it)
    (fin : ∀ w' H', w2.Le w' → MRel T w' μ2 H' → Q (.ref D) H') (i : Nat) (hi : i ≤ it.items.length) (H : Hp) (h : LcI T (L2.wipe σ vs) e0 w2 it.guard l tg t el (it.items.drop i) μ2 H) :
    (J.stop i H ∧ Q (.ref D) H) ∨ (J.go i H ∧ i < it.items.length ∧ ∀ x H', J.yld i H x H' → rdGt T js tg x (L2.wipe σ vs) H' fun σ2 H2 => L2.wipe σ2 vs = L2.wipe σ vs ∧ rdT T W0 t σ2 H2 fun b H3 =>
      if b = true then rdE T W0 el σ2 H3 fun y H4 => ∃ acc, H4 D = some (.lst acc) ∧ acc.length < sizeLine ∧ LcI T (L2.wipe σ vs) e0 w2 it.guard l tg t el (it.items.drop (i + 1)) μ2 (upd H4 D (.lst (acc ++ [y]))) else LcI T (L2.wipe σ vs) e0 w2 it.guard l tg t el (it.items.drop (i + 1)) μ2 H3) := by
  obtain ⟨w, μ, le, er, mr, eq⟩ := h
  cases hd : it.items.drop i with
  | nil =>
    rw [hd] at eq
    have hlen : it.items.length ≤ i := List.drop_eq_nil_iff.mp hd
    unfold lcL at eq
    split at eq
    · rename_i gk
      cases eq
      exact .inl ⟨(iok w i _ H (hw.trans le) mr gk).2 (Nat.le_antisymm hlen hi), fin w H le mr⟩
    · cases eq
  | cons v r =>
    rw [hd] at eq
    have hlt : i < it.items.length := by
      apply Classical.byContradiction
      intro z
      rw [List.drop_eq_nil_iff.mpr (by omega)] at hd
      cases hd
    have hv : it.items[i]? = some v := by
      have e := List.getElem?_drop (xs := it.items) (i := i) (j := 0)
      rw [hd] at e
      simpa using e.symm
    have hr : it.items.drop (i + 1) = r := by
      rw [← List.drop_drop, hd]
      rfl
    rw [hr]
    unfold lcL at eq
    split at eq
    · rename_i gk
      obtain ⟨j1, j2⟩ := (iok w i μ H (hw.trans le) mr gk).1 v hv
      refine .inr ⟨j1, hlt, fun x H' y => ?_⟩
      obtain ⟨w3, le3, mr3, rx⟩ := j2 x H' y
      split at eq
      · rename_i e1 he1
        refine ⟨w3, v, e0, e1, μ, rx, er.mono le3, mr3, he1, fun σ' er' hlen' hfr => ⟨?_, w3, e1, μ, er', mr3, ?_⟩⟩
        · rw [← wipe_idem σ vs]
          exact wipe_eq hlen' fun i hi => hfr i fun z => hi (hjs i z)
        · cases ht : t e1 μ with
          | exc c p m =>
            rw [ht] at eq
            cases eq
          | bad =>
            rw [ht] at eq
            cases eq
          | ok b μ3 =>
            rw [ht] at eq
            intro w4 H4 b' le4 mr4 hb
            obtain rfl : b' = b := hb
            have eq : (if b' = true then (match el e1 μ3 with
              | .ok y μ => (match μ[l]? with
                | some (.lst acc) => if acc.length < 16777216 then lcL it.guard l tg t el r e0 (μ.set l (.lst (acc ++ [y]))) else .bad
                | _ => .bad)
              | _ => .bad) else lcL it.guard l tg t el r e0 μ3) = Res.ok () μ2 := eq
            cases b' with
            | false => exact ⟨w4, μ3, le.trans (le3.trans le4), er.mono (le3.trans le4), mr4, eq⟩
            | true =>
              rw [if_pos rfl] at eq ⊢
              refine ⟨w4, e1, μ3, er'.mono le4, mr4, ?_⟩
              cases hel : el e1 μ3 with
              | exc c p m =>
                rw [hel] at eq
                cases eq
              | bad =>
                rw [hel] at eq
                cases eq
              | ok y μ4 =>
                rw [hel] at eq
                intro w5 H5 x5 le5 mr5 r5
                have eq : (match μ4[l]? with
                  | some (.lst acc) => if acc.length < 16777216 then lcL it.guard l tg t el r e0 (μ4.set l (.lst (acc ++ [y]))) else .bad
                  | _ => .bad) = Res.ok () μ2 := eq
                split at eq
                · rename_i acc hacc
                  split at eq
                  · rename_i hsz
                    have le6 : w2.Le w5 := le.trans (le3.trans (le4.trans le5))
                    have hD := le6.at hl
                    obtain ⟨fr, xs, hH, rr⟩ := mr5.cell l D _ hD hacc
                    refine ⟨xs, hH, by rw [rr.length, sizeLine_eq]; exact hsz, w5, _, le6, er.mono (le3.trans (le4.trans le5)), mr5.write (c := .lst (acc ++ [y])) hD fr ⟨fr, _, upd_same, rr.append (.cons r5 .nil)⟩, eq⟩
                  · cases eq
                · cases eq
      · cases eq
    · cases eq
theorem rd_lc {vs js : List Nat} {mi : IM} {tg : Val → Fs.Env → Option Fs.Env} {t : TM} {el : EM} {b : Bool} {σ : L2.St} {H : Hp} {Q : VK} (hjs : ∀ j ∈ js, j ∈ vs) (h : rdE T W (eLc b vs mi tg t el) σ H Q) : tLc (rdI T W mi) (rdGt T js tg) (rdT T W0 t) (rdE T W0 el) vs σ H Q := by
  obtain ⟨w, e, μ, er, mr, ok⟩ := h
  refine ⟨w, e, μ, er, mr, ?_⟩
  have ok : OkR T (VRep T) w ((mi e μ).bind fun i μ => match lcL i.guard μ.length tg t el i.items (wipeE e vs) (μ ++ [.lst []]) with
    | .ok _ μ' => lcEnd b μ μ' μ.length
    | _ => .bad) Q (fun c d H' => W c d σ H') := ok
  cases hm : mi e μ with
  | bad =>
    rw [hm] at ok
    exact ok
  | exc c p μ' =>
    rw [hm] at ok
    exact ok
  | ok it μ1 =>
    rw [hm] at ok
    intro w1 H1 J le1 mr1 iok D hD
    obtain ⟨le2, mr2⟩ := mr1.newC (o := .lst []) (c := .lst []) hD ⟨mr1.newF hD, [], upd_same, .nil⟩
    have hl : (⟨w1.r ++ [D], w1.F⟩ : Wd).r[μ1.length]? = some D := by
      show (w1.r ++ [D])[μ1.length]? = some D
      rw [← mr1.len, List.getElem?_append_right (Nat.le_refl _), Nat.sub_self]
      rfl
    have ok : OkR T (VRep T) w (match lcL it.guard μ1.length tg t el it.items (wipeE e vs) (μ1 ++ [.lst []]) with
      | .ok _ μ' => lcEnd b μ1 μ' μ1.length
      | _ => .bad) Q (fun c d H' => W c d σ H') := ok
    cases hr : lcL it.guard μ1.length tg t el it.items (wipeE e vs) (μ1 ++ [.lst []]) with
    | bad =>
      rw [hr] at ok
      exact ok.elim
    | exc c p m =>
      rw [hr] at ok
      exact ok.elim
    | ok u μ2 =>
      rw [hr] at ok
      have fin : ∀ w' H', (⟨w1.r ++ [D], w1.F⟩ : Wd).Le w' → MRel T w' μ2 H' → Q (.ref D) H' := fun w' H' le' mr' => lcEnd_ok mr1 le1 (le2.trans le') mr' (le'.at hl) ok
      refine ⟨fun i m H => m = it.items.length - i ∧ i ≤ it.items.length ∧ LcI T (L2.wipe σ vs) (wipeE e vs) ⟨w1.r ++ [D], w1.F⟩ it.guard μ1.length tg t el (it.items.drop i) μ2 H,
        ⟨it.items.length, by simp, Nat.zero_le _, _, _, Wd.Le.refl _, ((er.mono le1).mono le2).wipe vs, mr2, by rw [List.drop_zero]; exact hr⟩, ?_⟩
      rintro i m H ⟨rfl, hi, hI⟩
      rcases lc_turn hjs le2 hl iok fin i hi H hI with z | ⟨z1, z2, z3⟩
      · exact .inl z
      · exact .inr ⟨z1, _, fun H' z => ⟨it.items.length - (i + 1), by omega, rfl, z2, z⟩, z3⟩
theorem de_lc (B : Bx T N sc k W X) (b : Bool) (own : List (Str × Nat)) (L : List (Str × NameKind)) {elt tg iter : Expr} {ifs : List Expr} {scope : Scope} {pos : Pos} {mi : IM} {js : List Nat} {g : Val → Fs.Env → Option Fs.Env} {mt : TM} {me : EM} (hi : DI T W X tg iter mi) (ok : BlkOk N sc scope own) (S : Sk (relS scope sc) L)
    (hg : ∀ Y : Cx, Bx T N (relS scope sc) k W0 Y → Sk (relS scope sc) L → DG T Y tg js g) (ht : ∀ Y : Cx, Bx T N (relS scope sc) k W0 Y → Sk (relS scope sc) L → DTs T W0 Y ifs mt) (he : ∀ Y : Cx, Bx T N (relS scope sc) k W0 Y → Sk (relS scope sc) L → DE T W0 Y elt me)
    (hjs : ∀ j ∈ js, j ∈ own.map (·.2) := by decide) (hs : ∀ x, foldedSetIterable iter X.env x = pure x := by intro _; rfl) : DE T W X (.ListComp elt [⟨tg, iter, ifs, 0⟩] scope pos) (eLc b (own.map (·.2)) mi g mt me) :=
  (pe_lc B.calm (by rw [B.hN]; exact B.nd) hi (by rw [B.hN, B.hsc]; exact ok) (fun s H C cl fp => (hg _ (B.blk s H scope cl C fp) S).can) (fun s H C cl fp => ht _ (B.blk s H scope cl C fp) S) (fun s H C cl fp => he _ (B.blk s H scope cl C fp) S) hs).mono fun _ _ _ h => rd_lc hjs h
theorem swaps_yes (B : Bx T N sc k W X) {y : Str} {py pos : Pos} {n : Nat} {elt : Expr} {gs : List Comprehension} {scope : Scope} (hk : sc.kind = .function) (hyl : sc.names.lookup y = some NameKind.local) (hl : (py.line == pos.line) = true := by rfl)
    (hno : (scope.names.any fun (n, k) => n == y && (k == .local || k == .cell)) = false) : swapsWith (.ListComp elt gs scope pos) (some (.Name y py)) n X.env = pure true := by
  have e1 : X.env.blockKind = .function := by
    unfold PySem.Env.blockKind
    rw [B.hsc, hk]
    rfl
  have e2 : X.env.kindOf y = some .local := by
    show X.env.scope.names.lookup y = _
    rw [B.hsc]
    exact hyl
  show (pure (X.env.blockKind == .function && X.env.kindOf y == some .local && py.line == pos.line && !(scope.names.any fun (n, k) => n == y && (k == .local || k == .cell))) : Sem Bool) = _
  rw [e1, e2, hl, hno]
  rfl
end
end Fs
namespace Fs
open PySem PySem.Spec L2
section
variable {T : Tbl} {N : List Str} {sc : Scope} {k : Nat} {W : WX} {X : Cx}
end
end Fs
namespace Fs
open PySem PySem.Spec L2
theorem flds_nodup (c : Nat) : (flds c).Nodup := by
  unfold flds
  split <;> decide +kernel
def fldOf (m : Mem) : Val → Option (Nat × List Val)
  | .d (.ins c ds) => some (c, ds.map .d)
  | .loc l => match m[l]? with
    | some (.ins c fs) => some (c, fs)
    | _ => Option.none
  | .obj c fs => some (c, fs)
  | _ => Option.none
structure AttOk (T : Tbl) (c : Nat) (f : Str) : Prop where
  pl : slotted c = false → Cls T.K (T.cadr c) ∧ NoAttr T.K (T.cadr c) f
  sl : slotted c = true → SlX.SCls T.K (T.cadr c) ∧ ∃ p i, SlX.Slot1 T.K (T.cadr c) f p i ∧ (flds c)[i]? = some f
section
variable {T : Tbl} {w : Wd}
theorem lookup_zip {κ : Type} [BEq κ] {f : κ} : ∀ {ks : List κ} {fs : List Val} {xs : List V} {v : Val}, VReps T w xs fs → (ks.zip fs).lookup f = some v → ∃ x, (ks.zip xs).lookup f = some x ∧ VRep T w x v
  | [], _, _, _, _, h => by simp at h
  | _ :: _, [], _, _, _, h => by simp at h
  | k :: ks, u :: fs, _, v, .cons (v := y) (vs := xs) r1 r2, h => by
    rw [List.zip_cons_cons, List.lookup_cons] at h
    rw [List.zip_cons_cons, List.lookup_cons]
    cases hk : f == k with
    | true =>
      rw [hk] at h
      cases h
      exact ⟨y, rfl, r1⟩
    | false =>
      rw [hk] at h
      exact lookup_zip r2 h
theorem zip_at {κ α : Type} [BEq κ] [LawfulBEq κ] {f : κ} : ∀ {ks : List κ} {xs : List α} {i : Nat} {x : α}, ks.Nodup → ks[i]? = some f → (ks.zip xs).lookup f = some x → xs[i]? = some x
  | [], _, _, _, _, h, _ => by simp at h
  | _ :: _, [], _, _, _, _, h => by simp at h
  | k :: ks, y :: xs, 0, x, _, h, e => by
    have h : k = f := by simpa using h
    subst h
    rw [List.zip_cons_cons, List.lookup_cons, beq_self_eq_true] at e
    exact e
  | k :: ks, y :: xs, i + 1, x, nd, h, e => by
    have h : ks[i]? = some f := h
    have hk : (f == k) = false := by
      apply beq_eq_false_iff_ne.mpr
      intro z
      subst z
      exact (List.nodup_cons.mp nd).1 (List.mem_of_getElem? h)
    rw [List.zip_cons_cons, List.lookup_cons, hk] at e
    have h7 := zip_at (List.nodup_cons.mp nd).2 h e
    exact h7
theorem fldOf_ok {m : Mem} {H : Hp} {x : V} {v : Val} {c : Nat} {fs : List Val} (R : MRel T w m H) (r : VRep T w x v) (e : fldOf m v = some (c, fs)) :
    ∃ a dx xs, x = .ref a ∧ VReps T w xs fs ∧ ((slotted c = false ∧ H a = some (.ins (T.cadr c) dx ((flds c).zip xs))) ∨ (slotted c = true ∧ SlX.Slt H a (T.cadr c) dx (xs.map some))) := by
  cases r with
  | d h =>
    cases h with
    | @ins a dx c' xs ds h l o q r =>
      cases e
      exact ⟨a, dx, xs, rfl, r.vals, .inl ⟨q, R.sub _ _ h⟩⟩
    | @slo a dx c' xs ds h o q r =>
      cases e
      exact ⟨a, dx, xs, rfl, r.vals, .inr ⟨q, .inr ⟨R.sub _ _ h, R.sub _ _ o⟩⟩⟩
    | _ => cases e
  | @loc l a h =>
    have e : (match m[l]? with
      | some (.ins c fs) => some (c, fs)
      | _ => Option.none) = some (c, fs) := e
    split at e
    · rename_i q
      cases e
      obtain ⟨f, dx, xs, h1, _, _, h2, h3⟩ := R.cell l a _ h q
      exact ⟨a, dx, xs, rfl, h3, .inl ⟨h2, h1⟩⟩
    · cases e
  | @obj a dx c' xs vs h l o q r =>
    cases e
    exact ⟨a, dx, xs, rfl, r, .inl ⟨q, R.sub _ _ h⟩⟩
  | @slo a dx c' xs vs h o q r =>
    cases e
    exact ⟨a, dx, xs, rfl, r, .inr ⟨q, .inr ⟨R.sub _ _ h, R.sub _ _ o⟩⟩⟩
  | tup h r => cases e
  | ro h => cases e
end
def getF (cs : List Nat) (f : Str) (x : Val) (m : Mem) : Res Val := match fldOf m x with
  | some (c, fs) => if c ∈ cs then (match ((flds c).zip fs).lookup f with
    | some v => .ok (norm m v) m
    | Option.none => .bad) else .bad
  | Option.none => .bad
section
variable {T : Tbl} {N : List Str} {sc : Scope} {k : Nat} {W : WX} {X : Cx}
theorem de_fld (B : Bx T N sc k W X) (cs : List Nat) {f : Str} {e : Expr} {me : EM} {pos : Pos} (hf : ∀ c ∈ cs, AttOk T c f) (he : DE T W X e me) (hb : attributeBase e f X.env (eval e X.env) = eval e X.env := by rfl) : DE T W X (.Attribute e f pos) (eUn (getF cs f) me) := by
  refine ⟨fun pins s σ H Q I h => ?_⟩
  obtain ⟨w, en, μ, er, mr, ok⟩ := h
  refine attr_of hb (thn (he.run pins s σ H _ I (OkR.go (P := VRep T) er mr ok)) fun u s1 ⟨x, H1, I1, rx, w1, v, μ1, le1, mr1, p1, ok1⟩ => ?_)
  unfold getF at ok1
  split at ok1
  · rename_i c fs hf0
    split at ok1
    · rename_i hc
      split at ok1
      · rename_i v0 hv
        obtain ⟨a, dx, xs, rfl, hxs, hcase⟩ := fldOf_ok mr1 p1 hf0
        obtain rfl : u = Value.ref a := rx
        obtain ⟨y, h1, h2⟩ := lookup_zip hxs hv
        have q := ok1.ok mr1 (h2.norm mr1)
        rcases hcase with ⟨hs, hH⟩ | ⟨hs, hH⟩
        · obtain ⟨k1, k2⟩ := (hf c hc).pl hs
          rw [← B.K] at k1 k2
          exact getattr_ok I1 hH k1 k2 h1 fun u' s2 I2 ru => ⟨y, H1, I2, ru, q⟩
        · obtain ⟨k1, p, i, k2, k3⟩ := (hf c hc).sl hs
          rw [← B.K] at k1 k2
          have h5 := zip_at (flds_nodup c) k3 h1
          exact SlX.getslot_ok I1 hH k1 k2 (show (xs.map some)[i]? = some (some y) by rw [List.getElem?_map, h5]; rfl) fun u' s2 I2 ru => ⟨y, H1, I2, ru, q⟩
      · exact ok1.elim
    · exact ok1.elim
  · exact ok1.elim
theorem putF_set {f : Str} {y : V} : ∀ {ks : List Str} {xs : List V} {j : Nat}, ks.Nodup → ks[j]? = some f → j < xs.length → putF f y (ks.zip xs) = ks.zip (xs.set j y)
  | [], _, _, _, h, _ => by simp at h
  | _ :: _, [], _, _, _, h => by simp at h
  | k :: ks, x :: xs, 0, _, h, _ => by
    have h : k = f := by simpa using h
    subst h
    simp [putF]
  | k :: ks, x :: xs, j + 1, nd, h, hl => by
    have h : ks[j]? = some f := h
    have hk : k ≠ f := fun z => by
      subst z
      exact (List.nodup_cons.mp nd).1 (List.mem_of_getElem? h)
    rw [List.zip_cons_cons, List.set_cons_succ, List.zip_cons_cons]
    show (if k = f then (k, y) :: ks.zip xs else (k, x) :: putF f y (ks.zip xs)) = _
    rw [if_neg hk, putF_set (List.nodup_cons.mp nd).2 h (by simpa using hl)]
theorem putF_new {f : Str} {y : V} : ∀ {ks : List Str} {xs : List V}, ks.Nodup → ks[xs.length]? = some f → putF f y (ks.zip xs) = ks.zip (xs ++ [y])
  | [], _, _, h => by simp at h
  | k :: ks, [], _, h => by
    have h : k = f := by simpa using h
    subst h
    simp [putF]
  | k :: ks, x :: xs, nd, h => by
    have h : ks[xs.length]? = some f := h
    have hk : k ≠ f := fun z => by
      subst z
      exact (List.nodup_cons.mp nd).1 (List.mem_of_getElem? h)
    rw [List.zip_cons_cons, List.cons_append, List.zip_cons_cons]
    show (if k = f then (k, y) :: ks.zip xs else (k, x) :: putF f y (ks.zip xs)) = _
    rw [if_neg hk, putF_new (List.nodup_cons.mp nd).2 h]
def putV (c : Nat) (f : Str) (v : Val) (fs : List Val) : Option (List Val) :=
  if (flds c)[fs.length]? = some f then some (fs ++ [v]) else match (flds c).findIdx? (· == f) with
    | some j => if j < fs.length then some (fs.set j v) else Option.none
    | Option.none => Option.none
def setFl (cs : List Nat) (f : Str) (x v : Val) (e : Fs.Env) (m : Mem) : SRes := match x with
  | .loc l => (match m[l]? with
    | some (.ins c fs) => if c ∈ cs then (match putV c f v fs with
      | some fs' => .next e (m.set l (.ins c fs'))
      | Option.none => .bad) else .bad
    | _ => .bad)
  | _ => .bad
def sSetF (cs : List Nat) (f : Str) (o a : EM) : SM := fun e m => (a e m).st e fun v m => (o e m).st e fun x m => setFl cs f x v e m
theorem ds_fld (B : Bx T N sc k W X) (cs : List Nat) {f : Str} {o e : Expr} {mo me : EM} {pos p2 : Pos} (hf : ∀ c ∈ cs, AttOk T c f) (ho : DE T W X o mo) (he : DE T W X e me) (hs : swapsWith e (some (.Attribute o f p2)) pos.line X.env = pure false := by rfl) :
    DS T W X (.Assign [.Attribute o f p2] e pos) (sSetF cs f mo me) := by
  refine (ps_fld ho he hs).mono fun D σ H h => ?_
  obtain ⟨w, en, μ, er, mr, ok⟩ := h
  refine (OkS.go (P := VRep T) er mr ok).imp fun y H1 ⟨w1, v, μ1, le1, mr1, p1, ok1⟩ => ?_
  refine (OkS.go (P := VRep T) (er.mono le1) mr1 ok1).imp fun x H2 ⟨w2, u, μ2, le2, mr2, p2, ok2⟩ => ?_
  have ok2 : OkS T w2 (setFl cs f u v en μ2) D W := ok2
  clear ok1 ok
  unfold setFl at ok2
  split at ok2
  · split at ok2
    · rename_i _ c fs hl
      split at ok2
      · rename_i hc
        split at ok2
        · rename_i fs' hput
          cases p2 with
          | @loc _ a ha =>
            obtain ⟨fr, dx, xs, hH, hlen, hdx, hsl, hr⟩ := mr2.cell _ a _ ha hl
            obtain ⟨k1, k2⟩ := (hf c hc).pl hsl
            rw [← B.K] at k1 k2
            have hy := (p1.mono le2)
            have hk : (flds c).length < 1000 := by
              unfold flds
              split <;> decide +kernel
            have fin : ∀ xs', putF f y ((flds c).zip xs) = (flds c).zip xs' → VReps T w2 xs' fs' → xs'.length ≤ (flds c).length → D.nx σ (upd H2 a (.ins (T.cadr c) dx (putF f y ((flds c).zip xs)))) := fun xs' e1 r' l' => by
              rw [e1]
              exact ok2 w2 σ _ (Wd.Le.refl _) ((er.mono le1).mono le2) (mr2.write (c := .ins c fs') ha fr ⟨fr, dx, xs', upd_same, l', hdx, hsl, r'⟩)
            refine ⟨a, T.cadr c, dx, (flds c).zip xs, rfl, hH, k1, k2, ?_, ?_⟩
            · rw [List.length_zip]
              omega
            · unfold putV at hput
              split at hput
              · rename_i hi
                cases hput
                rw [← hr.length] at hi
                refine fin _ (putF_new (flds_nodup c) hi) (hr.append (.cons hy .nil)) ?_
                rw [List.length_append, List.length_singleton]
                exact (List.getElem?_eq_some_iff.mp hi).1
              · split at hput
                · rename_i j hj
                  split at hput
                  · rename_i hlt
                    cases hput
                    have hj2 : (flds c)[j]? = some f := by
                      obtain ⟨h1, h2, _⟩ := List.findIdx?_eq_some_iff_getElem.mp hj
                      rw [List.getElem?_eq_getElem h1]
                      exact congrArg some (eq_of_beq h2)
                    refine fin _ (putF_set (flds_nodup c) hj2 (by rw [hr.length]; exact hlt)) (hr.set hy j) (by rw [List.length_set]; exact hlen)
                  · cases hput
                · cases hput
        · exact ok2.elim
      · exact ok2.elim
    · exact ok2.elim
  · exact ok2.elim
end
end Fs
namespace Fs
open PySem PySem.Spec L2
structure MthOk (T : Tbl) (k : Nat) (c : Nat) (m : Str) (n : Nat) (f : Fn) : Prop where
  ex : ∃ (g : Addr) (ps : List Str) (j : Nat), Meth T.K (T.cadr c) m g ∧ FnAt T j g ps f ∧ j ≤ k ∧ ps.length = n
  no : m ∉ flds c
  pl : slotted c = false → Cls T.K (T.cadr c)
  sl : slotted c = true → SlX.SCls T.K (T.cadr c)
noncomputable def eMeth (tbl : List (Nat × Bool × Nat × Fn)) (o : EM) (a : AM) : EM := fun e μ => (o e μ).bind fun x μ => match (fldOf μ x).bind fun p => tbl.lookup p.1 with
  | some (fz, n, f) => (a e μ).bind fun xs μ => if xs.length + 1 = n then callF fz f (x :: xs) μ else .bad
  | Option.none => .bad
section
variable {T : Tbl} {N : List Str} {sc : Scope} {k : Nat} {W : WX} {X : Cx}
theorem zip_none {κ α : Type} [BEq κ] [LawfulBEq κ] {f : κ} : ∀ {ks : List κ} {xs : List α}, f ∉ ks → (ks.zip xs).lookup f = none
  | [], _, _ => rfl
  | _ :: _, [], _ => rfl
  | k :: ks, y :: xs, h => by
    have hk : (f == k) = false := beq_eq_false_iff_ne.mpr fun z => h (by rw [z]; exact List.mem_cons_self ..)
    rw [List.zip_cons_cons, List.lookup_cons, hk]
    exact zip_none fun z => h (List.mem_cons_of_mem _ z)
theorem lookup_in {α : Type} {c : Nat} {r : α} : ∀ {tbl : List (Nat × α)}, tbl.lookup c = some r → (c, r) ∈ tbl
  | [], h => by cases h
  | (b, u) :: t, h => by
    rw [List.lookup_cons] at h
    cases q : c == b with
    | true =>
      rw [q] at h
      cases h
      rw [eq_of_beq q]
      exact List.mem_cons_self ..
    | false =>
      rw [q] at h
      exact List.mem_cons_of_mem _ (lookup_in h)
theorem getm_ok (B : Bx T N sc k W X) {pins : List (Addr × Obj)} {σ : L2.St} {H : Hp} {s : Shared} {c n : Nat} {m : Str} {f : Fn} {a dx : Addr} {xs : List V} {pl : Sem Bool} {Q : Value × List Value → Shared → Prop} {g : Addr} (I : Inv X pins σ H s) (M : MthOk T k c m n f) (hg : Meth T.K (T.cadr c) m g)
    (hcase : (slotted c = false ∧ H a = some (.ins (T.cadr c) dx ((flds c).zip xs))) ∨ (slotted c = true ∧ SlX.Slt H a (T.cadr c) dx (xs.map some))) (h : Q (.ref g, [.ref a]) s) : wpAny (model X.prog X.w) X.A (getMethod (.ref a) m pl) Q X.xe s := by
  rw [← B.K] at hg
  rcases hcase with ⟨hs, hH⟩ | ⟨hs, hH⟩
  · have h1 := M.pl hs
    rw [← B.K] at h1
    exact getmeth_ok I hH h1 hg (zip_none M.no) h
  · have h1 := M.sl hs
    rw [← B.K] at h1
    exact SlX.getmethsl_ok I hH h1 hg h
theorem de_meth (B : Bx T N sc k W X) (tbl : List (Nat × Bool × Nat × Fn)) {m : Str} {o e : Expr} {es : List Expr} {mo : EM} {ma : AM} {apos pos : Pos} {pl : Sem Bool} (hm : ∀ r ∈ tbl, MthOk T k r.1 m r.2.2.1 r.2.2.2) (ho : DE T W X o mo) (ha : DA T W X (e :: es) ma)
    (hst : starEach (e :: es) X.env = (false, eval e X.env) :: starEach es X.env := by rfl) (hpl : (backTo pos (starEach es X.env)).any (·.1) = false := by rfl)
    (ht : eval (.Call (.Attribute o m apos) (e :: es) [] pos) X.env = (do
      let ov ← eval o X.env
      standAt apos.atName
      let (fn, first) ← holding [ov] (getMethod ov m pl)
      callWith pos fn first (backTo pos (starEach (e :: es) X.env)) (backToKw pos (keywordEach [] X.env))) := by rfl) : DE T W X (.Call (.Attribute o m apos) (e :: es) [] pos) (eMeth tbl mo ma) := by
  refine ⟨fun pins s σ H Q I h => ?_⟩
  obtain ⟨w, en, μ, er, mr, ok⟩ := h
  refine PySem.W.methodCall_KW (pl := pl) (thn (ho.run pins s σ H _ I (OkR.go (P := VRep T) er mr ok)) fun u s1 ⟨x, H1, I1, rx, w1, v, μ1, le1, mr1, p1, ok1⟩ => ?_) ht
  split at ok1
  · rename_i fz n f hf
    obtain ⟨⟨c, fs⟩, h1, h2⟩ := Option.bind_eq_some_iff.mp hf
    have M := hm _ (lookup_in h2)
    obtain ⟨g, ps, j, hg, F, hj, hn⟩ := M.ex
    obtain ⟨a, dx, xs, rfl, hxs, hcase⟩ := fldOf_ok mr1 p1 h1
    obtain rfl : u = Value.ref a := rx
    refine getm_ok B I1 M hg hcase ?_
    refine PySem.W.callWith_K (first := [.ref a]) (h₀ := X.base) I.ok.mod.kin (by rw [B.K]; exact hg.kp) (thn (ha.run pos pins s1 σ H1 _ I1 (OkR.go (P := VReps T) (er.mono le1) mr1 ok1)) fun us s2 ⟨vs, H2, I2, r, w2, as, μ2, le2, mr2, p2, ok2⟩ => ⟨I2.kIn, ?_⟩) hst hpl
    have ok2 : OkR T (VRep T) w2 (if as.length + 1 = n then callF fz f (v :: as) μ2 else .bad) Q (fun c d H' => W c d σ H') := ok2
    split at ok2
    · rename_i hl
      exact run_at (us := .ref a :: us) (xs := .ref a :: vs) B F hj I2 (.cons rfl r) mr2 (.cons (p1.mono le2) p2) (by rw [List.length_cons, hl]; exact hn.symm) (callF_ok mr2 ok2)
    · exact ok2.elim
  · exact ok1.elim
theorem de_meth0 (B : Bx T N sc k W X) (tbl : List (Nat × Bool × Nat × Fn)) {m : Str} {o : Expr} {mo : EM} {apos pos : Pos} {pl : Sem Bool} (hm : ∀ r ∈ tbl, MthOk T k r.1 m r.2.2.1 r.2.2.2) (ho : DE T W X o mo)
    (ht : eval (.Call (.Attribute o m apos) [] [] pos) X.env = (do
      let ov ← eval o X.env
      standAt apos.atName
      let (fn, first) ← holding [ov] (getMethod ov m pl)
      callWith pos fn first (backTo pos (starEach [] X.env)) (backToKw pos (keywordEach [] X.env))) := by rfl) : DE T W X (.Call (.Attribute o m apos) [] [] pos) (eMeth tbl mo aNil) := by
  refine ⟨fun pins s σ H Q I h => ?_⟩
  obtain ⟨w, en, μ, er, mr, ok⟩ := h
  refine PySem.W.methodCall_KW (pl := pl) (thn (ho.run pins s σ H _ I (OkR.go (P := VRep T) er mr ok)) fun u s1 ⟨x, H1, I1, rx, w1, v, μ1, le1, mr1, p1, ok1⟩ => ?_) ht
  split at ok1
  · rename_i fz n f hf
    obtain ⟨⟨c, fs⟩, h1, h2⟩ := Option.bind_eq_some_iff.mp hf
    have M := hm _ (lookup_in h2)
    obtain ⟨g, ps, j, hg, F, hj, hn⟩ := M.ex
    obtain ⟨a, dx, xs, rfl, hxs, hcase⟩ := fldOf_ok mr1 p1 h1
    obtain rfl : u = Value.ref a := rx
    refine getm_ok B I1 M hg hcase ?_
    have ok2 : OkR T (VRep T) w1 (if ([] : List Val).length + 1 = n then callF fz f [v] μ1 else .bad) Q (fun c d H' => W c d σ H') := ok1
    split at ok2
    · rename_i hl
      exact PySem.W.callWith_K0 (first := [.ref a]) I1.kIn (by rw [B.K]; exact hg.kp) (run_at (us := [.ref a]) (xs := [.ref a]) B F hj I1 (.cons rfl .nil) mr1 (.cons p1 .nil) (hl.trans hn.symm) (callF_ok mr1 ok2))
    · exact ok2.elim
  · exact ok1.elim
end
end Fs
namespace Fs
open PySem PySem.Spec L2
section
variable {e : Env} {μ m : Mem} {x y z v u : Val} {a b c d g : EM}
@[simp] theorem r_eVar {i : Nat} : eVar i e μ = (match e[i]? with
  | some (some v) => .ok (norm μ v) μ
  | _ => .bad) := rfl
@[simp] theorem r_eBin {f : Val → Val → Mem → Res Val} : eBin f a b e μ = (a e μ).bind fun x μ => (b e μ).bind fun y μ => f x y μ := rfl
@[simp] theorem r_eUn {f : Val → Mem → Res Val} : eUn f a e μ = (a e μ).bind fun x μ => f x μ := rfl
@[simp] theorem r_eIf {t : TM} : eIf t a b e μ = (t e μ).bind fun t μ => if t = true then a e μ else b e μ := rfl
@[simp] theorem r_aNil : aNil e μ = .ok [] μ := rfl
@[simp] theorem r_aCons {r : AM} : aCons a r e μ = (a e μ).bind fun x μ => (r e μ).bind fun xs μ => .ok (x :: xs) μ := rfl
@[simp] theorem r_eArgs {f : Fn} {r : AM} : eArgs f r e μ = (r e μ).bind fun xs μ => f xs μ := rfl
@[simp] theorem r_tOf : tOf a e μ = (a e μ).bind fun x μ => match asB x with
  | some b => .ok b μ
  | Option.none => .bad := rfl
@[simp] theorem r_asB {b : Bool} : asB (.d (.bool b)) = some b := rfl
@[simp] theorem r_asI {b : Int} : asI (.d (.int b)) = some b := rfl
@[simp] theorem r_asS {b : Str} : asS (.d (.str b)) = some b := rfl
@[simp] theorem r_tNot {t : TM} : tNot t e μ = (t e μ).bind fun b μ => .ok (!b) μ := rfl
@[simp] theorem r_tAnd {t s : TM} : Fs.tAnd t s e μ = (t e μ).bind fun b μ => if b = true then s e μ else .ok false μ := rfl
@[simp] theorem r_tOr {t s : TM} : Fs.tOr t s e μ = (t e μ).bind fun b μ => if b = true then .ok true μ else s e μ := rfl
@[simp] theorem r_eNot : eNot a e μ = (a e μ).bind fun x μ => match asB x with
  | some b => .ok (.d (.bool (!b))) μ
  | Option.none => .bad := rfl
@[simp] theorem r_eAnd : eAnd a b e μ = (a e μ).bind fun x μ => match asB x with
  | some c => if c = true then b e μ else .ok (.d (.bool false)) μ
  | Option.none => .bad := rfl
@[simp] theorem r_eOr : eOr a b e μ = (a e μ).bind fun x μ => match asB x with
  | some c => if c = true then .ok (.d (.bool true)) μ else b e μ
  | Option.none => .bad := rfl
@[simp] theorem r_eCall {n : Nat} {fz : Bool} {f : Fn} {r : AM} : eCall n fz f r e μ = (r e μ).bind fun xs μ => if xs.length = n then callF fz f xs μ else .bad := rfl
@[simp] theorem r_callF {f : Fn} {vs : List Val} : callF false f vs μ = f vs μ := rfl
@[simp] theorem r_eBm {ty : Mem → Val → Bool} {f : Val → List Val → Mem → Res Val} {r : AM} : eBm ty f a r e μ = (a e μ).bind fun x μ => if ty μ x = true then (r e μ).bind fun xs μ => f x xs μ else .bad := rfl
@[simp] theorem r_eSlc {fl : Bool} {lo hi : OM} : eSlc fl a lo hi e μ = (a e μ).bind fun x μ => (lo e μ).bind fun l μ => (hi e μ).bind fun h μ => slcV fl x l h μ := rfl
@[simp] theorem r_oNone : oNone e μ = .ok Option.none μ := rfl
@[simp] theorem r_oSome : oSome a e μ = (a e μ).bind fun x μ => match asI x with
  | some i => .ok (some i) μ
  | Option.none => .bad := rfl
@[simp] theorem r_eIsi {t : String} : eIsi t a e μ = (a e μ).bind fun x μ => match kind μ x with
  | some k => .ok (.d (.bool (subK k t))) μ
  | Option.none => .bad := rfl
@[simp] theorem r_sNext : sNext e μ = .next e μ := rfl
@[simp] theorem r_sSeq {s t : SM} : sSeq s t e μ = (match s e μ with
  | .next e m => t e m
  | r => r) := rfl
@[simp] theorem r_sSet {i : Nat} : sSet i a e μ = (a e μ).st e fun v m => .next (e.set i (some v)) m := rfl
@[simp] theorem r_sDo : sDo a e μ = (a e μ).st e fun _ m => .next e m := rfl
@[simp] theorem r_sRet : sRet a e μ = (a e μ).st e fun v m => .ret v m := rfl
@[simp] theorem r_sRetN : sRetN e μ = .ret (.d .none) μ := rfl
@[simp] theorem r_sIf {t : TM} {p q : SM} : sIf t p q e μ = (t e μ).st e fun t m => if t = true then p e m else q e m := rfl
@[simp] theorem r_sAsg {t : Val → Env → Option Env} : sAsg t a e μ = (a e μ).st e fun v m => match t v e with
  | some e' => .next e' m
  | Option.none => .bad := rfl
@[simp] theorem r_gN {i : Nat} : gN i v e = some (e.set i (some v)) := rfl
@[simp] theorem r_gsNil : gsNil [] e = some e := rfl
@[simp] theorem r_gsCons {g : Val → Env → Option Env} {r : List Val → Env → Option Env} {vs : List Val} : gsCons g r (v :: vs) e = (g v e).bind (r vs) := rfl
@[simp] theorem r_gT {g : List Val → Env → Option Env} : gT g v e = (tupV v).bind fun vs => g vs e := rfl
@[simp] theorem r_sSetIx : sSetIx a b c e μ = (c e μ).st e fun v m => (a e m).st e fun x m => (b e m).st e fun y m => setIx x y v e m := rfl
@[simp] theorem r_iOf {f : Val → Mem → Option Its} : iOf f a e μ = (a e μ).bind fun x μ => match f x μ with
  | some i => .ok i μ
  | Option.none => .bad := rfl
@[simp] theorem r_iArg {f : List Val → Mem → Option Its} {r : AM} : iArg f r e μ = (r e μ).bind fun x μ => match f x μ with
  | some i => .ok i μ
  | Option.none => .bad := rfl
@[simp] theorem r_sFor {it : IM} {t : Val → Env → Option Env} {s : SM} : sFor it t s e μ = (it e μ).st e fun i μ => sForL i.guard t s i.items e μ := rfl
@[simp] theorem r_tupD {xs : List Data} : tupV (.d (.tup xs)) = some (xs.map .d) := rfl
@[simp] theorem r_tupT {xs : List Val} : tupV (.tup xs) = some xs := rfl
@[simp] theorem GOk_none : GOk Option.none μ := trivial
@[simp] theorem GOk_some {l : Nat} {vs : List Val} : GOk (some (l, vs)) μ ↔ μ[l]? = some (.lst vs) := Iff.rfl
@[simp] theorem p_addI {f : Bool} {i j : Int} : addV f (.d (.int i)) (.d (.int j)) m = .ok (.d (.int (i + j))) m := rfl
@[simp] theorem p_sub {i j : Int} : intOp subI (.d (.int i)) (.d (.int j)) m = .ok (.d (.int (i - j))) m := rfl
@[simp] theorem p_neg {i : Int} : negV (.d (.int i)) m = .ok (.d (.int (-i))) m := rfl
@[simp] theorem p_cmp {f : Int → Int → Bool} {i j : Int} : cmpI f (.d (.int i)) (.d (.int j)) m = .ok (.d (.bool (f i j))) m := rfl
@[simp] theorem p_isN {n : Bool} : isV n x (.d .none) m = .ok (.d (.bool (if n then !isNone x else isNone x))) m := rfl
@[simp] theorem p_isNone {d : Data} : isNone (.d d) = (match d with
  | .none => true
  | _ => false) := by cases d <;> rfl
@[simp] theorem p_isNoneL {l : Nat} : isNone (.loc l) = false := rfl
@[simp] theorem p_isNoneT {l : List Val} : isNone (.tup l) = false := rfl
@[simp] theorem p_isNoneO {c : Nat} {l : List Val} : isNone (.obj c l) = false := rfl
@[simp] theorem p_eqI {n : Bool} {i j : Int} : eqV n (.d (.int i)) (.d (.int j)) m = .ok (.d (.bool (if n then !decide (i = j) else decide (i = j)))) m := by
  show (match pyEq m (.d (.int i)) (.d (.int j)) with
    | some b => Res.ok (Val.d (.bool (if n then !b else b))) m
    | Option.none => .bad) = _
  have e : pyEq m (.d (.int i)) (.d (.int j)) = some (decide (i = j)) := by
    unfold pyEq
    rw [pyV_d, pyV_d]
    show (if (scalP (.int i) (.int j) || _) = true then some (PyData.eqv (.int i) (.int j)) else Option.none) = _
    rw [show scalP (.int i) (.int j) = true from rfl, Bool.true_or, if_pos rfl]
    congr 1
  rw [e]
@[simp] theorem p_eqS {n : Bool} {i j : Str} : eqV n (.d (.str i)) (.d (.str j)) m = .ok (.d (.bool (if n then !decide (i = j) else decide (i = j)))) m := by
  show (match pyEq m (.d (.str i)) (.d (.str j)) with
    | some b => Res.ok (Val.d (.bool (if n then !b else b))) m
    | Option.none => .bad) = _
  have e : pyEq m (.d (.str i)) (.d (.str j)) = some (decide (i = j)) := by
    unfold pyEq
    rw [pyV_d, pyV_d]
    show (if (scalP (.str i) (.str j) || _) = true then some (PyData.eqv (.str i) (.str j)) else Option.none) = _
    rw [show scalP (.str i) (.str j) = true from rfl, Bool.true_or, if_pos rfl]
    congr 1
  rw [e]
@[simp] theorem p_eqB {n : Bool} {i j : Bool} : eqV n (.d (.bool i)) (.d (.bool j)) m = .ok (.d (.bool (if n then !decide (i = j) else decide (i = j)))) m := by
  cases i <;> cases j <;> cases n <;> rfl
@[simp] theorem p_negB {b : Bool} : negB true b = !b := rfl
@[simp] theorem p_negB' {b : Bool} : negB false b = b := rfl
@[simp] theorem p_abs {i : Int} : absV [.d (.int i)] m = .ok (.d (.int (if i < 0 then -i else i))) m := rfl
@[simp] theorem p_min {i j : Int} : minV [.d (.int i), .d (.int j)] m = .ok (.d (.int (if j < i then j else i))) m := rfl
@[simp] theorem p_max {i j : Int} : maxV [.d (.int i), .d (.int j)] m = .ok (.d (.int (if j > i then j else i))) m := rfl
@[simp] theorem p_int {i : Int} : intV [.d (.int i)] m = .ok (.d (.int i)) m := rfl
@[simp] theorem p_intB {b : Bool} : intV [.d (.bool b)] m = .ok (.d (.int (if b then 1 else 0))) m := rfl
theorem p_lenS {s : Str} (h : s.length ≤ 16777216) : lenV [.d (.str s)] m = .ok (.d (.int s.length)) m := if_neg (by omega)
@[simp] theorem p_lenD {ds : List Data} : lenV [.d (.list ds)] m = .ok (.d (.int ds.length)) m := by
  show (match seqV m (.d (.list ds)) with
    | some xs => Res.ok (Val.d (.int xs.length)) m
    | Option.none => .bad) = _
  show Res.ok (Val.d (.int (ds.map Val.d).length)) m = _
  rw [List.length_map]
@[simp] theorem p_lenT {ds : List Data} : lenV [.d (.tup ds)] m = .ok (.d (.int ds.length)) m := by
  show Res.ok (Val.d (.int (ds.map Val.d).length)) m = _
  rw [List.length_map]
@[simp] theorem p_lenR {ns : List Int} : lenV [.ro ns] m = .ok (.d (.int ns.length)) m := by
  show Res.ok (Val.d (.int (ns.map fun i => Val.d (.int i)).length)) m = _
  rw [List.length_map]
theorem p_atL {l : Nat} {vs : List Val} (h : m[l]? = some (.lst vs)) : atL m (.loc l) = some (l, vs) := by
  simp only [atL, h]
theorem p_lstV {l : Nat} {vs : List Val} (h : m[l]? = some (.lst vs)) : lstV m (.loc l) = some vs := by
  simp only [lstV, h]
theorem p_isL {l : Nat} {vs : List Val} (h : m[l]? = some (.lst vs)) : isL m (.loc l) = true := by
  unfold isL
  rw [p_lstV h]
  rfl
@[simp] theorem p_isLD {ds : List Data} : isL m (.d (.list ds)) = true := rfl
@[simp] theorem p_isS {s : Str} : isS m (.d (.str s)) = true := rfl
theorem p_app {l : Nat} {vs : List Val} (h : m[l]? = some (.lst vs)) (hl : vs.length < 16777216) : appV (.loc l) [v] m = .ok (.d .none) (m.set l (.lst (vs ++ [v]))) := by
  unfold appV
  rw [p_atL h]
  exact if_pos hl
theorem atI_nn {α : Type} {xs : List α} {i : Int} (h0 : 0 ≤ i) (h1 : i < xs.length) : atI xs i = xs[i.toNat]? := by
  have e : L2.ixN xs.length i = some i.toNat := by
    unfold L2.ixN
    grind
  unfold atI
  rw [e]
  rfl
theorem p_idxR {ns : List Int} {i x : Int} (hi : atI ns i = some x) : idxV (.ro ns) (.d (.int i)) m = .ok (.d (.int x)) m := by
  have e : atI (ns.map fun i => Val.d (.int i)) i = some (.d (.int x)) := by
    unfold atI at hi ⊢
    rw [List.length_map]
    obtain ⟨j, h1, h2⟩ := Option.bind_eq_some_iff.mp hi
    exact Option.bind_eq_some_iff.mpr ⟨j, h1, by rw [List.getElem?_map, h2]; rfl⟩
  show (match atI (ns.map fun i => Val.d (.int i)) i with
    | some v => Res.ok (norm m v) m
    | Option.none => .bad) = _
  rw [e]
  rfl
@[simp] theorem p_rng {i : Int} (h : -big ≤ i ∧ i < big) : rngA [.d (.int i)] m = some (rngIts 0 i.toNat) := if_pos h
@[simp] theorem p_itS {s : Str} : itA (.d (.str s)) m = some ⟨s.cps.toList.map fun c => .d (.str ⟨#[c]⟩), Option.none⟩ := rfl
@[simp] theorem p_itD {ds : List Data} : itA (.d (.list ds)) m = some ⟨ds.map .d, Option.none⟩ := rfl
@[simp] theorem p_itT {ds : List Data} : itA (.d (.tup ds)) m = some ⟨ds.map .d, Option.none⟩ := rfl
theorem p_itL {l : Nat} {vs : List Val} (h : m[l]? = some (.lst vs)) : itA (.loc l) m = some ⟨vs, some (l, vs)⟩ := by
  show (lstV m (.loc l)).map _ = _
  rw [p_lstV h]
  rfl
end
section
variable {tg : Val → Env → Option Env} {b : SM} {gd : Option (Nat × List Val)}
theorem for_nil {e : Env} {μ : Mem} (h : GOk gd μ) : sForL gd tg b [] e μ = .next e μ := by
  unfold sForL
  exact if_pos h
theorem for_cons {v : Val} {r : List Val} {e e1 : Env} {μ : Mem} (h : GOk gd μ) (h1 : tg v e = some e1) : sForL gd tg b (v :: r) e μ = (match b e1 μ with
    | .next e2 μ2 => sForL gd tg b r e2 μ2
    | q => q) := by
  conv => lhs; unfold sForL
  simp only [if_pos h, h1]
  all_goals (cases b e1 μ <;> rfl)
end
structure Pl where
  ps : List Int
  nn : ∀ p ∈ ps, 0 ≤ p
  len : ps.length ≤ 4000
def ival (i : Int) : Val := .d (.int i)
def Pl.cell (q : Pl) : Cell := .lst (q.ps.map ival)
def PM (q : Pl) (R : Mem) : Mem := q.cell :: R
@[simp] theorem PM_norm (q : Pl) (R : Mem) : norm (PM q R) (.loc 0) = .loc 0 := rfl
end Fs
namespace Fs
open PySem PySem.Spec L2
section
variable {s t : SM} {e e1 : Env} {μ μ1 m : Mem}
theorem if_true {c : TM} {a b : SM} (h : c e μ = .ok true m) : sIf c a b e μ = a e m := by
  simp [r_sIf, h]
end
theorem set_set_last (m : Mem) (a b : Cell) : (m ++ [a]).set m.length b = m ++ [b] := by simp
@[simp] theorem rng_len {lo : Int} {n : Nat} : (rngIts lo n).items.length = n := by simp [rngIts]
@[simp] theorem rng_guard {lo : Int} {n : Nat} : (rngIts lo n).guard = Option.none := rfl
end Fs
namespace Fs
open PySem PySem.Spec L2
end Fs
namespace Fs
open PySem PySem.Spec L2
def mkFn (c : Nat) (f : Fn) : Fn := fun xs μ => match f (.loc μ.length :: xs) (μ ++ [.ins c []]) with
  | .ok (.d .none) m => .ok (.loc μ.length) m
  | .ok _ _ => .bad
  | .exc c p m => .exc c p m
  | .bad => .bad
def dfl (dd : List Data) (f : Fn) : Fn := match dd with
  | [] => f
  | _ :: _ => fun vs μ => f (vs ++ dd.map .d) μ
theorem dfl_eq (dd : List Data) (f : Fn) (vs : List Val) (μ : Mem) : dfl dd f vs μ = f (vs ++ dd.map .d) μ := by
  cases dd with
  | nil => rw [List.map_nil, List.append_nil]; rfl
  | cons _ _ => rfl
structure MakOk (T : Tbl) (k : Nat) (c : Nat) (n : Nat) (dd : List Data) (f : Fn) : Prop where
  ex : ∃ (g : Addr) (ps : List Str) (j : Nat) (fd : FuncData) (ds : List Value) (dvs : List V), Mk T.K (T.cadr c) g ∧ FnOk T.P T.w T.K T.mg T.base (L2.CX T.P T.w) j g fd ps (spM T ps.length f) ∧ Binds T.K fd ps ds ∧ Vals dvs ds ∧ DReps T (fun _ => none) dvs dd ∧ j + 1 ≤ k ∧ ps.length = n + 1 + dd.length
  sl : slotted c = false
section
variable {T : Tbl} {N : List Str} {sc : Scope} {k : Nat} {W : WX} {X : Cx}
theorem run_makeAt {CX : CXT} {f C : Addr} {k : Nat} {fd : FuncData} {ps : List Str} {sp : Sp} {dvs : List V} {ds : List Value} {E : XK} {pins : List (Addr × Obj)} {σ : L2.St} {H : Hp} {s : Shared} {Q : VK} {us : List Value} {vs : List V} (M : Mk X.K C f) (F : FnOk X.prog X.w X.K X.mg X.base CX k f fd ps sp) (hr : Room (k + 1) X.A) (hb : Binds X.K fd ps ds) (hd : Vals dvs ds)
    (hx : PassesAt CX X σ E) (I : Inv X pins σ H s) (r : Vals vs us)
    (h : ∀ x dx, H x = none → H dx = none → dx ≠ x → sp (.ref x :: (vs ++ dvs)) (upd (upd H dx (.own x)) x (.ins C dx [])) (fun v H2 => v = .non ∧ Q (.ref x) H2) E) :
    wpAny (model X.prog X.w) X.A (call (.ref C) us) (EP X pins σ Q) X.xe s := by
  have hq := h (s.heap.objs.size + 1) s.heap.objs.size (I.hok.fresh (Nat.le_succ _)) (I.hok.fresh (Nat.le_refl _)) (Nat.ne_of_lt (Nat.lt_succ_self _))
  have I2 := Inv.made (C := C) I
  have r2 : Vals (V.ref (s.heap.objs.size + 1) :: (vs ++ dvs)) (Value.ref (s.heap.objs.size + 1) :: (us ++ ds)) := .cons rfl (r.append hd)
  have hl : (Value.ref (s.heap.objs.size + 1) :: us ++ ds).length = ps.length := by
    have e := r2.length
    rw [F.len _ _ _ _ hq] at e
    exact e.symm
  refine wpAny_call (make_map (f := f) I.kIn M.makes M.init (beq_iff_eq.mp M.fn) (codeAny_mono (F.run _ X.stack _ _ ⟨Value.ref (s.heap.objs.size + 1) :: us, []⟩ (Value.ref (s.heap.objs.size + 1) :: (us ++ ds)) _ _ E (hr.make C us [])
    (I2.env0.make C us []) (hb _ (Value.ref (s.heap.objs.size + 1) :: us) I2.kIn hl) r2 hq) fun r s' hq' => ?_))
  cases r with
  | error e => exact hx pins _ _ e s' I2 hq'
  | ok fl =>
    cases fl with
    | ret u =>
      obtain ⟨v, H', I3, rv, ev, q3⟩ := I2.after hq'
      subst ev
      exact ⟨rv, ⟨V.ref (s.heap.objs.size + 1), H', I3, rfl, q3⟩⟩
    | next => exact False.elim hq'
    | brk => exact False.elim hq'
    | cont => exact False.elim hq'
theorem run_mk (B : Bx T N sc k W X) {c n : Nat} {f : Fn} {dd : List Data} (M : MakOk T k c n dd f) {pins : List (Addr × Obj)} {σ : L2.St} {H : Hp} {s : Shared} {Q : VK} {us : List Value} {xs : List V} {w : Wd} {μ : Mem} {vs : List Val}
    (I : Inv X pins σ H s) (r : Vals xs us) (mr : MRel T w μ H) (rv : VReps T w xs vs) (hl : vs.length = n) (ok : OkR T (VRep T) w (mkFn c (dfl dd f) vs μ) Q (fun c d H' => W c d σ H')) : wpAny (model X.prog X.w) X.A (call (.ref (T.cadr c)) us) (EP X pins σ Q) X.xe s := by
  obtain ⟨g, ps, j, fd, ds, dvs, hm, G, hb, hd, hdd, hj, hn⟩ := M.ex
  have G' : FnOk X.prog X.w X.K X.mg X.base (L2.CX X.prog X.w) j g fd ps (spM T ps.length f) := by
    rw [B.P, B.w, B.K, B.mg, B.base]
    exact G
  refine run_makeAt (E := WE W σ) (by rw [B.K]; exact hm) G' (B.room.mono hj) (by rw [B.K]; exact hb) hd (passAt B.tk σ) I r fun x dx e1 e2 ne => ?_
  have hx : (upd (upd H dx (.own x)) x (.ins (T.cadr c) dx [])) = upd (upd H dx (.own x)) x (.ins (T.cadr c) dx ((flds c).zip [])) := by rw [List.zip_nil_right]
  obtain ⟨le1, mr1⟩ := mr.newD (o := .own x) e2
  have e1' : upd H dx (.own x) x = none := by rw [upd_ne (Ne.symm ne)]; exact e1
  obtain ⟨le2, mr2⟩ := mr1.newC (c := .ins c []) (o := .ins (T.cadr c) dx ((flds c).zip [])) e1' ⟨mr1.newF e1', dx, [], upd_same, Nat.zero_le _, upd_same, M.sl, .nil⟩
  have le := le1.trans le2
  refine ⟨⟨w.r ++ [x], upd w.F dx (.own x)⟩, μ ++ [.ins c []], .loc μ.length :: (vs ++ dd.map .d), ?_, .cons (.loc ?_) ((rv.mono le).append (DReps.vals (hdd.mono fun _ _ z => by cases z))), ?_, ?_⟩
  · rw [hx]
    exact mr2
  · show (w.r ++ [x])[μ.length]? = some x
    rw [← mr.len, List.getElem?_append_right (Nat.le_refl _)]
    simp
  · rw [List.length_cons, List.length_append, List.length_map, hl, hn]
    omega
  · have ok : OkR T (VRep T) w (match dfl dd f (.loc μ.length :: vs) (μ ++ [.ins c []]) with
      | .ok (.d .none) m => .ok (.loc μ.length) m
      | .ok _ _ => .bad
      | .exc c p m => .exc c p m
      | .bad => .bad) Q (fun c d H' => W c d σ H') := ok
    have e0 : f (.loc μ.length :: (vs ++ dd.map .d)) (μ ++ [.ins c []]) = dfl dd f (.loc μ.length :: vs) (μ ++ [.ins c []]) := (dfl_eq dd f (.loc μ.length :: vs) (μ ++ [Cell.ins c []])).symm
    rw [e0]
    cases hf : dfl dd f (.loc μ.length :: vs) (μ ++ [.ins c []]) with
    | bad =>
      rw [hf] at ok
      exact ok.elim
    | exc c' p m' =>
      rw [hf] at ok
      exact fun w' H' cls d le' R' q => ok w' H' cls d (le.trans le') R' q
    | ok v m' =>
      rw [hf] at ok
      have lx : (w.r ++ [x])[μ.length]? = some x := by
        rw [← mr.len, List.getElem?_append_right (Nat.le_refl _)]
        simp
      intro w' H' y le' R' ry
      cases v with
      | d z =>
        cases z with
        | none =>
          cases ry with
          | d ry =>
            cases ry
            exact ⟨rfl, ok w' H' (.ref x) (le.trans le') R' (.loc (le'.at lx))⟩
        | _ => exact ok.elim
      | _ => exact ok.elim
theorem de_make (B : Bx T N sc k W X) (fz : Bool) {c n : Nat} {dd : List Data} {f : Fn} {x : Str} {p pos : Pos} {e : Expr} {es : List Expr} {ma : AM} (M : MakOk T k c n dd f) (hkp : PySem.W.keepIn T.K (.ref (T.cadr c)) = true) (hg : sc.names.lookup x = some NameKind.globalImplicit) (hm : T.mg x = some (.ref (T.cadr c))) (ha : DA T W X (e :: es) ma)
    (hdb : (x == ("__debug__" : Str)) = false := by decide) (he : starEach (e :: es) X.env = (false, eval e X.env) :: starEach es X.env := by rfl) (hpl : (backTo pos (starEach es X.env)).any (·.1) = false := by rfl) : DE T W X (.Call (.Name x p) (e :: es) [] pos) (eCall n fz (mkFn c (dfl dd f)) ma) := by
  refine ⟨fun pins s σ H Q I h => ?_⟩
  obtain ⟨w, en, μ, er, mr, ok⟩ := h
  refine wpAny_Call_Name_kw (ld_glob I (show X.env.scope.names.lookup x = _ by rw [B.hsc]; exact hg) (by rw [B.mg]; exact hm) ?_ hdb)
  refine PySem.W.callWith_K (h₀ := X.base) I.ok.mod.kin (by rw [B.K]; exact hkp) (thn (ha.run pos pins s σ H _ I (OkR.go (P := VReps T) er mr ok)) fun us s1 ⟨vs, H1, I1, r, w1, as, μ1, le1, mr1, p1, ok1⟩ => ⟨I1.kIn, ?_⟩) he hpl
  have ok1 : OkR T (VRep T) w1 (if as.length = n then callF fz (mkFn c (dfl dd f)) as μ1 else .bad) Q (fun c d H' => W c d σ H') := ok1
  split at ok1
  · rename_i hl
    exact run_mk B M I1 r mr1 p1 hl (callF_ok mr1 ok1)
  · exact ok1.elim
end
end Fs
namespace Fs
open PySem PySem.Spec L2
def dkV (m : Mem) : Val → Option (List (Key × Val))
  | .d (.dk kvs) => some (kvs.map fun p => (p.1, .d p.2))
  | .loc l => match m[l]? with
    | some (.dk kvs) => some kvs
    | _ => Option.none
  | _ => Option.none
def keyV : Val → Option Key
  | .d (.int i) => some (.inl i)
  | .d (.str s) => some (.inr s)
  | _ => Option.none
def lkV (kvs : List (Key × Val)) (k : Key) : Option Val := (kvs.find? fun kv => decide (kv.1 = k)).map (·.2)
def ptV (kvs : List (Key × Val)) (k : Key) (v : Val) : List (Key × Val) := if (kvs.any fun kv => decide (kv.1 = k)) = true then kvs.map fun kv => if kv.1 = k then (kv.1, v) else kv else kvs ++ [(k, v)]
section
variable {T : Tbl} {w : Wd} {m : Mem} {H : Hp}
theorem keyV_ok {x : V} {v : Val} {k : Key} (r : VRep T w x v) (e : keyV v = some k) : x = kV k := by
  cases r with
  | d h =>
    cases h with
    | int i =>
      cases e
      rfl
    | str s =>
      cases e
      rfl
    | _ => cases e
  | _ => cases e
theorem DRepK.pair : ∀ {xs : List (Key × V)} {ds : List (Key × Data)}, DRepK T w.F xs ds → VPair T w xs (ds.map fun p => (p.1, .d p.2))
  | _, _, .nil => .nil
  | _, _, .cons h t => .cons ⟨rfl, .d h⟩ (DRepK.pair t)
theorem MRel.dk (R : MRel T w m H) {x : V} {v : Val} {kvs : List (Key × Val)} (h : VRep T w x v) (e : dkV m v = some kvs) : ∃ a xs, x = .ref a ∧ H a = some (.dK xs) ∧ VPair T w xs kvs := by
  cases h with
  | d h =>
    cases h with
    | dk h r =>
      cases e
      exact ⟨_, _, rfl, R.sub _ _ h, r.pair⟩
    | _ => cases e
  | @loc l a h =>
    have e : (match m[l]? with
      | some (.dk kvs) => some kvs
      | _ => Option.none) = some kvs := e
    split at e
    · rename_i q
      cases e
      obtain ⟨f, xs, h1, h2⟩ := R.cell l a _ h q
      exact ⟨_, _, rfl, h1, h2⟩
    · cases e
  | _ => cases e
theorem VPair.lk : ∀ {xs : List (Key × V)} {kvs : List (Key × Val)} {k : Key}, VPair T w xs kvs → (∃ x v, valV xs k = some x ∧ lkV kvs k = some v ∧ VRep T w x v) ∨ (valV xs k = none ∧ lkV kvs k = none)
  | _, _, _, .nil => .inr ⟨rfl, rfl⟩
  | (a, x) :: xs, (b, v) :: kvs, k, .cons h t => by
    obtain ⟨h1, h2⟩ := h
    have h1 : a = b := h1
    subst h1
    by_cases e : a = k
    · exact .inl ⟨x, v, valV_pos (p := (a, x)) e, by simp [lkV, e], h2⟩
    · have e1 : valV ((a, x) :: xs) k = valV xs k := valV_neg (p := (a, x)) e
      have e2 : lkV ((a, v) :: kvs) k = lkV kvs k := by simp [lkV, e]
      rw [e1, e2]
      exact VPair.lk t
theorem VPair.any_ (k : Key) : ∀ {xs : List (Key × V)} {kvs : List (Key × Val)}, VPair T w xs kvs → (xs.any fun kv => decide (kv.1 = k)) = kvs.any fun kv => decide (kv.1 = k)
  | _, _, .nil => rfl
  | (a, x) :: xs, (b, v) :: kvs, .cons h t => by
    have h1 : a = b := h.1
    subst h1
    rw [List.any_cons, List.any_cons, VPair.any_ k t]
theorem VPair.repl_ (k : Key) {y : V} {u : Val} (r : VRep T w y u) : ∀ {xs : List (Key × V)} {kvs : List (Key × Val)}, VPair T w xs kvs → VPair T w (xs.map fun kv => if kv.1 = k then (kv.1, y) else kv) (kvs.map fun kv => if kv.1 = k then (kv.1, u) else kv)
  | _, _, .nil => .nil
  | (a, x) :: xs, (b, v) :: kvs, .cons h t => by
    obtain ⟨h1, h2⟩ := h
    have h1 : a = b := h1
    subst h1
    rw [List.map_cons, List.map_cons]
    by_cases e : a = k
    · rw [if_pos e, if_pos e]
      exact .cons ⟨rfl, r⟩ (VPair.repl_ k r t)
    · rw [if_neg e, if_neg e]
      exact .cons ⟨rfl, h2⟩ (VPair.repl_ k r t)
theorem VPair.app {xs ys : List (Key × V)} {us vs : List (Key × Val)} (a : VPair T w xs us) (b : VPair T w ys vs) : VPair T w (xs ++ ys) (us ++ vs) := by
  induction a with
  | nil => exact b
  | cons h t ih => exact .cons h ih
theorem VPair.put_ (k : Key) {y : V} {u : Val} (r : VRep T w y u) {xs : List (Key × V)} {kvs : List (Key × Val)} (h : VPair T w xs kvs) : VPair T w (putK xs k y) (ptV kvs k u) := by
  unfold putK ptV
  rw [h.any_ k]
  split
  · exact h.repl_ k r
  · exact h.app (.cons ⟨rfl, r⟩ .nil)
theorem VPair.len {κ : Type} : ∀ {xs : List (κ × V)} {kvs : List (κ × Val)}, VPair T w xs kvs → xs.length = kvs.length
  | _, _, .nil => rfl
  | _ :: _, _ :: _, .cons _ t => by rw [List.length_cons, List.length_cons, VPair.len t]
end
def dgV (x y : Val) (m : Mem) : Res Val := match dkV m x with
  | some kvs => (match keyV y with
    | some k => (match lkV kvs k with
      | some v => .ok (norm m v) m
      | Option.none => .bad)
    | Option.none => .bad)
  | Option.none => .bad
def dinV (neg : Bool) (y x : Val) (m : Mem) : Res Val := match dkV m x with
  | some kvs => (match keyV y with
    | some k => .ok (.d (.bool (negB neg (lkV kvs k).isSome))) m
    | Option.none => .bad)
  | Option.none => .bad
def dpV (x y v : Val) (e : Env) (m : Mem) : SRes := match x with
  | .loc l => (match m[l]? with
    | some (.dk kvs) => (match keyV y with
      | some k => if kvs.length < 16777216 then .next e (m.set l (.dk (ptV kvs k v))) else .bad
      | Option.none => .bad)
    | _ => .bad)
  | _ => .bad
def sPutD (o i a : EM) : SM := fun e m => (a e m).st e fun v m => (o e m).st e fun x m => (i e m).st e fun y m => dpV x y v e m
def eNewD : EM := fun _ m => .ok (.loc m.length) (m ++ [.dk []])
section
variable {T : Tbl} {N : List Str} {sc : Scope} {k : Nat} {W : WX} {X : Cx}
theorem de_dget (B : Bx T N sc k W X) {o i : Expr} {mo mi : EM} {pos : Pos} (ho : DE T W X o mo) (hi : DE T W X i mi) (hs : NoSl i := by exact fun _ _ => rfl) : DE T W X (.Subscript o i pos) (eBin dgV mo mi) := by
  refine (pe_dget (by have := B.hu; omega) ho hi hs).mono fun σ H Q h => ?_
  obtain ⟨w, en, μ, er, mr, ok⟩ := h
  refine (OkR.go (P := VRep T) er mr ok).imp fun x H1 ⟨w1, v, μ1, le1, mr1, p1, ok1⟩ => ?_
  refine (OkR.go (P := VRep T) (er.mono le1) mr1 ok1).imp fun y H2 ⟨w2, u, μ2, le2, mr2, p2, ok2⟩ => ?_
  have ok2 : OkR T (VRep T) w2 (dgV v u μ2) Q (fun c d H' => W c d σ H') := ok2
  unfold dgV at ok2
  split at ok2
  · rename_i kvs hk
    split at ok2
    · rename_i k0 hk0
      obtain rfl := keyV_ok p2 hk0
      obtain ⟨a, xs, rfl, hH, hp⟩ := mr2.dk (p1.mono le2) hk
      rcases hp.lk (k := k0) with ⟨z, t, e1, e2, r⟩ | ⟨e1, e2⟩
      · rw [e2] at ok2
        exact ⟨a, z, rfl, e1 ▸ DGet.k hH, ok2.ok mr2 (r.norm mr2)⟩
      · rw [e2] at ok2
        exact ok2.elim
    · exact ok2.elim
  · exact ok2.elim
theorem dinV_go {neg : Bool} {σ : L2.St} {Q : VK} {w w1 : Wd} {x y : V} {v u : Val} {μ : Mem} {H : Hp} (mr : MRel T w μ H) (p1 : VRep T w x v) (p2 : VRep T w y u) (ok : OkR T (VRep T) w (dinV neg u v μ) Q (fun c d H' => W c d σ H')) :
    ∃ a o, x = .ref a ∧ DGet H a y o ∧ Q (.bl (negB neg o.isSome)) H := by
  unfold dinV at ok
  split at ok
  · rename_i kvs hk
    split at ok
    · rename_i k0 hk0
      obtain rfl := keyV_ok p2 hk0
      obtain ⟨a, xs, rfl, hH, hp⟩ := mr.dk p1 hk
      refine ⟨a, valV xs k0, rfl, DGet.k hH, ?_⟩
      have e : (lkV kvs k0).isSome = (valV xs k0).isSome := by
        rcases hp.lk (k := k0) with ⟨z, t, e1, e2, r⟩ | ⟨e1, e2⟩
        · rw [e1, e2]; rfl
        · rw [e1, e2]; rfl
      rw [e] at ok
      exact ok.ok mr (rBool _)
    · exact ok.elim
  · exact ok.elim
theorem pc_dinM (B : Bx T N sc k W X) (neg : Bool) {i o : Expr} {mi mo : EM} (hi : DE T W X i mi) (ho : DE T W X o mo) : PC X (if neg = true then .NotIn else .In) i o (rdE T W (eBin (dinV neg) mi mo)) := by
  have go : ∀ {σ : L2.St} {H : Hp} {Q : VK}, rdE T W (eBin (dinV neg) mi mo) σ H Q → rdE T W mi σ H fun y H1 => rdE T W mo σ H1 fun x H2 => ∃ a o, x = .ref a ∧ DGet H2 a y o ∧ Q (.bl (negB neg o.isSome)) H2 := fun h => by
    obtain ⟨w, en, μ, er, mr, ok⟩ := h
    refine (OkR.go (P := VRep T) er mr ok).imp fun y H1 ⟨w1, u, μ1, le1, mr1, p1, ok1⟩ => ?_
    refine (OkR.go (P := VRep T) (er.mono le1) mr1 ok1).imp fun x H2 ⟨w2, v, μ2, le2, mr2, p2, ok2⟩ => ?_
    exact dinV_go (w1 := w) mr2 p2 (p1.mono le2) ok2
  cases neg with
  | false => exact ⟨fun pins s σ H Q I h => (pc_din (by have := B.hu; omega) hi ho).run pins s σ H Q I (go h)⟩
  | true => exact ⟨fun pins s σ H Q I h => (pc_dnotin (by have := B.hu; omega) hi ho).run pins s σ H Q I (go h)⟩
theorem tB_of {me : EM} {σ : L2.St} {H : Hp} {Q : Bool → Hp → Prop} (h : rdT T W (tOf me) σ H Q) : tB (rdE T W me) σ H Q := by
  obtain ⟨w, e, μ, er, mr, ok⟩ := h
  refine (OkR.go (P := VRep T) er mr ok).imp fun x H1 ⟨w1, v, μ1, le1, mr1, p1, ok1⟩ => ?_
  have ok1 : OkR T BRep w1 (match asB v with
    | some b => .ok b μ1
    | Option.none => .bad) Q (fun c d H' => W c d σ H') := ok1
  split at ok1
  · rename_i b hb
    exact ⟨b, asB_rep p1 hb, ok1 w1 H1 b (Wd.Le.refl _) mr1 rfl⟩
  · exact ok1.elim
theorem dt_din (B : Bx T N sc k W X) {i o : Expr} {mi mo : EM} {pos : Pos} (hi : DE T W X i mi) (ho : DE T W X o mo) (hm : behindInMarks .In o = false := by with_unfolding_all rfl) : DT T W X (.Compare i [.In] [o] pos) (tOf (eBin (dinV false) mi mo)) := (pt_cmp (pc_dinM B false hi ho) hm).mono fun σ H Q h => tB_of h
theorem dt_dnotin (B : Bx T N sc k W X) {i o : Expr} {mi mo : EM} {pos : Pos} (hi : DE T W X i mi) (ho : DE T W X o mo) (hm : behindInMarks .NotIn o = false := by with_unfolding_all rfl) : DT T W X (.Compare i [.NotIn] [o] pos) (tOf (eBin (dinV true) mi mo)) := (pt_cmp (pc_dinM B true hi ho) hm).mono fun σ H Q h => tB_of h
theorem ds_dput (B : Bx T N sc k W X) {o i e : Expr} {mo mi me : EM} {pos p2 : Pos} (ho : DE T W X o mo) (hi : DE T W X i mi) (he : DE T W X e me) (hs : swapsWith e (some (.Subscript o i p2)) pos.line X.env = pure false := by rfl) : DS T W X (.Assign [.Subscript o i p2] e pos) (sPutD mo mi me) := by
  refine (ps_dput (by have := B.hu; omega) ho hi he hs).mono fun D σ H h => ?_
  obtain ⟨w, en, μ, er, mr, ok⟩ := h
  refine (OkS.go (P := VRep T) er mr ok).imp fun z H1 ⟨w1, v, μ1, le1, mr1, p1, ok1⟩ => ?_
  refine (OkS.go (P := VRep T) (er.mono le1) mr1 ok1).imp fun x H2 ⟨w2, u, μ2, le2, mr2, p2, ok2⟩ => ?_
  refine (OkS.go (P := VRep T) ((er.mono le1).mono le2) mr2 ok2).imp fun y H3 ⟨w3, t, μ3, le3, mr3, p3, ok3⟩ => ?_
  have ok3 : OkS T w3 (dpV u t v en μ3) D W := ok3
  clear ok2 ok1 ok
  unfold dpV at ok3
  split at ok3
  · split at ok3
    · rename_i _ kvs hl
      split at ok3
      · rename_i k0 hk0
        split at ok3
        · rename_i hlen
          obtain rfl := keyV_ok p3 hk0
          cases p2.mono le3 with
          | @loc _ a ha =>
            obtain ⟨fr, xs, hH, hp⟩ := mr3.cell _ a _ ha hl
            have pv := (p1.mono le2).mono le3
            refine ⟨a, _, rfl, DPut.k hH (by rw [hp.len]; exact hlen), ok3 w3 σ _ (Wd.Le.refl _) (((er.mono le1).mono le2).mono le3) (mr3.write (c := .dk (ptV kvs k0 v)) ha fr ⟨fr, _, upd_same, hp.put_ k0 pv⟩)⟩
        · exact ok3.elim
      · exact ok3.elim
    · exact ok3.elim
  · exact ok3.elim
theorem de_newD {pos : Pos} : DE T W X (.Dict [] [] pos) eNewD := by
  refine pe_dnewK.mono fun σ H Q h => ?_
  obtain ⟨w, en, μ, er, mr, ok⟩ := h
  intro p hp
  have ok : OkR T (VRep T) w (.ok (.loc μ.length) (μ ++ [.dk []])) Q (fun c d H' => W c d σ H') := ok
  obtain ⟨le, R⟩ := mr.newC (c := .dk []) (o := .dK []) hp ⟨mr.newF hp, [], upd_same, .nil⟩
  refine ok.ok' le R (.loc ?_)
  show (w.r ++ [p])[μ.length]? = some p
  rw [← mr.len, List.getElem?_append_right (Nat.le_refl _)]
  simp
end
end Fs
namespace Fs
open PySem PySem.Spec L2
section
variable {K : PySem.W.Frag} {M : Model} {A : Around} {s : Shared} {x C f : Addr} {ox : Obj} {od : Option Obj} {E : Value → Shared → Prop}
end
section
variable {T : Tbl} {N : List Str} {sc : Scope} {k : Nat} {W : WX} {X : Cx}
def sBad : SM := fun _ _ => .bad
theorem de_ccon (B : Bx T N sc k W X) {c : Nat} {f : Str} {x : Str} {p pos : Pos} {i : Int} {t : Tok} {mc : Value} (hg : sc.names.lookup x = some NameKind.globalImplicit) (hm : T.mg x = some (.ref (T.cadr c))) (r : ClX.CRead T.K (T.cadr c) mc) (hv : PySem.W.findCls T.K (.ref (T.cadr c)) mc f = some (.val (.int i t)))
    (hdb : (x == ("__debug__" : Str)) = false := by decide) (hb : attributeBase (.Name x p) f X.env (eval (.Name x p) X.env) = eval (.Name x p) X.env := by rfl) : DE T W X (.Attribute (.Name x p) f pos) (eC (.int i)) := by
  refine ⟨fun pins s σ H Q I h => ?_⟩
  obtain ⟨w, en, μ, er, mr, ok⟩ := h
  refine attr_of hb (ld_glob I (show X.env.scope.names.lookup x = _ by rw [B.hsc]; exact hg) (by rw [B.mg]; exact hm) ?_ hdb)
  exact ClX.getcval_ok I (by rw [B.K]; exact r) (v := .int i) (u := .int i t) (by rw [B.K]; exact ⟨hv, ⟨t, rfl⟩⟩) fun s' I' => ⟨.int i, H, I', ⟨t, rfl⟩, ok.ok mr (rInt i)⟩
end
end Fs
namespace Fs
open PySem PySem.Spec L2
section
variable {T : Tbl} {N : List Str} {sc : Scope} {k : Nat} {W : WX} {X : Cx}
end
end Fs
namespace Fs
open PySem PySem.Spec L2 ItX
structure ItfOk (T : Tbl) (c : Nat) (f : Str) : Prop where
  sl : slotted c = false
  ex : ∃ g : Addr, PySem.W.findIn T.K (.ref (T.cadr c)) "__iter__" = some (some (.ref g)) ∧ PySem.W.isFn T.K (.ref g) = true ∧
    ∀ (A : Around) (outer : List PySem.Env) (s : Shared) (H : Hp) (a l dx : Addr) (fs : List (Str × V)) (zs : List V) (E : XK), Room 1 A → Env0 T.P T.w T.K T.mg T.base A outer s H → H a = some (.ins (T.cadr c) dx fs) → fs.lookup f = some (.ref l) → SqL T.K H l zs →
      codeAny (model T.P T.w) A (.call (.ref g) ⟨[.ref a], []⟩) (CR (L2.CX T.P T.w) outer T.P T.w H s (fun v H' => ∃ it, s.heap.objs.size ≤ it ∧ v = .ref it ∧ H' = upd H it (ItO l it 0) ∧ H it = none) E) s
theorem itf_of {T : Tbl} {c : Nat} {f self : Str} {x qual : Str} {params : Arguments} {scope : Scope} {dvs : List V} {kws : List (Str × V)} {g : Addr} {fd : FuncData} {N : List Str} {p1 p2 p3 p4 p5 : Pos} (hsl : slotted c = false)
    (F : FunD T.K x qual params [.Return (some (.Call (.Name "iter" p1) [.Attribute (.Name self p2) f p3] [] p4)) p5] scope dvs kws g fd) (S : FnScope N [self] scope) (hb : Binds T.K fd [self] [])
    (hfind : PySem.W.findIn T.K (.ref (T.cadr c)) "__iter__" = some (some (.ref g))) (hfn : PySem.W.isFn T.K (.ref g) = true) (hc : Cls T.K (T.cadr c)) (hna : NoAttr T.K (T.cadr c) f) (hit : T.mg ("iter" : Str) = none) (hN : N[0]? = some self) (hv : Vis scope self)
    (hgl : scope.names.lookup ("iter" : Str) = some NameKind.globalImplicit) (hd : (self == ("__debug__" : Str)) = false := by decide) (hcd : (self == ("__classdict__" : Str)) = false := by decide) : ItfOk T c f := by
  refine ⟨hsl, g, hfind, hfn, fun A outer s H a l dx fs zs E hr e0 hH hl hq => ?_⟩
  obtain ⟨oc, od, dV, kV, doc, pm, an, cdv, ct, osl, rfl, lk, hcdv, _, _⟩ := F.ex
  have KX : T.K.In s.heap := e0.mod.kin.keeps fun b o e => (e0.bs b o e).1
  have lim : s.heap.NoLimit := e0.mod.nolimit.keeps fun b o e => (e0.bs b o e).1
  have hkind : ∀ y ∈ [self].zip [Value.ref a], scope.names.lookup y.1 = some .local ∨ (scope.names.lookup y.1 = some .cell ∧ ((cellsFrom (s.heap.objs.size + 1) scope.names []).lookup y.1).isSome = true) := fun ⟨n, v⟩ hy => by
    rcases S.par n (List.of_mem_zip hy).1 with q | q
    · exact .inl q
    · exact .inr ⟨q, PySem.W.cellsFrom_some _ _ _ (.inl q)⟩
  refine codeAny_call_function hr.depth (KX _ _ lk) rfl S.co S.gen rfl (PySem.W.codeRec_of KX hcdv) (hb s [.ref a] KX rfl _ _ _ _ ?_)
  refine wpAny_newFunctionEnv_cells S.kind hkind fun env he s1 x => ?_
  subst he
  refine ⟨lim.keeps x.toInCall.keep, codeAny_func ?_⟩
  have I : Inv (cxOf (L2.CX T.P T.w) T.P T.w T.K T.mg T.base N qual scope g cdv A outer s H E) [] (L2.start N [.ref a]) H s1 := inv_start S hr.hd e0 rfl (.cons rfl .nil) x
  have st0 : (L2.start N [V.ref a])[0]? = some (some (V.ref a)) := by
    unfold L2.start
    rfl
  have P : PSs (cxOf (L2.CX T.P T.w) T.P T.w T.K T.mg T.base N qual scope g cdv A outer s H E) [.Return (some (.Call (.Name "iter" p1) [.Attribute (.Name self p2) f p3] [] p4)) p5] _ :=
    pss_one (ps_ret (pe_callB call_iterN hgl hit PyProof.Rows.boot_iter (pa_cons (pe_fld (pe_var (i := 0) hN hv hd hcd) (by rfl)) pa_nil)))
  refine wpAny_mono (P.run [] s1 (L2.start N [.ref a]) H { nx := fun _ _ => False, rt := fun v H' => ∃ it, s.heap.objs.size ≤ it ∧ v = .ref it ∧ H' = upd H it (ItO l it 0) ∧ H it = none } I ?_) (fun fl s' hs => ?_) fun e s' hs => ?_
  · refine ⟨.ref a, st0, a, T.cadr c, dx, fs, .ref l, rfl, hH, hc, hna, hl, l, zs, rfl, hq, fun it hit hn => ⟨it, hn, rfl, rfl, hit⟩⟩
  · cases fl with
    | ret u =>
      obtain ⟨v, σ', H', J, rv, q⟩ := hs
      exact ⟨v, H', J.os, J.bare, J.base, J.hok, rv, q⟩
    | next =>
      obtain ⟨σ', H', J, q⟩ := hs
      exact q.elim
    | brk =>
      obtain ⟨_, _, _, q⟩ := hs
      exact False.elim q
    | cont =>
      obtain ⟨_, _, _, q⟩ := hs
      exact False.elim q
  · exact hs
open PySem.W in
theorem iter_own {M : Model} {A : Around} {E : Value → Shared → Prop} {s : Shared} {K : Frag} {x C f : Addr} {ox : Obj} {od : Option Obj} {Q : Value → Shared → Prop} (X : K.In s.heap) (I : InstAt s.heap x ox C od) (hs : findIn K (.ref C) "__iter__" = some (some (.ref f))) (hf : isFn K (.ref f) = true)
    (h : wpAny M A (call (.ref f) [.ref x]) (fun v s' => Shared.TypeIs s' v "list_iterator" ∧ Q v s') E s) : wpAny M A (pyIter (.ref x)) Q E s := by
  have fin : wpAny M A (call (.ref f) [.ref x] >>= fun v => pure (some v)) (fun r s' => ∃ v, r = some v ∧ Shared.TypeIs s' v "list_iterator" ∧ Q v s') E s :=
    wpAny_bind (wpAny_mono h (fun v s' h' => wpAny_pure ⟨v, rfl, h'⟩) fun _ _ z => z)
  have one : ∀ refuse : Sem Value, wpAny M A (callSpecialIfBoundUnlessNone? (.ref x) "__iter__" refuse) (fun r s' => ∃ v, r = some v ∧ Shared.TypeIs s' v "list_iterator" ∧ Q v s') E s := by
    intro refuse
    simp only [callSpecialIfBoundUnlessNone?, bindSpecialIfBound?]
    refine wpAny_holding (wpAny_bind (wpAny_bind (wpAny_bind (I.type.here ((looks_findIn X hs).here ?_)))))
    refine wpAny_bind (wpAny_askSetting (wpAny_ite ?_))
    have fin2 : wpAny M A (if (Value.ref f == Value.none) = true then (refuse >>= fun v => pure (some v)) else (call (.ref f) [.ref x] >>= fun v => pure (some v))) (fun r s' => ∃ v, r = some v ∧ Shared.TypeIs s' v "list_iterator" ∧ Q v s') E s := by
      rw [if_neg (show ¬ ((Value.ref f == Value.none) = true) from Bool.false_ne_true)]
      exact fin
    split
    · exact wpAny_bind ((bind_fn X _ (beq_iff_eq.mp hf)).here (wpAny_pure (by exact fin2)))
    · exact wpAny_tryCatch (wpAny_bind ((bind_fn X _ (beq_iff_eq.mp hf)).here (wpAny_pure (by exact fin2))))
  unfold pyIter
  refine wpAny_bind (wpAny_bind (I.type.here ((looks_findIn X hs).here ?_)))
  show wpAny M A (callSpecialIfBoundUnlessNone? (.ref x) "__iter__" _ >>= _) Q E s
  refine wpAny_bind (wpAny_mono (one _) (fun r s' hr => ?_) fun _ _ z => z)
  obtain ⟨v, rfl, hv, hq⟩ := hr
  exact wpAny_bind (wpAny_specialOf hv slot_listiter_next.lookup (wpAny_pure hq))
def ownW (T : Tbl) (tbl : List (Nat × Str)) (x : V) (H : Hp) (R : It → Hp → Prop) : Prop := ∃ (a : Addr) (c : Nat) (f : Str) (dx : Addr) (fs : List (Str × V)) (l : Addr) (zs : List V), x = .ref a ∧ (c, f) ∈ tbl ∧ H a = some (.ins (T.cadr c) dx fs) ∧ fs.lookup f = some (.ref l) ∧ SqL T.K H l zs ∧ R (Itl T.K l) H
section
variable {T : Tbl} {N : List Str} {sc : Scope} {k : Nat} {W : WX} {X : Cx}
theorem pi_own (B : Bx T N sc k W X) (tbl : List (Nat × Str)) (h : ∀ r ∈ tbl, ItfOk T r.1 r.2) (hk : 1 ≤ k) {tg e : Expr} {te : TE} (he : PE X e te) : PI X tg e (fun σ H R => te σ H fun x H1 => ownW T tbl x H1 R) := by
  refine ⟨fun pins s σ H R I hw => thn (he.run pins s σ H _ I hw) fun v s1 ⟨x, H1, I1, r1, q1⟩ => ?_⟩
  obtain ⟨a, c, f, dx, fs, l, zs, rfl, hc, hH, hl, hq, hR⟩ := q1
  obtain rfl : v = Value.ref a := r1
  obtain ⟨hsl, g, hfind, hfn, run⟩ := h _ hc
  obtain ⟨mA, O, r, _, _, _⟩ := ins_get I1.hok hH
  obtain ⟨od, J, _⟩ := O.look
  have e0 : Env0 T.P T.w T.K T.mg T.base X.A X.stack s1 H1 := by
    rw [← B.P, ← B.w, ← B.K, ← B.mg, ← B.base]
    exact I1.env0
  have run := run X.A X.stack s1 H1 a l dx fs zs (WE W σ) (B.room.mono hk) e0 hH hl hq
  rw [← B.P, ← B.w] at run
  refine iter_own I1.kIn J (by rw [B.K]; exact hfind) (by rw [B.K]; exact hfn) ?_
  refine wpAny_call (codeAny_mono run fun r s2 hr => ?_)
  cases r with
  | error e => exact passAt B.tk σ pins H1 s1 e s2 I1 hr
  | ok fl =>
    cases fl with
    | ret u =>
      obtain ⟨v, H2, I2, rv, it, hn, rfl, rfl, hit⟩ := I1.after hr
      obtain rfl : u = Value.ref it := rv
      have ei : upd H1 it (ItO l it 0) it = some (ItO l it 0) := upd_same
      have eo := itO_get I2 ei
      have st : s2.heap.IsListIter it l 0 := ⟨_, eo, rfl, rfl⟩
      refine ⟨⟨_, eo, rfl⟩, ?_⟩
      have ei' := ei
      unfold ItO at ei'
      refine ⟨it, [it], _, _, dropH (upd H1 it (ItO l it 0)) it, rfl, inv_drop I2 ei', turn_list l it, st, fun b hb => ?_, ?_⟩
      · have e : b = it := by simpa using hb
        rw [e]
        exact inv_fp I2 ei (Nat.le_trans I1.sz hn)
      · rw [dropH_upd hit, B.K]
        exact hR
    | next => exact False.elim hr
    | brk => exact False.elim hr
    | cont => exact False.elim hr
def itLst (v : Val) (m : Mem) : Option Its := match v with
  | .d (.list xs) => some ⟨xs.map .d, Option.none⟩
  | .loc l => (lstV m (.loc l)).map fun vs => ⟨vs, some (l, vs)⟩
  | _ => Option.none
def itOwn (tbl : List (Nat × Str)) (v : Val) (m : Mem) : Option Its := match fldOf m v with
  | some (c, fs) => (match tbl.lookup c with
    | some f => (((flds c).zip fs).lookup f).bind fun u => itLst (norm m u) m
    | Option.none => Option.none)
  | Option.none => Option.none
theorem itLst_ok {w : Wd} {m : Mem} {H : Hp} {x : V} {v : Val} {i : Its} (mr : MRel T w m H) (rx : VRep T w x v) (hi : itLst v m = some i) : ∃ a xs, x = .ref a ∧ SqL T.K H a xs ∧ IterOk T w (Itl T.K a) i := by
  cases rx with
  | d h =>
    cases h with
    | @lst a xs ds h r =>
      cases hi
      exact ⟨a, xs, rfl, .of (mr.sub _ _ h), iter_lst r.vals fun w' μ H le R' _ => ⟨xs, .of (R'.sub _ _ (le.F _ _ h)), r.vals.mono le⟩⟩
    | _ => cases hi
  | @loc l a h =>
    obtain ⟨vs, h1, h2⟩ := Option.map_eq_some_iff.mp (show (lstV m (.loc l)).map _ = some i from hi)
    subst h2
    obtain ⟨b, xs, e, h3, h4⟩ := mr.lst (.loc h) h1
    cases e
    refine ⟨a, xs, rfl, .of h3, iter_lst h4 fun w' μ H le R' gk => ?_⟩
    obtain ⟨_, ys, h5, h6⟩ := R'.cell l a _ (le.at h) (show μ[l]? = some (.lst vs) from gk)
    exact ⟨ys, .of h5, h6⟩
  | _ => cases hi
theorem sndi_own {tbl : List (Nat × Str)} (h : ∀ r ∈ tbl, ItfOk T r.1 r.2) : SndI T (ownW T tbl) (itOwn tbl) := by
  intro w m H x v i R mr rx hi hR
  unfold itOwn at hi
  split at hi
  · rename_i c fs hf
    split at hi
    · rename_i f hc
      obtain ⟨u, hu, hi⟩ := Option.bind_eq_some_iff.mp hi
      obtain ⟨a, dx, xs, rfl, hxs, hcase⟩ := fldOf_ok mr rx hf
      have hm := lookup_in hc
      rcases hcase with ⟨hs, hH⟩ | ⟨q, _⟩
      · obtain ⟨y, h1, h2⟩ := lookup_zip hxs hu
        obtain ⟨l, zs, rfl, hq, hit⟩ := itLst_ok mr (h2.norm mr) hi
        exact ⟨a, c, f, dx, _, l, zs, rfl, hm, hH, h1, hq, hR _ hit⟩
      · have := (h _ hm).sl
        rw [this] at q
        cases q
    · cases hi
  · cases hi
theorem di_own (B : Bx T N sc k W X) (tbl : List (Nat × Str)) (h : ∀ r ∈ tbl, ItfOk T r.1 r.2) (hk : 1 ≤ k) {tg e : Expr} {me : EM} (he : DE T W X e me) : DI T W X tg e (iOf (itOwn tbl) me) :=
  di_of (r := ownW T tbl) (fun te p => pi_own B tbl h hk p) (sndi_own h) he
end
end Fs
namespace Fs
open PySem PySem.Spec L2
def indexV (x : Val) (vs : List Val) (m : Mem) : Res Val := match lstV m x, vs with
  | some us, [.d a] => (match allD us with
    | some ds => if flatD a = true ∧ ds.all flatD = true then (match ds.findIdx? (fun z => flatEq z a) with
      | some j => .ok (.d (.int j)) m
      | Option.none => .bad) else (match toPy a, toPys ds with
      | some p, some ps => if (SeqAt.shaped p && SeqAt.shaped (.list ps)) = true then (match ps.findIdx? (fun z => PyData.eqv z p) with
        | some j => .ok (.d (.int j)) m
        | Option.none => .bad) else .bad
      | _, _ => .bad)
    | Option.none => .bad)
  | _, _ => .bad
section
variable {T : Tbl} {N : List Str} {sc : Scope} {k : Nat} {W : WX} {X : Cx}
abbrev rIndexV (K : PySem.W.Frag) : V → List V → Hp → VK → Prop := fun x xs H Q => rIndex K x xs H Q ∨ rIndexD K x xs H Q
theorem mt_indexV (hu : X.A.units + 65 < cLine) : MtR X "list.index" (rIndexV X.K) := by
  intro pins s σ H x xs v us Q I rx rxs h
  rcases h with h | h
  · exact mt_index pins s σ H x xs v us Q I rx rxs h
  · exact mt_indexD hu pins s σ H x xs v us Q I rx rxs h
theorem snd_index : SndM T (rIndexV T.K) indexV := by
  intro w m H x v xs vs Q E R r rs ok
  unfold indexV at ok
  split at ok
  · rename_i us a hl
    obtain ⟨ad, ys, rfl, h1, h2⟩ := R.lst r hl
    obtain ⟨y, rfl, h4⟩ := reps1 rs
    split at ok
    · rename_i ds hds
      split at ok
      · rename_i hf
        split at ok
        · rename_i j hj
          have h5 := h2.of_all hds
          cases h4 with
          | d h4 =>
            obtain ⟨hj1, hj2, hj3⟩ := List.findIdx?_eq_some_iff_getElem.mp hj
            have hlen := h5.length
            have hz : ys[j]? = some (ys[j]'(by omega)) := List.getElem?_eq_getElem _
            have get : ∀ (i : Nat) (z : V), ys[i]? = some z → ∃ d, ds[i]? = some d ∧ DRep T w.F z d := by
              intro i z hi
              have hi2 : i < ds.length := by
                have := (List.getElem?_eq_some_iff.mp hi).1
                omega
              obtain ⟨z', e1, e2⟩ := h5.vals.get (i := i) (v := .d ds[i]) (by rw [List.getElem?_map, List.getElem?_eq_getElem hi2]; rfl)
              rw [hi] at e1
              cases e1
              cases e2 with
              | d e2 => exact ⟨_, List.getElem?_eq_getElem hi2, e2⟩
            refine .inl ⟨ad, ys, y, j, _, rfl, rfl, .of h1, flat_rep h4 hf.1, flats_rep h5 hf.2, hz, ?_, fun i z' hi hz' => ?_, ok.ok R (rInt _)⟩
            · obtain ⟨d, e1, e2⟩ := get j _ hz
              rw [flatEq_rep e2 h4]
              rw [List.getElem?_eq_getElem hj1] at e1
              cases e1
              exact hj2
            · obtain ⟨d, e1, e2⟩ := get i _ hz'
              rw [flatEq_rep e2 h4]
              have := hj3 i hi
              rw [List.getElem?_eq_getElem (by omega)] at e1
              cases e1
              simpa using this
        · exact ok.elim
      · split at ok
        · rename_i q qs hq hqs
          split at ok
          · rename_i hs
            rw [Bool.and_eq_true] at hs
            split at ok
            · rename_i j hj
              obtain ⟨hj1, hj2, hj3⟩ := List.findIdx?_eq_some_iff_getElem.mp hj
              have h5 := h2.of_all hds
              cases h4 with
              | d h4 =>
                refine .inr ⟨ad, y, q, qs, j, qs[j], rfl, rfl, .lst (.of h1) (h5.py R.sub hqs), h4.py R.sub hq, hs.2, hs.1, List.getElem?_eq_getElem hj1, hj2, fun i z' hi hz' => ?_, ok.ok R (rInt _)⟩
                have := hj3 i hi
                rw [List.getElem?_eq_getElem (by omega)] at hz'
                cases hz'
                simpa using this
            · exact ok.elim
          · exact ok.elim
        · exact ok.elim
    · exact ok.elim
  · exact ok.elim
variable {a b e o : Expr} {es : List Expr} {ma mb me mo : EM} {ms : AM} {pos apos p : Pos}
theorem de_index (B : Bx T N sc k W X) (ho : DE T W X o mo) (ha : DA T W X [e] ms) (hbase : attributeBase o "index" X.env (eval o X.env) = eval o X.env := by rfl) (hfew : ((backTo pos (starEach (e :: []) X.env)).all (fun x => !x.1) && (backToKw pos (keywordEach [] X.env)).all (fun x => x.1.isSome)
      && decide ((e :: []).length + ([] : List Keyword).length + (if ([] : List Keyword).isEmpty then 0 else 1) < 30)) = true := by rfl) (hs : starEach (e :: []) X.env = (false, eval e X.env) :: starEach [] X.env := by rfl) (hpl : (backTo pos (starEach [] X.env)).any (·.1) = false := by rfl) (hline : (apos.endLine == pos.line) = true := by rfl) :
    DE T W X (.Call (.Attribute o "index" apos) [e] [] pos) (eBm isL indexV mo ms) := de_bm B PySem.F.plainAttrs_list PySem.F.slot_list_index PySem.F.type_list_index (mt_indexV B.hu) ty_list (by rw [B.K]; exact snd_index) ho ha hbase hfew hline hs hpl
end
end Fs
namespace Fs
open PySem PySem.Spec L2
abbrev supBody (text fl self p : Str) (j : Nat) (q0 q1 q2 q3 q4 q5 q6 q7 q8 q9 : Pos) : List Stmt :=
  [.Expr (.Call (.Attribute (.Call (.Name "super" q0) [] [] q1) "__init__" q2) [.Constant (.str text) j q3] [] q4) q5, .Assign [.Attribute (.Name self q6) fl q7] (.Name p q8) q9]
structure SupI (P : Program) (K : PySem.W.Frag) (C cc cda : Addr) (fl slf qual : Str) (scope : Scope) : Prop where
  T : OexC K C
  ini : PySem.W.excInitIn K C [.type "ValueError", .type "Exception", .type "BaseException", .type "object"] "ValueError.__new__" = true
  code : PySem.W.codeIn K (.ref cda) qual = true
  cdo : ∃ ccl cdd vs ccs file tf, K.lookup cda = some ⟨ccl, cdd, .fields vs, ccs⟩ ∧ vs[2]? = some (.str file tf) ∧ ((P.main.file : Str) == file) = true
  cell : ∃ cl cld csl, K.lookup cc = some ⟨cl, cld, .cell (some (.ref C)), csl⟩
  sub : PySem.W.mroIn K C (.ref C) = some true
  nosup : PySem.W.nsIn K mainGlobals "super" = some none
  stat : PySem.W.nsIn K cStatics "thirdparty.any" = some none
  above : PySem.W.ks_superIn K C C "__init__" = some (some (.builtin "ValueError.__init__"))
  subV : PySem.W.subIn K (.ref C) (.type "ValueError") = some true
  nof : PySem.W.findIn K (.ref C) fl = some none
  ks : scope.names.lookup ("super" : Str) = some .globalImplicit
  kc : scope.names.lookup ("__class__" : Str) = some .free
  ka : scope.names.lookup slf = some .local
  top : (P.main.scope.names.lookup ("super" : Str)).isSome = false
def spSup (C : Addr) (fl : Str) : Sp := fun vs H Q _ => ∃ (a : Addr) (v : V), vs = [.ref a, v] ∧ H a = some (exo a C none) ∧ ∀ dx, H dx = none → dx ≠ a → Q .non (upd (upd H dx (exd dx [(fl, v)])) a (exo a C (some dx)))
section
open PySem.W PyProof.Rows
variable {P : Program} {w : World} {K : PySem.W.Frag} {mg : Str → Option Value} {base : Heap} {CX : CXT} {k : Nat} {C f cc cda : Addr} {fl self p name qual text : Str} {params : Arguments} {scope : Scope} {dV kV doc pm ct oc : Value} {an od : Option Addr} {osl : Array (Option Value)} {j : Nat} {q0 q1 q2 q3 q4 q5 q6 q7 q8 q9 : Pos}
theorem sup_fn (S : SupI P K C cc cda fl self qual scope)
    (lk : K.lookup f = some ⟨oc, od, .func (ksFn name qual params (supBody text fl self p j q0 q1 q2 q3 q4 q5 q6 q7 q8 q9) scope dV kV doc pm an (.ref cda) ct cc), osl⟩)
    {ar : Arg} (hp : (params.posonlyargs ++ params.args).head? = some ar) (har : ar.arg = self) (hne : (p == self) = false) (hkp : scope.names.lookup p = some .local)
    (hcell : ∀ x ∈ scope.names, x.2 ≠ .cell) (hco : scope.isCoroutine = false) (hgen : scope.isGenerator = false) (hk : scope.kind = .function) (hdp : (p == ("__debug__" : Str)) = false) (hds : (self == ("__debug__" : Str)) = false)
    {pl : Sem Bool} (hmc : ∀ env : PySem.Env, eval (.Call (.Attribute (.Call (.Name "super" q0) [] [] q1) "__init__" q2) [.Constant (.str text) j q3] [] q4) env = (do
      let ov ← attributeBase (.Call (.Name "super" q0) [] [] q1) "__init__" env (eval (.Call (.Name "super" q0) [] [] q1) env)
      standAt q2.atName
      let (f, first) ← holding [ov] (getMethod ov "__init__" pl)
      callWith q4 f first (backTo q4 (starEach [.Constant (.str text) j q3] env)) [])) :
    FnOk P w K mg base CX (k + 1) f (ksFn name qual params (supBody text fl self p j q0 q1 q2 q3 q4 q5 q6 q7 q8 q9) scope dV kV doc pm an (.ref cda) ct cc) [self, p] (spSup C fl) := by
  refine ⟨fun vs H Q E ⟨a, v, e, _⟩ => by rw [e]; rfl, fun A outer s H args us vs Q E hr e0 hb r hsp => ?_⟩
  obtain ⟨a, v, rfl, ha, hq⟩ := hsp
  cases r with
  | @cons _ ua _ ut ra rt =>
  cases rt with
  | @cons _ u _ ut rv rn =>
  cases rn
  obtain rfl : ua = Value.ref a := ra
  have KX : K.In s.heap := e0.mod.kin.keeps fun b o e => (e0.bs b o e).1
  have lim : s.heap.NoLimit := e0.mod.nolimit.keeps fun b o e => (e0.bs b o e).1
  obtain ⟨mb, hmb, hblt⟩ := e0.mod.blt
  have nb : ∀ {b : Addr} {o : Obj}, base.get? b = some o → b ≠ a := fun {b o} e z => by
    have := (e0.bs b o e).2
    rw [z, ha] at this
    cases this
  have bh : ∀ b o, base.get? b = some o → (hideAll s.heap [a]).get? b = some o := fun b o e => hideAll_get [a] (e0.bs b o e).1 (by simpa using nb e)
  have KH : K.In (hideAll s.heap [a]) := e0.mod.kin.keeps bh
  obtain ⟨t1, hoe⟩ := exo_at e0.hok ha
  refine ks_codeAny_call_defAt (fd := ksFn name qual params (supBody text fl self p j q0 q1 q2 q3 q4 q5 q6 q7 q8 q9) scope dV kV doc pm an (.ref cda) ct cc) (body := supBody text fl self p j q0 q1 q2 q3 q4 q5 q6 q7 q8 q9) (binds := [(self, .ref a), (p, u)]) hr.depth (KX _ _ lk) rfl lim (codeRec_of KX S.code) rfl hb hcell
    (fun x hx => ?_) (fun h₁ hns hk₁ => ?_) hco hgen hk
  · rcases List.mem_cons.mp hx with rfl | hx
    · exact S.ka
    · rcases List.mem_cons.mp hx with rfl | hx
      · exact hkp
      · cases hx
  have eL : (s.heap.objs.size) = s.heap.objs.size := rfl
  have hlt : a < s.heap.objs.size := Heap.lt_size hoe
  have F0 : Fr (hideAll s.heap [a]) s.heap.objs.size h₁ (fun y => ([(self, Value.ref a), (p, u)] : List (Str × Value)).reverse.lookup y) := ⟨hns, fun b o e => hk₁ b o (of_hideAll _ e), Nat.le_of_eq (hideAll_size _ _)⟩
  have N0 : News (hideAll s.heap [a]) s.heap.objs.size h₁ [(a, excObj C t1 none .none)] := fun z hz => by
    rw [List.mem_singleton.mp hz]
    exact ⟨hk₁ _ _ hoe, Nat.ne_of_lt hlt, hideAll_none [a] (List.mem_singleton.mpr rfl)⟩
  have glob : (hideAll s.heap [a]).Ns mainGlobals mg := e0.mod.glob.keeps bh
  have hbn : (hideAll s.heap [a]).Ns builtinsNs mb := hmb.keeps bh
  obtain ⟨nm, q, N', bs, bm, sn, sub, ab, col, dd, k0, k1, k2, k3, k5, hC, hbm⟩ := S.T.cls
  obtain ⟨ccl, cdd, vs, ccs, file, tf, hcda, hvs, hfile⟩ := S.cdo
  obtain ⟨cl, cld, csl, hcell2⟩ := S.cell
  have mself : ([(self, Value.ref a), (p, u)] : List (Str × Value)).reverse.lookup self = some (.ref a) := by
    have e : (self == p) = false := by
      have := hne
      rw [beq_eq_false_iff_ne] at this ⊢
      exact Ne.symm this
    show ([(p, u), (self, Value.ref a)] : List (Str × Value)).lookup self = _
    rw [List.lookup_cons, e]
    dsimp only
    rw [List.lookup_cons, beq_self_eq_true]
  have mp : ([(self, Value.ref a), (p, u)] : List (Str × Value)).reverse.lookup p = some u := by
    show ([(p, u), (self, Value.ref a)] : List (Str × Value)).lookup p = _
    rw [List.lookup_cons, beq_self_eq_true]
  have hcl : PySem.W.clsIn K C = some { name := nm, bases := bs, mro := .ref C :: bm, ns := N', qualname := q, hasDict := true, slotNames := sn, subclasses := sub, abstract := ab, collection := col, hasDel := false } := by unfold PySem.W.clsIn; rw [hC] <;> rfl
  have I0 : InstAt h₁ a (excObj C t1 none .none) C none := ⟨hk₁ _ _ hoe, rfl, rfl, trivial⟩
  have hint : interactive (callEnv (ksFn name qual params (supBody text fl self p j q0 q1 q2 q3 q4 q5 q6 q7 q8 q9) scope dV kV doc pm an (.ref cda) ct cc) s.heap.objs.size f) = false := by
    unfold interactive
    rw [show (callEnv (ksFn name qual params (supBody text fl self p j q0 q1 q2 q3 q4 q5 q6 q7 q8 q9) scope dV kV doc pm an (.ref cda) ct cc) s.heap.objs.size f).scope.kind = .function from hk]
    first | rfl | simp
  refine ks_wpAt_execs_cons (ks_wpAt_Expr_any (ks_wpAt_MethodCall (pl := pl) ?_ (hmc _)) hint)
  refine ks_wpAt_super_base (env := callEnv (ksFn name qual params (supBody text fl self p j q0 q1 q2 q3 q4 q5 q6 q7 q8 q9) scope dV kV doc pm an (.ref cda) ct cc) s.heap.objs.size f) S.ks S.kc (by decide) rfl (hk₁ _ _ (KX _ _ lk)) rfl hp rfl (hk₁ _ _ (KX _ _ hcda)) rfl hvs hfile S.top ?_
  refine ks_loadName_global hk S.ks (Calls.loadGlobal_builtin (mg := mg) (mb := mb) (glob.keeps F0.keep) (PySem.W.mg_none_of KH glob S.nosup) (hbn.keeps F0.keep) ((hblt _ (by decide)).trans (by decide +kernel : bootBuiltins "super" = some (.type "super"))) ⟨rfl, ?_⟩)
  refine wpAny_loadName_free hk S.kc rfl ⟨_, (hk₁ _ _ (KX _ _ hcell2)), rfl⟩ ?_
  rw [har]
  refine wpAny_loadName_local hk S.ka F0.ns mself ?_
  refine ks_wpAny_isType_cls (hk₁ _ _ (KX _ _ hC)) rfl ⟨rfl, ?_⟩
  refine ks_wpAny_call_super (hk₁ _ _ (KX _ _ hC)) rfl I0.at_ I0.cls (fun c e => ?_) (looks_mroIn (KH.keeps F0.keep) S.sub) (fun h2 e2 k2 => ?_)
  · cases e
  obtain ⟨F2, N2, l2⟩ := ks_newsPush (s := ⟨h₁, s.gens, s.drawn, s.toks + 2, s.os⟩) F0 N0 rfl e2 k2
  have I2 : InstAt h2 a (excObj C t1 none .none) C none := ⟨k2 _ _ I0.at_, rfl, rfl, trivial⟩
  refine kxs_method (s := ⟨h2, s.gens, s.drawn, s.toks + 2, s.os⟩) kxs_ValueError F2 KH N2 (List.mem_cons_self ..) I2 S.stat S.above S.subV (by decide) fun u3 h3 F3 N3 l3 => ?_
  refine kxs_callWith1 (s := ⟨h3, s.gens, s.drawn, s.toks + 3, s.os⟩) N3 (List.mem_cons_self ..) ?_
  show wpAny _ _ (spliced ((false, eval (.Constant (.str text) j q3) (callEnv (ksFn name qual params (supBody text fl self p j q0 q1 q2 q3 q4 q5 q6 q7 q8 q9) scope dV kV doc pm an (.ref cda) ct cc) s.heap.objs.size f)) :: backTo q4 (starEach [] _))) _ _ _
  refine Calls.spliced_cons (Calls.Constant_str (Calls.spliced_nil ⟨kxs_at N3 (List.mem_cons_self ..), ?_⟩))
  have na3 : u3 ≠ a := (Nat.ne_of_lt (l3 (a, excObj C t1 none .none) (by simp))).symm
  have na2 : h₁.objs.size ≠ a := (Nat.ne_of_lt (l2 (a, excObj C t1 none .none) (by simp))).symm
  refine kxs_call (s := ⟨h3, s.gens, s.drawn, s.toks + 4, s.os⟩) (t := t1) (dv := none) (c2 := .none) F3 KH N3 F.excBase_ValueError S.ini (List.mem_cons_self ..) (.tail na3 (.tail na2 (.head (by simp)))) (show 1 ≤ sizeLine by rw [sizeLine_eq]; decide) fun t4 h4 F4 N4 l4 => ?_
  have I4 : InstAt h4 a (excObj C t4 none .none) C none := ⟨(N4 (a, excObj C t4 none .none) (by simp)).1, rfl, rfl, trivial⟩
  refine ks_wpAt_execs_cons (ks_wpAt_Assign_Attr (wpAt_of_wpAny (wpAny_Name (wpAny_loadName_local hk hkp F4.ns mp (wpAny_Name (wpAny_loadName_local hk S.ka F4.ns mself ?_) hds)) hdp)) ?_)
  · refine set_plain (s := ⟨h4, s.gens, s.drawn, s.toks + 4, s.os⟩) (KH.keeps F4.keep) I4 S.T.sa ?_
    refine PySem.HandSPX.exc_osa (KH.keeps F4.keep) I4.at_ hcl (show PySem.HandSPX.refsVE (.ref C :: bm) = true from hbm) rfl S.nof (fun h5 tk5 dx k5 dn dne hx hn => ?_)
    refine wpAt_of_wpAny (wpAny_execs_nil ?_)
    have hnn : H a ≠ none := by rw [ha]; exact fun z => by cases z
    have nh : ∀ {b : Addr}, H b = none → b ≠ a := fun {b} n z => hnn (by rw [← z]; exact n)
    have step : ∀ {b : Addr} {o : Obj}, s.heap.get? b = some o → b ≠ a → h5.get? b = some o := fun {b o} e n => k5 b o n (F4.keep b o (hideAll_get [a] e (by simpa using n)))
    have sz4 : s.heap.objs.size ≤ h4.objs.size := by
      obtain ⟨oL, _, _, hL, _⟩ := F4.ns
      exact Nat.le_of_lt (Heap.lt_size hL)
    have dn' : s.heap.objs.size ≤ dx := Nat.le_trans sz4 dn
    have hnd : H dx = none := e0.hok.fresh dn'
    have nd : ∀ {b : Addr} {o : Obj}, s.heap.get? b = some o → b ≠ dx := fun {b o} q => Nat.ne_of_lt (Nat.lt_of_lt_of_le (Heap.lt_size q) dn')
    have Un1 : Un (frs outer) [] H (upd (upd H dx (exd dx [(fl, v)])) a (exo a C (some dx))) s.heap h5 := {
      keep := fun b o q n _ _ => step q (nh n)
      slot := fun b o q n _ _ => ⟨o.slots, step q (nh n)⟩
      free := fun b o q n _ => by rw [upd_ne (nh n), upd_ne (nd q)]; exact n
      there := fun b o q _ => by
        by_cases hb : b = a
        · exact ⟨_, by rw [hb]; exact hx⟩
        · exact ⟨o, step q hb⟩
      tups := fun b xs q => by rw [upd_ne (at_ne ha q exo_tup), upd_ne (ne_of_none q hnd)]; exact q
      frzs := fun b o v q => by rw [upd_ne (at_ne ha q exo_frz), upd_ne (ne_of_none q hnd)]; exact q
      tbls := fun b ps q => ⟨#[], by rw [upd_ne (at_ne ha q exo_tbl), upd_ne (ne_of_none q hnd), q]; simp⟩ }
    refine ⟨.non, _, rfl, e0.bare, Un1, fun b o q => ?_, rfl, hq dx hnd dne⟩
    by_cases hb : b = a
    · subst hb
      rw [upd_same] at q
      cases q
      exact exo_ok hx
    · rw [upd_ne hb] at q
      by_cases hd : b = dx
      · subst hd
        rw [upd_same] at q
        cases q
        exact exd_ok hn (relO_put (fs := []) rv fun g => True.intro)
      · rw [upd_ne hd] at q
        exact (e0.hok b o q).stay (fun c v hc z => step z (by
            rcases hc with hc | hc
            · rw [hc]
              exact hb
            · exact at_ne ha hc exo_own))
          (fun c hc => by rw [upd_ne (at_ne ha hc exo_own), upd_ne (ne_of_none hc hnd)]; exact hc) (fun c xs hc => by rw [upd_ne (at_ne ha hc exo_tup), upd_ne (ne_of_none hc hnd)]; exact hc)
  · rfl
end
end Fs
namespace Fs
open PySem PySem.Spec L2
structure RaiOk (T : Tbl) (c : Nat) : Prop where
  ex : ∃ (fI : Addr) (fd : FuncData) (self p fl : Str), OexC T.K (T.cadr c) ∧ PySem.W.findIn T.K (.ref (T.cadr c)) "__init__" = some (some (.ref fI)) ∧ PySem.W.typeIn T.K (.ref fI) = some (.type "function") ∧
    FnOk T.P T.w T.K T.mg T.base (L2.CX T.P T.w) 1 fI fd [self, p] (spSup (T.cadr c) fl) ∧ Binds T.K fd [self, p] [] ∧ flds c = [fl]
def raiV (c : Nat) (v : Val) (e : Env) (m : Mem) : SRes := match v with
  | .d x => .exc c [x] e m
  | _ => .bad
def sRaise (c : Nat) (a : EM) : SM := fun e m => (a e m).st e fun v m => raiV c v e m
section
variable {T : Tbl} {N : List Str} {sc : Scope} {k : Nat} {W : WX} {X : Cx}
theorem ds_raise (B : Bx T N sc k W X) {c : Nat} {x : Str} {e : Expr} {me : EM} {p pos rp : Pos} (R : RaiOk T c) (hk : 2 ≤ k) (hg : sc.names.lookup x = some NameKind.globalImplicit) (hm : T.mg x = some (.ref (T.cadr c))) (ha : DE T W X e me)
    (hdb : (x == ("__debug__" : Str)) = false := by decide) (he : starEach (e :: []) X.env = (false, eval e X.env) :: starEach [] X.env := by rfl) (hpl : (backTo pos (starEach [] X.env)).any (·.1) = false := by rfl) :
    DS T W X (.Raise (some (.Call (.Name x p) [e] [] pos)) none rp) (sRaise c me) := by
  obtain ⟨fI, fd, self, q, fl, T1, iC, tI, F, hb, hfl⟩ := R.ex
  have T1' : OexC X.K (T.cadr c) := by rw [B.K]; exact T1
  have F' : FnOk X.prog X.w X.K X.mg X.base (L2.CX X.prog X.w) 1 fI fd [self, q] (spSup (T.cadr c) fl) := by
    rw [B.P, B.w, B.K, B.mg, B.base]
    exact F
  refine (ps_raise B.calm B.tk (pmk_oex (dvs := []) (ds := []) T1' (by rw [B.K]; exact iC) (by rw [B.K]; exact tI) F' (B.room.mono hk) (by rw [B.K]; exact hb) .nil (passes_call B.tk fun _ _ _ _ z => z.elim) (show X.env.scope.names.lookup x = _ by rw [B.hsc]; exact hg) (by rw [B.mg]; exact hm) (pa_cons ha pa_nil he) hdb he hpl)).mono fun D σ H h => ?_
  obtain ⟨w, en, μ, er, mr, ok⟩ := h
  refine (OkS.go (P := VRep T) er mr ok).imp fun v H1 ⟨w1, u, μ1, le1, mr1, p1, ok1⟩ => ?_
  refine ⟨show 1 ≤ 1000 by decide, fun a hna => ?_⟩
  have ok1 : OkS T w1 (raiV c u en μ1) D W := ok1
  unfold raiV at ok1
  split at ok1
  · rename_i z
    refine ⟨a, v, rfl, upd_same, fun dx hdx hda => ⟨rfl, dx, [(fl, v)], upd_same, ?_, ?_, ?_⟩⟩
    · rw [upd_ne hda, upd_same]
    · rw [upd_ne hda] at hdx
      exact hdx
    · have hd1 : H1 dx = none := by
        rw [upd_ne hda] at hdx
        exact hdx
      have e1 : upd (del (upd (upd (upd H1 a (exo a (T.cadr c) none)) dx (exd dx [(fl, v)])) a (exo a (T.cadr c) (some dx))) a) dx (.xd [(fl, v)]) = upd H1 dx (.xd [(fl, v)]) := by
        funext b
        by_cases hb : b = dx
        · rw [hb, upd_same, upd_same]
        · rw [upd_ne hb, upd_ne hb]
          by_cases ha : b = a
          · rw [ha, del_same, hna]
          · rw [del_ne ha, upd_ne ha, upd_ne hb, upd_ne ha]
      rw [e1]
      obtain ⟨le2, mr2⟩ := mr1.newD (o := .xd [(fl, v)]) hd1
      cases p1 with
      | d p1 =>
        refine ok1 _ σ _ _ _ le2 ((er.mono le1).mono le2) mr2 ⟨rfl, dx, [v], rfl, ?_, .cons (p1.mono le2.F) .nil⟩
        show upd w1.F dx (.xd [(fl, v)]) dx = _
        rw [upd_same, hfl]
        rfl
  · exact ok1.elim
end
end Fs
namespace Fs
open PySem PySem.Spec PyProof.Rows L2
def clsName : Nat → Str
  | 0 => "Schema"
  | 1 => "Book"
  | 2 => "Store"
  | 3 => "Trial"
  | 4 => "Inner"
  | 5 => "Left"
  | 6 => "Semi"
  | 7 => "Anti"
  | 8 => "Question"
  | 9 => "Folding"
  | 10 => "Bundle"
  | 11 => "Canonical"
  | 12 => "Plan"
  | 20 => "BadSchema"
  | 21 => "BadRule"
  | 22 => "BadLine"
  | 23 => "BadRow"
  | 24 => "BadQuestion"
  | 25 => "TwinAlias"
  | 26 => "AlwaysEmpty"
  | 27 => "AlwaysNone"
  | 28 => "NoSuchStep"
  | 29 => "AskedStep"
  | 30 => "TooMany"
  | 31 => "SparedError"
  | _ => ""
abbrev FnS : Type := Option (Str × Str × Arguments × FuncBody × Scope × Addr × List Str × Addr)
def fnS (K : PySem.W.Frag) (p : Str × Option Str) : FnS := match K.lookup (He.fAd K p) with
  | some ⟨_, _, .func fd, _⟩ => some (fd.name, fd.qualname, fd.params, fd.body, fd.scope, fd.globals, fd.closure.map (·.1), fd.builtins)
  | _ => none
structure SupD where
  at_ : Str × Option Str
  name : Str
  qual : Str
  params : Arguments
  body : List Stmt
  scope : Scope
def SupD.val (d : SupD) : FnS := some (d.name, d.qual, d.params, .stmts d.body, d.scope, mainGlobals, ["__class__"], builtinsNs)
abbrev AlC : Type := He.AlD × Bool × List FnS
def obsK (fa : List He.Fa) (fn : List He.DefD) (ex : PySem.W.Frag → Bool) (sf : List SupD) (K : PySem.W.Frag) : AlC := (He.obsD fa fn K, ex K, sf.map fun d => fnS K d.at_)
def asC (g : Addr → Option Obj) (n : Nat) : List Addr := He.asD g n ++ [cStatics]
def obsC (n : Nat) (fa : List He.Fa) (fn : List He.DefD) (ex : PySem.W.Frag → Bool) (sf : List SupD) (g : Addr → Option Obj) : AlC := obsK fa fn ex sf (He.frG g (asC g n))
structure SaysC (fa : List He.Fa) (fn : List He.DefD) (ex : PySem.W.Frag → Bool) (sf : List SupD) (K : PySem.W.Frag) : Prop where
  d : He.SaysD fa fn K
  more : ex K = true
  sup : sf.map (fun d => fnS K d.at_) = sf.map SupD.val
def hookC (n : Nat) (fa : List He.Fa) (fn : List He.DefD) (ex : PySem.W.Frag → Bool) (sf : List SupD) : PySem.W.Hook where
  α := AlC
  obs := fun s => obsC n fa fn ex sf s.heap.get?
  val := fun _ => (He.valD fn, true, sf.map SupD.val)
  says := fun _ h => ∃ K : PySem.W.Frag, K.In h ∧ SaysC fa fn ex sf K
  of := fun _ h e => ⟨_, He.frG_in, congrArg (fun z : AlC => z.1) e, congrArg (fun z : AlC => z.2.1) e, congrArg (fun z : AlC => z.2.2) e⟩
  keeps := fun _ _ _ ⟨K, hK, c⟩ k => ⟨K, PySem.W.Frag.In.keeps hK k, c⟩
theorem obsC_eq {n : Nat} {fa : List He.Fa} {fn : List He.DefD} {ex : PySem.W.Frag → Bool} {sf : List SupD} {g : Addr → Option Obj} {s : Shared} (h : ∀ a, g a = s.heap.get? a) : obsC n fa fn ex sf g = (hookC n fa fn ex sf).obs s := by
  have e : g = s.heap.get? := funext h
  rw [e] <;> rfl
theorem SaysC.sup_ {fa : List He.Fa} {fn : List He.DefD} {ex : PySem.W.Frag → Bool} {sf : List SupD} {K : PySem.W.Frag} (c : SaysC fa fn ex sf K) (i : Nat) {d : SupD} (h : sf[i]? = some d := by rfl) : fnS K d.at_ = d.val := by
  have e2 : (sf.map fun d => fnS K d.at_)[i]? = (sf.map SupD.val)[i]? := by rw [c.sup]
  rw [List.getElem?_map, List.getElem?_map, h] at e2
  exact Option.some.inj e2
structure Ew (prog : Program) (T : Tbl) (fa : List He.Fa) (fn : List He.DefD) (ex : PySem.W.Frag → Bool) (sf : List SupD) : Prop extends Ev T fa fn where
  P : T.P = prog
  c : SaysC fa fn ex sf T.K
  ca : ∀ i, T.cadr i = He.ga T.K (clsName i)
section
variable {prog : Program} {T : Tbl} {fa : List He.Fa} {fn : List He.DefD} {ex : PySem.W.Frag → Bool} {sf : List SupD}
theorem Ew.cg (E : Ew prog T fa fn ex sf) (i : Nat) {c : Nat} (h : fa[i]? = some (.glo (clsName c))) : T.mg (clsName c) = some (.ref (T.cadr c)) := by
  rw [E.ca]
  exact E.toEv.gl i h
theorem Ew.cls (E : Ew prog T fa fn ex sf) (i : Nat) {c : Nat} (h : fa[i]? = some (.cls (clsName c))) : Cls T.K (T.cadr c) := by
  rw [E.ca]
  exact He.cls_ok (E.says.fact i h)
theorem att_ok (E : Ew prog T fa fn ex sf) (i j : Nat) {c : Nat} {f : Str} (hi : fa[i]? = some (.cls (clsName c))) (hj : fa[j]? = some (.noat (clsName c) f)) (hs : slotted c = false := by rfl) : AttOk T c f :=
  ⟨fun _ => ⟨E.cls i hi, by rw [E.ca]; exact He.noat_ok (E.says.fact j hj)⟩, fun z => by rw [hs] at z; cases z⟩
theorem att_1 {c : Nat} {f : Str} (h : AttOk T c f) : ∀ x ∈ [c], AttOk T x f := fun x hx => by rw [List.mem_singleton.mp hx]; exact h
theorem mth_ok (E : Ew prog T fa fn ex sf) (i j : Nat) {c k k0 n : Nat} {m : Str} {ps : List Str} {f : Fn} (F : FnAt T k0 (He.fAd T.K (clsName c, some m)) ps f) (hi : fa[i]? = some (.cls (clsName c))) (hj : fa[j]? = some (.meth (clsName c) m)) (hk : k0 ≤ k) (hn : ps.length = n) (no : m ∉ flds c) (hs : slotted c = false := by rfl) : MthOk T k c m n f :=
  ⟨⟨_, ps, k0, by rw [E.ca]; exact He.meth_ok (E.says.fact j hj), F, hk, hn⟩, no, fun _ => E.cls i hi, fun z => by rw [hs] at z; cases z⟩
theorem mth_1 {c k n : Nat} {m : Str} {f : Fn} {fz : Bool} (h : MthOk T k c m n f) : ∀ r ∈ [(c, fz, n, f)], MthOk T k r.1 m r.2.2.1 r.2.2.2 := fun r hr => by rw [List.mem_singleton.mp hr]; exact h
theorem mak_ok (E : Ew prog T fa fn ex sf) (i : Nat) {c k k0 n : Nat} {ps : List Str} {f : Fn} {fd : FuncData} (F : FnOk T.P T.w T.K T.mg T.base (L2.CX T.P T.w) k0 (He.fAd T.K (clsName c, some "__init__")) fd ps (spM T ps.length f)) (hb : Binds T.K fd ps []) (hi : fa[i]? = some (.mkr (clsName c))) (hk : k0 + 1 ≤ k) (hn : ps.length = n + 1) (hs : slotted c = false := by rfl) : MakOk T k c n [] f :=
  ⟨⟨_, ps, k0, fd, [], [], by rw [E.ca]; exact He.mkr_ok (E.says.fact i hi), F, hb, .nil, .nil, hk, hn⟩, hs⟩
theorem mkr_kp (E : Ew prog T fa fn ex sf) (i : Nat) {c : Nat} (hi : fa[i]? = some (.mkr (clsName c))) : PySem.W.keepIn T.K (.ref (T.cadr c)) = true := by
  rw [E.ca]
  exact (He.mkr_ok (E.says.fact i hi)).kp
def clsBody (s : Stmt) : List Stmt := match s with
  | .ClassDef _ _ _ b _ _ _ _ _ _ _ => b
  | _ => []
theorem ex_at {l : List Bool} (h : l.all id = true) (i : Nat) {b : Bool} (e : l[i]? = some b) : b = true := List.all_eq_true.mp h b (List.mem_of_getElem? e)
def ccB (K : PySem.W.Frag) (x f : Str) (i : Int) : Bool := PySem.W.readsIn K (He.ga K x) (.type "type") && (decide (PySem.W.specialIn K (.ref (He.ga K x)) "__getattribute__" = some (some (.builtin "type.__getattribute__"))) && (match PySem.W.findCls K (.ref (He.ga K x)) (.type "type") f with
  | some (.val (.int j _)) => decide (j = i)
  | _ => false))
theorem de_cc {N : List Str} {sc : Scope} {k : Nat} {W : WX} {X : Cx} (B : Bx T N sc k W X) (E : Ew prog T fa fn ex sf) {c : Nat} {f x : Str} {i : Int} {p pos : Pos} (h : ccB T.K (clsName c) f i = true) (hg : sc.names.lookup x = some NameKind.globalImplicit) (hm : T.mg x = some (.ref (T.cadr c)))
    (hdb : (x == ("__debug__" : Str)) = false := by decide) (hb : attributeBase (.Name x p) f X.env (eval (.Name x p) X.env) = eval (.Name x p) X.env := by rfl) : DE T W X (.Attribute (.Name x p) f pos) (eC (.int i)) := by
  unfold ccB at h
  rw [← E.ca] at h
  simp only [Bool.and_eq_true, decide_eq_true_eq] at h
  obtain ⟨h1, h2, h3⟩ := h
  split at h3
  · rename_i j t hv
    obtain rfl := of_decide_eq_true h3
    exact de_ccon B hg hm ⟨h1, h2⟩ hv hdb hb
  · cases h3
theorem itf_ok (E : Ew prog T fa fn ex sf) (i j l : Nat) {c : Nat} {f self x qual : Str} {params : Arguments} {scope : Scope} {dvs : List V} {kws : List (Str × V)} {fd : FuncData} {N : List Str} {p1 p2 p3 p4 p5 : Pos}
    (F : FunD T.K x qual params [.Return (some (.Call (.Name "iter" p1) [.Attribute (.Name self p2) f p3] [] p4)) p5] scope dvs kws (He.fAd T.K (clsName c, some "__iter__")) fd) (S : FnScope N [self] scope) (hb : Binds T.K fd [self] []) (hi : fa[i]? = some (.cls (clsName c))) (hj : fa[j]? = some (.meth (clsName c) "__iter__")) (hl : fa[l]? = some (.noat (clsName c) f)) (hit : T.mg ("iter" : Str) = none) (hN : N[0]? = some self) (hv : Vis scope self)
    (hgl : scope.names.lookup ("iter" : Str) = some NameKind.globalImplicit) (hs : slotted c = false := by rfl) (hd : (self == ("__debug__" : Str)) = false := by decide) (hcd : (self == ("__classdict__" : Str)) = false := by decide) : ItfOk T c f :=
  itf_of hs F S hb (by rw [E.ca]; exact (He.meth_ok (E.says.fact j hj)).at_) (He.meth_ok (E.says.fact j hj)).fn (E.cls i hi) (by rw [E.ca]; exact He.noat_ok (E.says.fact l hl)) hit hN hv hgl hd hcd
theorem itf_1 {c : Nat} {f : Str} (h : ItfOk T c f) : ∀ r ∈ [(c, f)], ItfOk T r.1 r.2 := fun r hr => by rw [List.mem_singleton.mp hr]; exact h
def fdOf (K : PySem.W.Frag) (f : Addr) : Option FuncData := match K.lookup f with
  | some ⟨_, _, .func fd, _⟩ => some fd
  | _ => none
def xcB (K : PySem.W.Frag) (C : Addr) : Bool := match K.lookup C with
  | some ⟨.type "type", _, .cls cd, sl⟩ => (match cd.mro, sl.toList with
    | .ref C' :: bm, [_, _, _, _, some (.builtin n), _] => C' == C && (n == "ValueError.__new__" && (!cd.hasDel && (cd.hasDict && PySem.HandSPX.refsVE bm)))
    | _, _ => false)
  | _ => false
def cdB (P : Program) (K : PySem.W.Frag) (v : Value) : Bool := match v with
  | .ref a => (match K.lookup a with
    | some ⟨_, _, .fields vs, _⟩ => (match (vs[2]? : Option Value) with
      | some (Value.str file _) => (P.main.file : Str) == file
      | _ => false)
    | _ => false)
  | _ => false
def clB (K : PySem.W.Frag) (C : Addr) (l : List (Str × Addr)) : Bool := match l with
  | [(_, a)] => (match K.lookup a with
    | some ⟨_, _, .cell (some (.ref D)), _⟩ => D == C
    | _ => false)
  | _ => false
def valO (a b : Option (Option Value)) : Bool := decide (a = b)
def supB (P : Program) (K : PySem.W.Frag) (x fl qual : Str) : Bool :=
  xcB K (He.ga K x) && (valO (PySem.W.findIn K (.ref (He.ga K x)) "__setattr__") (some (some (.builtin "object.__setattr__"))) && (decide (PySem.W.subIn K (.ref (He.ga K x)) (.type "BaseException") = some true) && (decide (PySem.W.typeIn K (.ref (He.ga K x)) = some (.type "type")) && (PySem.W.keepIn K (.ref (He.ga K x)) &&
  (PySem.W.excInitIn K (He.ga K x) [.type "ValueError", .type "Exception", .type "BaseException", .type "object"] "ValueError.__new__" && (decide (PySem.W.mroIn K (He.ga K x) (.ref (He.ga K x)) = some true) && (valO (PySem.W.nsIn K mainGlobals "super") (some none) && (valO (PySem.W.nsIn K cStatics "thirdparty.any") (some none) &&
  (valO (PySem.W.ks_superIn K (He.ga K x) (He.ga K x) "__init__") (some (some (.builtin "ValueError.__init__"))) && (decide (PySem.W.subIn K (.ref (He.ga K x)) (.type "ValueError") = some true) && (valO (PySem.W.findIn K (.ref (He.ga K x)) fl) (some none) &&
  (valO (PySem.W.findIn K (.ref (He.ga K x)) "__init__") (some (some (.ref (He.fAd K (x, some "__init__"))))) && (decide (PySem.W.typeIn K (.ref (He.fAd K (x, some "__init__"))) = some (.type "function")) && (match fdOf K (He.fAd K (x, some "__init__")) with
    | some fd => PySem.W.codeIn K fd.code qual && (cdB P K fd.code && (clB K (He.ga K x) fd.closure && decide (fd.defaults = .none)))
    | none => false))))))))))))))
theorem xcB_ok {K : PySem.W.Frag} {C : Addr} (h : xcB K C = true) : ∃ nm q N bs bm sn sub ab col dd k0 k1 k2 k3 k5, K.lookup C = some (excClassObj nm q C N bs bm true sn sub ab col dd k0 k1 k2 k3 k5 "ValueError.__new__") ∧ PySem.HandSPX.refsVE bm = true := by
  unfold xcB at h
  split at h
  · rename_i dd cd sl ho
    split at h
    · rename_i C' bm k0 k1 k2 k3 n k5 hm hs
      simp only [Bool.and_eq_true, beq_iff_eq, Bool.not_eq_true'] at h
      obtain ⟨rfl, rfl, hdel, hd, hr⟩ := h
      obtain ⟨nm, bs, mro, ns, qn, hdd, sn, sub, ab, col, del⟩ := cd
      dsimp only at hm hdel hd
      subst hm hdel hd
      have hsl : sl = #[k0, k1, k2, k3, some (.builtin "ValueError.__new__"), k5] := by
        obtain ⟨l⟩ := sl
        simp only at hs
        rw [hs]
      subst hsl
      exact ⟨nm, qn, ns, bs, bm, sn, sub, ab, col, dd, k0, k1, k2, k3, k5, ho, hr⟩
    · cases h
  · cases h
theorem cdB_ok {P : Program} {K : PySem.W.Frag} {v : Value} (h : cdB P K v = true) : ∃ cda, v = .ref cda ∧ ∃ ccl cdd vs ccs file tf, K.lookup cda = some ⟨ccl, cdd, .fields vs, ccs⟩ ∧ vs[2]? = some (.str file tf) ∧ ((P.main.file : Str) == file) = true := by
  unfold cdB at h
  split at h
  · rename_i a
    split at h
    · rename_i ccl cdd vs ccs ho
      split at h
      · rename_i file tf hv
        exact ⟨a, rfl, ccl, cdd, vs, ccs, file, tf, ho, hv, h⟩
      · cases h
    · cases h
  · cases h
theorem clB_ok {K : PySem.W.Frag} {C : Addr} {l : List (Str × Addr)} (h : clB K C l = true) : ∃ y cc, l = [(y, cc)] ∧ ∃ cl cld csl, K.lookup cc = some ⟨cl, cld, .cell (some (.ref C)), csl⟩ := by
  unfold clB at h
  split at h
  · rename_i y a
    split at h
    · rename_i cl cld D csl ho
      have e : D = C := by simpa using h
      subst e
      exact ⟨y, a, rfl, cl, cld, csl, ho⟩
    · cases h
  · cases h
theorem valO_ok {a b : Option (Option Value)} (h : valO a b = true) : a = b := of_decide_eq_true h
theorem rai_of {c : Nat} {x fl slf p name qual text : Str} {params : Arguments} {scope : Scope} {j : Nat} {q0 q1 q2 q3 q4 q5 q6 q7 q8 q9 : Pos} (hca : T.cadr c = He.ga T.K x) (hb : supB T.P T.K x fl qual = true) (hf : fnS T.K (x, some "__init__") = SupD.val ⟨(x, some "__init__"), name, qual, params, supBody text fl slf p j q0 q1 q2 q3 q4 q5 q6 q7 q8 q9, scope⟩)
    {ar : Arg} (hp : (params.posonlyargs ++ params.args).head? = some ar) (har : ar.arg = slf) (hne : (p == slf) = false) (hkp : scope.names.lookup p = some .local) (hcell : ∀ x ∈ scope.names, x.2 ≠ .cell) (hco : scope.isCoroutine = false) (hgen : scope.isGenerator = false) (hk : scope.kind = .function)
    (hdp : (p == ("__debug__" : Str)) = false) (hds : (slf == ("__debug__" : Str)) = false) {pl : Sem Bool} (hmc : ∀ env : PySem.Env, eval (.Call (.Attribute (.Call (.Name "super" q0) [] [] q1) "__init__" q2) [.Constant (.str text) j q3] [] q4) env = (do
      let ov ← attributeBase (.Call (.Name "super" q0) [] [] q1) "__init__" env (eval (.Call (.Name "super" q0) [] [] q1) env)
      standAt q2.atName
      let (f, first) ← holding [ov] (getMethod ov "__init__" pl)
      callWith q4 f first (backTo q4 (starEach [.Constant (.str text) j q3] env)) []))
    (ks : scope.names.lookup ("super" : Str) = some .globalImplicit) (kc : scope.names.lookup ("__class__" : Str) = some .free) (ka : scope.names.lookup slf = some .local) (top : (T.P.main.scope.names.lookup ("super" : Str)).isSome = false)
    (hbind : ∀ (kV doc pm : Value) (an : Option Addr) (cdv ct : Value) (cc : Addr) (us : List Value), us.length = 2 → bindArgs (PySem.W.ksFn name qual params (supBody text fl slf p j q0 q1 q2 q3 q4 q5 q6 q7 q8 q9) scope .none kV doc pm an cdv ct cc) ⟨us, []⟩ = pure ([slf, p].zip us)) (hfl : flds c = [fl]) : RaiOk T c := by
  unfold supB at hb
  simp only [Bool.and_eq_true, decide_eq_true_eq] at hb
  obtain ⟨b1, b2, b3, b4, b5, b6, b7, b8, b9, b10, b11, b12, b13, b14, b15⟩ := hb
  unfold fnS at hf
  unfold fdOf at b15
  cases lk : T.K.lookup (He.fAd T.K (x, some "__init__")) with
  | none =>
    rw [lk] at hf
    cases hf
  | some o =>
    obtain ⟨oc, od, dt, osl⟩ := o
    rw [lk] at hf b15
    cases dt with
    | func fd =>
      dsimp only at b15
      simp only [Bool.and_eq_true, decide_eq_true_eq] at b15
      obtain ⟨d1, d2, d3, d4⟩ := b15
      obtain ⟨n1, n2, n3, n4, n5, n6, n7, n8, n9, n10, n11, n12, n13, n14, n15⟩ := fd
      simp only [SupD.val, Option.some.injEq, Prod.mk.injEq] at hf
      obtain ⟨h1, h2, h3, h4, h5, h6, h7, h8⟩ := hf
      dsimp only at d1 d2 d3 d4
      subst h1 h2 h3 h4 h5 h6 h8 d4
      obtain ⟨y, cc, rfl, hcl⟩ := clB_ok d3
      obtain rfl : y = "__class__" := by simpa using h7
      obtain ⟨cda, rfl, hcd⟩ := cdB_ok d2
      have T1 : OexC T.K (He.ga T.K x) := ⟨xcB_ok b1, valO_ok b2, b3, b4, b5⟩
      have S : SupI T.P T.K (He.ga T.K x) cc cda fl slf n2 n5 := ⟨T1, b6, d1, hcd, hcl, b7, valO_ok b8, valO_ok b9, valO_ok b10, b11, valO_ok b12, ks, kc, ka, top⟩
      have F := sup_fn (P := T.P) (w := T.w) (mg := T.mg) (base := T.base) (CX := L2.CX T.P T.w) (k := 0) S lk hp har hne hkp hcell hco hgen hk hdp hds hmc
      refine ⟨_, PySem.W.ksFn n1 n2 n3 (supBody text fl slf p j q0 q1 q2 q3 q4 q5 q6 q7 q8 q9) n5 .none n9 n10 n11 n12 (.ref cda) n14 cc, slf, p, fl, ?_, ?_, b14, ?_, Binds.all fun us hl => hbind _ _ _ _ _ _ _ us hl, hfl⟩
      · rw [hca]
        exact T1
      · rw [hca]
        exact valO_ok b13
      · rw [hca]
        exact F
    | _ => cases hf
end
theorem walk_fc {l : PySem.W.OpenLaw} {n k : Nat} {q : Program} {loose : List Str} {XP : (Str → Option Value) → Heap → Prop} {YP : World → Heap → Prop} {d : DefRec} {x : Str} {f : Fn} {fa : List He.Fa} {fn : List He.DefD} {ex : PySem.W.Frag → Bool} {sf : List SupD}
    (hn : l.most = some n) (hn2 : n ≤ sizeLine) (hdf : d.params.defaults = []) (hr : Room k callerA)
    (hY : ∀ (w : World) (h : Heap), YP w h → ∃ K : PySem.W.Frag, K.In h ∧ SaysC fa fn ex sf K)
    (F : ∀ (K : PySem.W.Frag), SaysC fa fn ex sf K → ∃ (fd : FuncData) (a : Addr), (∀ (s : Shared) (u : Value), BindsTo s fd ⟨[u], []⟩ [(x, u)]) ∧
      ∀ T : Tbl, T.P = l.prog → T.K = K → Ew l.prog T fa fn ex sf → T.mg d.name = some (.ref a) ∧ FnOk T.P T.w T.K T.mg T.base (L2.CX T.P T.w) k a fd [x] (spM T 1 f))
    (hf : ∀ ns : List Int, ns.length ≤ n → ∃ m, f [.ro ns] [] = .ok (.d (.bool true)) m) :
    PySem.W.WalkO q loose XP YP l.row.toRowW d [] (fun f vs => PySem.call f vs) := by
  refine LamX.walk_ofTsE (CX := fun w => L2.CX l.prog w) (x := x) (k := k) hn hn2 hdf hr (fun w mg fa' h Y G hm => ?_) (fun w H s e s' z => ?_)
  · obtain ⟨K, KX, c⟩ := hY w h Y
    obtain ⟨fd, a, hb, hF⟩ := F K c
    refine ⟨K, KX, fd, [], (fun vs H Q E => ∃ ns : List Int, ns.length ≤ n ∧ ∃ a, vs = [.ref a] ∧ SqL K H a (ns.map V.int) ∧ ∀ v H', v = V.bl true → Q v H'), (fun _ z => by cases z), (fun _ z => by cases z), (fun _ z => by cases z), hb, fun H a ns hl _ _ hS => ⟨ns, hl, a, rfl, hS, fun v _ e => e⟩, fun base KB GB _ => ?_⟩
    obtain ⟨e1, e2⟩ := hF ⟨l.prog, w, K, mg, base, fun c => He.ga K (clsName c)⟩ rfl rfl ⟨⟨c.d, base, KB, GB⟩, rfl, c, fun _ => rfl⟩
    obtain rfl : a = fa' := by
      have e3 := e1.symm.trans hm
      injection e3 with e3
      injection e3
    refine e2.imp fun vs H Q E ⟨ns, hl, b, e, hS, hQ⟩ => ?_
    obtain ⟨m, hm⟩ := hf ns hl
    subst e
    refine ⟨⟨[], H⟩, [], [.ro ns], ⟨rfl, fun l l' a h => ?_, Sub.refl _, fun l a h => ?_, fun l a c h => ?_⟩, .cons (.ro hS) .nil, rfl, ?_⟩
    · cases h
    · cases h
    · cases h
    · rw [hm]
      refine fun w' H' x _ _ r => hQ x H' ?_
      cases r with
      | d r => cases r with
        | bl => rfl
  · obtain ⟨a, B, H', cls, d, _, _, _, _, _, _, _, hE⟩ := z
    exact hE
end Fs
namespace Fs
open PySem PySem.Spec L2
structure Hx where
  i : Nat
  a : Addr
  cls : Value
  d : Option Addr
  c : Nat
  p : List Data
structure Hot (T : Tbl) (h : Hx) (w : Wd) (σ : L2.St) : Prop where
  at_ : σ[h.i]? = some (some (.ref h.a))
  cls : h.cls = .ref (T.cadr h.c)
  x : ∃ (dx : Addr) (xs : List V), h.d = some dx ∧ w.F dx = some (.xd ((flds h.c).zip xs)) ∧ DReps T w.F xs h.p
theorem Hot.mono {T : Tbl} {h : Hx} {w w' : Wd} {σ : L2.St} (k : Hot T h w σ) (le : w.Le w') : Hot T h w' σ := by
  obtain ⟨dx, xs, e1, e2, e3⟩ := k.x
  exact ⟨k.at_, k.cls, dx, xs, e1, le.F _ _ e2, e3.mono le.F⟩
def rdH {α β : Type} (T : Tbl) (h : Hx) (P : Wd → β → α → Prop) (m : Env → Mem → Res α) : L2.St → Hp → (β → Hp → Prop) → Prop := fun σ H Q =>
  ∃ (w : Wd) (e : Env) (μ : Mem), ERel T w σ e ∧ MRel T w μ H ∧ Hot T h w σ ∧ OkR T P w (m e μ) Q fun _ _ _ => False
abbrev HE (T : Tbl) (h : Hx) (Y : Cx) (e : Expr) (m : EM) : Prop := PE Y e (rdH T h (VRep T) m)
structure Su (T : Tbl) (N : List Str) (sc : Scope) (h : Hx) (Y : Cx) : Prop where
  x : ∃ (X : Cx) (oe : Obj) (pn : List (Addr × Obj)), Y = X.suite h.a ((h.a, oe) :: pn) ∧ Zc h.cls h.d oe ∧ ∃ vs, oe.data = .fields vs
  K : Y.K = T.K
  mg : Y.mg = T.mg
  hN : Y.N = N
  hsc : Y.env.scope = sc
  nd : N.Nodup
  fn : ∀ x, Y.fn x = true
section
variable {T : Tbl} {N : List Str} {sc : Scope} {h : Hx} {Y : Cx} {σ : L2.St} {H : Hp}
theorem rdH.imp {α β : Type} {P : Wd → β → α → Prop} {m : Env → Mem → Res α} {Q Q' : β → Hp → Prop} (z : rdH T h P m σ H Q) (k : ∀ x H', Q x H' → Q' x H') : rdH T h P m σ H Q' := by
  obtain ⟨w, e, μ, er, mr, ht, ok⟩ := z
  refine ⟨w, e, μ, er, mr, ht, ?_⟩
  cases hm : m e μ with
  | bad =>
    rw [hm] at ok
    exact ok
  | exc c p m =>
    rw [hm] at ok
    exact ok
  | ok v m =>
    rw [hm] at ok
    exact fun w1 H1 x le R1 p1 => k x H1 (ok w1 H1 x le R1 p1)
theorem DReps.get {T : Tbl} {F : Hp} : ∀ {xs : List V} {ds : List Data} {j : Nat} {x : Data}, DReps T F xs ds → ds[j]? = some x → ∃ v, xs[j]? = some v ∧ DRep T F v x
  | _, _, _, _, .nil, e => by simp at e
  | v :: _, _, 0, x, .cons (x := d) r1 _, e => by
    have e : d = x := by simpa using e
    subst e
    exact ⟨v, rfl, r1⟩
  | _, _, j + 1, _, .cons _ r2, e => DReps.get (j := j) r2 (by simpa using e)
theorem zip_at1 {κ α : Type} [BEq κ] [LawfulBEq κ] {f : κ} : ∀ {ks : List κ} {xs : List α} {i : Nat} {x : α}, ks.Nodup → ks[i]? = some f → xs[i]? = some x → (ks.zip xs).lookup f = some x
  | [], _, _, _, _, h, _ => by simp at h
  | _ :: _, [], _, _, _, _, h => by simp at h
  | k :: ks, y :: xs, 0, x, _, h, e => by
    have h : k = f := by simpa using h
    have e : y = x := by simpa using e
    subst h e
    rw [List.zip_cons_cons, List.lookup_cons, beq_self_eq_true]
  | k :: ks, y :: xs, i + 1, x, nd, h, e => by
    have h : ks[i]? = some f := h
    have hk : (f == k) = false := by
      apply beq_eq_false_iff_ne.mpr
      intro z
      subst z
      exact (List.nodup_cons.mp nd).1 (List.mem_of_getElem? h)
    rw [List.zip_cons_cons, List.lookup_cons, hk]
    exact zip_at1 (List.nodup_cons.mp nd).2 h (by simpa using e)
structure ExfOk (T : Tbl) (c : Nat) (f : Str) : Prop where
  x : XfC T.K (T.cadr c)
  no : PySem.W.findIn T.K (.ref (T.cadr c)) f = some none
theorem he_fld (B : Su T N sc h Y) {n f : Str} {j : Nat} {x : Data} {np pos : Pos} (E : ExfOk T h.c f) (hN : N[h.i]? = some n) (hv : Vis sc n) (hf : (flds h.c)[j]? = some f) (hp : h.p[j]? = some x) (hd : (n == ("__debug__" : Str)) = false := by decide) (hcd : (n == ("__classdict__" : Str)) = false := by decide)
    (hb : ∀ X : Cx, attributeBase (.Name n np) f X.env (eval (.Name n np) X.env) = eval (.Name n np) X.env := by intro _; rfl) : HE T h Y (.Attribute (.Name n np) f pos) (eC x) := by
  obtain ⟨X, oe, pn, rfl, hz, hdt⟩ := B.x
  have hK : X.K = T.K := B.K
  refine (pe_xf (C := T.cadr h.c) (by rw [hK]; exact E.x) (by rw [hK]; exact E.no) hz hdt (pe_var (i := h.i) (by rw [B.hN]; exact hN) (by rw [B.hsc]; exact hv) hd hcd) (hb X)).mono fun σ H Q z => ?_
  obtain ⟨w, e, μ, er, mr, ht, ok⟩ := z
  obtain ⟨dx, xs, e1, e2, e3⟩ := ht.x
  obtain ⟨v, k1, k2⟩ := e3.get hp
  exact ⟨.ref h.a, ht.at_, rfl, ht.cls, dx, _, v, e1, mr.sub _ _ e2, zip_at1 (flds_nodup _) hf k1, ok w H v (Wd.Le.refl _) mr (.d k2)⟩
def Cnm (Y : Cx) (y : Str) (cV : V) (cv : Value) : Prop := ClsV cV cv ∧ ∀ p, PE Y (.Name y p) (tC cV)
inductive Cnms (Y : Cx) : List Expr → List V → List Value → Prop where
  | nil : Cnms Y [] [] []
  | cons {y : Str} {p : Pos} {cV : V} {cv : Value} {es : List Expr} {vs : List V} {us : List Value} (k : Cnm Y y cV cv) (r : Cnms Y es vs us) (hs : starEach (.Name y p :: es) Y.env = (false, eval (.Name y p) Y.env) :: starEach es Y.env := by rfl) : Cnms Y (.Name y p :: es) (cV :: vs) (cv :: us)
theorem Cnms.pa {es : List Expr} {vs : List V} {us : List Value} (k : Cnms Y es vs us) : PA Y es (fun _ H Q => Q vs H) ∧ Paired ClsV vs us := by
  induction k with
  | nil => exact ⟨pa_nil, .nil⟩
  | cons k r hs ih => exact ⟨(pa_cons (k.2 _) ih.1 hs).mono fun σ H Q z => z, .cons k.1 ih.2⟩
def OkSh (T : Tbl) (h : Hx) (w : Wd) (r : SRes) (D : Ends) : Prop := match r with
  | .next e m => ∀ (w' : Wd) (σ' : L2.St) (H' : Hp), w.Le w' → ERel T w' σ' e → MRel T w' m H' → σ'[h.i]? = some (some (.ref h.a)) → D.nx σ' H'
  | _ => False
def rdSh (T : Tbl) (h : Hx) (m : SM) : TS := fun D σ H => ∃ (w : Wd) (e : Env) (μ : Mem), ERel T w σ e ∧ MRel T w μ H ∧ Hot T h w σ ∧ OkSh T h w (m e μ) D
abbrev HS (T : Tbl) (h : Hx) (Y : Cx) (st : Stmt) (m : SM) : Prop := PS Y st (rdSh T h m)
abbrev HSs (T : Tbl) (h : Hx) (Y : Cx) (st : List Stmt) (m : SM) : Prop := PSs Y st (rdSh T h m)
theorem hs_set (B : Su T N sc h Y) (i : Nat) {x : Str} {e : Expr} {me : EM} {pos pos' : Pos} (hi : h.i ≠ i) (hN : N[i]? = some x) (hx : Loc sc x) (he : HE T h Y e me) (hs : swapsWith e (some (.Name x pos')) pos.line Y.env = pure false := by rfl) : HS T h Y (.Assign [.Name x pos'] e pos) (sSet i me) := by
  refine (ps_set (i := i) (by rw [B.hN]; exact B.nd) (by rw [B.hN]; exact hN) (by rw [B.hsc]; exact hx) he hs (.inl (B.fn x))).mono fun D σ H z => ?_
  obtain ⟨w, e, μ, er, mr, ht, ok⟩ := z
  refine ⟨w, e, μ, er, mr, ht, ?_⟩
  have ok : OkSh T h w ((me e μ).st e fun v m => .next (e.set i (some v)) m) D := ok
  cases hm : me e μ with
  | bad =>
    rw [hm] at ok
    exact ok
  | exc c p m =>
    rw [hm] at ok
    exact ok.elim
  | ok v m =>
    rw [hm] at ok
    intro w1 H1 x le mr1 r1
    refine ok w1 _ H1 le ((er.mono le).set i r1) mr1 ?_
    rw [List.getElem?_set_ne (Ne.symm hi)]
    exact ht.at_
theorem hss_one {st : Stmt} {a : SM} (h1 : HS T h Y st a) : HSs T h Y [st] a := pss_one h1
end
def unS (i : Nat) (r : SRes) : SRes := match r with
  | .next e m => .next (e.set i none) m
  | _ => .bad
def sTryAs (kn : List Nat) (ch i : Nat) (mb : SM) (mh : List Data → SM) : SM := fun e μ => match mb e μ with
  | .exc c p e' μ' => if c ∈ kn then (if c = ch then unS i (mh p (e'.set i none) μ') else .exc c p e' μ') else .bad
  | r => r
theorem ERel.any {T : Tbl} {w : Wd} {σ : L2.St} {e : Env} (er : ERel T w σ e) (i : Nat) (y : Option V) : ERel T w (σ.set i y) (e.set i none) := by
  refine ⟨by rw [List.length_set, List.length_set]; exact er.len, fun j v q => ?_⟩
  by_cases hj : i = j
  · subst hj
    by_cases hl : i < e.length
    · rw [List.getElem?_set_self hl] at q
      cases q
    · rw [List.getElem?_eq_none (by rw [List.length_set]; omega)] at q
      cases q
  · rw [List.getElem?_set_ne hj] at q ⊢
    exact er.at_ j v q
section
variable {T : Tbl} {N : List Str} {sc : Scope} {k : Nat} {W : WX} {X : Cx}
theorem ds_try_as (B : Bx T N sc k W X) (F : Fx X) (i : Nat) {x n : Str} {ch : Nat} {kn : List Nat} {body suite : List Stmt} {b₀ : Stmt} {np pos pos' : Pos} {mb : SM} {mh : List Data → SM} (hN : N[i]? = some n) (hln : sc.names.lookup n = some NameKind.local) (hg : sc.names.lookup x = some NameKind.globalImplicit) (hm : T.mg x = some (.ref (T.cadr ch)))
    (hx : ∀ c ∈ kn, PySem.W.exmOne T.K (.ref (T.cadr c)) (.ref (T.cadr ch)) = some (decide (c = ch))) (hb : ∀ (W' : WX) (Y : Cx), Bx T N sc k W' Y → Fx Y → DSs T W' Y body mb)
    (hsu : ∀ (h : Hx) (Y : Cx), h.i = i → h.c = ch → h.cls = .ref (T.cadr ch) → Su T N sc h Y → HSs T h Y (b₀ :: suite) (mh h.p)) (hdb : (x == ("__debug__" : Str)) = false := by decide) :
    DS T W X (.Try body [.ExceptHandler (some (.Name x np)) (some n) (b₀ :: suite) pos'] [] [] pos) (sTryAs kn ch i mb mh) := by
  refine (L2.ps_try_as (i := i) (n := n) (c := .ref (T.cadr ch)) (tb := fun W' => rdS T W' mb) (ts := fun a cls d D σ H => ∃ p, cls = .ref (T.cadr ch) ∧ ∃ (w : Wd) (e : Env) (μ : Mem), ERel T w σ e ∧ MRel T w μ H ∧ (i < σ.length → Hot T ⟨i, a, cls, d, ch, p⟩ w σ) ∧ OkSh T ⟨i, a, cls, d, ch, p⟩ w (mh p e μ) D)
    F.st F.fr (by rw [B.hN]; exact B.nd) (by rw [B.hN]; exact hN) (show X.env.scope.names.lookup n = _ by rw [B.hsc]; exact hln) ⟨show X.env.scope.names.lookup x = _ by rw [B.hsc]; exact hg, hdb, .inl (by rw [B.mg]; exact hm)⟩ B.tk (fun W' pn xe tk po => hb W' _ ⟨B.P, B.w, B.K, B.mg, B.base, B.hN, B.hsc, B.nd, B.calm, B.room, tk, po⟩ ⟨F.st, F.fr, F.fn⟩)
    (fun a oe cls d pn hz hdt => ⟨fun pins s σ H D I z => ?_⟩)).mono fun D σ H z => ?_
  · obtain ⟨p, hcl, w, e, μ, er, mr, ht, ok⟩ := z
    have hi : i < σ.length := by
      have h1 := I.len
      have h2 := (List.getElem?_eq_some_iff.mp hN).1
      have h3 : X.N = N := B.hN
      have h4 : σ.length = X.N.length := h1
      rw [h4, h3]
      exact h2
    exact (hsu ⟨i, a, cls, d, ch, p⟩ _ rfl rfl hcl ⟨⟨X, oe, pn, rfl, hz, hdt⟩, B.K, B.mg, B.hN, B.hsc, B.nd, F.fn⟩).run pins s σ H D I ⟨w, e, μ, er, mr, ht hi, ok⟩
  · obtain ⟨w, e, μ, er, mr, ok⟩ := z
    refine ⟨w, e, μ, er, mr, ?_⟩
    have ok : OkS T w (match mb e μ with
      | .exc c p e' μ' => if c ∈ kn then (if c = ch then unS i (mh p (e'.set i none) μ') else .exc c p e' μ') else .bad
      | r => r) D W := ok
    cases hmb : mb e μ with
    | next e1 m1 =>
      rw [hmb] at ok
      exact ok
    | ret v m1 =>
      rw [hmb] at ok
      exact ok
    | bad =>
      rw [hmb] at ok
      exact ok
    | exc c p e1 m1 =>
      rw [hmb] at ok
      dsimp only at ok
      intro w1 σ1 H1 cls d le er1 mr1 xr
      split at ok
      · rename_i hc
        obtain ⟨x1, dx, xs, x2, x3, x4⟩ := xr
        refine ⟨decide (c = ch), by rw [x1, B.K]; exact hx c hc, fun hd a hna => ?_, fun hd => ?_⟩
        · have hcc : c = ch := of_decide_eq_true hd
          subst hcc
          rw [if_pos rfl] at ok
          refine ⟨p, x1, w1, e1.set i none, m1, er1.any i _, mr1, fun hi => ⟨?_, x1, dx, xs, x2, x3, x4⟩, ?_⟩
          · rw [List.getElem?_set_self (by rw [List.length_set] at hi; exact hi)]
          · cases hmh : mh p (e1.set i none) m1 with
            | next e2 m2 =>
              rw [hmh] at ok
              exact fun w2 σ2 H2 le2 er2 mr2 _ => ok w2 _ H2 (le.trans le2) (er2.unset i) mr2
            | ret v m2 =>
              rw [hmh] at ok
              exact ok.elim
            | exc c2 p2 e2 m2 =>
              rw [hmh] at ok
              exact ok.elim
            | bad =>
              rw [hmh] at ok
              exact ok.elim
        · have hcc : c ≠ ch := of_decide_eq_false hd
          rw [if_neg hcc] at ok
          exact ok w1 σ1 H1 cls d le er1 mr1 ⟨x1, dx, xs, x2, x3, x4⟩
      · exact ok.elim
def hcase (m : Data → SM) (p : List Data) : SM := match p with
  | [x] => m x
  | _ => sBad
theorem hss_p {h : Hx} {Y : Cx} {st : List Stmt} {m : Data → SM} (k : ∀ x, h.p = [x] → HSs T h Y st (m x)) : HSs T h Y st (hcase m h.p) := by
  cases hp : h.p with
  | nil => exact ⟨fun pins s σ H D I z => by
      obtain ⟨w, e, μ, er, mr, ht, ok⟩ := z
      exact ok.elim⟩
  | cons x r =>
    cases r with
    | nil => exact k x hp
    | cons y r => exact ⟨fun pins s σ H D I z => by
        obtain ⟨w, e, μ, er, mr, ht, ok⟩ := z
        exact ok.elim⟩
end
def exfB (K : PySem.W.Frag) (x f : Str) : Bool := xfB K (He.ga K x) && valO (PySem.W.findIn K (.ref (He.ga K x)) f) (some none)
def exmB (K : PySem.W.Frag) (kn : List Nat) (ch : Nat) : Bool := kn.all fun c => decide (PySem.W.exmOne K (.ref (He.ga K (clsName c))) (.ref (He.ga K (clsName ch))) = some (decide (c = ch)))
section
variable {prog : Program} {T : Tbl} {fa : List He.Fa} {fn : List He.DefD} {ex : PySem.W.Frag → Bool} {sf : List SupD}
theorem exf_ok (E : Ew prog T fa fn ex sf) {c : Nat} {f : Str} (h : exfB T.K (clsName c) f = true) : ExfOk T c f := by
  unfold exfB at h
  rw [← E.ca] at h
  simp only [Bool.and_eq_true] at h
  exact ⟨xfB_ok h.1, valO_ok h.2⟩
theorem exm_ok (E : Ew prog T fa fn ex sf) {kn : List Nat} {ch : Nat} (h : exmB T.K kn ch = true) : ∀ c ∈ kn, PySem.W.exmOne T.K (.ref (T.cadr c)) (.ref (T.cadr ch)) = some (decide (c = ch)) := fun c hc => by
  unfold exmB at h
  rw [E.ca, E.ca]
  exact of_decide_eq_true (List.all_eq_true.mp h c hc)
def kitB (K : PySem.W.Frag) (c : Nat) (us : List Value) (b : Bool) : Bool := decide (PySem.W.kitAny K (.ref (He.ga K (clsName c))) us = some b)
end
end Fs
namespace Fs
open PySem PySem.Spec L2
section
variable {T : Tbl} {W : WX} {X : Cx}
end
end Fs
namespace RT
open PySem PySem.Spec PyProof.Rows
section
variable {prog : Program} {w : World} {A : Around} {E : Value → Shared → Prop} {s : Shared} {R : Result → Shared → Prop}
end
section
variable {prog : Program} {w : World} {A : Around} {s : Shared} {E : Value → Shared → Prop}
end
section
variable {prog : Program} {w : World} {A : Around} {s : Shared} {R : Result → Shared → Prop}
variable {I : Addr} {fp wr : List Addr} {G : Array GenState → Array GenState → Prop} {n : Nat} {P : Nat → Value → Prop} {St : Nat → Shared → Prop}
end
section
variable {prog : Program} {w : World} {A : Around} {E : Value → Shared → Prop} {s : Shared}
variable {I : Addr} {fp wr : List Addr} {G : Array GenState → Array GenState → Prop} {n : Nat} {P : Nat → Value → Prop} {St : Nat → Shared → Prop}
end
end RT
namespace Fs
open PySem PySem.Spec L2
section
variable {T : Tbl} {N : List Str} {sc : Scope} {k : Nat} {W : WX} {X : Cx}
end
end Fs
namespace Fs
open PySem PySem.Spec L2
section
variable {T : Tbl}
end
section
variable {T : Tbl} {N : List Str} {sc : Scope} {k : Nat} {W : WX} {X : Cx}
end
section
variable {prog : Program} {T : Tbl} {fa : List He.Fa} {fn : List He.DefD} {ex : PySem.W.Frag → Bool} {sf : List SupD}
end
end Fs
namespace Fs
open PySem PySem.Spec L2
open Classical in
noncomputable def dcL (gd : Option (Nat × List Val)) (l : Nat) (tg : Val → Fs.Env → Option Fs.Env) (t : TM) (ke ve : EM) : List Val → Fs.Env → Mem → Res Unit
  | [], _, μ => if GOk gd μ then .ok () μ else .bad
  | v :: r, e, μ => if GOk gd μ then (match tg v e with
    | some e1 => (match t e1 μ with
      | .ok b μ => if b = true then (match ke e1 μ with
        | .ok kv μ => (match ve e1 μ with
          | .ok y μ => (match μ[l]?, keyV kv with
            | some (.dk acc), some k => if acc.length < 16777216 then dcL gd l tg t ke ve r e (μ.set l (.dk (ptV acc k y))) else .bad
            | _, _ => .bad)
          | _ => .bad)
        | _ => .bad) else dcL gd l tg t ke ve r e μ
      | _ => .bad)
    | Option.none => .bad) else .bad
noncomputable def eDc (vs : List Nat) (it : IM) (tg : Val → Fs.Env → Option Fs.Env) (t : TM) (ke ve : EM) : EM := fun e μ => (it e μ).bind fun i μ => match dcL i.guard μ.length tg t ke ve i.items (wipeE e vs) (μ ++ [.dk []]) with
  | .ok _ μ' => .ok (.loc μ.length) μ'
  | _ => .bad
section
variable {T : Tbl} {N : List Str} {sc : Scope} {k : Nat} {W : WX} {X : Cx}
def DcI (T : Tbl) (σ0 : L2.St) (e0 : Fs.Env) (w2 : Wd) (gd : Option (Nat × List Val)) (l : Nat) (tg : Val → Fs.Env → Option Fs.Env) (t : TM) (ke ve : EM) (r : List Val) (μ2 : Mem) (H : Hp) : Prop :=
  ∃ (w : Wd) (μ : Mem), w2.Le w ∧ ERel T w σ0 e0 ∧ MRel T w μ H ∧ dcL gd l tg t ke ve r e0 μ = .ok () μ2
theorem dc_turn {vs js : List Nat} {σ : L2.St} {e0 : Fs.Env} {w2 : Wd} {it : Its} {l : Nat} {tg : Val → Fs.Env → Option Fs.Env} {t : TM} {ke ve : EM} {μ2 : Mem} {D : Addr} {J : It} {w1 : Wd} {Q : VK} (hjs : ∀ j ∈ js, j ∈ vs) (hw : w1.Le w2) (hl : w2.r[l]? = some D) (iok : IterOk T w1 J it)
    (fin : ∀ w' H', w2.Le w' → MRel T w' μ2 H' → Q (.ref D) H') (i : Nat) (hi : i ≤ it.items.length) (H : Hp) (h : DcI T (L2.wipe σ vs) e0 w2 it.guard l tg t ke ve (it.items.drop i) μ2 H) :
    (J.stop i H ∧ Q (.ref D) H) ∨ (J.go i H ∧ i < it.items.length ∧ ∀ x H', J.yld i H x H' → rdGt T js tg x (L2.wipe σ vs) H' fun σ2 H2 => L2.wipe σ2 vs = L2.wipe σ vs ∧ rdT T W0 t σ2 H2 fun b H3 =>
      if b = true then rdE T W0 ke σ2 H3 fun y H4 => rdE T W0 ve σ2 H4 fun z H5 => ∃ acc k, y = kV k ∧ H5 D = some (.dK acc) ∧ acc.length < sizeLine ∧ DcI T (L2.wipe σ vs) e0 w2 it.guard l tg t ke ve (it.items.drop (i + 1)) μ2 (upd H5 D (.dK (putK acc k z))) else DcI T (L2.wipe σ vs) e0 w2 it.guard l tg t ke ve (it.items.drop (i + 1)) μ2 H3) := by
  obtain ⟨w, μ, le, er, mr, eq⟩ := h
  cases hd : it.items.drop i with
  | nil =>
    rw [hd] at eq
    have hlen : it.items.length ≤ i := List.drop_eq_nil_iff.mp hd
    unfold dcL at eq
    split at eq
    · rename_i gk
      cases eq
      exact .inl ⟨(iok w i _ H (hw.trans le) mr gk).2 (Nat.le_antisymm hlen hi), fin w H le mr⟩
    · cases eq
  | cons v r =>
    rw [hd] at eq
    have hlt : i < it.items.length := by
      apply Classical.byContradiction
      intro z
      rw [List.drop_eq_nil_iff.mpr (by omega)] at hd
      cases hd
    have hv : it.items[i]? = some v := by
      have e := List.getElem?_drop (xs := it.items) (i := i) (j := 0)
      rw [hd] at e
      simpa using e.symm
    have hr : it.items.drop (i + 1) = r := by
      rw [← List.drop_drop, hd]
      rfl
    rw [hr]
    unfold dcL at eq
    split at eq
    · rename_i gk
      obtain ⟨j1, j2⟩ := (iok w i μ H (hw.trans le) mr gk).1 v hv
      refine .inr ⟨j1, hlt, fun x H' y => ?_⟩
      obtain ⟨w3, le3, mr3, rx⟩ := j2 x H' y
      split at eq
      · rename_i e1 he1
        refine ⟨w3, v, e0, e1, μ, rx, er.mono le3, mr3, he1, fun σ' er' hlen' hfr => ⟨?_, w3, e1, μ, er', mr3, ?_⟩⟩
        · rw [← wipe_idem σ vs]
          exact wipe_eq hlen' fun i hi => hfr i fun z => hi (hjs i z)
        · cases ht : t e1 μ with
          | exc c p m =>
            rw [ht] at eq
            cases eq
          | bad =>
            rw [ht] at eq
            cases eq
          | ok b μ3 =>
            rw [ht] at eq
            intro w4 H4 b' le4 mr4 hb
            obtain rfl : b' = b := hb
            have eq : (if b' = true then (match ke e1 μ3 with
              | .ok kv μ => (match ve e1 μ with
                | .ok y μ => (match μ[l]?, keyV kv with
                  | some (.dk acc), some k => if acc.length < 16777216 then dcL it.guard l tg t ke ve r e0 (μ.set l (.dk (ptV acc k y))) else .bad
                  | _, _ => .bad)
                | _ => .bad)
              | _ => .bad) else dcL it.guard l tg t ke ve r e0 μ3) = Res.ok () μ2 := eq
            cases b' with
            | false => exact ⟨w4, μ3, le.trans (le3.trans le4), er.mono (le3.trans le4), mr4, eq⟩
            | true =>
              rw [if_pos rfl] at eq ⊢
              refine ⟨w4, e1, μ3, er'.mono le4, mr4, ?_⟩
              cases hke : ke e1 μ3 with
              | exc c p m =>
                rw [hke] at eq
                cases eq
              | bad =>
                rw [hke] at eq
                cases eq
              | ok kv μ4 =>
                rw [hke] at eq
                intro w5 H5 x5 le5 mr5 r5
                refine ⟨w5, e1, μ4, er'.mono (le4.trans le5), mr5, ?_⟩
                have eq : (match ve e1 μ4 with
                  | .ok y μ => (match μ[l]?, keyV kv with
                    | some (.dk acc), some k => if acc.length < 16777216 then dcL it.guard l tg t ke ve r e0 (μ.set l (.dk (ptV acc k y))) else .bad
                    | _, _ => .bad)
                  | _ => .bad) = Res.ok () μ2 := eq
                cases hve : ve e1 μ4 with
                | exc c p m =>
                  rw [hve] at eq
                  cases eq
                | bad =>
                  rw [hve] at eq
                  cases eq
                | ok y μ5 =>
                  rw [hve] at eq
                  intro w6 H6 x6 le6 mr6 r6
                  have eq : (match μ5[l]?, keyV kv with
                    | some (.dk acc), some k => if acc.length < 16777216 then dcL it.guard l tg t ke ve r e0 (μ5.set l (.dk (ptV acc k y))) else .bad
                    | _, _ => .bad) = Res.ok () μ2 := eq
                  split at eq
                  · rename_i acc k0 hacc hk0
                    split at eq
                    · rename_i hsz
                      have le7 : w2.Le w6 := le.trans (le3.trans (le4.trans (le5.trans le6)))
                      have hD := le7.at hl
                      obtain ⟨fr, xs, hH, rr⟩ := mr6.cell l D _ hD hacc
                      exact ⟨xs, k0, keyV_ok r5 hk0, hH, by rw [rr.len, sizeLine_eq]; exact hsz, w6, _, le7, er.mono (le3.trans (le4.trans (le5.trans le6))), mr6.write (c := .dk (ptV acc k0 y)) hD fr ⟨fr, _, upd_same, rr.put_ k0 r6⟩, eq⟩
                    · cases eq
                  · cases eq
      · cases eq
    · cases eq
theorem rd_dc {vs js : List Nat} {mi : IM} {tg : Val → Fs.Env → Option Fs.Env} {t : TM} {ke ve : EM} {σ : L2.St} {H : Hp} {Q : VK} (hjs : ∀ j ∈ js, j ∈ vs) (h : rdE T W (eDc vs mi tg t ke ve) σ H Q) : tDc (rdI T W mi) (rdGt T js tg) (rdT T W0 t) (rdE T W0 ke) (rdE T W0 ve) vs σ H Q := by
  obtain ⟨w, e, μ, er, mr, ok⟩ := h
  refine ⟨w, e, μ, er, mr, ?_⟩
  have ok : OkR T (VRep T) w ((mi e μ).bind fun i μ => match dcL i.guard μ.length tg t ke ve i.items (wipeE e vs) (μ ++ [.dk []]) with
    | .ok _ μ' => .ok (.loc μ.length) μ'
    | _ => .bad) Q (fun c d H' => W c d σ H') := ok
  cases hm : mi e μ with
  | bad =>
    rw [hm] at ok
    exact ok
  | exc c p μ' =>
    rw [hm] at ok
    exact ok
  | ok it μ1 =>
    rw [hm] at ok
    intro w1 H1 J le1 mr1 iok D hD
    obtain ⟨le2, mr2⟩ := mr1.newC (o := .dK []) (c := .dk []) hD ⟨mr1.newF hD, [], upd_same, .nil⟩
    have hl : (⟨w1.r ++ [D], w1.F⟩ : Wd).r[μ1.length]? = some D := by
      show (w1.r ++ [D])[μ1.length]? = some D
      rw [← mr1.len, List.getElem?_append_right (Nat.le_refl _), Nat.sub_self]
      rfl
    have ok : OkR T (VRep T) w (match dcL it.guard μ1.length tg t ke ve it.items (wipeE e vs) (μ1 ++ [.dk []]) with
      | .ok _ μ' => .ok (.loc μ1.length) μ'
      | _ => .bad) Q (fun c d H' => W c d σ H') := ok
    cases hr : dcL it.guard μ1.length tg t ke ve it.items (wipeE e vs) (μ1 ++ [.dk []]) with
    | bad =>
      rw [hr] at ok
      exact ok.elim
    | exc c p m =>
      rw [hr] at ok
      exact ok.elim
    | ok u μ2 =>
      rw [hr] at ok
      have fin : ∀ w' H', (⟨w1.r ++ [D], w1.F⟩ : Wd).Le w' → MRel T w' μ2 H' → Q (.ref D) H' := fun w' H' le' mr' => ok w' H' _ (le1.trans (le2.trans le')) mr' (.loc (le'.at hl))
      refine ⟨fun i m H => m = it.items.length - i ∧ i ≤ it.items.length ∧ DcI T (L2.wipe σ vs) (wipeE e vs) ⟨w1.r ++ [D], w1.F⟩ it.guard μ1.length tg t ke ve (it.items.drop i) μ2 H,
        ⟨it.items.length, by simp, Nat.zero_le _, _, _, Wd.Le.refl _, ((er.mono le1).mono le2).wipe vs, mr2, by rw [List.drop_zero]; exact hr⟩, ?_⟩
      rintro i m H ⟨rfl, hi, hI⟩
      rcases dc_turn hjs le2 hl iok fin i hi H hI with z | ⟨z1, z2, z3⟩
      · exact .inl z
      · exact .inr ⟨z1, _, fun H' z => ⟨it.items.length - (i + 1), by omega, rfl, z2, z⟩, z3⟩
theorem de_dc (B : Bx T N sc k W X) (own : List (Str × Nat)) (L : List (Str × NameKind)) {kx vx tg iter : Expr} {ifs : List Expr} {scope : Scope} {pos : Pos} {mi : IM} {js : List Nat} {g : Val → Fs.Env → Option Fs.Env} {mt : TM} {mk mv : EM} (hi : DI T W X tg iter mi) (ok : BlkOk N sc scope own) (S : Sk (relS scope sc) L)
    (hg : ∀ Y : Cx, Bx T N (relS scope sc) k W0 Y → Sk (relS scope sc) L → DG T Y tg js g) (ht : ∀ Y : Cx, Bx T N (relS scope sc) k W0 Y → Sk (relS scope sc) L → DTs T W0 Y ifs mt) (hk : ∀ Y : Cx, Bx T N (relS scope sc) k W0 Y → Sk (relS scope sc) L → DE T W0 Y kx mk) (hv : ∀ Y : Cx, Bx T N (relS scope sc) k W0 Y → Sk (relS scope sc) L → DE T W0 Y vx mv)
    (hjs : ∀ j ∈ js, j ∈ own.map (·.2) := by decide) (hs : ∀ x, foldedSetIterable iter X.env x = pure x := by intro _; rfl) : DE T W X (.DictComp kx vx [⟨tg, iter, ifs, 0⟩] scope pos) (eDc (own.map (·.2)) mi g mt mk mv) :=
  (pe_dc B.calm (by rw [B.hN]; exact B.nd) hi (by rw [B.hN, B.hsc]; exact ok) (fun s H C cl fp => (hg _ (B.blk s H scope cl C fp) S).can) (fun s H C cl fp => ht _ (B.blk s H scope cl C fp) S) (fun s H C cl fp => hk _ (B.blk s H scope cl C fp) S) (fun s H C cl fp => hv _ (B.blk s H scope cl C fp) S) hs).mono fun _ _ _ h => rd_dc hjs h
end
end Fs
namespace Fs
open PySem PySem.Spec L2
inductive HdsAs (X : Cx) : List ExceptHandler → List (Value × Nat × (Addr → Value → Option Addr → TS)) → Prop
  | nil : HdsAs X [] []
  | cons {x n : Str} {c : Value} {i : Nat} {ts : Addr → Value → Option Addr → TS} {b₀ : Stmt} {suite : List Stmt} {np pos' : Pos} {hds : List ExceptHandler} {l : List (Value × Nat × (Addr → Value → Option Addr → TS))} (hi : X.N[i]? = some n) (hln : X.env.kindOf n = some .local) (hc : Names X x c)
      (hsu : ∀ (a : Addr) (oe : Obj) (cls : Value) (d : Option Addr) (pn : List (Addr × Obj)), Zc cls d oe → (∃ vs, oe.data = .fields vs) → PSs (X.suite a ((a, oe) :: pn)) (b₀ :: suite) (ts a cls d)) (r : HdsAs X hds l) :
      HdsAs X (.ExceptHandler (some (.Name x np)) (some n) (b₀ :: suite) pos' :: hds) ((c, i, ts) :: l)
section
variable {X : Cx} {body : List Stmt} {h₀ : ExceptHandler} {hds : List ExceptHandler} {l : List (Value × Nat × (Addr → Value → Option Addr → TS))} {pos : Pos} {tb : WX → TS} {Wout : WX}
end
abbrev Hnd : Type := Nat × Nat × (List Data → SM)
section
variable {T : Tbl} {N : List Str} {sc : Scope} {k : Nat} {W : WX} {X : Cx}
inductive HsL (T : Tbl) (N : List Str) (sc : Scope) (kn : List Nat) : List ExceptHandler → List Hnd → Prop
  | nil : HsL T N sc kn [] []
  | cons (i : Nat) {x n : Str} {ch : Nat} {b₀ : Stmt} {suite : List Stmt} {np pos' : Pos} {mh : List Data → SM} {hds : List ExceptHandler} {l : List Hnd} (hN : N[i]? = some n) (hln : sc.names.lookup n = some NameKind.local) (hg : sc.names.lookup x = some NameKind.globalImplicit) (hm : T.mg x = some (.ref (T.cadr ch)))
      (hx : ∀ c ∈ kn, PySem.W.exmOne T.K (.ref (T.cadr c)) (.ref (T.cadr ch)) = some (decide (c = ch)))
      (hsu : ∀ (h : Hx) (Y : Cx), h.i = i → h.c = ch → h.cls = .ref (T.cadr ch) → Su T N sc h Y → HSs T h Y (b₀ :: suite) (mh h.p)) (r : HsL T N sc kn hds l) (hdb : (x == ("__debug__" : Str)) = false := by decide) :
      HsL T N sc kn (.ExceptHandler (some (.Name x np)) (some n) (b₀ :: suite) pos' :: hds) ((ch, i, mh) :: l)
def tsH (T : Tbl) (q : Hnd) : Addr → Value → Option Addr → TS := fun a cls d D σ H => ∃ p, cls = .ref (T.cadr q.1) ∧ ∃ (w : Wd) (e : Env) (μ : Mem), ERel T w σ e ∧ MRel T w μ H ∧ (q.2.1 < σ.length → Hot T ⟨q.2.1, a, cls, d, q.1, p⟩ w σ) ∧ OkSh T ⟨q.2.1, a, cls, d, q.1, p⟩ w (q.2.2 p e μ) D
theorem HsL.as (B : Bx T N sc k W X) (F : Fx X) {kn : List Nat} {hds : List ExceptHandler} {l : List Hnd} (h : HsL T N sc kn hds l) : HdsAs X hds (l.map fun q => (.ref (T.cadr q.1), q.2.1, tsH T q)) := by
  induction h with
  | nil => exact .nil
  | cons i hN hln hg hm hx hsu r hdb ih =>
    refine .cons (by rw [B.hN]; exact hN) (show X.env.scope.names.lookup _ = _ by rw [B.hsc]; exact hln) ⟨show X.env.scope.names.lookup _ = _ by rw [B.hsc]; exact hg, hdb, .inl (by rw [B.mg]; exact hm)⟩ (fun a oe cls d pn hz hdt => ⟨fun pins s σ H D I z => ?_⟩) ih
    obtain ⟨p, hcl, w, e, μ, er, mr, ht, ok⟩ := z
    have hi : i < σ.length := by
      have h1 := I.len
      have h2 := (List.getElem?_eq_some_iff.mp hN).1
      have h3 : X.N = N := B.hN
      have h4 : σ.length = X.N.length := h1
      rw [h4, h3]
      exact h2
    exact (hsu ⟨i, a, cls, d, _, p⟩ _ rfl rfl hcl ⟨⟨X, oe, pn, rfl, hz, hdt⟩, B.K, B.mg, B.hN, B.hsc, B.nd, F.fn⟩).run pins s σ H D I ⟨w, e, μ, er, mr, ht hi, ok⟩
end
end Fs
namespace Fs
open PySem PySem.Spec PyProof.Rows L2
section
variable {T : Tbl} {N : List Str} {sc : Scope} {k : Nat} {W : WX} {X : Cx}
end
def TabsOk (T : Tbl) (ts : List He.Tab) : Prop := ∀ (i : Nat) (t : He.Tab), ts[i]? = some t → ∃ es n, KDict T.K T.w (t.1 T.K) es n
section
variable {prog : Program} {T : Tbl} {fa : List He.Fa} {fn : List He.DefD} {ex : PySem.W.Frag → Bool} {sf : List SupD} {ts : List He.Tab}
end
end Fs
namespace Fs
open PySem PySem.Spec L2
end Fs
namespace Fs
open PySem PySem.Spec PyProof.Rows L2
def lfOk : Data → Bool
  | .none => true
  | .int _ => true
  | .str _ => true
  | _ => false
def ptLf (ks : List Data) (d : Data) : List Data := if ks.any (fun z => flatEq z d) = true then ks else ks ++ [d]
section
variable {X : Cx} {T : Tbl} (eP : X.prog = T.P) (ew : X.w = T.w)
include eP ew
end
section
variable {X : Cx} {T : Tbl}
end
end Fs
namespace Fs
open PySem PySem.Spec PyProof.Rows L2
section
variable {T : Tbl} {N : List Str} {sc : Scope} {k : Nat} {W : WX} {X : Cx}
end
end Fs
namespace Fs
open PySem PySem.Spec PyProof.Rows L2 NdefX
structure SSA (X : Cx) (b0 st : List Stmt) (t : TS) : Prop where
  run : ∀ (pn : List (Addr × Obj)) (s : Shared) (σ : L2.St) (H : Hp) (D : Ends), Inv X pn σ H s → t D σ H → PySem.wpAt (model X.prog X.w) X.A (.func b0 X.env) (execs st X.env) (SP X pn D) X.xe s
structure SA (X : Cx) (b0 : List Stmt) (st : Stmt) (t : TS) : Prop where
  run : ∀ (pn : List (Addr × Obj)) (s : Shared) (σ : L2.St) (H : Hp) (D : Ends), Inv X pn σ H s → t D σ H → PySem.wpAt (model X.prog X.w) X.A (.func b0 X.env) (exec st X.env) (SP X pn D) X.xe s
structure EA (X : Cx) (b0 : List Stmt) (e : Expr) (t : TE) : Prop where
  run : ∀ (pn : List (Addr × Obj)) (s : Shared) (σ : L2.St) (H : Hp) (Q : VK), Inv X pn σ H s → t σ H Q → PySem.wpAt (model X.prog X.w) X.A (.func b0 X.env) (eval e X.env) (EP X pn σ Q) X.xe s
structure TA' (X : Cx) (b0 : List Stmt) (e : Expr) (t : TT) : Prop where
  run : ∀ (pn : List (Addr × Obj)) (s : Shared) (σ : L2.St) (H : Hp) (Q : Bool → Hp → Prop), Inv X pn σ H s → t σ H Q → PySem.wpAt (model X.prog X.w) X.A (.func b0 X.env) (isTrue e X.env (eval e X.env)) (TP X pn σ Q) X.xe s
section
variable {X : Cx} {b0 : List Stmt}
end
section
variable {X : Cx} {D cc cda f f2 L : Addr} {m slf qual : Str} {scope : Scope} {b0 : List Stmt}
end
end Fs
namespace Fs
open PySem PySem.Spec PyProof.Rows L2 NdefX
section
variable {CX : CXT} {P : Program} {w : World} {K : PySem.W.Frag} {mg : Str → Option Value} {base : Heap} {N ps : List Str} {k : Nat} {f D cc cda : Addr} {name qual : Str} {params : Arguments} {body : List Stmt} {scope : Scope} {dV kV doc pm ct oc cl : Value} {an od cld : Option Addr} {osl csl : Array (Option Value)} {sp : Sp}
end
end Fs
namespace Fs
open PySem PySem.Spec PyProof.Rows L2 NdefX
section
variable {T : Tbl} {N : List Str} {sc : Scope} {k : Nat} {W : WX} {X : Cx} {b0 : List Stmt}
theorem SA.mono {st : Stmt} {t t' : TS} (h : SA X b0 st t) (q : ∀ D σ H, t' D σ H → t D σ H) : SA X b0 st t' := ⟨fun pn s σ H D I z => h.run pn s σ H D I (q D σ H z)⟩
theorem SSA.mono {st : List Stmt} {t t' : TS} (h : SSA X b0 st t) (q : ∀ D σ H, t' D σ H → t D σ H) : SSA X b0 st t' := ⟨fun pn s σ H D I z => h.run pn s σ H D I (q D σ H z)⟩
theorem EA.mono {e : Expr} {t t' : TE} (h : EA X b0 e t) (q : ∀ σ H Q, t' σ H Q → t σ H Q) : EA X b0 e t' := ⟨fun pn s σ H Q I z => h.run pn s σ H Q I (q σ H Q z)⟩
theorem TA'.mono {e : Expr} {t t' : TT} (h : TA' X b0 e t) (q : ∀ σ H Q, t' σ H Q → t σ H Q) : TA' X b0 e t' := ⟨fun pn s σ H Q I z => h.run pn s σ H Q I (q σ H Q z)⟩
end
end Fs
namespace Fs
open PySem PySem.Spec PyProof.Rows L2 NdefX
section
variable {T : Tbl} {N ps : List Str} {k : Nat} {f D cc cda : Addr} {name qual slf : Str} {params : Arguments} {body : List Stmt} {scope : Scope} {dV kV doc pm ct oc cl : Value} {an od cld : Option Addr} {osl csl : Array (Option Value)}
end
section
variable {T : Tbl} {slf qual x f1 f2 f3 f4 f5 : Str} {params : Arguments} {scope : Scope} {a : Addr} {fd : FuncData} {q0 q1 q2 q3 q4 q5 q6 q7 q8 q9 q10 q11 q12 q13 q14 q15 q16 q17 q18 q19 : Pos}
end
section
variable {T : Tbl} {f C cc cda g : Addr} {name qual slf f1 f2 f3 f4 f5 : Str} {params : Arguments} {scope : Scope} {dV kV doc pm ct oc cl : Value} {an od cld : Option Addr} {osl csl : Array (Option Value)} {fd : FuncData} {p0 p1 p2 p3 p4 q1 q2 q3 q4 q5 : Pos}
end
end Fs
namespace Fs
open PySem PySem.Spec PyProof.Rows L2 NdefX
section
variable {T : Tbl} {N : List Str} {sc : Scope} {k : Nat} {W : WX} {X : Cx}
end
end Fs
namespace Fs
open PySem PySem.Spec PyProof.Rows L2 NdefX
section
variable {prog : Program} {T : Tbl} {fa : List He.Fa} {fn : List He.DefD} {ex : PySem.W.Frag → Bool} {sf : List SupD}
end
end Fs
namespace Fs
open PySem PySem.Spec L2
section
variable {T : Tbl} {N : List Str} {sc : Scope} {k : Nat} {W : WX} {X : Cx}
end
section
variable {prog : Program} {T : Tbl} {fa : List He.Fa} {fn : List He.DefD} {ex : PySem.W.Frag → Bool} {sf : List SupD}
end
section
variable {T : Tbl} {N : List Str} {sc : Scope} {k : Nat} {W : WX} {X : Cx} {prog : Program} {fa : List He.Fa} {fn : List He.DefD} {ex : PySem.W.Frag → Bool} {sf : List SupD}
end
end Fs
namespace RT
open PySem PySem.Spec PyProof.Rows L2
def tSumVals (j : Nat) (te : TE) : TE := fun σ H Q => j < σ.length ∧ ∃ (d : Addr) (kvs : List (Key × V)) (ns : List Nat), H d = some (.dK kvs) ∧ (∀ (o : Obj) (Q' : VK), Q' (.ref d) (upd H d (.frz o (.dK kvs))) → te σ (upd H d (.frz o (.dK kvs))) Q') ∧ ns.length = kvs.length ∧ kvs.length < 16777216 ∧
  (∀ (i : Nat) (k : Key) (x : V), kvs[i]? = some (k, x) → ∃ (n : Nat) (a : Addr) (xs : List V), ns[i]? = some n ∧ x = .ref a ∧ a ≠ d ∧ H a = some (.lst xs) ∧ xs.length = n) ∧
  ∀ D : Addr, H D = none → Q (.int ((ns.map fun n : Nat => (n : Int)).sum)) (upd H D (.lst (ns.map fun n : Nat => V.int (n : Int))))
section
variable {X : Cx}
theorem pe_sumVals {y s l : Str} {e : Expr} {te : TE} {own : List (Str × Nat)} {j : Nat} {scope : Scope} {p1 p2 p3 p4 p5 apos cpos lpos pos : Pos} (hc : X.calm = true) (hN : X.N.Nodup) (hs : s = ("sum" : Str)) (hl : l = ("len" : Str)) (hg : Gl X s) (hm : X.mg s = none) (he : PE X e te)
    (ok : BlkOk X.N X.env.scope scope own) (hj : X.N[j]? = some y) (hjo : j ∈ own.map (·.2))
    (hy : ∀ (s : Shared) (H : Hp) (C : Addr) (cl : List (Str × Addr)) (fp : List Addr), Vis (X.blk s H scope (compEnvC scope cl C X.env) fp).env.scope y ∧ Loc (X.blk s H scope (compEnvC scope cl C X.env) fp).env.scope y ∧ (X.blk s H scope (compEnvC scope cl C X.env) fp).env.scope.names.lookup y = some .local ∧ Gl (X.blk s H scope (compEnvC scope cl C X.env) fp) l ∧ (X.blk s H scope (compEnvC scope cl C X.env) fp).mg l = none)
    (hyd : (y == ("__debug__" : Str)) = false) (hyc : (y == ("__classdict__" : Str)) = false)
    (hbase : attributeBase e "values" X.env (eval e X.env) = eval e X.env := by rfl) (hline : (apos.endLine == cpos.line) = true := by rfl)
    (hfs : ∀ x, foldedSetIterable (.Call (.Attribute e "values" apos) [] [] cpos) X.env x = pure x := by intro _; rfl)
    (h1 : starEach [.ListComp (.Call (.Name l p3) [.Name y p4] [] p5) [⟨.Name y p2, .Call (.Attribute e "values" apos) [] [] cpos, [], 0⟩] scope lpos] X.env = (false, eval (.ListComp (.Call (.Name l p3) [.Name y p4] [] p5) [⟨.Name y p2, .Call (.Attribute e "values" apos) [] [] cpos, [], 0⟩] scope lpos) X.env) :: starEach [] X.env := by rfl) :
    PE X (.Call (.Name s p1) [.ListComp (.Call (.Name l p3) [.Name y p4] [] p5) [⟨.Name y p2, .Call (.Attribute e "values" apos) [] [] cpos, [], 0⟩] scope lpos] [] pos) (tSumVals j te) := by
  subst hs hl
  have hlc := pe_lock (pe_lc (elt := .Call (.Name ("len" : Str) p3) [.Name y p4] [] p5) (tg := .Name y p2) (ifs := []) (pos := lpos) hc hN (pi_values (tg := .Name y p2) he hbase hline) ok
    (fun s H C cl fp => pg_name (pos := p2) (i := j) hN hj (hy s H C cl fp).2.1 (.inr (hy s H C cl fp).2.2.1)) (fun s H C cl fp => pts_nil)
    (fun s H C cl fp => pe_callB (pos := p5) (p := p3) (r := fun xs H Q => ∃ x n, xs = [x] ∧ LenV X.K x H n ∧ Q (.int n) H) (call_len (X := X.blk s H scope (compEnvC scope cl C X.env) fp)) (hy s H C cl fp).2.2.2.1 (hy s H C cl fp).2.2.2.2 boot_len (pa_cons (pe_var (pos := p4) (i := j) hj (hy s H C cl fp).1 hyd hyc) pa_nil)) hfs)
  refine (pe_callB (pos := pos) (p := p1) (cr_sum hc) hg hm boot_sum (pa_cons hlc pa_nil h1) (he := h1)).mono fun σ H Q h => ?_
  obtain ⟨hjl, d, kvs, ns, hd, hte, hlen, hlim, hall, q⟩ := h
  show tLockE _ σ H _
  refine ⟨d, .dK kvs, hd, trivial, fun od => ?_⟩
  refine hte od _ ⟨d, od, kvs, rfl, upd_same, fun D hD => ?_⟩
  have hDd : D ≠ d := fun z => by rw [z, upd_same] at hD; cases hD
  have hHD : H D = none := by rw [upd_ne hDd] at hD; exact hD
  refine ⟨fun i m H' => m = kvs.length - i ∧ i ≤ kvs.length ∧ H' = upd (upd H d (.frz od (.dK kvs))) D (.lst ((ns.take i).map fun n : Nat => V.int (n : Int))), ⟨kvs.length, by simp, Nat.zero_le _, by simp⟩, ?_⟩
  rintro i m H' ⟨rfl, hi, rfl⟩
  have hdf : (upd (upd H d (.frz od (.dK kvs))) D (.lst ((ns.take i).map fun n : Nat => V.int (n : Int)))) d = some (.frz od (.dK kvs)) := by
    rw [upd_ne (Ne.symm hDd), upd_same]
  by_cases hlt : i < kvs.length
  · refine .inr ⟨⟨hdf, hlt⟩, fun H' => H' = upd (upd H d (.frz od (.dK kvs))) D (.lst ((ns.take (i + 1)).map fun n : Nat => V.int (n : Int))), fun H' e => ⟨kvs.length - (i + 1), by omega, rfl, hlt, e⟩, ?_⟩
    rintro x H' ⟨rfl, k, hk⟩
    obtain ⟨n, a, xs, hn, rfl, had, ha, hxs⟩ := hall i k x hk
    have haD : a ≠ D := fun z => by rw [z, hHD] at ha; cases ha
    have ha2 : (upd (upd H d (.frz od (.dK kvs))) D (.lst ((ns.take i).map fun n : Nat => V.int (n : Int)))) a = some (.lst xs) := by
      rw [upd_ne haD, upd_ne had]
      exact ha
    show wipe ((wipe σ (own.map (·.2))).set j (some (V.ref a))) (own.map (·.2)) = wipe σ (own.map (·.2)) ∧ _
    refine ⟨(Fs.wipe_eq (by simp) fun i hi => List.getElem?_set_ne (fun z => hi (z ▸ hjo))).trans (Fs.wipe_idem σ _), ?_⟩
    refine ⟨V.ref a, List.getElem?_set_self (by rw [L2.wipe_length]; exact hjl), V.ref a, n, rfl, .inl ⟨xs, .of ha2, hxs.symm⟩, (ns.take i).map (fun n : Nat => V.int (n : Int)), upd_same, ?_, ?_⟩
    · rw [List.length_map, List.length_take, sizeLine_eq]
      omega
    · show upd (upd _ _ _) _ _ = _
      rw [List.take_add_one, hn]
      funext b
      by_cases hb : b = D
      · subst hb
        rw [upd_same, upd_same, List.map_append]
        rfl
      · rw [upd_ne hb, upd_ne hb, upd_ne hb]
  · have : i = kvs.length := by omega
    subst this
    refine .inl ⟨⟨hdf, Nat.le_refl _⟩, hdf, D, ns.map fun n : Nat => (n : Int), rfl, ?_⟩
    have e : upd (upd (upd H d (.frz od (.dK kvs))) D (.lst ((ns.take kvs.length).map fun n : Nat => V.int (n : Int)))) d (.dK kvs) = upd H D (.lst (ns.map fun n : Nat => V.int (n : Int))) := by
      rw [← hlen, List.take_length]
      funext b
      by_cases hb : b = d
      · subst hb
        rw [upd_same, upd_ne (Ne.symm hDd), hd]
      · rw [upd_ne hb]
        by_cases hb2 : b = D
        · subst hb2
          rw [upd_same, upd_same]
        · rw [upd_ne hb2, upd_ne hb2, upd_ne hb]
    rw [e]
    refine ⟨.of ?_, q D hHD⟩
    rw [upd_same, List.map_map]
    rfl
end
end RT
namespace Fs
open PySem PySem.Spec L2
def lensV (m : Mem) : List Val → Option (List Nat)
  | [] => some []
  | v :: r => match lstV m v, lensV m r with
    | some xs, some ns => some (xs.length :: ns)
    | _, _ => Option.none
def sumD (m : Mem) (v : Val) : Res Val := match dkV m v with
  | some kvs => if kvs.length < 16777216 then (match lensV m (kvs.map (·.2)) with
    | some ns => .ok (.d (.int ((ns.map fun n : Nat => (n : Int)).sum))) m
    | Option.none => .bad) else .bad
  | Option.none => .bad
def eSumVals (j : Nat) (me : EM) : EM := fun e μ => if e.length ≤ j then .bad else (me e μ).bind fun v μ => sumD μ v
section
variable {T : Tbl} {w : Wd} {m : Mem} {H : Hp}
theorem lensV_ok (R : MRel T w m H) : ∀ {xs : List (Key × V)} {kvs : List (Key × Val)} {ns : List Nat}, VPair T w xs kvs → lensV m (kvs.map (·.2)) = some ns → ns.length = xs.length ∧ ∀ (i : Nat) (k : Key) (x : V), xs[i]? = some (k, x) → ∃ (n : Nat) (a : Addr) (ys : List V), ns[i]? = some n ∧ x = .ref a ∧ H a = some (.lst ys) ∧ ys.length = n
  | _, _, ns, .nil, h => by
    have h : some ([] : List Nat) = some ns := h
    obtain rfl := Option.some.inj h
    exact ⟨rfl, fun i k x e => by simp at e⟩
  | (b, y) :: xs, (b', v) :: kvs, ns, .cons h1 t, h => by
    have h : (match lstV m v, lensV m (kvs.map (·.2)) with
      | some xs, some ns => some (xs.length :: ns)
      | _, _ => Option.none) = some ns := h
    cases e1 : lstV m v with
    | none => rw [e1] at h; cases h
    | some us =>
      cases e2 : lensV m (kvs.map (·.2)) with
      | none => rw [e1, e2] at h; cases h
      | some ns2 =>
        rw [e1, e2] at h
        have h : some (us.length :: ns2) = some ns := h
        obtain rfl := Option.some.inj h
        obtain ⟨l1, l2⟩ := lensV_ok R t e2
        refine ⟨by rw [List.length_cons, List.length_cons, l1], fun i k x e => ?_⟩
        cases i with
        | zero =>
          have e : (b, y) = (k, x) := by simpa using e
          obtain ⟨a, ys, rfl, h3, h4⟩ := R.lst h1.2 e1
          refine ⟨us.length, a, ys, rfl, ?_, h3, h4.length⟩
          exact (congrArg Prod.snd e).symm
        | succ i => exact l2 i k x (by simpa using e)
end
theorem lensV_len (m : Mem) : ∀ {vs : List Val} {ns : List Nat}, lensV m vs = some ns → ns.length = vs.length
  | [], ns, h => by
    have h : some ([] : List Nat) = some ns := h
    obtain rfl := Option.some.inj h
    rfl
  | v :: vs, ns, h => by
    have h : (match lstV m v, lensV m vs with
      | some xs, some ns => some (xs.length :: ns)
      | _, _ => Option.none) = some ns := h
    cases e1 : lstV m v with
    | none => rw [e1] at h; cases h
    | some us =>
      cases e2 : lensV m vs with
      | none => rw [e1, e2] at h; cases h
      | some ns2 =>
        rw [e1, e2] at h
        have h : some (us.length :: ns2) = some ns := h
        obtain rfl := Option.some.inj h
        rw [List.length_cons, List.length_cons, lensV_len m e2]
section
variable {T : Tbl} {N : List Str} {sc : Scope} {k : Nat} {W : WX} {X : Cx}
theorem de_sumVals (B : Bx T N sc k W X) (i j c : Nat) {z y f : Str} {own : List (Str × Nat)} {L : List (Str × NameKind)} {scope : Scope} {p0 p1 p2 p3 p4 p5 apos bpos cpos lpos pos : Pos} (hg : sc.names.lookup ("sum" : Str) = some NameKind.globalImplicit) (hm : T.mg ("sum" : Str) = none) (hml : T.mg ("len" : Str) = none)
    (hf : AttOk T c f) (hsl : slotted c = false) (hz : N[i]? = some z) (hv : Vis sc z) (hzd : (z == ("__debug__" : Str)) = false) (hzc : (z == ("__classdict__" : Str)) = false)
    (ok : BlkOk N sc scope own) (S : Sk (relS scope sc) L) (hj : N[j]? = some y) (hjo : j ∈ own.map (·.2)) (hyv : Vis (relS scope sc) y) (hyl : L2.Loc (relS scope sc) y) (hyk : (relS scope sc).names.lookup y = some .local) (hgl : (relS scope sc).names.lookup ("len" : Str) = some NameKind.globalImplicit)
    (hyd : (y == ("__debug__" : Str)) = false) (hyc : (y == ("__classdict__" : Str)) = false)
    (hb : attributeBase (.Name z p0) f X.env (eval (.Name z p0) X.env) = eval (.Name z p0) X.env := by rfl)
    (hbase : attributeBase (.Attribute (.Name z p0) f bpos) "values" X.env (eval (.Attribute (.Name z p0) f bpos) X.env) = eval (.Attribute (.Name z p0) f bpos) X.env := by rfl) (hline : (apos.endLine == cpos.line) = true := by rfl)
    (hfs : ∀ x, foldedSetIterable (.Call (.Attribute (.Attribute (.Name z p0) f bpos) "values" apos) [] [] cpos) X.env x = pure x := by intro _; rfl)
    (h1 : starEach [.ListComp (.Call (.Name ("len" : Str) p3) [.Name y p4] [] p5) [⟨.Name y p2, .Call (.Attribute (.Attribute (.Name z p0) f bpos) "values" apos) [] [] cpos, [], 0⟩] scope lpos] X.env = (false, eval (.ListComp (.Call (.Name ("len" : Str) p3) [.Name y p4] [] p5) [⟨.Name y p2, .Call (.Attribute (.Attribute (.Name z p0) f bpos) "values" apos) [] [] cpos, [], 0⟩] scope lpos) X.env) :: starEach [] X.env := by rfl) :
    DE T W X (.Call (.Name ("sum" : Str) p1) [.ListComp (.Call (.Name ("len" : Str) p3) [.Name y p4] [] p5) [⟨.Name y p2, .Call (.Attribute (.Attribute (.Name z p0) f bpos) "values" apos) [] [] cpos, [], 0⟩] scope lpos] [] pos) (eSumVals j (eUn (getF [c] f) (eVar i))) := by
  have hvar : PE X (.Name z p0) (tVar i) := pe_var (i := i) (by rw [B.hN]; exact hz) (by rw [B.hsc]; exact hv) hzd hzc
  refine (RT.pe_sumVals (te := tFld X.K (tVar i) f) (own := own) (j := j) (y := y) B.calm (by rw [B.hN]; exact B.nd) rfl rfl (show X.env.scope.names.lookup _ = _ by rw [B.hsc]; exact hg) (by rw [B.mg]; exact hm) (pe_fld hvar hb) (by rw [B.hN, B.hsc]; exact ok) (by rw [B.hN]; exact hj) hjo (fun s H C cl fp => ?_) hyd hyc hbase hline hfs h1).mono fun σ H Q h => ?_
  · have BY := B.blk s H scope cl C fp
    refine ⟨by rw [BY.hsc]; exact hyv, by rw [BY.hsc]; exact hyl, by rw [BY.hsc]; exact hyk, ?_, ?_⟩
    · show (X.blk s H scope (compEnvC scope cl C X.env) fp).env.scope.names.lookup _ = _
      rw [BY.hsc]
      exact hgl
    · rw [BY.mg]
      exact hml
  · obtain ⟨w, e, μ, er, mr, ok⟩ := h
    unfold eSumVals at ok
    split at ok
    · exact ok.elim
    · rename_i hlen
      have hjl : j < σ.length := by rw [er.len]; omega
      refine ⟨hjl, ?_⟩
      have ok : OkR T (VRep T) w (((eVar i e μ).bind fun x μ => getF [c] f x μ).bind fun v μ => sumD μ v) Q (fun c d H' => W c d σ H') := ok
      cases hei : e[i]? with
      | none =>
        have z : eVar i e μ = .bad := by unfold eVar; rw [hei]
        rw [z] at ok
        exact ok.elim
      | some o =>
        cases o with
        | none =>
          have z : eVar i e μ = .bad := by unfold eVar; rw [hei]
          rw [z] at ok
          exact ok.elim
        | some v =>
          have z : eVar i e μ = .ok (norm μ v) μ := by unfold eVar; rw [hei]
          rw [z] at ok
          obtain ⟨x, hx, rx⟩ := er.at_ i v hei
          have rx := rx.norm mr
          generalize norm μ v = v at *
          have ok2 : OkR T (VRep T) w ((getF [c] f v μ).bind fun v μ => sumD μ v) Q (fun c d H' => W c d σ H') := ok
          clear ok
          unfold getF at ok2
          split at ok2
          · rename_i c' fs hf0
            split at ok2
            · rename_i hc
              have hc : c' = c := by simpa using hc
              subst hc
              split at ok2
              · rename_i v0 hv0
                obtain ⟨a, dx, xs, rfl, hxs, hcase⟩ := fldOf_ok mr rx hf0
                obtain ⟨y0, hy1, hy2⟩ := lookup_zip hxs hv0
                have hy2 := hy2.norm mr
                have hH : H a = some (.ins (T.cadr c') dx ((flds c').zip xs)) := by
                  rcases hcase with ⟨_, h⟩ | ⟨h, _⟩
                  · exact h
                  · rw [hsl] at h; cases h
                obtain ⟨k1, k2⟩ := hf.pl hsl
                rw [← B.K] at k1 k2
                have ok3 : OkR T (VRep T) w (sumD μ (norm μ v0)) Q (fun c d H' => W c d σ H') := ok2
                clear ok2
                unfold sumD at ok3
                split at ok3
                · rename_i kvs hkv
                  split at ok3
                  · rename_i hlim
                    split at ok3
                    · rename_i ns hns
                      obtain ⟨d, vs, rfl, hd, vp⟩ := mr.dk hy2 hkv
                      obtain ⟨l1, l2⟩ := lensV_ok mr vp hns
                      have l3 := lensV_len μ hns
                      rw [List.length_map] at l3
                      have had : a ≠ d := fun z => by rw [z, hd] at hH; cases hH
                      refine ⟨d, vs, ns, hd, fun o Q' q' => ⟨.ref a, hx, a, T.cadr c', dx, (flds c').zip xs, .ref d, rfl, ?_, k1, k2, hy1, q'⟩, l1, by omega, fun i k x e => ?_, fun D hD => ?_⟩
                      · rw [upd_ne had]
                        exact hH
                      · obtain ⟨n, b, ys, g1, rfl, g2, g3⟩ := l2 i k x e
                        exact ⟨n, b, ys, g1, rfl, (fun z => by rw [z, hd] at g2; cases g2), g2, g3⟩
                      · obtain ⟨le, mr'⟩ := mr.newD (o := .lst (ns.map fun n : Nat => V.int (n : Int))) hD
                        exact ok3 _ _ _ le mr' (.d (.int _))
                    · exact ok3.elim
                  · exact ok3.elim
                · exact ok3.elim
              · exact ok2.elim
            · exact ok2.elim
          · exact ok2.elim
theorem de_sumV (B : Bx T N sc k W X) (i j c : Nat) (own : List (Str × Nat)) {z y f : Str} {scope : Scope} {p0 p1 p2 p3 p4 p5 apos bpos cpos lpos pos : Pos} (hg : sc.names.lookup ("sum" : Str) = some NameKind.globalImplicit) (hm : T.mg ("sum" : Str) = none) (hml : T.mg ("len" : Str) = none)
    (hf : AttOk T c f) (hz : N[i]? = some z) (hv : Vis sc z) (ok : BlkOk N sc scope own) (S : Sk (relS scope sc) [(y, .local), (("len" : Str), .globalImplicit)]) (hj : N[j]? = some y)
    (hsl : slotted c = false := by rfl) (hjo : j ∈ own.map (·.2) := by decide) (hzd : (z == ("__debug__" : Str)) = false := by decide) (hzc : (z == ("__classdict__" : Str)) = false := by decide) (hyd : (y == ("__debug__" : Str)) = false := by decide) (hyc : (y == ("__classdict__" : Str)) = false := by decide)
    (hb : attributeBase (.Name z p0) f X.env (eval (.Name z p0) X.env) = eval (.Name z p0) X.env := by rfl)
    (hbase : attributeBase (.Attribute (.Name z p0) f bpos) "values" X.env (eval (.Attribute (.Name z p0) f bpos) X.env) = eval (.Attribute (.Name z p0) f bpos) X.env := by rfl) (hline : (apos.endLine == cpos.line) = true := by rfl)
    (hfs : ∀ x, foldedSetIterable (.Call (.Attribute (.Attribute (.Name z p0) f bpos) "values" apos) [] [] cpos) X.env x = pure x := by intro _; rfl)
    (h1 : starEach [.ListComp (.Call (.Name ("len" : Str) p3) [.Name y p4] [] p5) [⟨.Name y p2, .Call (.Attribute (.Attribute (.Name z p0) f bpos) "values" apos) [] [] cpos, [], 0⟩] scope lpos] X.env = (false, eval (.ListComp (.Call (.Name ("len" : Str) p3) [.Name y p4] [] p5) [⟨.Name y p2, .Call (.Attribute (.Attribute (.Name z p0) f bpos) "values" apos) [] [] cpos, [], 0⟩] scope lpos) X.env) :: starEach [] X.env := by rfl) :
    DE T W X (.Call (.Name ("sum" : Str) p1) [.ListComp (.Call (.Name ("len" : Str) p3) [.Name y p4] [] p5) [⟨.Name y p2, .Call (.Attribute (.Attribute (.Name z p0) f bpos) "values" apos) [] [] cpos, [], 0⟩] scope lpos] [] pos) (eSumVals j (eUn (getF [c] f) (eVar i))) :=
  de_sumVals B i j c hg hm hml hf hsl hz hv hzd hzc ok S hj hjo (S.vis 0 rfl) (.inl (S.at_ 0 rfl)) (S.at_ 0 rfl) (S.at_ 1 rfl) hyd hyc hb hbase hline hfs h1
end
end Fs
namespace Fs
open PySem PySem.Spec PyProof.Rows L2
def dtV (m : Mem) : Val → Option (List (List Key × Val))
  | .loc l => match m[l]? with
    | some (.dt kvs) => some kvs
    | _ => Option.none
  | _ => Option.none
section
variable {T : Tbl} {w : Wd} {m : Mem} {H : Hp}
theorem MRel.dt (R : MRel T w m H) {x : V} {v : Val} {kvs : List (List Key × Val)} (h : VRep T w x v) (e : dtV m v = some kvs) : ∃ a xs, x = .ref a ∧ H a = some (.dT xs) ∧ VPair T w xs kvs := by
  cases h with
  | @loc l a h =>
    have e : (match m[l]? with
      | some (.dt kvs) => some kvs
      | _ => Option.none) = some kvs := e
    split at e
    · rename_i q
      cases e
      obtain ⟨f, xs, h1, h2⟩ := R.cell l a _ h q
      exact ⟨_, _, rfl, h1, h2⟩
    · cases e
  | _ => cases e
end
section
variable {T : Tbl} {N : List Str} {sc : Scope} {k : Nat} {W : WX} {X : Cx}
end
end Fs
namespace RT
open PySem PySem.Spec PyProof.Rows
section
variable {prog : Program} {w : World} {A : Around} {s : Shared} {R : Result → Shared → Prop}
variable {I : Addr} {fp wr : List Addr} {G : Array GenState → Array GenState → Prop} {n : Nat} {P : Nat → Value → Prop} {St : Nat → Shared → Prop}
end
section
variable {prog : Program} {w : World} {A : Around} {E : Value → Shared → Prop} {s : Shared}
variable {I : Addr} {fp wr : List Addr} {G : Array GenState → Array GenState → Prop} {n : Nat} {P : Nat → Value → Prop} {St : Nat → Shared → Prop}
end
end RT
namespace Fs
open PySem PySem.Spec L2
section
variable {T : Tbl} {N : List Str} {sc : Scope} {k : Nat} {W : WX} {X : Cx}
end
end Fs
namespace Fs
open PySem PySem.Spec L2
section
variable {T : Tbl} {N : List Str} {sc : Scope} {k : Nat} {W : WX} {X : Cx}
end
end Fs
namespace Fs
open PySem PySem.Spec L2
inductive PR (α : Type) where
  | ok (a : α)
  | exc (c : Nat) (p : List Data)
  | bad
def PR.bind {α β : Type} : PR α → (α → PR β) → PR β
  | .ok a, f => f a
  | .exc c p, _ => .exc c p
  | .bad, _ => .bad
@[simp] theorem PR.bind_ok {α β : Type} (a : α) (f : α → PR β) : (PR.ok a).bind f = f a := rfl
@[simp] theorem PR.bind_exc {α β : Type} (c : Nat) (p : List Data) (f : α → PR β) : (PR.exc c p : PR α).bind f = .exc c p := rfl
@[simp] theorem PR.bind_bad {α β : Type} (f : α → PR β) : (PR.bad : PR α).bind f = .bad := rfl
inductive ER (Γ α : Type) where
  | ok (a : α) (γ : Γ)
  | exc (c : Nat) (p : List Data) (γ : Γ)
  | bad
def ER.bind {Γ α β : Type} : ER Γ α → (α → Γ → ER Γ β) → ER Γ β
  | .ok a γ, f => f a γ
  | .exc c p γ, _ => .exc c p γ
  | .bad, _ => .bad
@[simp] theorem ER.bind_ok {Γ α β : Type} (a : α) (γ : Γ) (f : α → Γ → ER Γ β) : (ER.ok a γ).bind f = f a γ := rfl
@[simp] theorem ER.bind_exc {Γ α β : Type} (c : Nat) (p : List Data) (γ : Γ) (f : α → Γ → ER Γ β) : (ER.exc c p γ : ER Γ α).bind f = .exc c p γ := rfl
@[simp] theorem ER.bind_bad {Γ α β : Type} (f : α → Γ → ER Γ β) : (ER.bad : ER Γ α).bind f = .bad := rfl
def PR.er {Γ α : Type} (γ : Γ) : PR α → ER Γ α
  | .ok a => .ok a γ
  | .exc c p => .exc c p γ
  | .bad => .bad
@[simp] theorem PR.er_ok {Γ α : Type} (γ : Γ) (a : α) : (PR.ok a).er γ = .ok a γ := rfl
@[simp] theorem PR.er_exc {Γ α : Type} (γ : Γ) (c : Nat) (p : List Data) : (PR.exc c p : PR α).er γ = .exc c p γ := rfl
@[simp] theorem PR.er_bad {Γ α : Type} (γ : Γ) : (PR.bad : PR α).er γ = .bad := rfl
inductive SR (Γ ρ : Type) where
  | next (γ : Γ)
  | ret (r : ρ) (γ : Γ)
  | exc (c : Nat) (p : List Data) (γ : Γ)
  | bad
def ER.st {Γ α ρ : Type} : ER Γ α → (α → Γ → SR Γ ρ) → SR Γ ρ
  | .ok a γ, f => f a γ
  | .exc c p γ, _ => .exc c p γ
  | .bad, _ => .bad
@[simp] theorem ER.st_ok {Γ α ρ : Type} (a : α) (γ : Γ) (f : α → Γ → SR Γ ρ) : (ER.ok a γ).st f = f a γ := rfl
@[simp] theorem ER.st_exc {Γ α ρ : Type} (c : Nat) (p : List Data) (γ : Γ) (f : α → Γ → SR Γ ρ) : (ER.exc c p γ : ER Γ α).st f = .exc c p γ := rfl
@[simp] theorem ER.st_bad {Γ α ρ : Type} (f : α → Γ → SR Γ ρ) : (ER.bad : ER Γ α).st f = .bad := rfl
@[reducible] def HL : List Type → Type
  | [] => Unit
  | α :: Ts => α × HL Ts
structure Rp (α : Type) where
  enc : α → Data
  ok : α → Prop
  own : Nat → Mem → Val → α → List Nat → Prop
  loc : ∀ {n : Nat} {m m' : Mem} {v : Val} {a : α} {fp : List Nat}, own n m v a fp → (∀ l ∈ fp, m'[l]? = m[l]?) → own n m' v a fp
  lt : ∀ {n : Nat} {m : Mem} {v : Val} {a : α} {fp : List Nat}, own n m v a fp → ∀ l ∈ fp, l < m.length
  nrm : ∀ {n : Nat} {m : Mem} {v : Val} {a : α} {fp : List Nat}, own n m v a fp → norm m v = v
def Fz {α : Type} (rp : Rp α) (v : Val) (a : α) : Prop := v = .d (rp.enc a) ∧ rp.ok a
def Vw {α : Type} (rp : Rp α) (n : Nat) (m : Mem) (v : Val) (a : α) (q : List Nat) : Prop := (Fz rp v a ∧ q = []) ∨ rp.own n m v a q
theorem Fz.vw {α : Type} {rp : Rp α} {v : Val} {a : α} (h : Fz rp v a) (n : Nat) (m : Mem) : Vw rp n m v a [] := .inl ⟨h, rfl⟩
theorem Vw.loc {α : Type} {rp : Rp α} {n : Nat} {m m' : Mem} {v : Val} {a : α} {q : List Nat} (h : Vw rp n m v a q) (k : ∀ l ∈ q, m'[l]? = m[l]?) : Vw rp n m' v a q := by
  rcases h with h | h
  · exact .inl h
  · exact .inr (rp.loc h k)
theorem Vw.lt {α : Type} {rp : Rp α} {n : Nat} {m : Mem} {v : Val} {a : α} {q : List Nat} (h : Vw rp n m v a q) : ∀ l ∈ q, l < m.length := by
  rcases h with ⟨_, rfl⟩ | h
  · intro l hl
    cases hl
  · exact rp.lt h
theorem Vw.nrm {α : Type} {rp : Rp α} {n : Nat} {m : Mem} {v : Val} {a : α} {q : List Nat} (h : Vw rp n m v a q) : norm m v = v := by
  rcases h with ⟨⟨rfl, _⟩, _⟩ | h
  · rfl
  · exact rp.nrm h
def imm {α : Type} (enc : α → Data) (ok : α → Prop) : Rp α := ⟨enc, ok, fun _ _ _ _ _ => False, fun h => h.elim, fun h => h.elim, fun h => h.elim⟩
def lim : Nat := 16777216
def tyInt : Rp Int := imm .int fun _ => True
def tyBool : Rp Bool := imm .bool fun _ => True
def tyStr : Rp Str := imm .str fun s => s.length ≤ lim
def tyNone : Rp Unit := imm (fun _ => .none) fun _ => True
def tyData : Rp Data := imm (fun x => x) fun _ => True
def encO {α : Type} (f : α → Data) : Option α → Data
  | Option.none => .none
  | some a => f a
def tyOpt {α : Type} (r : Rp α) : Rp (Option α) := imm (encO r.enc) fun o => ∀ a, o = some a → r.ok a
def tyTl {α : Type} (r : Rp α) : Rp (List α) := imm (fun xs => .tup (xs.map r.enc)) fun xs => xs.length ≤ lim ∧ ∀ x ∈ xs, r.ok x
def lv {α : Type} (r : Rp α) (xs : List α) : List Val := xs.map fun x => .d (r.enc x)
def okL {α : Type} (r : Rp α) (xs : List α) : Prop := xs.length ≤ lim ∧ ∀ x ∈ xs, r.ok x
def ownL {α : Type} (r : Rp α) (m : Mem) (v : Val) (xs : List α) (fp : List Nat) : Prop := okL r xs ∧ ∃ l, v = .loc l ∧ m[l]? = some (.lst (lv r xs)) ∧ fp = [l]
def tyList {α : Type} (r : Rp α) : Rp (List α) where
  enc xs := .list (xs.map r.enc)
  ok := okL r
  own _ := ownL r
  loc := by
    rintro n m m' v a fp ⟨k, l, rfl, h, rfl⟩ q
    exact ⟨k, l, rfl, by rw [q l (List.mem_singleton.mpr rfl)]; exact h, rfl⟩
  lt := by
    rintro n m v a fp ⟨k, l, rfl, h, rfl⟩ q hq
    rw [List.mem_singleton.mp hq]
    exact (List.getElem?_eq_some_iff.mp h).1
  nrm := by
    rintro n m v a fp ⟨k, l, rfl, h, rfl⟩
    show (match m[l]? with
      | some (.frz x) => Val.d x
      | _ => Val.loc l) = _
    rw [h]
def okD {α : Type} (r : Rp α) (kvs : List (Str × α)) : Prop := kvs.length ≤ lim ∧ ∀ p ∈ kvs, p.1.length ≤ lim ∧ r.ok p.2
def dv {α : Type} (r : Rp α) (kvs : List (Str × α)) : List (Key × Val) := kvs.map fun p => (.inr p.1, .d (r.enc p.2))
def ownD {α : Type} (r : Rp α) (m : Mem) (v : Val) (kvs : List (Str × α)) (fp : List Nat) : Prop := okD r kvs ∧ ∃ l, v = .loc l ∧ m[l]? = some (.dk (dv r kvs)) ∧ fp = [l]
def tyDict {α : Type} (r : Rp α) : Rp (List (Str × α)) where
  enc kvs := .dk (kvs.map fun p => (.inr p.1, r.enc p.2))
  ok := okD r
  own _ := ownD r
  loc := by
    rintro n m m' v a fp ⟨k, l, rfl, h, rfl⟩ q
    exact ⟨k, l, rfl, by rw [q l (List.mem_singleton.mpr rfl)]; exact h, rfl⟩
  lt := by
    rintro n m v a fp ⟨k, l, rfl, h, rfl⟩ q hq
    rw [List.mem_singleton.mp hq]
    exact (List.getElem?_eq_some_iff.mp h).1
  nrm := by
    rintro n m v a fp ⟨k, l, rfl, h, rfl⟩
    show (match m[l]? with
      | some (.frz x) => Val.d x
      | _ => Val.loc l) = _
    rw [h]
def tyScr : Rp (List Int) where
  enc _ := .none
  ok _ := False
  own _ _ v ns fp := v = .ro ns ∧ ns.length ≤ 63 ∧ fp = []
  loc h _ := h
  lt := by
    rintro n m v a fp ⟨rfl, _, rfl⟩ l h
    cases h
  nrm := by
    rintro n m v a fp ⟨rfl, _, rfl⟩
    rfl
inductive Kd where
  | dead
  | frz
  | bor (n : Nat)
  | own (n : Nat)
  | io (n : Nat)
  | lent (n : Nat)
  | held
  deriving DecidableEq
inductive SL : List Type → Type 1 where
  | nil : SL []
  | cons {α : Type} {Ts : List Type} (rp : Rp α) (s : SL Ts) : SL (α :: Ts)
def slotR {α : Type} (rp : Rp α) (k : Kd) (B : List Nat) (m : Mem) (y x : Option Val) (a : α) (fp : List Nat) : Prop := match k with
  | .dead => fp = []
  | .frz => (∃ v, x = some v ∧ Fz rp v a) ∧ fp = []
  | .bor n => (∃ v q, x = some v ∧ Vw rp n m v a q ∧ ∀ l ∈ q, l ∈ B) ∧ fp = []
  | .own n => ∃ v, x = some v ∧ rp.own n m v a fp
  | .io n => ∃ v, x = some v ∧ y = some v ∧ rp.own n m v a fp
  | .lent n => (∃ v q, x = some v ∧ y = some v ∧ Vw rp n m v a q ∧ ∀ l ∈ q, l ∈ B) ∧ fp = []
  | .held => (∃ v, x = some v ∧ y = some v) ∧ fp = []
def StR (B : List Nat) (m : Mem) : {Ts : List Type} → SL Ts → List Kd → Env → HL Ts → Env → List (List Nat) → Prop
  | _, .nil, [], [], _, [], [] => True
  | _, .cons rp s, k :: ks, y :: A, γ, x :: e, fp :: Ps => slotR rp k B m y x γ.1 fp ∧ StR B m s ks A γ.2 e Ps
  | _, _, _, _, _, _, _ => False
inductive Ix {α : Type} (rp : Rp α) : {Ts : List Type} → SL Ts → Nat → (HL Ts → α) → (α → HL Ts → HL Ts) → Prop where
  | here {Ts : List Type} {s : SL Ts} : Ix rp (.cons rp s) 0 (fun γ => γ.1) (fun a γ => (a, γ.2))
  | there {β : Type} {rp' : Rp β} {Ts : List Type} {s : SL Ts} {i : Nat} {g : HL Ts → α} {p : α → HL Ts → HL Ts} : Ix rp s i g p → Ix rp (.cons rp' s) (i + 1) (fun γ => g γ.2) (fun a γ => (γ.1, p a γ.2))
section
variable {B : List Nat} {m m' : Mem} {Ts : List Type} {s : SL Ts} {ks : List Kd} {A e : Env} {γ : HL Ts} {Ps : List (List Nat)}
theorem slotR.mono {α : Type} {rp : Rp α} {k : Kd} {y x : Option Val} {a : α} {fp : List Nat} (h : slotR rp k B m y x a fp) (q : ∀ l ∈ fp, m'[l]? = m[l]?) (qB : ∀ l ∈ B, m'[l]? = m[l]?) : slotR rp k B m' y x a fp := by
  cases k with
  | dead => exact h
  | frz => exact h
  | bor n =>
    obtain ⟨⟨v, q, rfl, hv, hB⟩, h2⟩ := h
    exact ⟨⟨v, q, rfl, hv.loc fun l hl => qB l (hB l hl), hB⟩, h2⟩
  | own n =>
    obtain ⟨v, rfl, hv⟩ := h
    exact ⟨v, rfl, rp.loc hv q⟩
  | io n =>
    obtain ⟨v, rfl, rfl, hv⟩ := h
    exact ⟨v, rfl, rfl, rp.loc hv q⟩
  | lent n =>
    obtain ⟨⟨v, q, rfl, rfl, hv, hB⟩, h2⟩ := h
    exact ⟨⟨v, q, rfl, rfl, hv.loc fun l hl => qB l (hB l hl), hB⟩, h2⟩
  | held => exact h
theorem StR.mono : ∀ {Ts : List Type} {s : SL Ts} {ks : List Kd} {A : Env} {γ : HL Ts} {e : Env} {Ps : List (List Nat)}, StR B m s ks A γ e Ps → (∀ l ∈ Ps.flatten, m'[l]? = m[l]?) → (∀ l ∈ B, m'[l]? = m[l]?) → StR B m' s ks A γ e Ps
  | _, .nil, [], [], _, [], [], _, _, _ => trivial
  | _, .cons rp s, k :: ks, y :: A, γ, x :: e, fp :: Ps, h, q, qB =>
    ⟨slotR.mono h.1 (fun l hl => q l (List.mem_flatten.mpr ⟨fp, List.mem_cons_self .., hl⟩)) qB, StR.mono h.2 (fun l hl => q l (by rw [List.flatten_cons]; exact List.mem_append_right _ hl)) qB⟩
  | _, .nil, _ :: _, _, _, _, _, h, _, _ => by cases h
  | _, .nil, [], _ :: _, _, _, _, h, _, _ => by cases h
  | _, .nil, [], [], _, _ :: _, _, h, _, _ => by cases h
  | _, .nil, [], [], _, [], _ :: _, h, _, _ => by cases h
  | _, .cons _ _, [], _, _, _, _, h, _, _ => by cases h
  | _, .cons _ _, _ :: _, [], _, _, _, h, _, _ => by cases h
  | _, .cons _ _, _ :: _, _ :: _, _, [], _, h, _, _ => by cases h
  | _, .cons _ _, _ :: _, _ :: _, _, _ :: _, [], h, _, _ => by cases h
theorem slotR.lt {α : Type} {rp : Rp α} {k : Kd} {y x : Option Val} {a : α} {fp : List Nat} (h : slotR rp k B m y x a fp) : ∀ l ∈ fp, l < m.length := by
  cases k with
  | dead =>
    obtain rfl := h
    intro l hl
    cases hl
  | frz =>
    obtain ⟨_, rfl⟩ := h
    intro l hl
    cases hl
  | bor n =>
    obtain ⟨_, rfl⟩ := h
    intro l hl
    cases hl
  | own n =>
    obtain ⟨v, rfl, hv⟩ := h
    exact rp.lt hv
  | io n =>
    obtain ⟨v, rfl, rfl, hv⟩ := h
    exact rp.lt hv
  | lent n =>
    obtain ⟨_, rfl⟩ := h
    intro l hl
    cases hl
  | held =>
    obtain ⟨_, rfl⟩ := h
    intro l hl
    cases hl
theorem StR.lt : ∀ {Ts : List Type} {s : SL Ts} {ks : List Kd} {A : Env} {γ : HL Ts} {e : Env} {Ps : List (List Nat)}, StR B m s ks A γ e Ps → ∀ l ∈ Ps.flatten, l < m.length
  | _, .nil, [], [], _, [], [], _ => by
    intro l hl
    cases hl
  | _, .cons rp s, k :: ks, y :: A, γ, x :: e, fp :: Ps, h => by
    intro l hl
    rw [List.flatten_cons, List.mem_append] at hl
    rcases hl with hl | hl
    · exact h.1.lt l hl
    · exact StR.lt h.2 l hl
  | _, .nil, _ :: _, _, _, _, _, h => by cases h
  | _, .nil, [], _ :: _, _, _, _, h => by cases h
  | _, .nil, [], [], _, _ :: _, _, h => by cases h
  | _, .nil, [], [], _, [], _ :: _, h => by cases h
  | _, .cons _ _, [], _, _, _, _, h => by cases h
  | _, .cons _ _, _ :: _, [], _, _, _, h => by cases h
  | _, .cons _ _, _ :: _, _ :: _, _, [], _, h => by cases h
  | _, .cons _ _, _ :: _, _ :: _, _, _ :: _, [], h => by cases h
theorem StR.inv {α : Type} {rp : Rp α} {s : SL Ts} {γ : HL (α :: Ts)} (h : StR B m (.cons rp s) ks A γ e Ps) : ∃ k ks' y A' x e' fp Ps', ks = k :: ks' ∧ A = y :: A' ∧ e = x :: e' ∧ Ps = fp :: Ps' ∧ slotR rp k B m y x γ.1 fp ∧ StR B m s ks' A' γ.2 e' Ps' := by
  cases ks with
  | nil => cases h
  | cons k ks =>
    cases A with
    | nil => cases h
    | cons y A =>
      cases e with
      | nil => cases h
      | cons x e =>
        cases Ps with
        | nil => cases h
        | cons fp Ps => exact ⟨k, ks, y, A, x, e, fp, Ps, rfl, rfl, rfl, rfl, h.1, h.2⟩
theorem Ix.get {α : Type} {rp : Rp α} {Ts : List Type} {s : SL Ts} {i : Nat} {g : HL Ts → α} {p : α → HL Ts → HL Ts} (ix : Ix rp s i g p) : ∀ {ks : List Kd} {A : Env} {γ : HL Ts} {e : Env} {Ps : List (List Nat)}, StR B m s ks A γ e Ps →
    ∃ k y x fp, ks[i]? = some k ∧ A[i]? = some y ∧ e[i]? = some x ∧ Ps[i]? = some fp ∧ slotR rp k B m y x (g γ) fp := by
  induction ix with
  | here =>
    intro ks A e γ Ps h
    obtain ⟨k, ks', y, A', x, e', fp, Ps', rfl, rfl, rfl, rfl, h1, _⟩ := h.inv
    exact ⟨k, y, x, fp, rfl, rfl, rfl, rfl, h1⟩
  | there ix ih =>
    intro ks A e γ Ps h
    obtain ⟨k, ks', y, A', x, e', fp, Ps', rfl, rfl, rfl, rfl, h1, h2⟩ := h.inv
    obtain ⟨k2, y2, x2, fp2, e1, e2, e3, e4, h3⟩ := ih h2
    exact ⟨k2, y2, x2, fp2, e1, e2, e3, e4, h3⟩
theorem Ix.put {α : Type} {rp : Rp α} {Ts : List Type} {s : SL Ts} {i : Nat} {g : HL Ts → α} {p : α → HL Ts → HL Ts} (ix : Ix rp s i g p) {k' : Kd} {x' : Option Val} {a' : α} {fp' : List Nat} : ∀ {ks : List Kd} {A : Env} {γ : HL Ts} {e : Env} {Ps : List (List Nat)}, StR B m s ks A γ e Ps →
    (∀ l ∈ (Ps.set i []).flatten, m'[l]? = m[l]?) → (∀ l ∈ B, m'[l]? = m[l]?) → (∀ y, A[i]? = some y → slotR rp k' B m' y x' a' fp') → StR B m' s (ks.set i k') A (p a' γ) (e.set i x') (Ps.set i fp') := by
  induction ix with
  | here =>
    intro ks A e γ Ps h q qB n
    obtain ⟨k, ks', y, A', x, e', fp, Ps', rfl, rfl, rfl, rfl, h1, h2⟩ := h.inv
    exact ⟨n y rfl, h2.mono (fun l hl => q l hl) qB⟩
  | there ix ih =>
    intro ks A e γ Ps h q qB n
    obtain ⟨k, ks', y, A', x, e', fp, Ps', rfl, rfl, rfl, rfl, h1, h2⟩ := h.inv
    refine ⟨h1.mono (fun l hl => q l ?_) qB, ih h2 (fun l hl => q l ?_) qB n⟩
    · exact List.mem_flatten.mpr ⟨fp, List.mem_cons_self .., hl⟩
    · rw [List.set_cons_succ, List.flatten_cons]
      exact List.mem_append_right _ hl
end
end Fs
namespace Fs
open PySem PySem.Spec L2
structure St {Ts : List Type} (s : SL Ts) (ks : List Kd) (A : Env) (B : List Nat) (γ : HL Ts) (e : Env) (μ : Mem) (Ps : List (List Nat)) : Prop where
  r : StR B μ s ks A γ e Ps
  nd : Ps.flatten.Nodup
  nb : ∀ l ∈ Ps.flatten, l ∉ B
  lb : ∀ l ∈ B, l < μ.length
structure Fr (μ : Mem) (Ps : List (List Nat)) (μ' : Mem) (Ps' : List (List Nat)) : Prop where
  le : μ.length ≤ μ'.length
  keep : ∀ l, l < μ.length → l ∉ Ps.flatten → μ'[l]? = μ[l]?
  sub : ∀ l ∈ Ps'.flatten, l ∈ Ps.flatten ∨ μ.length ≤ l
theorem Fr.refl (μ : Mem) (Ps : List (List Nat)) : Fr μ Ps μ Ps := ⟨Nat.le_refl _, fun _ _ _ => rfl, fun _ h => .inl h⟩
theorem Fr.trans {μ μ' μ'' : Mem} {Ps Ps' Ps'' : List (List Nat)} (a : Fr μ Ps μ' Ps') (b : Fr μ' Ps' μ'' Ps'') : Fr μ Ps μ'' Ps'' := by
  refine ⟨Nat.le_trans a.le b.le, fun l h1 h2 => ?_, fun l h => ?_⟩
  · rw [b.keep l (Nat.lt_of_lt_of_le h1 a.le) fun z => ?_]
    · exact a.keep l h1 h2
    · rcases a.sub l z with z | z
      · exact h2 z
      · omega
  · rcases b.sub l h with z | z
    · exact a.sub l z
    · exact .inr (Nat.le_trans a.le z)
structure Fre (fp : List Nat) (B : List Nat) (μ : Mem) (Ps Ps' : List (List Nat)) : Prop where
  nd : fp.Nodup
  out : ∀ l ∈ fp, l ∉ Ps'.flatten ∧ l ∉ B
  sub : ∀ l ∈ fp, l ∈ Ps.flatten ∨ μ.length ≤ l
theorem Fre.back {fp B : List Nat} {μ μ' : Mem} {Ps Ps' Ps'' : List (List Nat)} (a : Fr μ Ps μ' Ps') (b : Fre fp B μ' Ps' Ps'') : Fre fp B μ Ps Ps'' := ⟨b.nd, b.out, fun l h => by
  rcases b.sub l h with z | z
  · exact a.sub l z
  · exact .inr (Nat.le_trans a.le z)⟩
section
variable {Ts : List Type} (s : SL Ts) (ks : List Kd) {α β ρ : Type}
def OkC (μ : Mem) (x : Res β) (P : β → α → Prop) (r : PR α) : Prop := match r with
  | .ok a => ∃ v, x = .ok v μ ∧ P v a
  | .exc c p => x = .exc c p μ
  | .bad => True
def RfC (m : Env → Mem → Res β) (P : β → α → Prop) (t : HL Ts → PR α) : Prop := ∀ A B γ e μ Ps, St s ks A B γ e μ Ps → OkC μ (m e μ) P (t γ)
def OkW (B : List Nat) (μ : Mem) (Ps : List (List Nat)) (n : Nat) (x : Res Val) (rp : Rp α) (r : PR α) : Prop := match r with
  | .ok a => ∃ v q, x = .ok v μ ∧ Vw rp n μ v a q ∧ ∀ l ∈ q, l ∈ Ps.flatten ∨ l ∈ B
  | .exc c p => x = .exc c p μ
  | .bad => True
def RfW (n : Nat) (m : EM) (rp : Rp α) (t : HL Ts → PR α) : Prop := ∀ A B γ e μ Ps, St s ks A B γ e μ Ps → OkW B μ Ps n (m e μ) rp (t γ)
def OkE (A : Env) (B : List Nat) (e : Env) (μ : Mem) (Ps : List (List Nat)) (x : Res β) (P : β → α → Prop) (r : ER (HL Ts) α) : Prop := match r with
  | .ok a γ' => ∃ v μ' Ps', x = .ok v μ' ∧ P v a ∧ St s ks A B γ' e μ' Ps' ∧ Fr μ Ps μ' Ps'
  | .exc c p γ' => ∃ μ' Ps', x = .exc c p μ' ∧ St s ks A B γ' e μ' Ps' ∧ Fr μ Ps μ' Ps'
  | .bad => True
def RfE (m : Env → Mem → Res β) (P : β → α → Prop) (t : HL Ts → ER (HL Ts) α) : Prop := ∀ A B γ e μ Ps, St s ks A B γ e μ Ps → OkE s ks A B e μ Ps (m e μ) P (t γ)
def OkN (A : Env) (B : List Nat) (e : Env) (μ : Mem) (Ps : List (List Nat)) (n : Nat) (x : Res Val) (rp : Rp α) (r : ER (HL Ts) α) : Prop := match r with
  | .ok a γ' => ∃ v μ' Ps' fp, x = .ok v μ' ∧ rp.own n μ' v a fp ∧ Fre fp B μ Ps Ps' ∧ St s ks A B γ' e μ' Ps' ∧ Fr μ Ps μ' Ps'
  | .exc c p γ' => ∃ μ' Ps', x = .exc c p μ' ∧ St s ks A B γ' e μ' Ps' ∧ Fr μ Ps μ' Ps'
  | .bad => True
def RfN (n : Nat) (m : EM) (rp : Rp α) (t : HL Ts → ER (HL Ts) α) : Prop := ∀ A B γ e μ Ps, St s ks A B γ e μ Ps → OkN s ks A B e μ Ps n (m e μ) rp (t γ)
def RfV (n : Nat) (m : EM) (rp : Rp α) (g : HL Ts → α) : Prop := ∀ A B γ e μ Ps, St s ks A B γ e μ Ps → ∃ v, m e μ = .ok v μ ∧
  ∀ γ2 μ2 Ps2, St s ks A B γ2 e μ2 Ps2 → ∃ q, Vw rp n μ2 v (g γ2) q ∧ ∀ l ∈ q, l ∈ Ps2.flatten ∨ l ∈ B
inductive Rm where
  | frz
  | new (n : Nat)
def ResR (rm : Rm) (rp : Rp α) (B : List Nat) (μ0 : Mem) (Ps0 : List (List Nat)) (μ : Mem) (Ps : List (List Nat)) (v : Val) (a : α) : Prop := match rm with
  | .frz => Fz rp v a
  | .new n => ∃ fp, rp.own n μ v a fp ∧ Fre fp B μ0 Ps0 Ps
def OkSt (kr kx ks' : List Kd) (rm : Rm) (rp : Rp ρ) (A : Env) (B : List Nat) (μ : Mem) (Ps : List (List Nat)) (x : SRes) (r : SR (HL Ts) ρ) : Prop := match r with
  | .next γ' => ∃ e' μ' Ps', x = .next e' μ' ∧ St s ks' A B γ' e' μ' Ps' ∧ Fr μ Ps μ' Ps'
  | .ret r γ' => ∃ v e' μ' Ps', x = .ret v μ' ∧ ResR rm rp B μ Ps μ' Ps' v r ∧ St s kr A B γ' e' μ' Ps' ∧ Fr μ Ps μ' Ps'
  | .exc c p γ' => ∃ e' μ' Ps', x = .exc c p e' μ' ∧ St s kx A B γ' e' μ' Ps' ∧ Fr μ Ps μ' Ps'
  | .bad => True
def RfS (kr kx ks' : List Kd) (rm : Rm) (rp : Rp ρ) (m : SM) (t : HL Ts → SR (HL Ts) ρ) : Prop := ∀ A B γ e μ Ps, St s ks A B γ e μ Ps → OkSt s kr kx ks' rm rp A B μ Ps (m e μ) (t γ)
end
theorem ResR.back {α : Type} {rm : Rm} {rp : Rp α} {B : List Nat} {μ μ' μ2 : Mem} {Ps Ps' Ps2 : List (List Nat)} {v : Val} {a : α} (f : Fr μ Ps μ' Ps') (h : ResR rm rp B μ' Ps' μ2 Ps2 v a) : ResR rm rp B μ Ps μ2 Ps2 v a := by
  cases rm with
  | frz => exact h
  | new n =>
    obtain ⟨fp, h1, h2⟩ := h
    exact ⟨fp, h1, h2.back f⟩
def wk1 (a b : Kd) : Bool := decide (b = a) || decide (b = .dead)
def wkB : List Kd → List Kd → Bool
  | [], [] => true
  | a :: r, b :: q => wk1 a b && wkB r q
  | _, _ => false
theorem slotR.wk {α : Type} {rp : Rp α} {a b : Kd} {B : List Nat} {m : Mem} {y x : Option Val} {c : α} {fp : List Nat} (h : slotR rp a B m y x c fp) (w : wk1 a b = true) : ∃ fp', slotR rp b B m y x c fp' ∧ (fp' = fp ∨ fp' = []) := by
  rcases Bool.or_eq_true_iff.mp w with w | w
  · rw [of_decide_eq_true w]
    exact ⟨fp, h, .inl rfl⟩
  · rw [of_decide_eq_true w]
    exact ⟨[], rfl, .inr rfl⟩
theorem StR.wk {B : List Nat} {m : Mem} : ∀ {Ts : List Type} {s : SL Ts} {ks ks' : List Kd} {A : Env} {γ : HL Ts} {e : Env} {Ps : List (List Nat)}, StR B m s ks A γ e Ps → wkB ks ks' = true → ∃ Ps', StR B m s ks' A γ e Ps' ∧ List.Sublist Ps'.flatten Ps.flatten := by
  intro Ts s
  induction s with
  | nil =>
    intro ks ks' A γ e Ps h w
    cases ks with
    | nil =>
      cases ks' with
      | nil => exact ⟨Ps, h, List.Sublist.refl _⟩
      | cons _ _ => cases w
    | cons _ _ => cases h
  | cons rp s ih =>
    intro ks ks' A γ e Ps h w
    obtain ⟨k, ks2, y, A', x, e', fp, Ps', rfl, rfl, rfl, rfl, h1, h2⟩ := h.inv
    cases ks' with
    | nil => cases w
    | cons k' ks' =>
      obtain ⟨w1, w2⟩ := Bool.and_eq_true_iff.mp w
      obtain ⟨Q, i1, i2⟩ := ih h2 w2
      obtain ⟨fp', j1, j2⟩ := h1.wk w1
      refine ⟨fp' :: Q, ⟨j1, i1⟩, ?_⟩
      rw [List.flatten_cons, List.flatten_cons]
      rcases j2 with rfl | rfl
      · exact List.Sublist.append (List.Sublist.refl _) i2
      · exact List.Sublist.trans i2 (List.sublist_append_right _ _)
section
variable {Ts : List Type} {s : SL Ts} {ks ks' : List Kd} {A : Env} {B : List Nat} {γ : HL Ts} {e : Env} {μ μ' : Mem} {Ps Ps' : List (List Nat)}
theorem St.wk (h : St s ks A B γ e μ Ps) (w : wkB ks ks' = true) : ∃ Ps', St s ks' A B γ e μ Ps' ∧ Fr μ Ps μ Ps' := by
  obtain ⟨Q, h1, h2⟩ := h.r.wk w
  exact ⟨Q, ⟨h1, h2.nodup h.nd, fun l hl => h.nb l (h2.subset hl), h.lb⟩, Nat.le_refl _, fun _ _ _ => rfl, fun l hl => .inl (h2.subset hl)⟩
theorem St.grow (h : St s ks A B γ e μ Ps) (le : μ.length ≤ μ'.length) (k : ∀ l, l < μ.length → μ'[l]? = μ[l]?) : St s ks A B γ e μ' Ps ∧ Fr μ Ps μ' Ps :=
  ⟨⟨h.r.mono (fun l hl => k l (h.r.lt l hl)) fun l hl => k l (h.lb l hl), h.nd, h.nb, fun l hl => Nat.lt_of_lt_of_le (h.lb l hl) le⟩, le, fun l h1 _ => k l h1, fun l hl => .inl hl⟩
end
section
variable {Ts : List Type} {s : SL Ts} {ks kr kx ks' k1 : List Kd} {α β ρ δ : Type} {A : Env} {B : List Nat} {γ : HL Ts} {e : Env} {μ μ' : Mem} {Ps Ps' : List (List Nat)}
theorem OkC.toE {x : Res β} {P : β → α → Prop} {r : PR α} (h : OkC μ x P r) (st : St s ks A B γ e μ Ps) : OkE s ks A B e μ Ps x P (r.er γ) := by
  cases r with
  | ok a =>
    obtain ⟨v, h1, h2⟩ := h
    exact ⟨v, μ, Ps, h1, h2, st, Fr.refl _ _⟩
  | exc c p => exact ⟨μ, Ps, h, st, Fr.refl _ _⟩
  | bad => trivial
theorem RfC.toE {m : Env → Mem → Res β} {P : β → α → Prop} {t : HL Ts → PR α} (h : RfC s ks m P t) : RfE s ks m P fun γ => (t γ).er γ := fun A B γ e μ Ps st => (h A B γ e μ Ps st).toE st
theorem RfC.w {m : EM} {rp : Rp α} {t : HL Ts → PR α} (h : RfC s ks m (Fz rp) t) (n : Nat) : RfW s ks n m rp t := by
  intro A B γ e μ Ps st
  have h := h A B γ e μ Ps st
  cases ht : t γ with
  | ok a =>
    rw [ht] at h
    obtain ⟨v, h1, h2⟩ := h
    exact ⟨v, [], h1, h2.vw n μ, fun l hl => by cases hl⟩
  | exc c p =>
    rw [ht] at h
    exact h
  | bad => trivial
theorem RfV.w {m : EM} {rp : Rp α} {g : HL Ts → α} {n : Nat} (h : RfV s ks n m rp g) : RfW s ks n m rp fun γ => .ok (g γ) := by
  intro A B γ e μ Ps st
  obtain ⟨v, h1, h2⟩ := h A B γ e μ Ps st
  obtain ⟨q, h3, h4⟩ := h2 γ μ Ps st
  exact ⟨v, q, h1, h3, h4⟩
theorem OkC.bind {x : Res β} {P : β → α → Prop} {r : PR α} {f : β → Mem → Res δ} {P' : δ → ρ → Prop} {u : α → PR ρ} (h : OkC μ x P r) (k : ∀ v a, P v a → OkC μ (f v μ) P' (u a)) : OkC μ (x.bind f) P' (r.bind u) := by
  cases r with
  | ok a =>
    obtain ⟨v, rfl, h2⟩ := h
    exact k v a h2
  | exc c p =>
    obtain rfl := h
    rfl
  | bad => trivial
theorem OkW.bind {n : Nat} {x : Res Val} {rp : Rp α} {r : PR α} {f : Val → Mem → Res δ} {P' : δ → ρ → Prop} {u : α → PR ρ} (h : OkW B μ Ps n x rp r) (k : ∀ v a q, Vw rp n μ v a q → (∀ l ∈ q, l ∈ Ps.flatten ∨ l ∈ B) → OkC μ (f v μ) P' (u a)) : OkC μ (x.bind f) P' (r.bind u) := by
  cases r with
  | ok a =>
    obtain ⟨v, q, rfl, h2, h3⟩ := h
    exact k v a q h2 h3
  | exc c p =>
    obtain rfl := h
    rfl
  | bad => trivial
theorem OkW.bindW {n n' : Nat} {x : Res Val} {rp : Rp α} {rp' : Rp ρ} {r : PR α} {f : Val → Mem → Res Val} {u : α → PR ρ} (h : OkW B μ Ps n x rp r) (k : ∀ v a q, Vw rp n μ v a q → (∀ l ∈ q, l ∈ Ps.flatten ∨ l ∈ B) → OkW B μ Ps n' (f v μ) rp' (u a)) : OkW B μ Ps n' (x.bind f) rp' (r.bind u) := by
  cases r with
  | ok a =>
    obtain ⟨v, q, rfl, h2, h3⟩ := h
    exact k v a q h2 h3
  | exc c p =>
    obtain rfl := h
    rfl
  | bad => trivial
theorem OkE.bind {x : Res β} {P : β → α → Prop} {r : ER (HL Ts) α} {f : β → Mem → Res δ} {P' : δ → ρ → Prop} {u : α → HL Ts → ER (HL Ts) ρ} (h : OkE s ks A B e μ Ps x P r) (k : ∀ v a γ μ Ps, P v a → St s ks A B γ e μ Ps → OkE s ks A B e μ Ps (f v μ) P' (u a γ)) : OkE s ks A B e μ Ps (x.bind f) P' (r.bind u) := by
  cases r with
  | ok a γ' =>
    obtain ⟨v, μ', Ps', rfl, h2, h3, h4⟩ := h
    have k := k v a γ' μ' Ps' h2 h3
    rw [ER.bind_ok, Res.bind_ok]
    cases hu : u a γ' with
    | ok b γ2 =>
      rw [hu] at k
      obtain ⟨w, μ2, Ps2, k1, k2, k3, k4⟩ := k
      exact ⟨w, μ2, Ps2, k1, k2, k3, h4.trans k4⟩
    | exc c p γ2 =>
      rw [hu] at k
      obtain ⟨μ2, Ps2, k1, k3, k4⟩ := k
      exact ⟨μ2, Ps2, k1, k3, h4.trans k4⟩
    | bad => trivial
  | exc c p γ' =>
    obtain ⟨μ', Ps', rfl, h3, h4⟩ := h
    exact ⟨μ', Ps', rfl, h3, h4⟩
  | bad => trivial
theorem OkE.bindN {n : Nat} {rp : Rp ρ} {x : Res β} {P : β → α → Prop} {r : ER (HL Ts) α} {f : β → Mem → Res Val} {u : α → HL Ts → ER (HL Ts) ρ} (h : OkE s ks A B e μ Ps x P r) (k : ∀ v a γ μ Ps, P v a → St s ks A B γ e μ Ps → OkN s ks A B e μ Ps n (f v μ) rp (u a γ)) : OkN s ks A B e μ Ps n (x.bind f) rp (r.bind u) := by
  cases r with
  | ok a γ' =>
    obtain ⟨v, μ', Ps', rfl, h2, h3, h4⟩ := h
    have k := k v a γ' μ' Ps' h2 h3
    rw [ER.bind_ok, Res.bind_ok]
    cases hu : u a γ' with
    | ok b γ2 =>
      rw [hu] at k
      obtain ⟨w, μ2, Ps2, fp, k1, k2, k5, k3, k4⟩ := k
      exact ⟨w, μ2, Ps2, fp, k1, k2, k5.back h4, k3, h4.trans k4⟩
    | exc c p γ2 =>
      rw [hu] at k
      obtain ⟨μ2, Ps2, k1, k3, k4⟩ := k
      exact ⟨μ2, Ps2, k1, k3, h4.trans k4⟩
    | bad => trivial
  | exc c p γ' =>
    obtain ⟨μ', Ps', rfl, h3, h4⟩ := h
    exact ⟨μ', Ps', rfl, h3, h4⟩
  | bad => trivial
theorem OkSt.from {rm : Rm} {rp : Rp ρ} {μ0 : Mem} {Ps0 : List (List Nat)} {x : SRes} {r : SR (HL Ts) ρ} (f : Fr μ0 Ps0 μ Ps) (h : OkSt s kr kx ks' rm rp A B μ Ps x r) : OkSt s kr kx ks' rm rp A B μ0 Ps0 x r := by
  cases r with
  | next γ' =>
    obtain ⟨e', μ', Ps', h1, h2, h3⟩ := h
    exact ⟨e', μ', Ps', h1, h2, f.trans h3⟩
  | ret r γ' =>
    obtain ⟨v, e', μ', Ps', h1, h4, h2, h3⟩ := h
    exact ⟨v, e', μ', Ps', h1, h4.back f, h2, f.trans h3⟩
  | exc c p γ' =>
    obtain ⟨e', μ', Ps', h1, h2, h3⟩ := h
    exact ⟨e', μ', Ps', h1, h2, f.trans h3⟩
  | bad => trivial
theorem OkE.st {rm : Rm} {rp : Rp ρ} {x : Res β} {P : β → α → Prop} {r : ER (HL Ts) α} {f : β → Mem → SRes} {u : α → HL Ts → SR (HL Ts) ρ} (hx : wkB ks kx = true) (h : OkE s ks A B e μ Ps x P r) (k : ∀ v a γ μ Ps, P v a → St s ks A B γ e μ Ps → OkSt s kr kx ks' rm rp A B μ Ps (f v μ) (u a γ)) :
    OkSt s kr kx ks' rm rp A B μ Ps (x.st e f) (r.st u) := by
  cases r with
  | ok a γ' =>
    obtain ⟨v, μ', Ps', rfl, h2, h3, h4⟩ := h
    exact (k v a γ' μ' Ps' h2 h3).from h4
  | exc c p γ' =>
    obtain ⟨μ', Ps', rfl, h3, h4⟩ := h
    obtain ⟨Q, h5, h6⟩ := h3.wk hx
    exact ⟨e, μ', Q, rfl, h5, h4.trans h6⟩
  | bad => trivial
theorem OkN.st {rm : Rm} {rp : Rp ρ} {n : Nat} {rq : Rp α} {x : Res Val} {r : ER (HL Ts) α} {f : Val → Mem → SRes} {u : α → HL Ts → SR (HL Ts) ρ} (hx : wkB ks kx = true) (h : OkN s ks A B e μ Ps n x rq r)
    (k : ∀ v a γ μ' Ps' fp, rq.own n μ' v a fp → Fre fp B μ Ps Ps' → St s ks A B γ e μ' Ps' → Fr μ Ps μ' Ps' → OkSt s kr kx ks' rm rp A B μ Ps (f v μ') (u a γ)) : OkSt s kr kx ks' rm rp A B μ Ps (x.st e f) (r.st u) := by
  cases r with
  | ok a γ' =>
    obtain ⟨v, μ', Ps', fp, rfl, h2, h5, h3, h4⟩ := h
    exact k v a γ' μ' Ps' fp h2 h5 h3 h4
  | exc c p γ' =>
    obtain ⟨μ', Ps', rfl, h3, h4⟩ := h
    obtain ⟨Q, h5, h6⟩ := h3.wk hx
    exact ⟨e, μ', Q, rfl, h5, h4.trans h6⟩
  | bad => trivial
theorem OkC.st {rm : Rm} {rp : Rp ρ} {x : Res β} {P : β → α → Prop} {r : PR α} {f : β → Mem → SRes} {u : α → SR (HL Ts) ρ} (hx : wkB ks kx = true) (st : St s ks A B γ e μ Ps) (h : OkC μ x P r) (k : ∀ v a, P v a → OkSt s kr kx ks' rm rp A B μ Ps (f v μ) (u a)) :
    OkSt s kr kx ks' rm rp A B μ Ps (x.st e f) ((r.er γ).st fun a _ => u a) := by
  cases r with
  | ok a =>
    obtain ⟨v, rfl, h2⟩ := h
    exact k v a h2
  | exc c p =>
    obtain rfl := h
    obtain ⟨Q, h5, h6⟩ := st.wk hx
    exact ⟨e, μ, Q, rfl, h5, h6⟩
  | bad => trivial
end
end Fs
namespace Fs
open PySem PySem.Spec L2
section
variable {Γ α β δ : Type}
@[simp] def cC (a : α) (_ : Γ) : PR α := .ok a
@[simp] def cV (g : Γ → α) (γ : Γ) : PR α := .ok (g γ)
@[simp] def c1 (op : α → PR β) (ta : Γ → PR α) (γ : Γ) : PR β := (ta γ).bind op
@[simp] def c2 (op : α → β → PR δ) (ta : Γ → PR α) (tb : Γ → PR β) (γ : Γ) : PR δ := (ta γ).bind fun x => (tb γ).bind fun y => op x y
@[simp] def c3 {ε : Type} (op : α → β → δ → PR ε) (ta : Γ → PR α) (tb : Γ → PR β) (tc : Γ → PR δ) (γ : Γ) : PR ε := (ta γ).bind fun x => (tb γ).bind fun y => (tc γ).bind fun z => op x y z
@[simp] def cIf (tc : Γ → PR Bool) (ta tb : Γ → PR α) (γ : Γ) : PR α := (tc γ).bind fun b => if b = true then ta γ else tb γ
@[simp] def cAnd (ta tb : Γ → PR Bool) (γ : Γ) : PR Bool := (ta γ).bind fun b => if b = true then tb γ else .ok false
@[simp] def cOr (ta tb : Γ → PR Bool) (γ : Γ) : PR Bool := (ta γ).bind fun b => if b = true then .ok true else tb γ
@[simp] def cNot (ta : Γ → PR Bool) (γ : Γ) : PR Bool := (ta γ).bind fun b => .ok (!b)
@[simp] def xL (t : Γ → PR α) (γ : Γ) : ER Γ α := (t γ).er γ
@[simp] def x1 (op : α → PR β) (ta : Γ → ER Γ α) (γ : Γ) : ER Γ β := (ta γ).bind fun x γ => (op x).er γ
@[simp] def x2 (op : α → β → PR δ) (ta : Γ → ER Γ α) (tb : Γ → ER Γ β) (γ : Γ) : ER Γ δ := (ta γ).bind fun x γ => (tb γ).bind fun y γ => (op x y).er γ
@[simp] def xV2 (op : α → β → PR δ) (g : Γ → α) (tb : Γ → ER Γ β) (γ : Γ) : ER Γ δ := (tb γ).bind fun y γ => (op (g γ) y).er γ
@[simp] def x2V (op : α → β → PR δ) (ta : Γ → ER Γ α) (g : Γ → β) (γ : Γ) : ER Γ δ := (ta γ).bind fun x γ => (op x (g γ)).er γ
@[simp] def xIf (tc : Γ → ER Γ Bool) (ta tb : Γ → ER Γ α) (γ : Γ) : ER Γ α := (tc γ).bind fun b γ => if b = true then ta γ else tb γ
@[simp] def xAnd (ta tb : Γ → ER Γ Bool) (γ : Γ) : ER Γ Bool := (ta γ).bind fun b γ => if b = true then tb γ else .ok false γ
@[simp] def xOr (ta tb : Γ → ER Γ Bool) (γ : Γ) : ER Γ Bool := (ta γ).bind fun b γ => if b = true then .ok true γ else tb γ
@[simp] def xNot (ta : Γ → ER Γ Bool) (γ : Γ) : ER Γ Bool := (ta γ).bind fun b γ => .ok (!b) γ
end
def Op1 {α β : Type} (n : Nat) (rp : Rp α) (f : Val → Mem → Res Val) (rq : Rp β) (op : α → PR β) : Prop := ∀ μ v a q, Vw rp n μ v a q → OkC μ (f v μ) (Fz rq) (op a)
def Op2 {α β δ : Type} (n : Nat) (rp : Rp α) (n' : Nat) (rp' : Rp β) (f : Val → Val → Mem → Res Val) (rq : Rp δ) (op : α → β → PR δ) : Prop := ∀ μ v a q u b q', Vw rp n μ v a q → Vw rp' n' μ u b q' → OkC μ (f v u μ) (Fz rq) (op a b)
section
variable {Ts : List Type} {s : SL Ts} {ks : List Kd} {α β δ : Type} {rp : Rp α} {rp' : Rp β} {rq : Rp δ} {n n' : Nat} {ma mb : EM} {ta : HL Ts → PR α} {tb : HL Ts → PR β} {xa : HL Ts → ER (HL Ts) α} {xb : HL Ts → ER (HL Ts) β}
theorem rf_C {d : Data} {a : α} (h : Fz rp (.d d) a) : RfC s ks (eC d) (Fz rp) (cC a) := fun A B γ e μ Ps st => ⟨_, rfl, h⟩
theorem rf_int (i : Int) : RfC s ks (eC (.int i)) (Fz tyInt) (cC i) := rf_C ⟨rfl, trivial⟩
theorem rf_bool (i : Bool) : RfC s ks (eC (.bool i)) (Fz tyBool) (cC i) := rf_C ⟨rfl, trivial⟩
theorem rf_none : RfC s ks (eC .none) (Fz tyNone) (cC ()) := rf_C ⟨rfl, trivial⟩
theorem rf_str (i : Str) (h : i.length ≤ lim := by decide +kernel) : RfC s ks (eC (.str i)) (Fz tyStr) (cC i) := rf_C ⟨rfl, h⟩
theorem rf_var {i : Nat} {g : HL Ts → α} {p : α → HL Ts → HL Ts} (ix : Ix rp s i g p) (hk : ks[i]? = some .frz) : RfC s ks (eVar i) (Fz rp) (cV g) := by
  intro A B γ e μ Ps st
  obtain ⟨k, y, x, fp, h1, h2, h3, h4, h5⟩ := ix.get st.r
  rw [hk] at h1
  cases h1
  obtain ⟨⟨v, rfl, hv⟩, rfl⟩ := h5
  refine ⟨v, ?_, hv⟩
  show (match e[i]? with
    | some (some v) => Res.ok (norm μ v) μ
    | _ => Res.bad) = _
  rw [h3]
  show Res.ok (norm μ v) μ = _
  rw [hv.1]
  rfl
def kdIs (k : Kd) (n : Nat) : Bool := match k with
  | .dead => false
  | .frz => true
  | .bor m => m == n
  | .own m => m == n
  | .io m => m == n
  | .lent m => m == n
  | .held => false
theorem slotR.vw {k : Kd} {B : List Nat} {m : Mem} {y x : Option Val} {a : α} {fp : List Nat} (h : slotR rp k B m y x a fp) (hk : kdIs k n = true) : ∃ v q, x = some v ∧ Vw rp n m v a q ∧ ∀ l ∈ q, l ∈ fp ∨ l ∈ B := by
  cases k with
  | dead => cases hk
  | frz =>
    obtain ⟨⟨v, rfl, hv⟩, rfl⟩ := h
    exact ⟨v, [], rfl, hv.vw n m, fun l hl => by cases hl⟩
  | bor k =>
    obtain rfl := eq_of_beq hk
    obtain ⟨⟨v, q, rfl, hv, hB⟩, rfl⟩ := h
    exact ⟨v, q, rfl, hv, fun l hl => .inr (hB l hl)⟩
  | own k =>
    obtain rfl := eq_of_beq hk
    obtain ⟨v, rfl, hv⟩ := h
    exact ⟨v, fp, rfl, .inr hv, fun l hl => .inl hl⟩
  | io k =>
    obtain rfl := eq_of_beq hk
    obtain ⟨v, rfl, rfl, hv⟩ := h
    exact ⟨v, fp, rfl, .inr hv, fun l hl => .inl hl⟩
  | lent k =>
    obtain rfl := eq_of_beq hk
    obtain ⟨⟨v, q, rfl, rfl, hv, hB⟩, rfl⟩ := h
    exact ⟨v, q, rfl, hv, fun l hl => .inr (hB l hl)⟩
  | held => cases hk
theorem mem_flat {Ps : List (List Nat)} {i : Nat} {fp : List Nat} (h : Ps[i]? = some fp) {l : Nat} (hl : l ∈ fp) : l ∈ Ps.flatten := List.mem_flatten.mpr ⟨fp, List.mem_of_getElem? h, hl⟩
theorem rf_view {i : Nat} {g : HL Ts → α} {p : α → HL Ts → HL Ts} {k : Kd} (ix : Ix rp s i g p) (hk : ks[i]? = some k) (hn : kdIs k n = true) : RfV s ks n (eVar i) rp g := by
  intro A B γ e μ Ps st
  obtain ⟨k1, y, x, fp, h1, h2, h3, h4, h5⟩ := ix.get st.r
  rw [hk] at h1
  cases h1
  obtain ⟨v, q, rfl, h6, h7⟩ := h5.vw hn
  refine ⟨v, ?_, fun γ2 μ2 Ps2 st2 => ?_⟩
  · show (match e[i]? with
      | some (some v) => Res.ok (norm μ v) μ
      | _ => Res.bad) = _
    rw [h3]
    show Res.ok (norm μ v) μ = _
    rw [h6.nrm]
  · obtain ⟨k2, y2, x2, fp2, j1, j2, j3, j4, j5⟩ := ix.get st2.r
    rw [hk] at j1
    cases j1
    rw [h3] at j3
    cases j3
    obtain ⟨v2, q2, e2, j6, j7⟩ := j5.vw hn
    cases e2
    refine ⟨q2, j6, fun l hl => ?_⟩
    rcases j7 l hl with z | z
    · exact .inl (mem_flat j4 z)
    · exact .inr z
theorem rf_1 {f : Val → Mem → Res Val} {op : α → PR δ} (h : Op1 n rp f rq op) (ha : RfW s ks n ma rp ta) : RfC s ks (eUn f ma) (Fz rq) (c1 op ta) := fun A B γ e μ Ps st => (ha A B γ e μ Ps st).bind fun v a q hv _ => h μ v a q hv
theorem rf_2 {f : Val → Val → Mem → Res Val} {op : α → β → PR δ} (h : Op2 n rp n' rp' f rq op) (ha : RfW s ks n ma rp ta) (hb : RfW s ks n' mb rp' tb) : RfC s ks (eBin f ma mb) (Fz rq) (c2 op ta tb) := fun A B γ e μ Ps st =>
  (ha A B γ e μ Ps st).bind fun v a q hv _ => (hb A B γ e μ Ps st).bind fun u b q' hu _ => h μ v a q u b q' hv hu
theorem rfx_2 {f : Val → Val → Mem → Res Val} {op : α → β → PR δ} (h : Op2 0 rp 0 rp' f rq op) (ha : RfE s ks ma (Fz rp) xa) (hb : RfE s ks mb (Fz rp') xb) : RfE s ks (eBin f ma mb) (Fz rq) (x2 op xa xb) := fun A B γ e μ Ps st =>
  (ha A B γ e μ Ps st).bind fun v a γ μ Ps hv st => (hb A B γ e μ Ps st).bind fun u b γ μ Ps hu st => (h μ v a [] u b [] (hv.vw 0 μ) (hu.vw 0 μ)).toE st
theorem rt_of {t : HL Ts → PR Bool} {m : EM} (h : RfC s ks m (Fz tyBool) t) : RfC s ks (tOf m) Eq t := fun A B γ e μ Ps st => by
  have h := h A B γ e μ Ps st
  have e1 : tOf m e μ = (m e μ).bind fun x μ => (match asB x with
    | some b => .ok b μ
    | Option.none => (.bad : Res Bool)) := rfl
  rw [e1]
  cases ht : t γ with
  | ok a =>
    rw [ht] at h
    obtain ⟨v, h1, rfl, _⟩ := h
    rw [h1]
    exact ⟨a, rfl, rfl⟩
  | exc c p =>
    rw [ht] at h
    have h : m e μ = .exc c p μ := h
    rw [h]
    rfl
  | bad => trivial
theorem rtx_of {t : HL Ts → ER (HL Ts) Bool} {m : EM} (h : RfE s ks m (Fz tyBool) t) : RfE s ks (tOf m) Eq t := fun A B γ e μ Ps st => by
  have h := h A B γ e μ Ps st
  have e1 : tOf m e μ = (m e μ).bind fun x μ => (match asB x with
    | some b => .ok b μ
    | Option.none => (.bad : Res Bool)) := rfl
  rw [e1]
  cases ht : t γ with
  | ok a γ' =>
    rw [ht] at h
    obtain ⟨v, μ', Ps', h1, ⟨rfl, _⟩, h2, h3⟩ := h
    rw [h1]
    exact ⟨a, μ', Ps', rfl, rfl, h2, h3⟩
  | exc c p γ' =>
    rw [ht] at h
    obtain ⟨μ', Ps', h1, h2, h3⟩ := h
    rw [h1]
    exact ⟨μ', Ps', rfl, h2, h3⟩
  | bad => trivial
variable {ca cb : TM} {ua ub : HL Ts → PR Bool} {ya yb : HL Ts → ER (HL Ts) Bool}
theorem rt_not (h : RfC s ks ca Eq ua) : RfC s ks (tNot ca) Eq (cNot ua) := fun A B γ e μ Ps st => (h A B γ e μ Ps st).bind fun v a hv => ⟨!v, rfl, by rw [show v = a from hv]⟩
theorem rt_and (h : RfC s ks ca Eq ua) (k : RfC s ks cb Eq ub) : RfC s ks (Fs.tAnd ca cb) Eq (cAnd ua ub) := fun A B γ e μ Ps st => (h A B γ e μ Ps st).bind fun v a hv => by
  obtain rfl : v = a := hv
  cases v with
  | true => exact k A B γ e μ Ps st
  | false => exact ⟨false, rfl, rfl⟩
theorem rt_or (h : RfC s ks ca Eq ua) (k : RfC s ks cb Eq ub) : RfC s ks (Fs.tOr ca cb) Eq (cOr ua ub) := fun A B γ e μ Ps st => (h A B γ e μ Ps st).bind fun v a hv => by
  obtain rfl : v = a := hv
  cases v with
  | false => exact k A B γ e μ Ps st
  | true => exact ⟨true, rfl, rfl⟩
theorem rtx_not (h : RfE s ks ca Eq ya) : RfE s ks (tNot ca) Eq (xNot ya) := fun A B γ e μ Ps st => (h A B γ e μ Ps st).bind fun v a γ μ Ps hv st => ⟨!v, μ, Ps, rfl, by rw [show v = a from hv], st, Fr.refl _ _⟩
theorem rtx_and (h : RfE s ks ca Eq ya) (k : RfE s ks cb Eq yb) : RfE s ks (Fs.tAnd ca cb) Eq (xAnd ya yb) := fun A B γ e μ Ps st => (h A B γ e μ Ps st).bind fun v a γ μ Ps hv st => by
  obtain rfl : v = a := hv
  cases v with
  | true => exact k A B γ e μ Ps st
  | false => exact ⟨false, μ, Ps, rfl, rfl, st, Fr.refl _ _⟩
variable {ba bb : EM}
theorem rf_not (h : RfC s ks ba (Fz tyBool) ua) : RfC s ks (eNot ba) (Fz tyBool) (cNot ua) := fun A B γ e μ Ps st => (h A B γ e μ Ps st).bind fun v a hv => by
  obtain ⟨rfl, _⟩ := hv
  exact ⟨_, rfl, rfl, trivial⟩
theorem rf_and (h : RfC s ks ba (Fz tyBool) ua) (k : RfC s ks bb (Fz tyBool) ub) : RfC s ks (Fs.eAnd ba bb) (Fz tyBool) (cAnd ua ub) := fun A B γ e μ Ps st => (h A B γ e μ Ps st).bind fun v a hv => by
  obtain ⟨rfl, _⟩ := hv
  cases a with
  | true => exact k A B γ e μ Ps st
  | false => exact ⟨_, rfl, rfl, trivial⟩
theorem rf_or (h : RfC s ks ba (Fz tyBool) ua) (k : RfC s ks bb (Fz tyBool) ub) : RfC s ks (Fs.eOr ba bb) (Fz tyBool) (cOr ua ub) := fun A B γ e μ Ps st => (h A B γ e μ Ps st).bind fun v a hv => by
  obtain ⟨rfl, _⟩ := hv
  cases a with
  | false => exact k A B γ e μ Ps st
  | true => exact ⟨_, rfl, rfl, trivial⟩
end
end Fs
namespace Fs
open PySem PySem.Spec L2
section
variable {α β δ : Type} {rp : Rp α} {rp' : Rp β} {n n' : Nat} {μ : Mem} {v u : Val} {q : List Nat}
theorem lim_eq : lim = 16777216 := rfl
theorem lv_d (xs : List α) : (xs.map rp.enc).map Val.d = lv rp xs := by
  unfold lv
  rw [List.map_map]
  rfl
theorem Vw.lst {xs : List α} (h : Vw (tyList rp) n μ v xs q) : lstV μ v = some (lv rp xs) ∧ seqV μ v = some (lv rp xs) ∧ okL rp xs := by
  rcases h with ⟨⟨rfl, k⟩, _⟩ | ⟨k, l, rfl, h, _⟩
  · have e : lstV μ (.d ((tyList rp).enc xs)) = some (lv rp xs) := by
      show some ((xs.map rp.enc).map Val.d) = _
      rw [lv_d]
    exact ⟨e, e, k⟩
  · have e : lstV μ (.loc l) = some (lv rp xs) := by
      show (match μ[l]? with
        | some (.lst vs) => some vs
        | _ => Option.none) = _
      rw [h]
    exact ⟨e, e, k⟩
theorem Vw.imm {enc : α → Data} {ok : α → Prop} {a : α} (h : Vw (imm enc ok) n μ v a q) : v = .d (enc a) ∧ ok a := by
  rcases h with ⟨h, _⟩ | h
  · exact h
  · exact h.elim
theorem Vw.tl {xs : List α} (h : Vw (tyTl rp) n μ v xs q) : v = .d (.tup (xs.map rp.enc)) ∧ tupV v = some (lv rp xs) ∧ seqV μ v = some (lv rp xs) ∧ lstV μ v = none ∧ okL rp xs := by
  obtain ⟨rfl, k⟩ := h.imm
  refine ⟨rfl, ?_, ?_, rfl, k⟩
  · show some ((xs.map rp.enc).map Val.d) = _
    rw [lv_d]
  · show some ((xs.map rp.enc).map Val.d) = _
    rw [lv_d]
theorem okOp {r : δ} {rq : Rp δ} (h : rq.ok r) : OkC μ (.ok (.d (rq.enc r)) μ) (Fz rq) (.ok r) := ⟨_, rfl, rfl, h⟩
theorem lv_len (xs : List α) : (lv rp xs).length = xs.length := by simp [lv]
theorem atI_lv {xs : List α} {i : Int} {a : α} (h : L2.atI xs i = some a) : L2.atI (lv rp xs) i = some (.d (rp.enc a)) := by
  unfold L2.atI at h ⊢
  obtain ⟨j, h1, h2⟩ := Option.bind_eq_some_iff.mp h
  rw [lv_len, h1]
  show (lv rp xs)[j]? = _
  unfold lv
  rw [List.getElem?_map, h2]
  rfl
theorem atI_mem {xs : List α} {i : Int} {a : α} (h : L2.atI xs i = some a) : a ∈ xs := by
  obtain ⟨j, h1, h2⟩ := Option.bind_eq_some_iff.mp h
  exact List.mem_of_getElem? h2
@[simp] def oAdd (x y : Int) : PR Int := .ok (x + y)
@[simp] def oSub (x y : Int) : PR Int := .ok (x - y)
def ofO {α : Type} : Option α → PR α
  | some a => .ok a
  | Option.none => .bad
@[simp] theorem ofO_some (a : α) : ofO (some a) = .ok a := rfl
@[simp] theorem ofO_none : ofO (Option.none : Option α) = .bad := rfl
@[simp] def oMul (x y : Int) : PR Int := ofO (mulI x y)
@[simp] def oFdv (x y : Int) : PR Int := ofO (fdvI x y)
@[simp] def oMod (x y : Int) : PR Int := ofO (modI x y)
@[simp] def oPow (x y : Int) : PR Int := ofO (powI x y)
@[simp] def oNeg (x : Int) : PR Int := .ok (-x)
@[simp] def oCmp (f : Int → Int → Bool) (x y : Int) : PR Bool := .ok (f x y)
theorem op_oAdd (b : Bool) : Op2 n tyInt n' tyInt (addV b) tyInt oAdd := by
  intro μ v a q u b q' h k
  obtain ⟨rfl, _⟩ := h.imm
  obtain ⟨rfl, _⟩ := k.imm
  exact okOp (rq := tyInt) trivial
theorem op_int {f : Int → Int → Option Int} : Op2 n tyInt n' tyInt (intOp f) tyInt fun x y => ofO (f x y) := by
  intro μ v a q u b q' h k
  obtain ⟨rfl, _⟩ := h.imm
  obtain ⟨rfl, _⟩ := k.imm
  show OkC μ (match f a b with
    | some r => Res.ok (Val.d (Data.int r)) μ
    | Option.none => .bad) _ (ofO (f a b))
  cases f a b with
  | none => trivial
  | some r => exact okOp (rq := tyInt) trivial
theorem op_oSub : Op2 n tyInt n' tyInt (intOp subI) tyInt oSub := op_int
theorem op_oFdv : Op2 n tyInt n' tyInt (intOp fdvI) tyInt oFdv := op_int
theorem op_oMod : Op2 n tyInt n' tyInt (intOp modI) tyInt oMod := op_int
theorem op_oPow : Op2 n tyInt n' tyInt (intOp powI) tyInt oPow := op_int
theorem op_oMul (b : Bool) : Op2 n tyInt n' tyInt (repV b) tyInt oMul := by
  intro μ v a q u c q' h k
  obtain ⟨rfl, _⟩ := h.imm
  obtain ⟨rfl, _⟩ := k.imm
  show OkC μ (match mulI a c with
    | some r => Res.ok (Val.d (Data.int r)) μ
    | Option.none => .bad) _ (ofO (mulI a c))
  cases mulI a c with
  | none => trivial
  | some r => exact okOp (rq := tyInt) trivial
theorem op_oNeg : Op1 n tyInt negV tyInt oNeg := by
  intro μ v a q h
  obtain ⟨rfl, _⟩ := h.imm
  exact okOp (rq := tyInt) trivial
theorem op_oCmp (f : Int → Int → Bool) : Op2 n tyInt n' tyInt (cmpI f) tyBool (oCmp f) := by
  intro μ v a q u c q' h k
  obtain ⟨rfl, _⟩ := h.imm
  obtain ⟨rfl, _⟩ := k.imm
  exact okOp (rq := tyBool) trivial
@[simp] def oAddS (x y : Str) : PR Str := if lim < x.length + y.length then .bad else .ok (x ++ y)
@[simp] def oCat (x y : List α) : PR (List α) := if lim < x.length + y.length then .bad else .ok (x ++ y)
theorem lv_app (xs ys : List α) : lv rp (xs ++ ys) = lv rp xs ++ lv rp ys := by simp [lv]
theorem mkL_lv {xs : List α} (h : xs.length ≤ lim) : mkL false (lv rp xs) μ = .ok (.d ((tyList rp).enc xs)) μ := by
  unfold mkL
  rw [if_neg (by rw [lv_len]; rw [lim_eq] at h; omega)]
  unfold lv
  rw [allD_mapf]
  rfl
def eqO (x y : Data) : Option Bool := match toPy x, toPy y with
  | some d, some e => if scalP d e || (SeqAt.shaped d && SeqAt.shaped e) then some (PyData.eqv d e) else Option.none
  | _, _ => Option.none
def oEq (neg : Bool) (x y : Data) : PR Bool := match eqO x y with
  | some b => .ok (if neg then !b else b)
  | Option.none => .bad
def Eqv (rp : Rp α) (n : Nat) : Prop := ∀ μ v a q, Vw rp n μ v a q → pyV 6 μ v = toPy (rp.enc a)
theorem eqv_imm {enc : α → Data} {ok : α → Prop} : Eqv (imm enc ok) n := fun μ v a q h => by
  obtain ⟨rfl, _⟩ := h.imm
  exact pyV_d _ _ _
theorem mapO_d (k : Nat) (xs : List α) : mapO (pyV k μ) (lv rp xs) = toPys (xs.map rp.enc) := by
  induction xs with
  | nil => rfl
  | cons x r ih =>
    show (pyV k μ (.d (rp.enc x))).bind (fun y => (mapO (pyV k μ) (lv rp r)).map (y :: ·)) = (toPy (rp.enc x)).bind fun y => (toPys (r.map rp.enc)).map (y :: ·)
    rw [pyV_d, ih]
theorem eqv_list : Eqv (tyList rp) n := fun μ v a q h => by
  rcases h with ⟨⟨rfl, k⟩, _⟩ | ⟨k, l, rfl, h, _⟩
  · exact pyV_d _ _ _
  · rw [pyV_loc, h]
    show (mapO (pyV 5 μ) (lv rp a)).map PyData.list = (toPys (a.map rp.enc)).map PyData.list
    rw [mapO_d]
theorem op_oEq (neg : Bool) (h1 : Eqv rp n) (h2 : Eqv rp' n') : Op2 n rp n' rp' (eqV neg) tyBool fun x y => oEq neg (rp.enc x) (rp'.enc y) := by
  intro μ v a q u c q' h k
  show OkC μ (match pyEq μ v u with
    | some b => Res.ok (Val.d (Data.bool (if neg then !b else b))) μ
    | Option.none => .bad) _ (oEq neg (rp.enc a) (rp'.enc c))
  have e : pyEq μ v u = eqO (rp.enc a) (rp'.enc c) := by
    unfold pyEq eqO
    rw [h1 μ v a q h, h2 μ u c q' k]
    all_goals (cases toPy (rp.enc a) <;> cases toPy (rp'.enc c) <;> rfl)
  rw [e]
  unfold oEq
  cases eqO (rp.enc a) (rp'.enc c) with
  | none => trivial
  | some b => exact okOp (rq := tyBool) trivial
@[simp] def oIs (neg : Bool) (x : Data) : PR Bool := .ok (match x with
  | .none => !neg
  | _ => neg)
theorem rf_is {Ts : List Type} {s : SL Ts} {ks : List Kd} {m : EM} {t : HL Ts → PR α} (neg : Bool) (h : RfC s ks m (Fz rp) t) : RfC s ks (eBin (isV neg) m (eC .none)) (Fz tyBool) (c1 (fun x => oIs neg (rp.enc x)) t) := fun A B γ e μ Ps st => (h A B γ e μ Ps st).bind fun v a hv => by
  obtain ⟨rfl, _⟩ := hv
  refine ⟨_, rfl, ?_, trivial⟩
  show Val.d (.bool (if neg then !isNone (.d (rp.enc a)) else isNone (.d (rp.enc a)))) = Val.d (.bool (match rp.enc a with
    | .none => !neg
    | _ => neg))
  unfold isNone
  cases rp.enc a <;> cases neg <;> rfl
def oInS (neg : Bool) (x z : Str) : PR Bool := match sign1 x with
  | some c => .ok (negB neg (decide (c ∈ z.cps.toList)))
  | Option.none => .bad
theorem op_oInS (neg : Bool) : Op2 n tyStr n' tyStr (inV neg) tyBool (oInS neg) := by
  intro μ v a q u c q' h k
  obtain ⟨rfl, _⟩ := h.imm
  obtain ⟨rfl, _⟩ := k.imm
  show OkC μ (match sign1 a with
    | some c' => Res.ok (Val.d (Data.bool (negB neg (decide (c' ∈ c.cps.toList))))) μ
    | Option.none => .bad) _ (oInS neg a c)
  unfold oInS
  cases sign1 a with
  | none => trivial
  | some c' => exact okOp (rq := tyBool) trivial
def oIn (neg l : Bool) (x : Data) (ds : List Data) : PR Bool :=
  if flatD x && ds.all flatD then .ok (negB neg (ds.any fun z => flatEq z x)) else
  match toPy x, if l then toPys ds else Option.none with
  | some p, some ps => if SeqAt.shaped p && SeqAt.shaped (.list ps) then .ok (negB neg (ps.any fun z => PyData.eqv z p)) else .bad
  | _, _ => .bad
theorem inV_seq (neg : Bool) {d : Data} {u : Val} (h : ∀ z, u ≠ .d (.str z)) : inV neg (.d d) u μ = inSeq neg d u μ := by
  unfold inV
  split
  · exact absurd rfl (h _)
  · rename_i h2 _
    cases h2
    rfl
  · rename_i h1 _
    exact absurd rfl (h1 d)
theorem inSeq_ok {neg l : Bool} {d : Data} {u : Val} {ds : List Data} (h : (seqV μ u).bind allD = some ds) (k : (lstV μ u).bind allD = if l then some ds else Option.none) : OkC μ (inSeq neg d u μ) (Fz tyBool) (oIn neg l d ds) := by
  unfold inSeq oIn
  rw [h]
  dsimp only
  split
  · exact okOp (rq := tyBool) trivial
  · rw [k]
    cases l with
    | true =>
      show OkC μ (match toPy d, toPys ds with
        | some p, some ps => if SeqAt.shaped p && SeqAt.shaped (.list ps) then Res.ok (Val.d (Data.bool (negB neg (ps.any fun z => PyData.eqv z p)))) μ else Res.bad
        | _, _ => .bad) _ _
      split
      · rename_i p ps h1 h2
        rw [if_pos rfl, h1, h2]
        show OkC μ _ _ (if SeqAt.shaped p && SeqAt.shaped (.list ps) then _ else _)
        split
        · exact okOp (rq := tyBool) trivial
        · trivial
      · rename_i hn
        rw [if_pos rfl]
        split
        · rename_i p ps h1 h2
          exact absurd h2 (hn p ps h1)
        · trivial
    | false =>
      rw [if_neg Bool.false_ne_true, if_neg Bool.false_ne_true]
      have e : ∀ (z : Option PyData), (match z, (Option.none : Option (List PyData)) with
        | some p, some ps => if SeqAt.shaped p && SeqAt.shaped (.list ps) then PR.ok (negB neg (ps.any fun z => PyData.eqv z p)) else .bad
        | _, _ => .bad) = .bad := fun z => by cases z <;> rfl
      rw [e]
      trivial
theorem allD_lv (xs : List α) : allD (lv rp xs) = some (xs.map rp.enc) := allD_mapf _ _
theorem rf_in {Ts : List Type} {s : SL Ts} {ks : List Kd} {ma mb : EM} {ta : HL Ts → PR β} {tb : HL Ts → PR (List α)} (neg : Bool) (ha : RfC s ks ma (Fz rp') ta) (hb : RfW s ks n mb (tyList rp) tb) : RfC s ks (eBin (inV neg) ma mb) (Fz tyBool) (c2 (fun x ys => oIn neg true (rp'.enc x) (ys.map rp.enc)) ta tb) := fun A B γ e μ Ps st =>
  (ha A B γ e μ Ps st).bind fun v a hv => (hb A B γ e μ Ps st).bind fun u c q hu _ => by
    obtain ⟨rfl, _⟩ := hv
    obtain ⟨k1, k2, _⟩ := hu.lst
    rw [inV_seq neg (fun z e => by rw [e] at k1; cases k1)]
    exact inSeq_ok (by rw [k2]; exact allD_lv c) (by rw [k1, if_pos rfl]; exact allD_lv c)
theorem rf_f1 {Ts : List Type} {s : SL Ts} {ks : List Kd} {f : Fn} {ma : EM} {ta : HL Ts → PR α} {op : α → PR δ} {rq : Rp δ} (h : Op1 n rp (fun v μ => f [v] μ) rq op) (ha : RfW s ks n ma rp ta) : RfC s ks (eArgs f (aCons ma aNil)) (Fz rq) (c1 op ta) := fun A B γ e μ Ps st => by
  have e1 : eArgs f (aCons ma aNil) e μ = (ma e μ).bind fun v μ => f [v] μ := by
    show ((ma e μ).bind fun x μ => (Res.ok [] μ : Res (List Val)).bind fun xs μ => .ok (x :: xs) μ).bind (fun xs μ => f xs μ) = _
    cases ma e μ <;> rfl
  rw [e1]
  exact (ha A B γ e μ Ps st).bind fun v a q hv _ => h μ v a q hv
theorem rfx_f1 {Ts : List Type} {s : SL Ts} {ks : List Kd} {f : Fn} {ma : EM} {ta : HL Ts → ER (HL Ts) α} {op : α → PR δ} {rq : Rp δ} (h : Op1 0 rp (fun v μ => f [v] μ) rq op) (ha : RfE s ks ma (Fz rp) ta) : RfE s ks (eArgs f (aCons ma aNil)) (Fz rq) (x1 op ta) := fun A B γ e μ Ps st => by
  have e1 : eArgs f (aCons ma aNil) e μ = (ma e μ).bind fun v μ => f [v] μ := by
    show ((ma e μ).bind fun x μ => (Res.ok [] μ : Res (List Val)).bind fun xs μ => .ok (x :: xs) μ).bind (fun xs μ => f xs μ) = _
    cases ma e μ <;> rfl
  rw [e1]
  exact (ha A B γ e μ Ps st).bind fun v a γ μ Ps hv st => (h μ v a [] (hv.vw 0 μ)).toE st
theorem args2 (f : Fn) (ma mb : EM) (e : Env) (μ : Mem) : eArgs f (aCons ma (aCons mb aNil)) e μ = (ma e μ).bind fun v μ => (mb e μ).bind fun u μ => f [v, u] μ := by
  show ((ma e μ).bind fun x μ => ((mb e μ).bind fun y μ => (Res.ok [] μ : Res (List Val)).bind fun xs μ => .ok (y :: xs) μ).bind fun xs μ => .ok (x :: xs) μ).bind (fun xs μ => f xs μ) = _
  cases ma e μ with
  | ok v m1 =>
    simp only [Res.bind_ok]
    cases mb e m1 <;> rfl
  | exc c p m1 => rfl
  | bad => rfl
theorem rf_f2 {Ts : List Type} {s : SL Ts} {ks : List Kd} {f : Fn} {ma mb : EM} {ta : HL Ts → PR α} {tb : HL Ts → PR β} {op : α → β → PR δ} {rq : Rp δ} (h : Op2 n rp n' rp' (fun v u μ => f [v, u] μ) rq op) (ha : RfW s ks n ma rp ta) (hb : RfW s ks n' mb rp' tb) : RfC s ks (eArgs f (aCons ma (aCons mb aNil))) (Fz rq) (c2 op ta tb) := fun A B γ e μ Ps st => by
  rw [args2]
  exact (ha A B γ e μ Ps st).bind fun v a q hv _ => (hb A B γ e μ Ps st).bind fun u b q' hu _ => h μ v a q u b q' hv hu
@[simp] def oLen (xs : List α) : PR Int := .ok xs.length
@[simp] def oLenS (x : Str) : PR Int := .ok x.length
theorem op_oLenS : Op1 n tyStr (fun v μ => lenV [v] μ) tyInt oLenS := by
  intro μ v a q h
  obtain ⟨rfl, h1⟩ := h.imm
  show OkC μ (lenV [.d (.str a)] μ) _ _
  rw [p_lenS h1]
  exact okOp (rq := tyInt) trivial
theorem lenV_seq {vs : List Val} (h : seqV μ v = some vs) (k : ∀ z, v ≠ .d (.str z)) : lenV [v] μ = .ok (.d (.int vs.length)) μ := by
  unfold lenV
  split
  · rename_i e
    cases e
    exact absurd rfl (k _)
  · rename_i e
    cases e
    rw [h]
  · rename_i e1 e2
    exact absurd rfl (e2 v)
theorem op_oLen : Op1 n (tyList rp) (fun v μ => lenV [v] μ) tyInt oLen := by
  intro μ v a q h
  obtain ⟨h1, h2, h3⟩ := h.lst
  show OkC μ (lenV [v] μ) _ _
  rw [lenV_seq h2 (fun z e => by rw [e] at h1; cases h1), lv_len]
  exact okOp (rq := tyInt) trivial
theorem op_oLenR : Op1 n tyScr (fun v μ => lenV [v] μ) tyInt oLen := by
  intro μ v a q h
  rcases h with ⟨⟨_, h⟩, _⟩ | ⟨rfl, _⟩
  · exact h.elim
  · show OkC μ (lenV [.ro a] μ) _ _
    rw [p_lenR]
    exact okOp (rq := tyInt) trivial
@[simp] def oAbs (x : Int) : PR Int := .ok (if x < 0 then -x else x)
@[simp] def oMin (x y : Int) : PR Int := .ok (if y < x then y else x)
@[simp] def oMax (x y : Int) : PR Int := .ok (if y > x then y else x)
@[simp] def oInt (x : Int) : PR Int := .ok x
@[simp] def oIntB (x : Bool) : PR Int := .ok (if x then 1 else 0)
theorem op_oAbs : Op1 n tyInt (fun v μ => absV [v] μ) tyInt oAbs := by
  intro μ v a q h
  obtain ⟨rfl, _⟩ := h.imm
  exact okOp (rq := tyInt) trivial
theorem op_oInt : Op1 n tyInt (fun v μ => intV [v] μ) tyInt oInt := by
  intro μ v a q h
  obtain ⟨rfl, _⟩ := h.imm
  exact okOp (rq := tyInt) trivial
theorem op_oIntB : Op1 n tyBool (fun v μ => intV [v] μ) tyInt oIntB := by
  intro μ v a q h
  obtain ⟨rfl, _⟩ := h.imm
  exact okOp (rq := tyInt) trivial
theorem op_oMin : Op2 n tyInt n' tyInt (fun v u μ => minV [v, u] μ) tyInt oMin := by
  intro μ v a q u c q' h k
  obtain ⟨rfl, _⟩ := h.imm
  obtain ⟨rfl, _⟩ := k.imm
  exact okOp (rq := tyInt) trivial
@[simp] def oId (x : α) : PR α := .ok x
theorem op_list : Op1 n (tyList rp) (fun v μ => listV false [v] μ) (tyList rp) oId := by
  intro μ v a q h
  obtain ⟨h1, h2, h3⟩ := h.lst
  show OkC μ (match seqV μ v with
    | some xs => mkL false xs μ
    | Option.none => .bad) _ _
  rw [h2]
  dsimp only
  rw [mkL_lv h3.1]
  exact okOp (rq := tyList rp) h3
theorem op_tuple : Op1 n (tyList rp) (fun v μ => tupleV [v] μ) (tyTl rp) oId := by
  intro μ v a q h
  obtain ⟨h1, h2, h3⟩ := h.lst
  show OkC μ (match lstV μ v with
    | some xs => mkT xs μ
    | Option.none => match tupV v with
      | some _ => Res.ok v μ
      | Option.none => Res.bad) _ _
  rw [h1]
  dsimp only
  unfold mkT
  rw [if_neg (by rw [lv_len]; have := h3.1; rw [lim_eq] at this; omega), allD_lv]
  exact okOp (rq := tyTl rp) h3
@[simp] def oIdx (xs : List α) (i : Int) : PR α := ofO (L2.atI xs i)
def sgS (c : Nat) : Str := ⟨#[c]⟩
@[simp] def oIdxS (x : Str) (i : Int) : PR Str := ofO ((L2.atI x.cps.toList i).map sgS)
theorem idxV_seq {vs : List Val} {i : Int} {w : Val} (h : seqV μ v = some vs) (k : ∀ z, v ≠ .d (.str z)) (hi : L2.atI vs i = some w) : idxV v (.d (.int i)) μ = .ok (norm μ w) μ := by
  unfold idxV
  split
  · exact absurd rfl (k _)
  · rename_i e
    cases e
    rw [h]
    show (match L2.atI vs i with
      | some v => Res.ok (norm μ v) μ
      | Option.none => .bad) = _
    rw [hi]
  · rename_i e _
    exact absurd rfl (e i)
theorem op_oIdx : Op2 n (tyList rp) n' tyInt idxV rp oIdx := by
  intro μ v a q u i q' h k
  obtain ⟨h1, h2, h3⟩ := h.lst
  obtain ⟨rfl, _⟩ := k.imm
  cases e : L2.atI a i with
  | none =>
    show OkC μ _ _ (ofO (L2.atI a i))
    rw [e]
    trivial
  | some x =>
    show OkC μ _ _ (ofO (L2.atI a i))
    rw [e, idxV_seq h2 (fun z e => by rw [e] at h1; cases h1) (atI_lv e)]
    exact okOp (h3.2 x (atI_mem e))
theorem op_oIdxR : Op2 n tyScr n' tyInt idxV tyInt oIdx := by
  intro μ v a q u i q' h k
  obtain ⟨rfl, _⟩ := k.imm
  rcases h with ⟨⟨_, h⟩, _⟩ | ⟨rfl, _⟩
  · exact h.elim
  · cases e : L2.atI a i with
    | none =>
      show OkC μ _ _ (ofO (L2.atI a i))
      rw [e]
      trivial
    | some x =>
      show OkC μ _ _ (ofO (L2.atI a i))
      have e2 := p_idxR (m := μ) e
      rw [e]
      show OkC μ (idxV (.ro a) (.d (.int i)) μ) _ _
      rw [e2]
      exact okOp (rq := tyInt) trivial
theorem op_oIdxS : Op2 n tyStr n' tyInt idxV tyStr oIdxS := by
  intro μ v a q u i q' h k
  obtain ⟨rfl, h1⟩ := h.imm
  obtain ⟨rfl, _⟩ := k.imm
  show OkC μ (if 16777216 < a.length then .bad else match L2.atI a.cps.toList i with
    | some c => Res.ok (Val.d (Data.str ⟨#[c]⟩)) μ
    | Option.none => Res.bad) _ (ofO ((L2.atI a.cps.toList i).map sgS))
  rw [if_neg (by rw [lim_eq] at h1; omega)]
  cases L2.atI a.cps.toList i with
  | none => trivial
  | some c =>
    refine okOp (rq := tyStr) (r := sgS c) ?_
    show 1 ≤ lim
    decide
def cutA (xs : List α) (lo hi : Option Int) : List α := (xs.drop (HT.sIx xs.length 0 lo)).take (HT.sIx xs.length xs.length hi - HT.sIx xs.length 0 lo)
theorem lv_cut (xs : List α) (lo hi : Option Int) : Fs.cutL (lv rp xs) lo hi = lv rp (cutA xs lo hi) := by
  unfold Fs.cutL cutA
  rw [lv_len]
  unfold lv
  rw [← List.map_drop, ← List.map_take]
theorem cut_sub (xs : List α) (lo hi : Option Int) : ∀ x ∈ cutA xs lo hi, x ∈ xs := fun x h => List.mem_of_mem_drop (List.mem_of_mem_take h)
theorem cut_len (xs : List α) (lo hi : Option Int) : (cutA xs lo hi).length ≤ xs.length := by
  unfold cutA
  rw [List.length_take, List.length_drop]
  omega
theorem okL_cut {xs : List α} (h : okL rp xs) (lo hi : Option Int) : okL rp (cutA xs lo hi) := ⟨Nat.le_trans (cut_len _ _ _) h.1, fun x hx => h.2 x (cut_sub _ _ _ x hx)⟩
end
section
variable {Ts : List Type} {s : SL Ts} {ks : List Kd} {α : Type} {rp : Rp α} {n : Nat}
@[simp] def cNo {Γ : Type} (_ : Γ) : PR (Option Int) := .ok Option.none
@[simp] def cSo {Γ : Type} (t : Γ → PR Int) (γ : Γ) : PR (Option Int) := (t γ).bind fun i => .ok (some i)
theorem ro_none : RfC s ks oNone Eq cNo := fun A B γ e μ Ps st => ⟨_, rfl, rfl⟩
theorem ro_some {m : EM} {t : HL Ts → PR Int} (h : RfC s ks m (Fz tyInt) t) : RfC s ks (oSome m) Eq (cSo t) := fun A B γ e μ Ps st => (h A B γ e μ Ps st).bind fun v a hv => by
  obtain ⟨rfl, _⟩ := hv
  exact ⟨some a, rfl, rfl⟩
@[simp] def oSlc {α : Type} (xs : List α) (lo hi : Option Int) : PR (List α) := .ok (cutA xs lo hi)
@[simp] def oSlcS (x : Str) (lo hi : Option Int) : PR Str := .ok (cutS x lo hi)
theorem rf_slc {m : EM} {lo hi : OM} {t : HL Ts → PR (List α)} {tl th : HL Ts → PR (Option Int)} (h : RfW s ks n m (tyList rp) t) (hl : RfC s ks lo Eq tl) (hh : RfC s ks hi Eq th) : RfC s ks (eSlc false m lo hi) (Fz (tyList rp)) (c3 oSlc t tl th) := fun A B γ e μ Ps st =>
  (h A B γ e μ Ps st).bind fun v a q hv _ => (hl A B γ e μ Ps st).bind fun x y hx => (hh A B γ e μ Ps st).bind fun x' y' hx' => by
    obtain rfl := hx
    obtain rfl := hx'
    obtain ⟨h1, h2, h3⟩ := hv.lst
    have e1 : slcV false v x x' μ = mkL false (Fs.cutL (lv rp a) x x') μ := by
      unfold slcV
      split
      · cases h1
      · rw [h1]
    rw [e1, lv_cut, mkL_lv (okL_cut h3 _ _).1]
    exact okOp (rq := tyList rp) (okL_cut h3 _ _)
end
end Fs
namespace Fs
open PySem PySem.Spec L2
theorem nd1 (l : Nat) : [l].Nodup := by simp
def encs : {Us : List Type} → SL Us → HL Us → List Data
  | _, .nil, _ => []
  | _, .cons rp s, x => rp.enc x.1 :: encs s x.2
def oks : {Us : List Type} → SL Us → HL Us → Prop
  | _, .nil, _ => True
  | _, .cons rp s, x => rp.ok x.1 ∧ oks s x.2
def tyTup {Us : List Type} (al : SL Us) : Rp (HL Us) := imm (fun x => .tup (encs al x)) (oks al)
section
variable {Ts Us : List Type} {s : SL Ts} {ks : List Kd} {al : SL Us} {α β δ : Type} {rp : Rp α} {n : Nat}
theorem Ix.encs {i : Nat} {g : HL Us → α} {p : α → HL Us → HL Us} (ix : Ix rp al i g p) (x : HL Us) : (Fs.encs al x)[i]? = some (rp.enc (g x)) := by
  induction ix with
  | here => rfl
  | there ix ih =>
    show (_ :: Fs.encs _ _)[_ + 1]? = _
    rw [List.getElem?_cons_succ]
    exact ih x.2
theorem Ix.oks {i : Nat} {g : HL Us → α} {p : α → HL Us → HL Us} (ix : Ix rp al i g p) {x : HL Us} (h : Fs.oks al x) : rp.ok (g x) := by
  induction ix with
  | here => exact h.1
  | there ix ih => exact ih h.2
theorem encs_len : ∀ {Us : List Type} (al : SL Us) (x : HL Us), (encs al x).length = Us.length
  | _, .nil, _ => rfl
  | _, .cons rp s, x => by
    show (_ :: encs s x.2).length = _
    rw [List.length_cons, List.length_cons, encs_len s x.2]
theorem rf_tix {i : Nat} {j : Int} {g : HL Us → α} {p : α → HL Us → HL Us} {m : EM} {t : HL Ts → PR (HL Us)} (ix : Ix rp al i g p) (hj : j = (i : Int)) (h : RfC s ks m (Fz (tyTup al)) t) : RfC s ks (eBin idxV m (eC (.int j))) (Fz rp) (c1 (fun x => .ok (g x)) t) := fun A B γ e μ Ps st =>
  (h A B γ e μ Ps st).bind fun v a hv => by
    obtain ⟨rfl, h1⟩ := hv
    subst hj
    have e1 := ix.encs a
    have e2 : L2.atI ((encs al a).map Val.d) (i : Int) = some (.d (rp.enc (g a))) := by
      rw [atI_nn (by omega) (by rw [List.length_map]; have := (List.getElem?_eq_some_iff.mp e1).1; omega), Int.toNat_natCast, List.getElem?_map, e1]
      rfl
    show OkC μ (idxV (.d (.tup (encs al a))) (.d (.int i)) μ) _ _
    rw [idxV_seq (vs := (encs al a).map .d) rfl (fun z e => by cases e) e2]
    exact okOp (ix.oks h1)
def ArgF (al : SL Us) (vs : List Val) (x : HL Us) : Prop := vs = (encs al x).map Val.d ∧ oks al x
@[simp] def cNil {Γ : Type} (_ : Γ) : PR (HL []) := .ok ()
@[simp] def cCons {Γ : Type} (ta : Γ → PR α) (tr : Γ → PR (HL Us)) (γ : Γ) : PR (HL (α :: Us)) := (ta γ).bind fun a => (tr γ).bind fun r => .ok (a, r)
@[simp] def xNil {Γ : Type} (γ : Γ) : ER Γ (HL []) := .ok () γ
@[simp] def xCons {Γ : Type} (ta : Γ → ER Γ α) (tr : Γ → ER Γ (HL Us)) (γ : Γ) : ER Γ (HL (α :: Us)) := (ta γ).bind fun a γ => (tr γ).bind fun r γ => .ok (a, r) γ
theorem ra_nil : RfC s ks aNil (ArgF .nil) cNil := fun A B γ e μ Ps st => ⟨[], rfl, rfl, trivial⟩
theorem ra_cons {m : EM} {mr : AM} {t : HL Ts → PR α} {tr : HL Ts → PR (HL Us)} (h : RfC s ks m (Fz rp) t) (k : RfC s ks mr (ArgF al) tr) : RfC s ks (aCons m mr) (ArgF (.cons rp al)) (cCons t tr) := fun A B γ e μ Ps st =>
  (h A B γ e μ Ps st).bind fun v a hv => (k A B γ e μ Ps st).bind fun vs r hr => by
    obtain ⟨rfl, h1⟩ := hv
    obtain ⟨rfl, h2⟩ := hr
    exact ⟨_, rfl, rfl, h1, h2⟩
theorem rax_nil : RfE s ks aNil (ArgF .nil) xNil := fun A B γ e μ Ps st => ⟨[], μ, Ps, rfl, ⟨rfl, trivial⟩, st, Fr.refl _ _⟩
theorem rax_cons {m : EM} {mr : AM} {t : HL Ts → ER (HL Ts) α} {tr : HL Ts → ER (HL Ts) (HL Us)} (h : RfE s ks m (Fz rp) t) (k : RfE s ks mr (ArgF al) tr) : RfE s ks (aCons m mr) (ArgF (.cons rp al)) (xCons t tr) := fun A B γ e μ Ps st =>
  (h A B γ e μ Ps st).bind fun v a γ μ Ps hv st => (k A B γ e μ Ps st).bind fun vs r γ μ Ps hr st => by
    obtain ⟨rfl, h1⟩ := hv
    obtain ⟨rfl, h2⟩ := hr
    exact ⟨_, μ, Ps, rfl, ⟨rfl, h1, h2⟩, st, Fr.refl _ _⟩
theorem mkT_ds {ds : List Data} {μ : Mem} (h : ds.length ≤ lim) : mkT (ds.map Val.d) μ = .ok (.d (.tup ds)) μ := by
  unfold mkT
  rw [if_neg (by rw [List.length_map]; rw [lim_eq] at h; omega), allD_map]
theorem rf_tup {m : AM} {t : HL Ts → PR (HL Us)} (h : RfC s ks m (ArgF al) t) (hU : Us.length ≤ lim := by decide) : RfC s ks (eArgs mkT m) (Fz (tyTup al)) t := fun A B γ e μ Ps st => by
  have h := (h A B γ e μ Ps st).bind (f := fun xs μ => mkT xs μ) (P' := Fz (tyTup al)) (u := fun x => .ok x) fun v a hv => by
    obtain ⟨rfl, h1⟩ := hv
    rw [mkT_ds (by rw [encs_len]; exact hU)]
    exact okOp (rq := tyTup al) h1
  show OkC μ ((m e μ).bind fun xs μ => mkT xs μ) _ (t γ)
  cases ht : t γ <;> rw [ht] at h <;> exact h
def ArgL (rp : Rp α) (k : Nat) (vs : List Val) (xs : List α) : Prop := vs = lv rp xs ∧ (∀ x ∈ xs, rp.ok x) ∧ xs.length = k
@[simp] def cLNil {Γ : Type} (_ : Γ) : PR (List α) := .ok []
@[simp] def cLCons {Γ : Type} (ta : Γ → PR α) (tr : Γ → PR (List α)) (γ : Γ) : PR (List α) := (ta γ).bind fun a => (tr γ).bind fun r => .ok (a :: r)
@[simp] def xLNil {Γ : Type} (γ : Γ) : ER Γ (List α) := .ok [] γ
@[simp] def xLCons {Γ : Type} (ta : Γ → ER Γ α) (tr : Γ → ER Γ (List α)) (γ : Γ) : ER Γ (List α) := (ta γ).bind fun a γ => (tr γ).bind fun r γ => .ok (a :: r) γ
theorem rl_nil : RfC s ks aNil (ArgL rp 0) cLNil := fun A B γ e μ Ps st => ⟨[], rfl, rfl, (fun _ h => by cases h), rfl⟩
theorem rl_cons {m : EM} {mr : AM} {t : HL Ts → PR α} {tr : HL Ts → PR (List α)} {k : Nat} (h : RfC s ks m (Fz rp) t) (kr : RfC s ks mr (ArgL rp k) tr) : RfC s ks (aCons m mr) (ArgL rp (k + 1)) (cLCons t tr) := fun A B γ e μ Ps st =>
  (h A B γ e μ Ps st).bind fun v a hv => (kr A B γ e μ Ps st).bind fun vs r hr => by
    obtain ⟨rfl, h1⟩ := hv
    obtain ⟨rfl, h2, rfl⟩ := hr
    exact ⟨_, rfl, rfl, (fun x hx => by
      rcases List.mem_cons.mp hx with rfl | hx
      · exact h1
      · exact h2 x hx), rfl⟩
theorem rf_lst {m : AM} {t : HL Ts → PR (List α)} {k : Nat} (h : RfC s ks m (ArgL rp k) t) (hk : k ≤ lim := by decide) : RfC s ks (eArgs (mkL false) m) (Fz (tyList rp)) t := fun A B γ e μ Ps st => by
  have h := (h A B γ e μ Ps st).bind (f := fun xs μ => mkL false xs μ) (P' := Fz (tyList rp)) (u := fun x => .ok x) fun v a hv => by
    obtain ⟨rfl, h1, rfl⟩ := hv
    rw [mkL_lv hk]
    exact okOp (rq := tyList rp) ⟨hk, h1⟩
  show OkC μ ((m e μ).bind fun xs μ => mkL false xs μ) _ (t γ)
  cases ht : t γ <;> rw [ht] at h <;> exact h
theorem St.newL {A : Env} {B : List Nat} {γ : HL Ts} {e : Env} {μ : Mem} {Ps : List (List Nat)} {xs : List α} {k : Nat} (st : St s ks A B γ e μ Ps) (h : okL rp xs) : OkN s ks A B e μ Ps k (mkL true (lv rp xs) μ) (tyList rp) (.ok xs γ) := by
  have e1 : mkL true (lv rp xs) μ = .ok (.loc μ.length) (μ ++ [.lst (lv rp xs)]) := by
    unfold mkL
    rw [if_neg (by rw [lv_len]; have := h.1; rw [lim_eq] at this; omega)]
  obtain ⟨st2, f⟩ := st.grow (μ' := μ ++ [.lst (lv rp xs)]) (by simp) fun l hl => List.getElem?_append_left hl
  refine ⟨.loc μ.length, _, Ps, [μ.length], e1, ⟨h, μ.length, rfl, ?_, rfl⟩, ⟨nd1 _, fun l hl => ?_, fun l hl => .inr ?_⟩, st2, f⟩
  · rw [List.getElem?_append_right (Nat.le_refl _), Nat.sub_self]
    rfl
  · rw [List.mem_singleton.mp hl]
    exact ⟨fun z => Nat.lt_irrefl _ (st.r.lt _ z), fun z => Nat.lt_irrefl _ (st.lb _ z)⟩
  · rw [List.mem_singleton.mp hl]
    exact Nat.le_refl _
theorem rn_lst {m : AM} {t : HL Ts → PR (List α)} {k : Nat} (h : RfC s ks m (ArgL rp k) t) (hk : k ≤ lim := by decide) : RfN s ks 0 (eArgs (mkL true) m) (tyList rp) (xL t) := fun A B γ e μ Ps st => by
  have h := (h A B γ e μ Ps st).toE st
  have h := h.bindN (n := 0) (rp := tyList rp) (f := fun xs μ => mkL true xs μ) (u := fun x γ => .ok x γ) fun v a γ μ Ps hv st => by
    obtain ⟨rfl, h1, rfl⟩ := hv
    exact st.newL ⟨hk, h1⟩
  show OkN s ks A B e μ Ps 0 ((m e μ).bind fun xs μ => mkL true xs μ) _ ((t γ).er γ)
  cases ht : t γ <;> rw [ht] at h <;> exact h
theorem rn_list {m : EM} {t : HL Ts → PR (List α)} (h : RfW s ks n m (tyList rp) t) : RfN s ks 0 (eArgs (listV true) (aCons m aNil)) (tyList rp) (xL t) := fun A B γ e μ Ps st => by
  have e1 : eArgs (listV true) (aCons m aNil) e μ = (m e μ).bind fun v μ => listV true [v] μ := by
    show ((m e μ).bind fun x μ => (Res.ok [] μ : Res (List Val)).bind fun xs μ => .ok (x :: xs) μ).bind (fun xs μ => listV true xs μ) = _
    cases m e μ <;> rfl
  rw [e1]
  have h := h A B γ e μ Ps st
  show OkN s ks A B e μ Ps 0 _ _ ((t γ).er γ)
  cases ht : t γ with
  | ok a =>
    rw [ht] at h
    obtain ⟨v, q, h1, h2, _⟩ := h
    rw [h1]
    obtain ⟨h3, h4, h5⟩ := h2.lst
    have e2 : listV true [v] μ = mkL true (lv rp a) μ := by
      show (match seqV μ v with
        | some xs => mkL true xs μ
        | Option.none => .bad) = _
      rw [h4]
    show OkN s ks A B e μ Ps 0 (listV true [v] μ) _ _
    rw [e2]
    exact st.newL h5
  | exc c p =>
    rw [ht] at h
    have h : m e μ = .exc c p μ := h
    rw [h]
    exact ⟨μ, Ps, rfl, st, Fr.refl _ _⟩
  | bad => trivial
theorem rn_listT {m : EM} {t : HL Ts → PR (List α)} (h : RfC s ks m (Fz (tyTl rp)) t) : RfN s ks 0 (eArgs (listV true) (aCons m aNil)) (tyList rp) (xL t) := fun A B γ e μ Ps st => by
  have e1 : eArgs (listV true) (aCons m aNil) e μ = (m e μ).bind fun v μ => listV true [v] μ := by
    show ((m e μ).bind fun x μ => (Res.ok [] μ : Res (List Val)).bind fun xs μ => .ok (x :: xs) μ).bind (fun xs μ => listV true xs μ) = _
    cases m e μ <;> rfl
  rw [e1]
  have h := h A B γ e μ Ps st
  show OkN s ks A B e μ Ps 0 _ _ ((t γ).er γ)
  cases ht : t γ with
  | ok a =>
    rw [ht] at h
    obtain ⟨v, h1, h2⟩ := h
    rw [h1]
    obtain ⟨rfl, h3, h4, _, h5⟩ := (h2.vw 0 μ).tl
    have e2 : listV true [.d (.tup (a.map rp.enc))] μ = mkL true (lv rp a) μ := by
      show (match seqV μ (.d (.tup (a.map rp.enc))) with
        | some xs => mkL true xs μ
        | Option.none => .bad) = _
      rw [h4]
    show OkN s ks A B e μ Ps 0 (listV true [.d (.tup (a.map rp.enc))] μ) _ _
    rw [e2]
    exact st.newL h5
  | exc c p =>
    rw [ht] at h
    have h : m e μ = .exc c p μ := h
    rw [h]
    exact ⟨μ, Ps, rfl, st, Fr.refl _ _⟩
  | bad => trivial
theorem flat_set {Ps : List (List Nat)} {i : Nat} {fp : List Nat} (h : i < Ps.length) : (Ps.set i fp).flatten.Perm (fp ++ (Ps.set i []).flatten) := by
  induction Ps generalizing i with
  | nil => cases h
  | cons a r ih =>
    cases i with
    | zero => exact List.Perm.refl _
    | succ i =>
      rw [List.set_cons_succ, List.set_cons_succ, List.flatten_cons, List.flatten_cons]
      have h := ih (i := i) (by simpa using h)
      exact (List.Perm.append_left a h).trans (by
        rw [← List.append_assoc, ← List.append_assoc]
        exact List.Perm.append_right _ List.perm_append_comm)
theorem flat_nil {Ps : List (List Nat)} {i : Nat} : List.Sublist (Ps.set i []).flatten Ps.flatten := by
  induction Ps generalizing i with
  | nil => exact List.Sublist.refl _
  | cons a r ih =>
    cases i with
    | zero => exact List.sublist_append_right _ _
    | succ i =>
      rw [List.set_cons_succ, List.flatten_cons, List.flatten_cons]
      exact List.Sublist.append (List.Sublist.refl _) ih
theorem flat_self {Ps : List (List Nat)} {i : Nat} {fp : List Nat} (h : Ps[i]? = some fp) : Ps.flatten.Perm (fp ++ (Ps.set i []).flatten) := by
  obtain ⟨hl, e⟩ := List.getElem?_eq_some_iff.mp h
  have h := flat_set (fp := fp) hl
  rwa [show Ps.set i fp = Ps by rw [← e]; exact List.set_getElem_self hl] at h
section
variable {A : Env} {B : List Nat} {γ : HL Ts} {e : Env} {μ μ' : Mem} {Ps : List (List Nat)} {i : Nat} {g : HL Ts → α} {p : α → HL Ts → HL Ts}
theorem St.putS (ix : Ix rp s i g p) (st : St s ks A B γ e μ Ps) {k' : Kd} {x' : Option Val} {a' : α} {fp' : List Nat} (le : μ.length ≤ μ'.length) (hB : ∀ l ∈ B, μ'[l]? = μ[l]?) (hP : ∀ l ∈ (Ps.set i []).flatten, μ'[l]? = μ[l]?)
    (hn : fp'.Nodup) (ho : ∀ l ∈ fp', l ∉ (Ps.set i []).flatten ∧ l ∉ B) (h : ∀ y, A[i]? = some y → slotR rp k' B μ' y x' a' fp') : St s (ks.set i k') A B (p a' γ) (e.set i x') μ' (Ps.set i fp') := by
  obtain ⟨k, y, x, fp, e1, e2, e3, e4, _⟩ := ix.get st.r
  have pm := flat_set (fp := fp') (List.getElem?_eq_some_iff.mp e4).1
  refine ⟨ix.put st.r hP hB h, ?_, fun l hl => ?_, fun l hl => Nat.lt_of_lt_of_le (st.lb l hl) le⟩
  · rw [pm.nodup_iff, List.nodup_append]
    exact ⟨hn, flat_nil.nodup st.nd, fun a ha b hb z => (ho a ha).1 (z ▸ hb)⟩
  · rw [pm.mem_iff, List.mem_append] at hl
    rcases hl with hl | hl
    · exact (ho l hl).2
    · exact st.nb l (flat_nil.subset hl)
theorem St.setF (ix : Ix rp s i g p) (st : St s ks A B γ e μ Ps) {v : Val} {a : α} (h : Fz rp v a) : St s (ks.set i .frz) A B (p a γ) (e.set i (some v)) μ (Ps.set i []) ∧ Fr μ Ps μ (Ps.set i []) :=
  ⟨st.putS ix (Nat.le_refl _) (fun _ _ => rfl) (fun _ _ => rfl) List.nodup_nil (fun l hl => by cases hl) (fun y _ => ⟨⟨v, rfl, h⟩, rfl⟩), Nat.le_refl _, fun _ _ _ => rfl, fun l hl => .inl (flat_nil.subset hl)⟩
theorem St.setN (ix : Ix rp s i g p) {μ0 : Mem} {Ps0 : List (List Nat)} (st : St s ks A B γ e μ Ps) (f : Fr μ0 Ps0 μ Ps) {v : Val} {a : α} {fp : List Nat} (h : rp.own n μ v a fp) (hf : Fre fp B μ0 Ps0 Ps) : St s (ks.set i (.own n)) A B (p a γ) (e.set i (some v)) μ (Ps.set i fp) ∧ Fr μ0 Ps0 μ (Ps.set i fp) := by
  obtain ⟨k, y, x, fp0, e1, e2, e3, e4, _⟩ := ix.get st.r
  have pm := flat_set (fp := fp) (List.getElem?_eq_some_iff.mp e4).1
  refine ⟨st.putS ix (Nat.le_refl _) (fun _ _ => rfl) (fun _ _ => rfl) hf.nd (fun l hl => ⟨fun z => (hf.out l hl).1 (flat_nil.subset z), (hf.out l hl).2⟩) (fun y _ => ⟨v, rfl, h⟩), f.le, f.keep, fun l hl => ?_⟩
  rw [pm.mem_iff, List.mem_append] at hl
  rcases hl with hl | hl
  · exact hf.sub l hl
  · exact f.sub l (flat_nil.subset hl)
def kdO (k : Kd) (n : Nat) : Bool := match k with
  | .own m => m == n
  | .io m => m == n
  | _ => false
theorem slotR.owns {k : Kd} {y x : Option Val} {a : α} {fp : List Nat} (h : slotR rp k B μ y x a fp) (hk : kdO k n = true) : ∃ v, x = some v ∧ rp.own n μ v a fp ∧ ∀ {m' : Mem} {a' : α} {fp' : List Nat}, rp.own n m' v a' fp' → slotR rp k B m' y x a' fp' := by
  cases k with
  | own k =>
    obtain rfl := eq_of_beq hk
    obtain ⟨v, rfl, hv⟩ := h
    exact ⟨v, rfl, hv, fun h => ⟨v, rfl, h⟩⟩
  | io k =>
    obtain rfl := eq_of_beq hk
    obtain ⟨v, rfl, rfl, hv⟩ := h
    exact ⟨v, rfl, hv, fun h => ⟨v, rfl, rfl, h⟩⟩
  | dead => cases hk
  | frz => cases hk
  | bor k => cases hk
  | lent k => cases hk
  | held => cases hk
theorem St.own (ix : Ix rp s i g p) (st : St s ks A B γ e μ Ps) {k : Kd} (hk : ks[i]? = some k) (hn : kdO k n = true) : ∃ v fp, eVar i e μ = .ok v μ ∧ rp.own n μ v (g γ) fp ∧ (∀ l ∈ fp, l ∉ B) ∧
    ∀ {μ' : Mem} {a' : α} {fp' : List Nat}, rp.own n μ' v a' fp' → μ.length ≤ μ'.length → (∀ l, l < μ.length → l ∉ fp → μ'[l]? = μ[l]?) → fp'.Nodup → (∀ l ∈ fp', l ∈ fp ∨ μ.length ≤ l) → St s ks A B (p a' γ) e μ' (Ps.set i fp') ∧ Fr μ Ps μ' (Ps.set i fp') := by
  obtain ⟨k1, y, x, fp, e1, e2, e3, e4, h5⟩ := ix.get st.r
  rw [hk] at e1
  cases e1
  obtain ⟨v, rfl, hv, back⟩ := h5.owns hn
  have pm0 := flat_self e4
  have dis : ∀ l ∈ fp, l ∉ (Ps.set i []).flatten := fun l hl z => by
    have nd := pm0.nodup_iff.mp st.nd
    exact (List.nodup_append.mp nd).2.2 l hl l z rfl
  refine ⟨v, fp, ?_, hv, fun l hl => st.nb l (mem_flat e4 hl), fun {μ' a' fp'} h le keep nd sub => ?_⟩
  · show (match e[i]? with
      | some (some v) => Res.ok (norm μ v) μ
      | _ => Res.bad) = _
    rw [e3]
    show Res.ok (norm μ v) μ = _
    rw [rp.nrm hv]
  · have pm := flat_set (fp := fp') (List.getElem?_eq_some_iff.mp e4).1
    have h1 := st.putS ix (k' := k) (x' := some v) (a' := a') (fp' := fp') le (fun l hl => keep l (st.lb l hl) fun z => st.nb l (mem_flat e4 z) hl) (fun l hl => keep l (st.r.lt l (flat_nil.subset hl)) fun z => dis l z hl) nd (fun l hl => by
      rcases sub l hl with z | z
      · exact ⟨dis l z, st.nb l (mem_flat e4 z)⟩
      · exact ⟨fun w => Nat.lt_irrefl _ (Nat.lt_of_lt_of_le (st.r.lt l (flat_nil.subset w)) z), fun w => Nat.lt_irrefl _ (Nat.lt_of_lt_of_le (st.lb l w) z)⟩) (fun y' hy => by
      rw [e2] at hy
      cases hy
      exact back h)
    have k1 : ks.set i k = ks := by
      obtain ⟨hl, e⟩ := List.getElem?_eq_some_iff.mp hk
      rw [← e]
      exact List.set_getElem_self hl
    have k2 : e.set i (some v) = e := by
      obtain ⟨hl, z⟩ := List.getElem?_eq_some_iff.mp e3
      rw [← z]
      exact List.set_getElem_self hl
    rw [k1, k2] at h1
    refine ⟨h1, le, fun l hl hn => keep l hl fun z => hn (mem_flat e4 z), fun l hl => ?_⟩
    rw [pm.mem_iff, List.mem_append] at hl
    rcases hl with hl | hl
    · rcases sub l hl with z | z
      · exact .inl (mem_flat e4 z)
      · exact .inr z
    · exact .inl (flat_nil.subset hl)
theorem St.wr {g : HL Ts → List α} {p : List α → HL Ts → HL Ts} (ix : Ix (tyList rp) s i g p) (st : St s ks A B γ e μ Ps) {k : Kd} (hk : ks[i]? = some k) (hn : kdO k n = true) : okL rp (g γ) ∧ ∃ l, eVar i e μ = .ok (.loc l) μ ∧ μ[l]? = some (.lst (lv rp (g γ))) ∧
    ∀ ys : List α, okL rp ys → ∃ Ps', St s ks A B (p ys γ) e (μ.set l (.lst (lv rp ys))) Ps' ∧ Fr μ Ps (μ.set l (.lst (lv rp ys))) Ps' := by
  obtain ⟨v, fp, h1, h2, h3, h4⟩ := st.own ix hk hn
  obtain ⟨k1, l, rfl, h5, rfl⟩ := h2
  have hl := (List.getElem?_eq_some_iff.mp h5).1
  refine ⟨k1, l, h1, h5, fun ys hy => ?_⟩
  refine ⟨Ps.set i [l], h4 ⟨hy, l, rfl, List.getElem?_set_self hl, rfl⟩ (by simp) (fun j hj hn => ?_) (nd1 _) fun j hj => .inl hj⟩
  exact List.getElem?_set_ne (fun z => hn (by simp [z]))
end
end
end Fs
namespace Fs
open PySem PySem.Spec L2
section
variable {Γ α β ρ : Type}
@[simp] def xApp (g : Γ → List α) (p : List α → Γ → Γ) (t : Γ → ER Γ α) (γ : Γ) : ER Γ Unit := (t γ).bind fun a γ => if (g γ).length < lim then .ok () (p (g γ ++ [a]) γ) else .bad
def popA (xs : List α) (i : Int) : Option (α × List α) := if 0 ≤ i ∧ i < xs.length then (xs[i.toNat]?).map fun a => (a, xs.eraseIdx i.toNat) else Option.none
@[simp] def xPopAt (g : Γ → List α) (p : List α → Γ → Γ) (t : Γ → ER Γ Int) (γ : Γ) : ER Γ α := (t γ).bind fun i γ => match popA (g γ) i with
  | some q => .ok q.1 (p q.2 γ)
  | Option.none => .bad
@[simp] def xPop (g : Γ → List α) (p : List α → Γ → Γ) (γ : Γ) : ER Γ α := match (g γ)[(g γ).length - 1]? with
  | some a => .ok a (p (g γ).dropLast γ)
  | Option.none => .bad
@[simp] def xIns (g : Γ → List α) (p : List α → Γ → Γ) (ti : Γ → ER Γ Int) (t : Γ → ER Γ α) (γ : Γ) : ER Γ Unit := (ti γ).bind fun i γ => (t γ).bind fun a γ => if (g γ).length < lim ∧ 0 ≤ i ∧ i < 2 ^ 63 then .ok () (p ((g γ).take i.toNat ++ [a] ++ (g γ).drop i.toNat) γ) else .bad
def SR.go (r : SR Γ ρ) (f : Γ → SR Γ ρ) : SR Γ ρ := match r with
  | .next γ => f γ
  | .ret r γ => .ret r γ
  | .exc c p γ => .exc c p γ
  | .bad => .bad
@[simp] theorem SR.go_next (γ : Γ) (f : Γ → SR Γ ρ) : (SR.next γ : SR Γ ρ).go f = f γ := rfl
@[simp] theorem SR.go_ret (r : ρ) (γ : Γ) (f : Γ → SR Γ ρ) : (SR.ret r γ : SR Γ ρ).go f = .ret r γ := rfl
@[simp] theorem SR.go_exc (c : Nat) (p : List Data) (γ : Γ) (f : Γ → SR Γ ρ) : (SR.exc c p γ : SR Γ ρ).go f = .exc c p γ := rfl
@[simp] theorem SR.go_bad (f : Γ → SR Γ ρ) : (SR.bad : SR Γ ρ).go f = .bad := rfl
@[simp] def tNext (γ : Γ) : SR Γ ρ := .next γ
@[simp] def tSeq (a b : Γ → SR Γ ρ) (γ : Γ) : SR Γ ρ := (a γ).go b
@[simp] def tSet (p : α → Γ → Γ) (t : Γ → ER Γ α) (γ : Γ) : SR Γ ρ := (t γ).st fun a γ => .next (p a γ)
@[simp] def tDo (t : Γ → ER Γ α) (γ : Γ) : SR Γ ρ := (t γ).st fun _ γ => .next γ
@[simp] def tRet (t : Γ → ER Γ ρ) (γ : Γ) : SR Γ ρ := (t γ).st fun a γ => .ret a γ
@[simp] def tIf (c : Γ → ER Γ Bool) (a b : Γ → SR Γ ρ) (γ : Γ) : SR Γ ρ := (c γ).st fun t γ => if t = true then a γ else b γ
@[simp] def tSetIx (g : Γ → List α) (p : List α → Γ → Γ) (ti : Γ → ER Γ Int) (t : Γ → ER Γ α) (γ : Γ) : SR Γ ρ := (t γ).st fun a γ => (ti γ).st fun i γ => match L2.ixN (g γ).length i with
  | some j => .next (p ((g γ).set j a) γ)
  | Option.none => .bad
def forL (set : α → Γ → Γ) (b : Γ → SR Γ ρ) : List α → Γ → SR Γ ρ
  | [], γ => .next γ
  | x :: r, γ => (b (set x γ)).go (forL set b r)
@[simp] def tFor (ti : Γ → ER Γ (List α)) (set : α → Γ → Γ) (b : Γ → SR Γ ρ) (γ : Γ) : SR Γ ρ := (ti γ).st fun xs γ => forL set b xs γ
@[simp] def tKill (p : Γ → Γ) (a : Γ → SR Γ ρ) (γ : Γ) : SR Γ ρ := (a γ).go fun γ => .next (p γ)
end
section
variable {Ts : List Type} {s : SL Ts} {ks kr kx ks' ks1 ks2 k0 : List Kd} {α β ρ : Type} {rp : Rp α} {n : Nat} {rm : Rm} {rq : Rp ρ}
variable {i : Nat} {g : HL Ts → List α} {p : List α → HL Ts → HL Ts} {k : Kd}
theorem eBm_eq (ty : Mem → Val → Bool) (f : Val → List Val → Mem → Res Val) (a : EM) (b : AM) (e : Env) (μ : Mem) : eBm ty f a b e μ = (a e μ).bind fun x μ => if ty μ x = true then (b e μ).bind fun xs μ => f x xs μ else .bad := rfl
theorem args1 {β : Type} (m : EM) (f : List Val → Mem → Res β) (e : Env) (μ : Mem) : (aCons m aNil e μ).bind f = (m e μ).bind fun v μ => f [v] μ := by
  show ((m e μ).bind fun x μ => (Res.ok [] μ : Res (List Val)).bind fun xs μ => .ok (x :: xs) μ).bind f = _
  cases m e μ <;> rfl
theorem args22 {β : Type} (ma mb : EM) (f : List Val → Mem → Res β) (e : Env) (μ : Mem) : (aCons ma (aCons mb aNil) e μ).bind f = (ma e μ).bind fun v μ => (mb e μ).bind fun u μ => f [v, u] μ := by
  show ((ma e μ).bind fun x μ => ((mb e μ).bind fun y μ => (Res.ok [] μ : Res (List Val)).bind fun xs μ => .ok (y :: xs) μ).bind fun xs μ => .ok (x :: xs) μ).bind f = _
  cases ma e μ with
  | ok v m1 =>
    simp only [Res.bind_ok]
    cases mb e m1 <;> rfl
  | exc c p m1 => rfl
  | bad => rfl
theorem eVar_same {e : Env} {μ μ' : Mem} {l l' : Nat} (h : eVar i e μ = .ok (.loc l) μ) (h' : eVar i e μ' = .ok (.loc l') μ') : l = l' := by
  have a : ∀ {m : Mem} {j : Nat}, eVar i e m = .ok (.loc j) m → e[i]? = some (some (.loc j)) := fun {m j} h => by
    have h : (match e[i]? with
      | some (some v) => Res.ok (norm m v) m
      | _ => Res.bad) = .ok (.loc j) m := h
    split at h
    · rename_i v hv
      rw [hv]
      have h : norm m v = .loc j := by
        injection h
      cases v with
      | loc q =>
        have h : (match m[q]? with
          | some (.frz x) => Val.d x
          | _ => Val.loc q) = .loc j := h
        split at h
        · cases h
        · rw [h]
      | _ => cases h
    · cases h
  have h1 := a h
  rw [a h'] at h1
  cases h1
  rfl
theorem rfx_app {m : EM} {t : HL Ts → ER (HL Ts) α} (ix : Ix (tyList rp) s i g p) (hk : ks[i]? = some k) (hn : kdO k n = true) (h : RfE s ks m (Fz rp) t) : RfE s ks (eBm isL appV (eVar i) (aCons m aNil)) (Fz tyNone) (xApp g p t) := fun A B γ e μ Ps st => by
  obtain ⟨_, l, h1, h2, _⟩ := st.wr ix hk hn
  rw [eBm_eq, h1, Res.bind_ok, if_pos (p_isL h2), args1]
  refine (h A B γ e μ Ps st).bind fun v a γ μ Ps hv st => ?_
  obtain ⟨ok, l', h3, h4, h5⟩ := st.wr ix hk hn
  obtain rfl := eVar_same h1 h3
  obtain ⟨rfl, hv⟩ := hv
  show OkE s ks A B e μ Ps (appV (.loc l) [.d (rp.enc a)] μ) _ (if (g γ).length < lim then _ else _)
  split
  · rename_i hl
    rw [p_app h4 (by rw [lv_len]; exact hl)]
    have hy : okL rp (g γ ++ [a]) := ⟨by rw [List.length_append]; exact hl, fun x hx => by
      rcases List.mem_append.mp hx with z | z
      · exact ok.2 x z
      · rw [List.mem_singleton.mp z]
        exact hv⟩
    obtain ⟨Q, h6, h7⟩ := h5 _ hy
    rw [lv_app] at h6 h7
    exact ⟨_, _, Q, rfl, ⟨rfl, trivial⟩, h6, h7⟩
  · trivial
theorem lv_erase (xs : List α) (j : Nat) : (lv rp xs).eraseIdx j = lv rp (xs.eraseIdx j) := by
  unfold lv
  induction xs generalizing j with
  | nil => rfl
  | cons x r ih =>
    cases j with
    | zero => rfl
    | succ j => simp [ih]
theorem rfx_popAt {m : EM} {t : HL Ts → ER (HL Ts) Int} (ix : Ix (tyList rp) s i g p) (hk : ks[i]? = some k) (hn : kdO k n = true) (h : RfE s ks m (Fz tyInt) t) : RfE s ks (eBm isL popAtV (eVar i) (aCons m aNil)) (Fz rp) (xPopAt g p t) := fun A B γ e μ Ps st => by
  obtain ⟨_, l, h1, h2, _⟩ := st.wr ix hk hn
  rw [eBm_eq, h1, Res.bind_ok, if_pos (p_isL h2), args1]
  refine (h A B γ e μ Ps st).bind fun v a γ μ Ps hv st => ?_
  obtain ⟨ok, l', h3, h4, h5⟩ := st.wr ix hk hn
  obtain rfl := eVar_same h1 h3
  obtain ⟨rfl, hv⟩ := hv
  show OkE s ks A B e μ Ps (popAtV (.loc l) [.d (.int a)] μ) _ (match popA (g γ) a with
    | some q => .ok q.1 (p q.2 γ)
    | Option.none => .bad)
  unfold popA
  split
  · rename_i q hq
    split at hq
    · rename_i hc
      obtain ⟨x, hx, rfl⟩ := Option.map_eq_some_iff.mp hq
      have e1 : popAtV (.loc l) [.d (.int a)] μ = .ok (.d (rp.enc x)) (μ.set l (.lst (lv rp ((g γ).eraseIdx a.toNat)))) := by
        unfold popAtV
        rw [p_atL h4]
        show (if 0 ≤ a ∧ a < (lv rp (g γ)).length ∧ (lv rp (g γ)).length ≤ 16777216 then (match (lv rp (g γ))[a.toNat]? with
          | some v => Res.ok v (μ.set l (.lst ((lv rp (g γ)).eraseIdx a.toNat)))
          | Option.none => .bad) else .bad) = _
        rw [lv_len, if_pos ⟨hc.1, hc.2, ok.1⟩]
        have e2 : (lv rp (g γ))[a.toNat]? = some (.d (rp.enc x)) := by
          unfold lv
          rw [List.getElem?_map, hx]
          rfl
        rw [e2, lv_erase]
      rw [e1]
      obtain ⟨Q, h6, h7⟩ := h5 ((g γ).eraseIdx a.toNat) ⟨Nat.le_trans (List.length_eraseIdx_le _ _) ok.1, fun y hy => ok.2 y (List.mem_of_mem_eraseIdx hy)⟩
      exact ⟨_, _, Q, rfl, ⟨rfl, ok.2 x (List.mem_of_getElem? hx)⟩, h6, h7⟩
    · cases hq
  · trivial
theorem rfx_ins {m mi : EM} {t : HL Ts → ER (HL Ts) α} {ti : HL Ts → ER (HL Ts) Int} (ix : Ix (tyList rp) s i g p) (hk : ks[i]? = some k) (hn : kdO k n = true) (hi : RfE s ks mi (Fz tyInt) ti) (h : RfE s ks m (Fz rp) t) : RfE s ks (eBm isL insV (eVar i) (aCons mi (aCons m aNil))) (Fz tyNone) (xIns g p ti t) := fun A B γ e μ Ps st => by
  obtain ⟨_, l, h1, h2, _⟩ := st.wr ix hk hn
  rw [eBm_eq, h1, Res.bind_ok, if_pos (p_isL h2), args22]
  refine (hi A B γ e μ Ps st).bind fun u j γ μ Ps hu st => (h A B γ e μ Ps st).bind fun v a γ μ Ps hv st => ?_
  obtain ⟨ok, l', h3, h4, h5⟩ := st.wr ix hk hn
  obtain rfl := eVar_same h1 h3
  obtain ⟨rfl, hv⟩ := hv
  obtain ⟨rfl, _⟩ := hu
  show OkE s ks A B e μ Ps (insV (.loc l) [.d (.int j), .d (rp.enc a)] μ) _ (if (g γ).length < lim ∧ 0 ≤ j ∧ j < 2 ^ 63 then _ else _)
  split
  · rename_i hc
    have e1 : insV (.loc l) [.d (.int j), .d (rp.enc a)] μ = .ok (.d .none) (μ.set l (.lst (lv rp ((g γ).take j.toNat ++ [a] ++ (g γ).drop j.toNat)))) := by
      unfold insV
      rw [p_atL h4]
      show (if (lv rp (g γ)).length < 16777216 ∧ 0 ≤ j ∧ j < 2 ^ 63 then Res.ok (Val.d Data.none) (μ.set l (.lst ((lv rp (g γ)).take j.toNat ++ [.d (rp.enc a)] ++ (lv rp (g γ)).drop j.toNat))) else .bad) = _
      rw [lv_len, if_pos (show (g γ).length < 16777216 ∧ 0 ≤ j ∧ j < 2 ^ 63 from hc)]
      congr 3
      simp [lv]
    rw [e1]
    have hl : ((g γ).take j.toNat ++ [a] ++ (g γ).drop j.toNat).length = (g γ).length + 1 := by simp; omega
    obtain ⟨Q, h6, h7⟩ := h5 ((g γ).take j.toNat ++ [a] ++ (g γ).drop j.toNat) ⟨by rw [hl]; exact hc.1, fun y hy => by
      rcases List.mem_append.mp hy with z | z
      · rcases List.mem_append.mp z with z | z
        · exact ok.2 y (List.mem_of_mem_take z)
        · rw [List.mem_singleton.mp z]
          exact hv
      · exact ok.2 y (List.mem_of_mem_drop z)⟩
    exact ⟨_, _, Q, rfl, ⟨rfl, trivial⟩, h6, h7⟩
  · trivial
theorem rs_next : RfS s ks kr kx ks rm rq sNext tNext := fun A B γ e μ Ps st => ⟨e, μ, Ps, rfl, st, Fr.refl _ _⟩
def sGo (x : SRes) (f : SM) : SRes := match x with
  | .next e m => f e m
  | r => r
theorem OkSt.go {A : Env} {B : List Nat} {μ : Mem} {Ps : List (List Nat)} {x : SRes} {r : SR (HL Ts) ρ} {f : SM} {u : HL Ts → SR (HL Ts) ρ} (h : OkSt s kr kx ks1 rm rq A B μ Ps x r) (k : ∀ γ e μ' Ps', St s ks1 A B γ e μ' Ps' → Fr μ Ps μ' Ps' → OkSt s kr kx ks2 rm rq A B μ' Ps' (f e μ') (u γ)) :
    OkSt s kr kx ks2 rm rq A B μ Ps (sGo x f) (r.go u) := by
  cases r with
  | next γ' =>
    obtain ⟨e', μ', Ps', rfl, h2, h3⟩ := h
    exact (k γ' e' μ' Ps' h2 h3).from h3
  | ret r γ' =>
    obtain ⟨v, e', μ', Ps', rfl, h2, h3, h4⟩ := h
    exact ⟨v, e', μ', Ps', rfl, h2, h3, h4⟩
  | exc c p γ' =>
    obtain ⟨e', μ', Ps', rfl, h2, h3⟩ := h
    exact ⟨e', μ', Ps', rfl, h2, h3⟩
  | bad => trivial
theorem rs_seq {a b : SM} {ta tb : HL Ts → SR (HL Ts) ρ} (h : RfS s ks kr kx ks1 rm rq a ta) (h' : RfS s ks1 kr kx ks2 rm rq b tb) : RfS s ks kr kx ks2 rm rq (sSeq a b) (tSeq ta tb) := fun A B γ e μ Ps st =>
  (h A B γ e μ Ps st).go (f := b) fun γ e μ Ps st _ => h' A B γ e μ Ps st
theorem rs_set {g : HL Ts → α} {p : α → HL Ts → HL Ts} {m : EM} {t : HL Ts → ER (HL Ts) α} (ix : Ix rp s i g p) (h : RfE s ks m (Fz rp) t) (hx : wkB ks kx = true) : RfS s ks kr kx (ks.set i .frz) rm rq (sSet i m) (tSet p t) := fun A B γ e μ Ps st =>
  (h A B γ e μ Ps st).st (f := fun v m => .next (e.set i (some v)) m) hx fun v a γ μ Ps hv st => ⟨_, μ, _, rfl, (st.setF ix hv).1, (st.setF ix hv).2⟩
theorem rs_setN {g : HL Ts → α} {p : α → HL Ts → HL Ts} {m : EM} {t : HL Ts → ER (HL Ts) α} (ix : Ix rp s i g p) (h : RfN s ks n m rp t) (hx : wkB ks kx = true) : RfS s ks kr kx (ks.set i (.own n)) rm rq (sSet i m) (tSet p t) := fun A B γ e μ Ps st =>
  (h A B γ e μ Ps st).st (f := fun v m => .next (e.set i (some v)) m) hx fun v a γ' μ' Ps' fp hv hf st' f => ⟨_, μ', _, rfl, (st'.setN ix f hv hf).1, (st'.setN ix f hv hf).2⟩
theorem rs_do {m : EM} {t : HL Ts → ER (HL Ts) α} (h : RfE s ks m (Fz rp) t) (hx : wkB ks kx = true) : RfS s ks kr kx ks rm rq (sDo m) (tDo t) := fun A B γ e μ Ps st =>
  (h A B γ e μ Ps st).st (f := fun v m => .next e m) hx fun v a γ μ Ps hv st => ⟨e, μ, Ps, rfl, st, Fr.refl _ _⟩
theorem rs_ret {m : EM} {t : HL Ts → ER (HL Ts) ρ} (h : RfE s ks m (Fz rq) t) (hr : wkB ks kr = true) (hx : wkB ks kx = true) : RfS s ks kr kx ks' .frz rq (sRet m) (tRet t) := fun A B γ e μ Ps st =>
  (h A B γ e μ Ps st).st (f := fun v m => .ret v m) hx fun v a γ μ Ps hv st => by
    obtain ⟨Q, h1, h2⟩ := st.wk hr
    exact ⟨v, e, μ, Q, rfl, hv, h1, h2⟩
theorem rs_if {c : TM} {a b : SM} {tc : HL Ts → ER (HL Ts) Bool} {ta tb : HL Ts → SR (HL Ts) ρ} (hc : RfE s ks c Eq tc) (ha : RfS s ks kr kx ks' rm rq a ta) (hb : RfS s ks kr kx ks' rm rq b tb) (hx : wkB ks kx = true) : RfS s ks kr kx ks' rm rq (sIf c a b) (tIf tc ta tb) := fun A B γ e μ Ps st =>
  (hc A B γ e μ Ps st).st (f := fun t m => if t = true then a e m else b e m) hx fun v t γ μ Ps hv st => by
    obtain rfl : v = t := hv
    cases v with
    | true => exact ha A B γ e μ Ps st
    | false => exact hb A B γ e μ Ps st
theorem RfS.wk {a : SM} {ta : HL Ts → SR (HL Ts) ρ} (h : RfS s ks kr kx ks1 rm rq a ta) (w : wkB ks1 ks2 = true) : RfS s ks kr kx ks2 rm rq a ta := fun A B γ e μ Ps st => by
  have h := h A B γ e μ Ps st
  cases ht : ta γ with
  | next γ' =>
    rw [ht] at h
    obtain ⟨e', μ', Ps', h1, h2, h3⟩ := h
    obtain ⟨Q, h4, h5⟩ := h2.wk w
    exact ⟨e', μ', Q, h1, h4, h3.trans h5⟩
  | ret r γ' =>
    rw [ht] at h
    exact h
  | exc c p γ' =>
    rw [ht] at h
    exact h
  | bad => trivial
theorem St.kill {A : Env} {B : List Nat} {γ : HL Ts} {e : Env} {μ : Mem} {Ps : List (List Nat)} {g : HL Ts → α} {p : α → HL Ts → HL Ts} (ix : Ix rp s i g p) (st : St s ks A B γ e μ Ps) (a : α) : St s (ks.set i .dead) A B (p a γ) e μ (Ps.set i []) ∧ Fr μ Ps μ (Ps.set i []) := by
  obtain ⟨k, y, x, fp, e1, e2, e3, e4, _⟩ := ix.get st.r
  have h := st.putS ix (k' := .dead) (x' := x) (a' := a) (fp' := []) (Nat.le_refl _) (fun _ _ => rfl) (fun _ _ => rfl) List.nodup_nil (fun l hl => by cases hl) (fun y _ => rfl)
  have k2 : e.set i x = e := by
    obtain ⟨hl, z⟩ := List.getElem?_eq_some_iff.mp e3
    rw [← z]
    exact List.set_getElem_self hl
  rw [k2] at h
  exact ⟨h, Nat.le_refl _, fun _ _ _ => rfl, fun l hl => .inl (flat_nil.subset hl)⟩
inductive Kl (s : SL Ts) : List Kd → List Kd → (HL Ts → HL Ts) → Prop where
  | nil {ks : List Kd} : Kl s ks ks (fun γ => γ)
  | cons {α : Type} {rp : Rp α} {i : Nat} {g : HL Ts → α} {p : α → HL Ts → HL Ts} {ks ks' : List Kd} {q : HL Ts → HL Ts} (a : α) : Ix rp s i g p → Kl s (ks.set i .dead) ks' q → Kl s ks ks' (fun γ => q (p a γ))
theorem Kl.st {q : HL Ts → HL Ts} (h : Kl s ks ks' q) : ∀ {A : Env} {B : List Nat} {γ : HL Ts} {e : Env} {μ : Mem} {Ps : List (List Nat)}, St s ks A B γ e μ Ps → ∃ Ps', St s ks' A B (q γ) e μ Ps' ∧ Fr μ Ps μ Ps' := by
  induction h with
  | nil => exact fun st => ⟨_, st, Fr.refl _ _⟩
  | cons a ix h ih =>
    intro A B γ e μ Ps st
    obtain ⟨h1, h2⟩ := st.kill ix a
    obtain ⟨Q, h3, h4⟩ := ih h1
    exact ⟨Q, h3, h2.trans h4⟩
theorem rs_kill {a : SM} {ta : HL Ts → SR (HL Ts) ρ} {q : HL Ts → HL Ts} (h : RfS s ks kr kx ks1 rm rq a ta) (hq : Kl s ks1 ks2 q) : RfS s ks kr kx ks2 rm rq a (tKill q ta) := fun A B γ e μ Ps st => by
  have h := (h A B γ e μ Ps st).go (f := sNext) (u := fun γ => .next (q γ)) (ks2 := ks2) fun γ e μ Ps st _ => by
    obtain ⟨Q, h4, h5⟩ := hq.st st
    exact ⟨e, μ, Q, rfl, h4, h5⟩
  have e1 : sGo (a e μ) sNext = a e μ := by
    cases a e μ <;> rfl
  rw [e1] at h
  exact h
theorem rs_setIx {m mi : EM} {t : HL Ts → ER (HL Ts) α} {ti : HL Ts → ER (HL Ts) Int} (ix : Ix (tyList rp) s i g p) (hk : ks[i]? = some k) (hn : kdO k n = true) (h : RfE s ks m (Fz rp) t) (hi : RfE s ks mi (Fz tyInt) ti) (hx : wkB ks kx = true) : RfS s ks kr kx ks rm rq (sSetIx (eVar i) mi m) (tSetIx g p ti t) := fun A B γ e μ Ps st => by
  refine (h A B γ e μ Ps st).st hx fun v a γ μ Ps hv st => ?_
  obtain ⟨_, l, h1, h2, _⟩ := st.wr ix hk hn
  rw [h1, Res.st_ok]
  refine (hi A B γ e μ Ps st).st hx fun u j γ μ Ps hu st => ?_
  obtain ⟨ok, l', h3, h4, h5⟩ := st.wr ix hk hn
  obtain rfl := eVar_same h1 h3
  obtain ⟨rfl, hv⟩ := hv
  obtain ⟨rfl, _⟩ := hu
  show OkSt s kr kx ks rm rq A B μ Ps (setIx (.loc l) (.d (.int j)) (.d (rp.enc a)) e μ) (match L2.ixN (g γ).length j with
    | some j => .next (p ((g γ).set j a) γ)
    | Option.none => .bad)
  unfold setIx
  rw [p_atL h4]
  dsimp only
  rw [lv_len]
  cases hj : L2.ixN (g γ).length j with
  | none => trivial
  | some j' =>
    have e1 : (lv rp (g γ)).set j' (.d (rp.enc a)) = lv rp ((g γ).set j' a) := by simp [lv, List.map_set]
    obtain ⟨Q, h6, h7⟩ := h5 ((g γ).set j' a) ⟨by rw [List.length_set]; exact ok.1, fun y hy => by
      rcases List.mem_or_eq_of_mem_set hy with z | rfl
      · exact ok.2 y z
      · exact hv⟩
    exact ⟨e, _, Q, by rw [← e1], h6, h7⟩
def RfG (s : SL Ts) (ks : List Kd) (rp : Rp α) (tg : Val → Env → Option Env) (set : α → HL Ts → HL Ts) (ks1 : List Kd) : Prop := ∀ A B γ e μ Ps v a, St s ks A B γ e μ Ps → Fz rp v a → ∃ e' Ps', tg v e = some e' ∧ St s ks1 A B (set a γ) e' μ Ps' ∧ Fr μ Ps μ Ps'
def RfGs {Us : List Type} (s : SL Ts) (ks : List Kd) (al : SL Us) (tg : List Val → Env → Option Env) (set : HL Us → HL Ts → HL Ts) (ks1 : List Kd) : Prop := ∀ A B γ e μ Ps x, St s ks A B γ e μ Ps → oks al x → ∃ e' Ps', tg ((encs al x).map Val.d) e = some e' ∧ St s ks1 A B (set x γ) e' μ Ps' ∧ Fr μ Ps μ Ps'
theorem rg_name {g : HL Ts → α} {p : α → HL Ts → HL Ts} (ix : Ix rp s i g p) : RfG s ks rp (gN i) p (ks.set i .frz) := fun A B γ e μ Ps v a st hv => ⟨_, _, rfl, (st.setF ix hv).1, (st.setF ix hv).2⟩
theorem rgs_nil : RfGs s ks .nil gsNil (fun _ γ => γ) ks := fun A B γ e μ Ps x st _ => ⟨e, Ps, rfl, st, Fr.refl _ _⟩
theorem rgs_cons {Us : List Type} {al : SL Us} {tg : Val → Env → Option Env} {tr : List Val → Env → Option Env} {set : α → HL Ts → HL Ts} {sr : HL Us → HL Ts → HL Ts} (h : RfG s ks rp tg set ks1) (h' : RfGs s ks1 al tr sr ks2) : RfGs s ks (.cons rp al) (gsCons tg tr) (fun x γ => sr x.2 (set x.1 γ)) ks2 := fun A B γ e μ Ps x st hx => by
  obtain ⟨e1, P1, h1, h2, h3⟩ := h A B γ e μ Ps (.d (rp.enc x.1)) x.1 st ⟨rfl, hx.1⟩
  obtain ⟨e2, P2, h4, h5, h6⟩ := h' A B _ e1 μ P1 x.2 h2 hx.2
  refine ⟨e2, P2, ?_, h5, h3.trans h6⟩
  show (tg (.d (rp.enc x.1)) e).bind (tr ((encs al x.2).map Val.d)) = _
  rw [h1]
  exact h4
theorem rg_tup {Us : List Type} {al : SL Us} {tg : List Val → Env → Option Env} {set : HL Us → HL Ts → HL Ts} (h : RfGs s ks al tg set ks1) : RfG s ks (tyTup al) (gT tg) set ks1 := fun A B γ e μ Ps v a st hv => by
  obtain ⟨rfl, hv⟩ := hv
  exact h A B γ e μ Ps a st hv
structure ItR (rp : Rp α) (B : List Nat) (μ : Mem) (it : Its) (xs : List α) : Prop where
  items : it.items = lv rp xs
  ok : okL rp xs
  guard : it.guard = Option.none ∨ ∃ l vs, it.guard = some (l, vs) ∧ l ∈ B ∧ μ[l]? = some (.lst vs)
def OkI (s : SL Ts) (ks : List Kd) (A : Env) (B : List Nat) (e : Env) (μ : Mem) (Ps : List (List Nat)) (x : Res Its) (rp : Rp α) (r : ER (HL Ts) (List α)) : Prop := match r with
  | .ok a γ' => ∃ it μ' Ps', x = .ok it μ' ∧ ItR rp B μ' it a ∧ St s ks A B γ' e μ' Ps' ∧ Fr μ Ps μ' Ps'
  | .exc c p γ' => ∃ μ' Ps', x = .exc c p μ' ∧ St s ks A B γ' e μ' Ps' ∧ Fr μ Ps μ' Ps'
  | .bad => True
def RfI (s : SL Ts) (ks : List Kd) (m : IM) (rp : Rp α) (t : HL Ts → ER (HL Ts) (List α)) : Prop := ∀ A B γ e μ Ps, St s ks A B γ e μ Ps → OkI s ks A B e μ Ps (m e μ) rp (t γ)
theorem rs_for {mi : IM} {ti : HL Ts → ER (HL Ts) (List α)} {tg : Val → Env → Option Env} {set : α → HL Ts → HL Ts} {b : SM} {tb : HL Ts → SR (HL Ts) ρ} (hi : RfI s ks mi rp ti) (hg : RfG s k0 rp tg set ks1) (hb : RfS s ks1 kr kx k0 rm rq b tb) (h0 : wkB ks k0 = true) (hx : wkB ks kx = true) :
    RfS s ks kr kx k0 rm rq (sFor mi tg b) (tFor ti set tb) := fun A B γ e μ Ps st => by
  have loop : ∀ (it : Its) (xs : List α), (∀ x ∈ xs, rp.ok x) → ∀ γ e μ Ps, (it.guard = Option.none ∨ ∃ l vs, it.guard = some (l, vs) ∧ l ∈ B ∧ μ[l]? = some (.lst vs)) → St s k0 A B γ e μ Ps → OkSt s kr kx k0 rm rq A B μ Ps (sForL it.guard tg b (lv rp xs) e μ) (forL set tb xs γ) := by
    intro it xs
    induction xs with
    | nil =>
      intro _ γ e μ Ps hgd st
      have gk : GOk it.guard μ := by
        rcases hgd with z | ⟨l, vs, z, _, h⟩
        · rw [z]
          trivial
        · rw [z]
          exact h
      refine ⟨e, μ, Ps, ?_, st, Fr.refl _ _⟩
      exact for_nil gk
    | cons x r ih =>
      intro hok γ e μ Ps hgd st
      have gk : GOk it.guard μ := by
        rcases hgd with z | ⟨l, vs, z, _, h⟩
        · rw [z]
          trivial
        · rw [z]
          exact h
      obtain ⟨e1, P1, h1, h2, h3⟩ := hg A B γ e μ Ps (.d (rp.enc x)) x st ⟨rfl, hok x (List.mem_cons_self ..)⟩
      have h := (hb A B _ e1 μ P1 h2).go (f := sForL it.guard tg b (lv rp r)) (u := forL set tb r) fun γ' e' μ' Ps' j2 j3 => by
        refine ih (fun y hy => hok y (List.mem_cons_of_mem _ hy)) γ' e' μ' Ps' ?_ j2
        rcases hgd with z | ⟨l, vs, z, hl, h⟩
        · exact .inl z
        · refine .inr ⟨l, vs, z, hl, ?_⟩
          rw [(h3.trans j3).keep l (st.lb l hl) fun w => st.nb l w hl]
          exact h
      have e2 : sForL it.guard tg b (lv rp (x :: r)) e μ = sGo (b e1 μ) (sForL it.guard tg b (lv rp r)) := by
        show sForL it.guard tg b (.d (rp.enc x) :: lv rp r) e μ = _
        rw [for_cons gk h1]
        cases b e1 μ <;> rfl
      rw [e2]
      exact h.from h3
  have h := hi A B γ e μ Ps st
  show OkSt s kr kx k0 rm rq A B μ Ps ((mi e μ).st e fun i μ => sForL i.guard tg b i.items e μ) ((ti γ).st fun xs γ => forL set tb xs γ)
  cases ht : ti γ with
  | ok xs γ' =>
    rw [ht] at h
    obtain ⟨it, μ', Ps', h1, h2, h3, h4⟩ := h
    obtain ⟨Q, h5, h6⟩ := h3.wk h0
    rw [h1, Res.st_ok, h2.items]
    exact (loop it xs h2.ok.2 γ' e μ' Q h2.guard h5).from (h4.trans h6)
  | exc c p γ' =>
    rw [ht] at h
    obtain ⟨μ', Ps', h1, h3, h4⟩ := h
    obtain ⟨Q, h5, h6⟩ := h3.wk hx
    rw [h1]
    exact ⟨e, μ', Q, rfl, h5, h4.trans h6⟩
  | bad => trivial
end
end Fs
namespace Fs
open PySem PySem.Spec L2
def SL.len : {Ts : List Type} → SL Ts → Nat
  | _, .nil => 0
  | _, .cons _ s => s.len + 1
def deads (n : Nat) : List Kd := List.replicate n .dead
theorem StR.deads {B : List Nat} {m : Mem} : ∀ {Ts : List Type} (s : SL Ts) (γ : HL Ts), StR B m s (Fs.deads s.len) (List.replicate s.len none) γ (List.replicate s.len none) (List.replicate s.len [])
  | _, .nil, _ => trivial
  | _, .cons rp s, γ => ⟨rfl, StR.deads s γ.2⟩
theorem flat_repl (n : Nat) : (List.replicate n ([] : List Nat)).flatten = [] := by
  induction n with
  | zero => rfl
  | succ n ih => rw [List.replicate_succ, List.flatten_cons, ih]; rfl
inductive Ini : {Us Ts : List Type} → SL Us → SL Ts → List Kd → List Kd → List Kd → (HL Us → HL Ts) → (HL Us → HL Ts → HL Us) → Prop where
  | nil {Ts : List Type} {s : SL Ts} (d : HL Ts) : Ini .nil s [] (deads s.len) (deads s.len) (fun _ => d) (fun _ _ => ())
  | frz {α : Type} {rp : Rp α} {Us Ts : List Type} {al : SL Us} {s : SL Ts} {kds ks kr : List Kd} {f : HL Us → HL Ts} {o : HL Us → HL Ts → HL Us} : Ini al s kds ks kr f o → Ini (.cons rp al) (.cons rp s) (.frz :: kds) (.frz :: ks) (.dead :: kr) (fun a => (a.1, f a.2)) (fun a γ => (a.1, o a.2 γ.2))
  | bor {α : Type} {rp : Rp α} {Us Ts : List Type} {al : SL Us} {s : SL Ts} {kds ks kr : List Kd} {f : HL Us → HL Ts} {o : HL Us → HL Ts → HL Us} (n : Nat) : Ini al s kds ks kr f o → Ini (.cons rp al) (.cons rp s) (.bor n :: kds) (.bor n :: ks) (.dead :: kr) (fun a => (a.1, f a.2)) (fun a γ => (a.1, o a.2 γ.2))
  | io {α : Type} {rp : Rp α} {Us Ts : List Type} {al : SL Us} {s : SL Ts} {kds ks kr : List Kd} {f : HL Us → HL Ts} {o : HL Us → HL Ts → HL Us} (n : Nat) : Ini al s kds ks kr f o → Ini (.cons rp al) (.cons rp s) (.io n :: kds) (.io n :: ks) (.io n :: kr) (fun a => (a.1, f a.2)) (fun a γ => (γ.1, o a.2 γ.2))
section
variable {Us Ts : List Type} {al : SL Us} {s : SL Ts} {kds ks kr : List Kd} {f : HL Us → HL Ts} {o : HL Us → HL Ts → HL Us} {ρ : Type}
theorem Ini.len (h : Ini al s kds ks kr f o) : al.len ≤ s.len := by
  induction h with
  | nil d => exact Nat.zero_le _
  | frz _ ih => exact Nat.succ_le_succ ih
  | bor n _ ih => exact Nat.succ_le_succ ih
  | io n _ ih => exact Nat.succ_le_succ ih
theorem StR.nilV {B : List Nat} {m : Mem} {kds : List Kd} {V : Env} {as : HL []} {V' : Env} {fps : List (List Nat)} (h : StR B m .nil kds V as V' fps) : kds = [] ∧ V = [] ∧ V' = [] ∧ fps = [] := by
  cases kds with
  | cons _ _ => cases h
  | nil =>
    cases V with
    | cons _ _ => cases h
    | nil =>
      cases V' with
      | cons _ _ => cases h
      | nil =>
        cases fps with
        | cons _ _ => cases h
        | nil => exact ⟨rfl, rfl, rfl, rfl⟩
theorem StR.lenV {B : List Nat} {m : Mem} : ∀ {Us : List Type} {al : SL Us} {kds : List Kd} {V : Env} {as : HL Us} {V' : Env} {fps : List (List Nat)}, StR B m al kds V as V' fps → V'.length = al.len := by
  intro Us al
  induction al with
  | nil =>
    intro kds V as V' fps h
    obtain ⟨_, _, rfl, _⟩ := h.nilV
    rfl
  | cons rp s ih =>
    intro kds V as V' fps h
    obtain ⟨k, ks', y, A', x, e', fp, Ps', rfl, rfl, rfl, rfl, h1, h2⟩ := h.inv
    show e'.length + 1 = s.len + 1
    rw [ih h2]
theorem Ini.start (h : Ini al s kds ks kr f o) : ∀ {B : List Nat} {μ : Mem} {vs : List Val} {as : HL Us} {fps : List (List Nat)}, StR B μ al kds (vs.map some) as (vs.map some) fps →
    StR B μ s ks (vs.map some ++ List.replicate (s.len - vs.length) none) (f as) (vs.map some ++ List.replicate (s.len - vs.length) none) (fps ++ List.replicate (s.len - vs.length) []) := by
  induction h with
  | nil d =>
    intro B μ vs as fps h
    obtain ⟨_, h1, _, rfl⟩ := h.nilV
    obtain rfl : vs = [] := List.map_eq_nil_iff.mp h1
    exact StR.deads _ d
  | @frz α rp _ _ al s _ _ _ _ _ hi ih =>
    intro B μ vs as fps h
    obtain ⟨k, ks', y, A', x, e', fp, Ps', e1, e2, e3, rfl, h1, h2⟩ := h.inv
    cases vs with
    | nil => cases e2
    | cons v vs =>
      cases e1
      rw [List.map_cons] at e2 e3
      cases e2
      cases e3
      have ih := ih h2
      have e : (SL.cons rp s).len - (v :: vs).length = s.len - vs.length := by
        show s.len + 1 - (vs.length + 1) = _
        omega
      rw [e]
      exact ⟨h1, ih⟩
  | @bor α rp _ _ al s _ _ _ _ _ n hi ih =>
    intro B μ vs as fps h
    obtain ⟨k, ks', y, A', x, e', fp, Ps', e1, e2, e3, rfl, h1, h2⟩ := h.inv
    cases vs with
    | nil => cases e2
    | cons v vs =>
      cases e1
      rw [List.map_cons] at e2 e3
      cases e2
      cases e3
      have ih := ih h2
      have e : (SL.cons rp s).len - (v :: vs).length = s.len - vs.length := by
        show s.len + 1 - (vs.length + 1) = _
        omega
      rw [e]
      exact ⟨h1, ih⟩
  | @io α rp _ _ al s _ _ _ _ _ n hi ih =>
    intro B μ vs as fps h
    obtain ⟨k, ks', y, A', x, e', fp, Ps', e1, e2, e3, rfl, h1, h2⟩ := h.inv
    cases vs with
    | nil => cases e2
    | cons v vs =>
      cases e1
      rw [List.map_cons] at e2 e3
      cases e2
      cases e3
      have ih := ih h2
      have e : (SL.cons rp s).len - (v :: vs).length = s.len - vs.length := by
        show s.len + 1 - (vs.length + 1) = _
        omega
      rw [e]
      exact ⟨h1, ih⟩
theorem StR.deadF {B : List Nat} {m : Mem} : ∀ {Ts : List Type} {s : SL Ts} {A : Env} {γ : HL Ts} {e : Env} {Ps : List (List Nat)}, StR B m s (Fs.deads s.len) A γ e Ps → Ps.flatten = [] := by
  intro Ts s
  induction s with
  | nil =>
    intro A γ e Ps h
    obtain ⟨_, _, _, rfl⟩ := h.nilV
    rfl
  | cons rp s ih =>
    intro A γ e Ps h
    obtain ⟨k, ks', y, A', x, e', fp, Ps', e1, rfl, rfl, rfl, h1, h2⟩ := h.inv
    have e1 : Kd.dead :: Fs.deads s.len = k :: ks' := e1
    injection e1 with e1 e2
    subst e1 e2
    obtain rfl : fp = [] := h1
    rw [List.flatten_cons, ih h2]
    rfl
theorem Ini.back (h : Ini al s kds ks kr f o) : ∀ {B : List Nat} {μ μ' : Mem} {vs : List Val} {as : HL Us} {fps : List (List Nat)} {γ : HL Ts} {X e : Env} {Ps' : List (List Nat)}, StR B μ al kds (vs.map some) as (vs.map some) fps →
    (∀ l ∈ B, μ'[l]? = μ[l]?) → StR B μ' s kr (vs.map some ++ X) γ e Ps' → ∃ fps', StR B μ' al kds (vs.map some) (o as γ) (vs.map some) fps' ∧ fps'.flatten = Ps'.flatten := by
  induction h with
  | nil d =>
    intro B μ μ' vs as fps γ X e Ps' h hB h'
    obtain ⟨_, h1, _, rfl⟩ := h.nilV
    obtain rfl : vs = [] := List.map_eq_nil_iff.mp h1
    exact ⟨[], h, h'.deadF.symm⟩
  | frz hi ih =>
    intro B μ μ' vs as fps γ X e Ps' h hB h'
    obtain ⟨k, ks', y, A', x, e', fp, Q, e1, e2, e3, rfl, h1, h2⟩ := h.inv
    cases vs with
    | nil => cases e2
    | cons v vs =>
      cases e1
      rw [List.map_cons] at e2 e3
      cases e2
      cases e3
      rw [List.map_cons, List.cons_append] at h'
      obtain ⟨k', ks2, y2, A2, x2, e2, fp2, Q2, j1, j2, rfl, rfl, j3, j4⟩ := h'.inv
      cases j1
      cases j2
      obtain ⟨F, i1, i2⟩ := ih h2 hB j4
      obtain rfl : fp2 = [] := j3
      exact ⟨[] :: F, ⟨h1.1, rfl⟩ |> fun z => ⟨z, i1⟩, by rw [List.flatten_cons, List.flatten_cons, i2]⟩
  | bor n hi ih =>
    intro B μ μ' vs as fps γ X e Ps' h hB h'
    obtain ⟨k, ks', y, A', x, e', fp, Q, e1, e2, e3, rfl, h1, h2⟩ := h.inv
    cases vs with
    | nil => cases e2
    | cons v vs =>
      cases e1
      rw [List.map_cons] at e2 e3
      cases e2
      cases e3
      rw [List.map_cons, List.cons_append] at h'
      obtain ⟨k', ks2, y2, A2, x2, e2, fp2, Q2, j1, j2, rfl, rfl, j3, j4⟩ := h'.inv
      cases j1
      cases j2
      obtain ⟨F, i1, i2⟩ := ih h2 hB j4
      obtain rfl : fp2 = [] := j3
      obtain ⟨⟨u, q, z1, z2, z3⟩, _⟩ := h1
      exact ⟨[] :: F, ⟨⟨⟨u, q, z1, z2.loc fun l hl => hB l (z3 l hl), z3⟩, rfl⟩, i1⟩, by rw [List.flatten_cons, List.flatten_cons, i2]⟩
  | io n hi ih =>
    intro B μ μ' vs as fps γ X e Ps' h hB h'
    obtain ⟨k, ks', y, A', x, e', fp, Q, e1, e2, e3, rfl, h1, h2⟩ := h.inv
    cases vs with
    | nil => cases e2
    | cons v vs =>
      cases e1
      rw [List.map_cons] at e2 e3
      cases e2
      cases e3
      rw [List.map_cons, List.cons_append] at h'
      obtain ⟨k', ks2, y2, A2, x2, e2, fp2, Q2, j1, j2, rfl, rfl, j3, j4⟩ := h'.inv
      cases j1
      cases j2
      obtain ⟨F, i1, i2⟩ := ih h2 hB j4
      obtain ⟨u, rfl, z2, z3⟩ := j3
      have z4 := Option.some.inj z2
      subst z4
      exact ⟨fp2 :: F, ⟨⟨v, rfl, rfl, z3⟩, i1⟩, by rw [List.flatten_cons, List.flatten_cons, i2]⟩
noncomputable def callZ (f : Fn) (vs : List Val) (μ : Mem) : Res Val := match f vs μ with
  | .ok v m => (match frzV 9 v m with
    | some q => .ok (.d q.1) q.2
    | Option.none => .bad)
  | .exc c p m => .exc c p m
  | .bad => .bad
def runE (body : HL Ts → SR (HL Ts) ρ) (f : HL Us → HL Ts) (o : HL Us → HL Ts → HL Us) (fin : Option ρ) (as : HL Us) : ER (HL Us) ρ := match body (f as) with
  | .ret r γ => .ok r (o as γ)
  | .exc c p γ => .exc c p (o as γ)
  | .next γ => (match fin with
    | some r => .ok r (o as γ)
    | Option.none => .bad)
  | .bad => .bad
def runC (body : HL Ts → SR (HL Ts) ρ) (f : HL Us → HL Ts) (fin : Option ρ) (as : HL Us) : PR ρ := match body (f as) with
  | .ret r _ => .ok r
  | .exc c p _ => .exc c p
  | .next _ => ofO fin
  | .bad => .bad
def ResE (al : SL Us) (kds : List Kd) (V : Env) (B : List Nat) (μ : Mem) (fps : List (List Nat)) (rm : Rm) (x : Res Val) (rp : Rp ρ) (r : ER (HL Us) ρ) : Prop := match r with
  | .ok a as' => ∃ v μ' fps', x = .ok v μ' ∧ ResR rm rp B μ fps μ' fps' v a ∧ St al kds V B as' V μ' fps' ∧ Fr μ fps μ' fps'
  | .exc c p as' => ∃ μ' fps', x = .exc c p μ' ∧ St al kds V B as' V μ' fps' ∧ Fr μ fps μ' fps'
  | .bad => True
def CE (al : SL Us) (kds : List Kd) (rm : Rm) (f : Fn) (rp : Rp ρ) (t : HL Us → ER (HL Us) ρ) : Prop := ∀ B μ vs as fps, St al kds (vs.map some) B as (vs.map some) μ fps → ResE al kds (vs.map some) B μ fps rm (f vs μ) rp (t as)
theorem fn_E {N : Nat} {m : SM} {body : HL Ts → SR (HL Ts) ρ} {rm : Rm} {rp : Rp ρ} {ks' : List Kd} {fin : Option ρ} (hi : Ini al s kds ks kr f o) (hN : N = s.len) (hb : RfS s ks kr kr ks' rm rp m body) (hw : fin = Option.none ∨ (wkB ks' kr = true ∧ rm = .frz ∧ ∀ r, fin = some r → Fz rp (.d .none) r)) : CE al kds rm (fnM N m) rp (runE body f o fin) := by
  intro B μ vs as fps st
  subst hN
  have e0 : fnM s.len m vs μ = (match m (vs.map some ++ List.replicate (s.len - vs.length) none) μ with
    | .ret v m => .ok v m
    | .next _ m => .ok (.d .none) m
    | .exc c p _ m => .exc c p m
    | .bad => .bad) := rfl
  have fl : (fps ++ List.replicate (s.len - vs.length) []).flatten = fps.flatten := by rw [List.flatten_append, flat_repl, List.append_nil]
  have st0 : St s ks (vs.map some ++ List.replicate (s.len - vs.length) none) B (f as) (vs.map some ++ List.replicate (s.len - vs.length) none) μ (fps ++ List.replicate (s.len - vs.length) []) := ⟨hi.start st.r, by rw [fl]; exact st.nd, by rw [fl]; exact st.nb, st.lb⟩
  have h := hb _ B (f as) _ μ _ st0
  have fin1 : ∀ {γ : HL Ts} {e' : Env} {μ' : Mem} {Ps' : List (List Nat)}, St s kr (vs.map some ++ List.replicate (s.len - vs.length) none) B γ e' μ' Ps' → Fr μ (fps ++ List.replicate (s.len - vs.length) []) μ' Ps' →
      ∃ fps', St al kds (vs.map some) B (o as γ) (vs.map some) μ' fps' ∧ Fr μ fps μ' fps' ∧ fps'.flatten = Ps'.flatten := by
    intro γ e' μ' Ps' st' fr
    obtain ⟨F, i1, i2⟩ := hi.back st.r (fun l hl => fr.keep l (st.lb l hl) fun z => st.nb l (by rw [fl] at z; exact z) hl) st'.r
    exact ⟨F, ⟨i1, by rw [i2]; exact st'.nd, by rw [i2]; exact st'.nb, st'.lb⟩, ⟨fr.le, fun l h1 h2 => fr.keep l h1 (by rw [fl]; exact h2), fun l hl => by
      rw [i2] at hl
      have := fr.sub l hl
      rw [fl] at this
      exact this⟩, i2⟩
  rw [e0]
  unfold runE
  cases hr : body (f as) with
  | ret r γ =>
    rw [hr] at h
    obtain ⟨v, e', μ', Ps', h1, h2, h3, h4⟩ := h
    obtain ⟨F, i1, i2, i3⟩ := fin1 h3 h4
    rw [h1]
    refine ⟨v, μ', F, rfl, ?_, i1, i2⟩
    cases rm with
    | frz => exact h2
    | new n =>
      obtain ⟨fp, j1, j2⟩ := h2
      refine ⟨fp, j1, j2.nd, fun l hl => ?_, fun l hl => ?_⟩
      · rw [i3]
        exact j2.out l hl
      · have := j2.sub l hl
        rw [fl] at this
        exact this
  | exc c p γ =>
    rw [hr] at h
    obtain ⟨e', μ', Ps', h1, h3, h4⟩ := h
    obtain ⟨F, i1, i2, _⟩ := fin1 h3 h4
    rw [h1]
    exact ⟨μ', F, rfl, i1, i2⟩
  | next γ =>
    cases fin with
    | none => trivial
    | some r =>
      rw [hr] at h
      obtain ⟨e', μ', Ps', h1, h3, h4⟩ := h
      rcases hw with hw | ⟨hw, hm, hf⟩
      · cases hw
      · obtain ⟨Q, h5, h6⟩ := h3.wk hw
        obtain ⟨F, i1, i2, _⟩ := fin1 h5 (h4.trans h6)
        rw [h1]
        subst hm
        exact ⟨_, μ', F, rfl, hf r rfl, i1, i2⟩
  | bad => trivial
def CanZ (rp : Rp ρ) (n : Nat) : Prop := ∀ μ v a fp, rp.own n μ v a fp → rp.ok a ∧ ∃ μ', frzV 9 v μ = some (rp.enc a, μ') ∧ μ'.length = μ.length ∧ ∀ l, l ∉ fp → μ'[l]? = μ[l]?
theorem frzV_d (n : Nat) (x : Data) (m : Mem) : frzV n (.d x) m = some (x, m) := by cases n <;> rfl
theorem frzL_lv {α : Type} {rp : Rp α} (n : Nat) (m : Mem) : ∀ xs : List α, frzL (frzV n) (lv rp xs) m = some (xs.map rp.enc, m)
  | [] => rfl
  | x :: r => by
    show (frzV n (.d (rp.enc x)) m).bind (fun p => (frzL (frzV n) (lv rp r) p.2).map fun q => (p.1 :: q.1, q.2)) = _
    rw [frzV_d]
    show (frzL (frzV n) (lv rp r) m).map (fun q => (rp.enc x :: q.1, q.2)) = _
    rw [frzL_lv n m r]
    rfl
theorem canZ_list {α : Type} {rp : Rp α} {n : Nat} : CanZ (tyList rp) n := fun μ v a fp h => by
  obtain ⟨k, l, rfl, h, rfl⟩ := h
  refine ⟨k, μ.set l (.frz (.list (a.map rp.enc))), ?_, by simp, fun j hj => List.getElem?_set_ne fun z => hj (by simp [z])⟩
  show frzV (8 + 1) (.loc l) μ = _
  unfold frzV
  simp only [h]
  rw [frzL_lv]
  simp only [Option.bind_some, h]
  rfl
theorem ce_Z {n : Nat} {F : Fn} {rp : Rp ρ} {t : HL Us → ER (HL Us) ρ} (z : CanZ rp n) (h : CE al kds (.new n) F rp t) : CE al kds .frz (callZ F) rp t := by
  intro B μ vs as fps st
  have h := h B μ vs as fps st
  unfold callZ
  cases hr : t as with
  | ok a as' =>
    rw [hr] at h
    obtain ⟨v, μ', fps', h1, ⟨fp, h2, h5⟩, h3, h4⟩ := h
    obtain ⟨k, μ2, z1, z2, z3⟩ := z μ' v a fp h2
    rw [h1]
    show ResE al kds _ B μ fps .frz (match frzV 9 v μ' with
      | some q => .ok (.d q.1) q.2
      | Option.none => .bad) rp _
    rw [z1]
    have keep : ∀ l, l ∉ fp → μ2[l]? = μ'[l]? := z3
    refine ⟨_, μ2, fps', rfl, ⟨rfl, k⟩, ⟨h3.r.mono (fun l hl => keep l fun w => (h5.out l w).1 hl) (fun l hl => keep l fun w => (h5.out l w).2 hl), h3.nd, h3.nb, fun l hl => by rw [z2]; exact h3.lb l hl⟩, by rw [z2]; exact h4.le, fun l h6 h7 => ?_, h4.sub⟩
    rw [keep l fun w => by
      rcases h5.sub l w with q | q
      · exact h7 q
      · omega]
    exact h4.keep l h6 h7
  | exc c p as' =>
    rw [hr] at h
    obtain ⟨μ', fps', h1, h3, h4⟩ := h
    rw [h1]
    exact ⟨μ', fps', rfl, h3, h4⟩
  | bad => trivial
theorem ce_F {F : Fn} {rp : Rp ρ} {t : HL Us → ER (HL Us) ρ} (h : CE al kds .frz F rp t) : CE al kds .frz (callZ F) rp t := by
  intro B μ vs as fps st
  have h := h B μ vs as fps st
  unfold callZ
  cases hr : t as with
  | ok a as' =>
    rw [hr] at h
    obtain ⟨v, μ', fps', h1, ⟨rfl, h2⟩, h3, h4⟩ := h
    rw [h1]
    show ResE al kds _ B μ fps .frz (match frzV 9 (.d (rp.enc a)) μ' with
      | some q => .ok (.d q.1) q.2
      | Option.none => .bad) rp _
    rw [frzV_d]
    exact ⟨_, μ', fps', rfl, ⟨rfl, h2⟩, h3, h4⟩
  | exc c p as' =>
    rw [hr] at h
    obtain ⟨μ', fps', h1, h3, h4⟩ := h
    rw [h1]
    exact ⟨μ', fps', rfl, h3, h4⟩
  | bad => trivial
def CP (al : SL Us) (kds : List Kd) (F : Fn) (rp : Rp ρ) (t : HL Us → PR ρ) : Prop := ∀ B μ vs as fps, St al kds (vs.map some) B as (vs.map some) μ fps → OkC μ (callF true F vs μ) (Fz rp) (t as)
def noIo : List Kd → Bool
  | [] => true
  | .frz :: r => noIo r
  | .bor _ :: r => noIo r
  | _ => false
theorem noIo_flat {B : List Nat} {m : Mem} : ∀ {Us : List Type} {al : SL Us} {kds : List Kd} {V : Env} {as : HL Us} {V' : Env} {fps : List (List Nat)}, noIo kds = true → StR B m al kds V as V' fps → fps.flatten = [] := by
  intro Us al
  induction al with
  | nil =>
    intro kds V as V' fps hn h
    obtain ⟨_, _, _, rfl⟩ := h.nilV
    rfl
  | cons rp s ih =>
    intro kds V as V' fps hn h
    obtain ⟨k, ks', y, A', x, e', fp, Ps', rfl, rfl, rfl, rfl, h1, h2⟩ := h.inv
    cases k with
    | frz =>
      obtain ⟨_, rfl⟩ := h1
      rw [List.flatten_cons, ih (show noIo ks' = true from hn) h2]
      rfl
    | bor n =>
      obtain ⟨_, rfl⟩ := h1
      rw [List.flatten_cons, ih (show noIo ks' = true from hn) h2]
      rfl
    | dead => cases hn
    | own n => cases hn
    | io n => cases hn
    | lent n => cases hn
    | held => cases hn
theorem trunc_keep {μ μ' : Mem} (le : μ.length ≤ μ'.length) (h : ∀ l, l < μ.length → μ'[l]? = μ[l]?) : trunc μ μ' = μ := by
  unfold trunc
  rw [if_pos ⟨le, fun l c hl e => .inl (by rw [← h l hl]; exact e)⟩]
  apply List.ext_getElem?
  intro i
  by_cases hi : i < μ.length
  · rw [List.getElem?_take_of_lt hi, h i hi]
  · rw [List.getElem?_eq_none (by rw [List.length_take]; omega), List.getElem?_eq_none (by omega)]
theorem cp_of {F : Fn} {rp : Rp ρ} {t : HL Us → ER (HL Us) ρ} {u : HL Us → PR ρ} (hn : noIo kds = true) (h : CE al kds .frz (callZ F) rp t) (hu : ∀ as, u as = match t as with
    | .ok r _ => .ok r
    | .exc c p _ => .exc c p
    | .bad => .bad) : CP al kds F rp u := by
  intro B μ vs as fps st
  have h := h B μ vs as fps st
  have e0 := noIo_flat hn st.r
  rw [hu as]
  have e1 : callF true F vs μ = (match F vs μ with
    | .ok v m' => (match frzV 9 v m' with
      | some (x, m2) => .ok (.d x) (trunc μ m2)
      | Option.none => .bad)
    | .exc c p m' => .exc c p (trunc μ m')
    | .bad => .bad) := rfl
  rw [e1]
  unfold callZ at h
  cases hr : t as with
  | ok a as' =>
    rw [hr] at h
    obtain ⟨v, μ', fps', h1, ⟨rfl, h2⟩, h3, h4⟩ := h
    cases hf : F vs μ with
    | ok v m' =>
      rw [hf] at h1
      dsimp only at h1 ⊢
      cases hz : frzV 9 v m' with
      | none =>
        rw [hz] at h1
        cases h1
      | some q =>
        rw [hz] at h1
        dsimp only at h1
        have h1a : Val.d q.1 = .d (rp.enc a) := by injection h1
        have h1b : q.2 = μ' := by injection h1
        refine ⟨_, ?_, rfl, h2⟩
        dsimp only
        rw [h1a, h1b, trunc_keep h4.le fun l hl => h4.keep l hl (by rw [e0]; intro z; cases z)]
    | exc c p m' =>
      rw [hf] at h1
      cases h1
    | bad =>
      rw [hf] at h1
      cases h1
  | exc c p as' =>
    rw [hr] at h
    obtain ⟨μ', fps', h1, h3, h4⟩ := h
    cases hf : F vs μ with
    | ok v m' =>
      rw [hf] at h1
      dsimp only at h1
      cases hz : frzV 9 v m' with
      | none =>
        rw [hz] at h1
        cases h1
      | some q =>
        rw [hz] at h1
        cases h1
    | exc c' p' m' =>
      rw [hf] at h1
      cases h1
      show (Res.exc _ _ (trunc μ _) : Res Val) = _
      rw [trunc_keep h4.le fun l hl => h4.keep l hl (by rw [e0]; intro z; cases z)]
    | bad =>
      rw [hf] at h1
      cases h1
  | bad => trivial
theorem runC_eq (body : HL Ts → SR (HL Ts) ρ) (f : HL Us → HL Ts) (o : HL Us → HL Ts → HL Us) (fin : Option ρ) (as : HL Us) : runC body f fin as = match runE body f o fin as with
    | .ok r _ => .ok r
    | .exc c p _ => .exc c p
    | .bad => .bad := by
  unfold runC runE
  cases body (f as) with
  | next γ => cases fin <;> rfl
  | _ => rfl
end
end Fs
namespace Fs
open PySem PySem.Spec L2
section
variable {T : Tbl} {N : List Str} {sc : Scope} {k : Nat} {W : WX} {X : Cx}
theorem callZ_ok {f : Fn} {us : List Val} {w : Wd} {μ : Mem} {Q : VK} {E : XK} (ok : OkR T (VRep T) w (callZ f us μ) Q E) : OkR T (VRep T) w (f us μ) Q E := by
  unfold callZ at ok
  cases hf : f us μ with
  | bad =>
    rw [hf] at ok
    exact ok
  | exc c p m' =>
    rw [hf] at ok
    exact ok
  | ok v m' =>
    rw [hf] at ok
    dsimp only at ok
    intro w' H' x le R' r
    split at ok
    · rename_i q hz
      obtain ⟨d, m2⟩ := q
      obtain ⟨w1, le1, R1, q1⟩ := frzV_ok 9 R' r hz
      exact ok w1 H' x (le.trans le1) R1 (.d q1)
    · exact ok.elim
noncomputable def eCallZ (n : Nat) (f : Fn) (a : AM) : EM := fun e μ => (a e μ).bind fun xs μ => if xs.length = n then callZ f xs μ else .bad
theorem de_callZ (B : Bx T N sc k W X) {j n : Nat} {a : Addr} {ps : List Str} {f : Fn} {x : Str} {p pos : Pos} {e : Expr} {es : List Expr} {ma : AM} (F : FnAt T j a ps f) (hj : j ≤ k) (hg : sc.names.lookup x = some NameKind.globalImplicit) (hm : T.mg x = some (.ref a)) (ha : DA T W X (e :: es) ma) (hn : ps.length = n)
    (hdb : (x == ("__debug__" : Str)) = false := by decide) (he : starEach (e :: es) X.env = (false, eval e X.env) :: starEach es X.env := by rfl) (hpl : (backTo pos (starEach es X.env)).any (·.1) = false := by rfl) : DE T W X (.Call (.Name x p) (e :: es) [] pos) (eCallZ n f ma) := by
  refine ⟨fun pins s σ H Q I h => ?_⟩
  obtain ⟨w, en, μ, er, mr, ok⟩ := h
  refine wpAny_Call_Name_kw (ld_glob I (show X.env.scope.names.lookup x = _ by rw [B.hsc]; exact hg) (by rw [B.mg]; exact hm) ?_ hdb)
  refine PySem.W.callWith_K (h₀ := X.base) I.ok.mod.kin (by rw [B.K]; exact F.kp) (thn (ha.run pos pins s σ H _ I (OkR.go (P := VReps T) er mr ok)) fun us s1 ⟨vs, H1, I1, r, w1, as, μ1, le1, mr1, p1, ok1⟩ => ⟨I1.kIn, ?_⟩) he hpl
  have ok1 : OkR T (VRep T) w1 (if as.length = n then callZ f as μ1 else .bad) Q (fun c d H' => W c d σ H') := ok1
  split at ok1
  · rename_i hl
    exact run_at B F hj I1 r mr1 p1 (by rw [hn]; exact hl) (callZ_ok ok1)
  · exact ok1.elim
end
section
variable {Γ Δ α β ρ : Type}
@[simp] def cCall {U : Type} (t : U → PR ρ) (ta : Γ → PR U) (γ : Γ) : PR ρ := (ta γ).bind t
@[simp] def xCall {U : Type} (t : U → PR ρ) (ta : Γ → ER Γ U) (γ : Γ) : ER Γ ρ := (ta γ).bind fun as γ => (t as).er γ
def ER.out (r : ER Δ ρ) (f : Δ → Γ) : ER Γ ρ := match r with
  | .ok a d => .ok a (f d)
  | .exc c p d => .exc c p (f d)
  | .bad => .bad
@[simp] theorem ER.out_ok (a : ρ) (d : Δ) (f : Δ → Γ) : (ER.ok a d).out f = .ok a (f d) := rfl
@[simp] theorem ER.out_exc (c : Nat) (p : List Data) (d : Δ) (f : Δ → Γ) : (ER.exc c p d : ER Δ ρ).out f = .exc c p (f d) := rfl
@[simp] theorem ER.out_bad (f : Δ → Γ) : (ER.bad : ER Δ ρ).out f = .bad := rfl
@[simp] def xaNil (γ : Γ) : ER Γ (Γ → HL []) := .ok (fun _ => ()) γ
@[simp] def xaCons {Us : List Type} (t : Γ → ER Γ α) (tr : Γ → ER Γ (Γ → HL Us)) (γ : Γ) : ER Γ (Γ → HL (α :: Us)) := (t γ).bind fun a γ => (tr γ).bind fun fr γ => .ok (fun γ' => (a, fr γ')) γ
@[simp] def xaSlot {Us : List Type} (g : Γ → α) (tr : Γ → ER Γ (Γ → HL Us)) (γ : Γ) : ER Γ (Γ → HL (α :: Us)) := (tr γ).bind fun fr γ => .ok (fun γ' => (g γ', fr γ')) γ
@[simp] def xCallE {Us : List Type} (t : HL Us → ER (HL Us) ρ) (p : α → Γ → Γ) (oa : HL Us → α) (ta : Γ → ER Γ (Γ → HL Us)) (γ : Γ) : ER Γ ρ := (ta γ).bind fun fa γ => (t (fa γ)).out fun as => p (oa as) γ
@[simp] def xCallN {Us : List Type} (t : HL Us → ER (HL Us) ρ) (ta : Γ → PR (HL Us)) (γ : Γ) : ER Γ ρ := ((ta γ).er γ).bind fun as γ => (t as).out fun _ => γ
end
section
variable {Ts Us : List Type} {s : SL Ts} {ks kds : List Kd} {al : SL Us} {α β ρ : Type} {rp : Rp α} {rq : Rp ρ} {n : Nat} {rm : Rm}
def OkA (s : SL Ts) (B : List Nat) (μ : Mem) (Ps : List (List Nat)) (x : Res (List Val)) (al : SL Us) (kds : List Kd) (r : PR (HL Us)) : Prop := match r with
  | .ok as => ∃ vs fps, x = .ok vs μ ∧ StR (B ++ Ps.flatten) μ al kds (vs.map some) as (vs.map some) fps
  | .exc c p => x = .exc c p μ
  | .bad => True
def RfA (s : SL Ts) (ks : List Kd) (m : AM) (al : SL Us) (kds : List Kd) (t : HL Ts → PR (HL Us)) : Prop := ∀ A B γ e μ Ps, St s ks A B γ e μ Ps → OkA s B μ Ps (m e μ) al kds (t γ)
theorem rfa_nil : RfA s ks aNil .nil [] cNil := fun A B γ e μ Ps st => ⟨[], [], rfl, trivial⟩
theorem rfa_frz {m : EM} {mr : AM} {t : HL Ts → PR α} {tr : HL Ts → PR (HL Us)} (h : RfC s ks m (Fz rp) t) (k : RfA s ks mr al kds tr) : RfA s ks (aCons m mr) (.cons rp al) (.frz :: kds) (cCons t tr) := fun A B γ e μ Ps st => by
  have h := h A B γ e μ Ps st
  have k := k A B γ e μ Ps st
  show OkA (Us := α :: Us) s B μ Ps ((m e μ).bind fun x μ => (mr e μ).bind fun xs μ => .ok (x :: xs) μ) _ _ ((t γ).bind fun a => (tr γ).bind fun r => .ok (a, r))
  cases ht : t γ with
  | ok a =>
    rw [ht] at h
    obtain ⟨v, h1, h2⟩ := h
    rw [h1, Res.bind_ok, PR.bind_ok]
    cases hr : tr γ with
    | ok r =>
      rw [hr] at k
      obtain ⟨vs, fps, k1, k2⟩ := k
      rw [k1]
      exact ⟨v :: vs, [] :: fps, rfl, ⟨⟨v, rfl, h2⟩, rfl⟩, k2⟩
    | exc c p =>
      rw [hr] at k
      have k : mr e μ = .exc c p μ := k
      rw [k]
      rfl
    | bad => trivial
  | exc c p =>
    rw [ht] at h
    have h : m e μ = .exc c p μ := h
    rw [h]
    rfl
  | bad => trivial
theorem rfa_vw {m : EM} {mr : AM} {t : HL Ts → PR α} {tr : HL Ts → PR (HL Us)} (h : RfW s ks n m rp t) (k : RfA s ks mr al kds tr) : RfA s ks (aCons m mr) (.cons rp al) (.bor n :: kds) (cCons t tr) := fun A B γ e μ Ps st => by
  have h := h A B γ e μ Ps st
  have k := k A B γ e μ Ps st
  show OkA (Us := α :: Us) s B μ Ps ((m e μ).bind fun x μ => (mr e μ).bind fun xs μ => .ok (x :: xs) μ) _ _ ((t γ).bind fun a => (tr γ).bind fun r => .ok (a, r))
  cases ht : t γ with
  | ok a =>
    rw [ht] at h
    obtain ⟨v, q, h1, h2, h3⟩ := h
    rw [h1, Res.bind_ok, PR.bind_ok]
    cases hr : tr γ with
    | ok r =>
      rw [hr] at k
      obtain ⟨vs, fps, k1, k2⟩ := k
      rw [k1]
      exact ⟨v :: vs, [] :: fps, rfl, ⟨⟨v, q, rfl, h2, fun l hl => List.mem_append.mpr (h3 l hl).symm⟩, rfl⟩, k2⟩
    | exc c p =>
      rw [hr] at k
      have k : mr e μ = .exc c p μ := k
      rw [k]
      rfl
    | bad => trivial
  | exc c p =>
    rw [ht] at h
    have h : m e μ = .exc c p μ := h
    rw [h]
    rfl
  | bad => trivial
theorem SL.len_eq : ∀ {Us : List Type} (al : SL Us), al.len = Us.length
  | _, .nil => rfl
  | _, .cons _ s => by
    show s.len + 1 = _
    rw [SL.len_eq s, List.length_cons]
theorem st_args {A : Env} {B : List Nat} {γ : HL Ts} {e : Env} {μ : Mem} {Ps : List (List Nat)} {vs : List Val} {as : HL Us} {fps : List (List Nat)} (st : St s ks A B γ e μ Ps) (hn : noIo kds = true) (h : StR (B ++ Ps.flatten) μ al kds (vs.map some) as (vs.map some) fps) : St al kds (vs.map some) (B ++ Ps.flatten) as (vs.map some) μ fps := by
  have e0 := noIo_flat hn h
  exact ⟨h, by rw [e0]; exact List.nodup_nil, (by rw [e0]; intro l hl; cases hl), fun l hl => by
    rcases List.mem_append.mp hl with z | z
    · exact st.lb l z
    · exact st.r.lt l z⟩
theorem len_args {B : List Nat} {μ : Mem} {vs : List Val} {as : HL Us} {fps : List (List Nat)} (h : StR B μ al kds (vs.map some) as (vs.map some) fps) : vs.length = Us.length := by
  have := h.lenV
  rw [List.length_map, SL.len_eq] at this
  exact this
theorem rf_call {N : Nat} {F : Fn} {m : AM} {ta : HL Ts → PR (HL Us)} {t : HL Us → PR ρ} (c : CP al kds F rq t) (hn : noIo kds = true) (ha : RfA s ks m al kds ta) (hN : N = Us.length := by rfl) : RfC s ks (eCall N true F m) (Fz rq) (cCall t ta) := fun A B γ e μ Ps st => by
  have h := ha A B γ e μ Ps st
  show OkC μ ((m e μ).bind fun xs μ => if xs.length = N then callF true F xs μ else .bad) _ ((ta γ).bind t)
  cases ht : ta γ with
  | ok as =>
    rw [ht] at h
    obtain ⟨vs, fps, h1, h2⟩ := h
    rw [h1, Res.bind_ok, if_pos (by rw [len_args h2, hN])]
    exact c _ μ vs as fps (st_args st hn h2)
  | exc c p =>
    rw [ht] at h
    have h : m e μ = .exc c p μ := h
    rw [h]
    rfl
  | bad => trivial
theorem rn_call {N : Nat} {F : Fn} {m : AM} {ta : HL Ts → PR (HL Us)} {t : HL Us → ER (HL Us) ρ} (c : CE al kds (.new n) F rq t) (hn : noIo kds = true) (ha : RfA s ks m al kds ta) (hN : N = Us.length := by rfl) : RfN s ks n (eCall N false F m) rq (xCallN t ta) := fun A B γ e μ Ps st => by
  have h := ha A B γ e μ Ps st
  show OkN s ks A B e μ Ps n ((m e μ).bind fun xs μ => if xs.length = N then callF false F xs μ else .bad) _ (((ta γ).er γ).bind fun as γ => (t as).out fun _ => γ)
  cases ht : ta γ with
  | ok as =>
    rw [ht] at h
    obtain ⟨vs, fps, h1, h2⟩ := h
    rw [h1, Res.bind_ok, if_pos (by rw [len_args h2, hN])]
    have e0 := noIo_flat hn h2
    have c := c _ μ vs as fps (st_args st hn h2)
    show OkN s ks A B e μ Ps n (F vs μ) _ ((t as).out fun _ => γ)
    have keep : ∀ {μ' : Mem} {fps' : List (List Nat)}, Fr μ fps μ' fps' → St s ks A B γ e μ' Ps ∧ Fr μ Ps μ' Ps := fun f => st.grow f.le fun l hl => f.keep l hl (by rw [e0]; intro z; cases z)
    cases hr : t as with
    | ok r as' =>
      rw [hr] at c
      obtain ⟨v, μ', fps', c1, ⟨fp, c2, c3⟩, c4, c5⟩ := c
      rw [c1]
      refine ⟨v, μ', Ps, fp, rfl, c2, ⟨c3.nd, fun l hl => ?_, fun l hl => ?_⟩, (keep c5).1, (keep c5).2⟩
      · have := (c3.out l hl).2
        exact ⟨fun z => this (List.mem_append_right _ z), fun z => this (List.mem_append_left _ z)⟩
      · rcases c3.sub l hl with z | z
        · rw [e0] at z
          cases z
        · exact .inr z
    | exc c' p as' =>
      rw [hr] at c
      obtain ⟨μ', fps', c1, c4, c5⟩ := c
      rw [c1]
      exact ⟨μ', Ps, rfl, (keep c5).1, (keep c5).2⟩
    | bad => trivial
  | exc c p =>
    rw [ht] at h
    have h : m e μ = .exc c p μ := h
    rw [h]
    exact ⟨μ, Ps, rfl, st, Fr.refl _ _⟩
  | bad => trivial
def frzs : {Us : List Type} → SL Us → List Kd
  | _, .nil => []
  | _, .cons _ s => .frz :: frzs s
theorem noIo_frzs : ∀ {Us : List Type} (al : SL Us), noIo (frzs al) = true
  | _, .nil => rfl
  | _, .cons _ s => noIo_frzs s
theorem ArgF.st {B : List Nat} {μ : Mem} : ∀ {Us : List Type} (al : SL Us) (x : HL Us), oks al x → StR B μ al (frzs al) (((encs al x).map Val.d).map some) x (((encs al x).map Val.d).map some) (List.replicate al.len [])
  | _, .nil, _, _ => trivial
  | _, .cons rp s, x, h => ⟨⟨⟨_, rfl, rfl, h.1⟩, rfl⟩, ArgF.st s x.2 h.2⟩
theorem rfx_call {N : Nat} {F : Fn} {m : AM} {ta : HL Ts → ER (HL Ts) (HL Us)} {t : HL Us → PR ρ} (c : CP al (frzs al) F rq t) (ha : RfE s ks m (ArgF al) ta) (hN : N = Us.length := by rfl) : RfE s ks (eCall N true F m) (Fz rq) (xCall t ta) := fun A B γ e μ Ps st => by
  have h : OkE s ks A B e μ Ps ((m e μ).bind fun xs μ => if xs.length = N then callF true F xs μ else .bad) (Fz rq) ((ta γ).bind fun as γ => (t as).er γ) := (ha A B γ e μ Ps st).bind fun vs as γ μ Ps hv st => by
    obtain ⟨rfl, h⟩ := hv
    rw [if_pos (by rw [List.length_map, encs_len, hN])]
    exact (c _ μ _ as _ (st_args (s := s) (ks := ks) st (noIo_frzs al) (ArgF.st al as h))).toE st
  exact h
structure AX (s : SL Ts) (ks : List Kd) (e : Env) (i n : Nat) (rp : Rp α) (g : HL Ts → α) (al : SL Us) (kds : List Kd) (vs : List Val) (fa : HL Ts → HL Us) (oa : HL Us → α) (io : Bool) : Prop where
  sem : ∀ A B γ μ Ps fp v, St s ks A B γ e μ Ps → Ps[i]? = some fp → e[i]? = some (some v) → rp.own n μ v (g γ) fp → ∃ fps, StR (B ++ (Ps.set i []).flatten) μ al kds (vs.map some) (fa γ) (vs.map some) fps ∧ fps.flatten = if io = true then fp else []
  back : ∀ B μ as fps v, e[i]? = some (some v) → StR B μ al kds (vs.map some) as (vs.map some) fps → if io = true then rp.own n μ v (oa as) fps.flatten else fps.flatten = []
def OkX (s : SL Ts) (ks : List Kd) (A : Env) (B : List Nat) (e : Env) (μ : Mem) (Ps : List (List Nat)) (i n : Nat) (rp : Rp α) (g : HL Ts → α) (x : Res (List Val)) (al : SL Us) (kds : List Kd) (oa : HL Us → α) (io : Bool) (r : ER (HL Ts) (HL Ts → HL Us)) : Prop := match r with
  | .ok fa γ' => ∃ vs μ' Ps', x = .ok vs μ' ∧ AX s ks e i n rp g al kds vs fa oa io ∧ St s ks A B γ' e μ' Ps' ∧ Fr μ Ps μ' Ps'
  | .exc c p γ' => ∃ μ' Ps', x = .exc c p μ' ∧ St s ks A B γ' e μ' Ps' ∧ Fr μ Ps μ' Ps'
  | .bad => True
def RfX (s : SL Ts) (ks : List Kd) (i n : Nat) (rp : Rp α) (g : HL Ts → α) (m : AM) (al : SL Us) (kds : List Kd) (oa : HL Us → α) (io : Bool) (t : HL Ts → ER (HL Ts) (HL Ts → HL Us)) : Prop := ∀ A B γ e μ Ps, St s ks A B γ e μ Ps → OkX s ks A B e μ Ps i n rp g (m e μ) al kds oa io (t γ)
variable {i : Nat} {g : HL Ts → α} {oa : HL Us → α} {io : Bool}
theorem rx_nil (d : HL [] → α) : RfX s ks i n rp g aNil .nil [] d false xaNil := fun A B γ e μ Ps st =>
  ⟨[], μ, Ps, rfl, ⟨fun A B γ μ Ps fp v _ _ _ _ => ⟨[], trivial, rfl⟩, fun B μ as fps v _ h => by
    obtain ⟨_, _, _, rfl⟩ := h.nilV
    rfl⟩, st, Fr.refl _ _⟩
theorem OkX.cons {A : Env} {B : List Nat} {e : Env} {μ : Mem} {Ps : List (List Nat)} {rp' : Rp β} {kd : Kd} {v : Val} {mr : AM} {r : ER (HL Ts) (HL Ts → HL Us)} {a : HL Ts → β} {io' : Bool} {ob : HL (β :: Us) → α} (h : OkX s ks A B e μ Ps i n rp g (mr e μ) al kds oa io r)
    (k : ∀ vs fa, AX s ks e i n rp g al kds vs fa oa io → AX s ks e i n rp g (.cons rp' al) (kd :: kds) (v :: vs) (fun γ => (a γ, fa γ)) ob io') :
    OkX s ks A B e μ Ps i n rp g ((mr e μ).bind fun xs μ => .ok (v :: xs) μ) (.cons rp' al) (kd :: kds) ob io' (r.bind fun fr γ => .ok (fun γ' => (a γ', fr γ')) γ) := by
  cases r with
  | ok fa γ' =>
    obtain ⟨vs, μ', Ps', h1, h2, h3, h4⟩ := h
    rw [h1]
    exact ⟨v :: vs, μ', Ps', rfl, k vs fa h2, h3, h4⟩
  | exc c p γ' =>
    obtain ⟨μ', Ps', h1, h3, h4⟩ := h
    rw [h1]
    exact ⟨μ', Ps', rfl, h3, h4⟩
  | bad => trivial
theorem rx_arg {rp' : Rp β} {m : EM} {mr : AM} {t : HL Ts → ER (HL Ts) β} {tr : HL Ts → ER (HL Ts) (HL Ts → HL Us)} (h : RfE s ks m (Fz rp') t) (k : RfX s ks i n rp g mr al kds oa io tr) : RfX s ks i n rp g (aCons m mr) (.cons rp' al) (.frz :: kds) (fun as => oa as.2) io (xaCons t tr) := fun A B γ e μ Ps st => by
  have h := h A B γ e μ Ps st
  show OkX (Us := β :: Us) s ks A B e μ Ps i n rp g ((m e μ).bind fun x μ => (mr e μ).bind fun xs μ => .ok (x :: xs) μ) _ _ _ _ ((t γ).bind fun a γ => (tr γ).bind fun fr γ => .ok (fun γ' => (a, fr γ')) γ)
  cases ht : t γ with
  | ok a γ' =>
    rw [ht] at h
    obtain ⟨v, μ', Ps', h1, h2, h3, h4⟩ := h
    rw [h1, Res.bind_ok, ER.bind_ok]
    have c := (k A B γ' e μ' Ps' h3).cons (rp' := rp') (kd := .frz) (v := v) (a := fun _ => a) (io' := io) (ob := fun as => oa as.2) fun vs fa ax => ⟨fun A B γ μ Ps fp u st e1 e2 ow => by
      obtain ⟨fps, z1, z2⟩ := ax.sem A B γ μ Ps fp u st e1 e2 ow
      exact ⟨[] :: fps, ⟨⟨⟨v, rfl, h2⟩, rfl⟩, z1⟩, by rw [List.flatten_cons, z2]; rfl⟩, fun B μ as fps u e1 h => by
      obtain ⟨k', ks', y, A', x, e', fp, Ps', q1, q2, q3, rfl, q4, q5⟩ := h.inv
      rw [List.map_cons] at q2 q3
      cases q1
      cases q2
      cases q3
      obtain ⟨_, rfl⟩ := q4
      exact ax.back B μ as.2 Ps' u e1 q5⟩
    cases hr : tr γ' with
    | ok fa γ2 =>
      rw [hr] at c
      obtain ⟨vs, μ2, Ps2, c1, c2, c3, c4⟩ := c
      exact ⟨vs, μ2, Ps2, c1, c2, c3, h4.trans c4⟩
    | exc c' p γ2 =>
      rw [hr] at c
      obtain ⟨μ2, Ps2, c1, c3, c4⟩ := c
      exact ⟨μ2, Ps2, c1, c3, h4.trans c4⟩
    | bad => trivial
  | exc c p γ' =>
    rw [ht] at h
    obtain ⟨μ', Ps', h1, h3, h4⟩ := h
    rw [h1]
    exact ⟨μ', Ps', rfl, h3, h4⟩
  | bad => trivial
theorem eVar_of {j : Nat} {e : Env} {μ : Mem} {v : Val} (h : e[j]? = some (some v)) (hv : norm μ v = v) : eVar j e μ = .ok v μ := by
  show (match e[j]? with
    | some (some v) => Res.ok (norm μ v) μ
    | _ => Res.bad) = _
  rw [h]
  show Res.ok (norm μ v) μ = _
  rw [hv]
theorem rx_io {p : α → HL Ts → HL Ts} {kd : Kd} {mr : AM} {tr : HL Ts → ER (HL Ts) (HL Ts → HL Us)} (ix : Ix rp s i g p) (hk : ks[i]? = some kd) (hn : kdO kd n = true) (k : RfX s ks i n rp g mr al kds oa false tr) : RfX s ks i n rp g (aCons (eVar i) mr) (.cons rp al) (.io n :: kds) (fun as => as.1) true (xaSlot g tr) := fun A B γ e μ Ps st => by
  obtain ⟨k1, y, x, fp, h1, h2, h3, h4, h5⟩ := ix.get st.r
  rw [hk] at h1
  cases h1
  obtain ⟨v, rfl, h6, _⟩ := h5.owns hn
  show OkX (Us := α :: Us) s ks A B e μ Ps i n rp g ((eVar i e μ).bind fun x μ => (mr e μ).bind fun xs μ => .ok (x :: xs) μ) _ _ _ _ ((tr γ).bind fun fr γ => .ok (fun γ' => (g γ', fr γ')) γ)
  rw [eVar_of h3 (rp.nrm h6), Res.bind_ok]
  refine (k A B γ e μ Ps st).cons fun vs fa ax => ⟨fun A B γ μ Ps fp u st e1 e2 ow => ?_, fun B μ as fps u e1 h => ?_⟩
  · obtain ⟨fps, z1, z2⟩ := ax.sem A B γ μ Ps fp u st e1 e2 ow
    rw [h3] at e2
    cases e2
    refine ⟨fp :: fps, ⟨⟨v, rfl, rfl, ow⟩, z1⟩, ?_⟩
    rw [List.flatten_cons, z2, if_neg Bool.false_ne_true, if_pos rfl, List.append_nil]
  · obtain ⟨k', ks', y, A', x, e', fp, Ps', q1, q2, q3, rfl, q4, q5⟩ := h.inv
    rw [List.map_cons] at q2 q3
    cases q1
    cases q2
    cases q3
    obtain ⟨u', z, _, w⟩ := q4
    cases z
    rw [h3] at e1
    cases e1
    have b := ax.back B μ as.2 Ps' v h3 q5
    rw [if_neg Bool.false_ne_true] at b
    rw [if_pos rfl, List.flatten_cons, b, List.append_nil]
    exact w
theorem call_X {A : Env} {B : List Nat} {γ : HL Ts} {e : Env} {μ : Mem} {Ps : List (List Nat)} {F : List Val → Mem → Res Val} {p : α → HL Ts → HL Ts} {kd : Kd} {vs : List Val} {fa : HL Ts → HL Us} {t : HL Us → ER (HL Us) ρ} (c : CE al kds rm F rq t) (ix : Ix rp s i g p) (hk : ks[i]? = some kd) (hn : kdO kd n = true) (ax : AX s ks e i n rp g al kds vs fa oa true) (st : St s ks A B γ e μ Ps) :
    match (t (fa γ)).out (fun as => p (oa as) γ) with
    | .ok r γ' => ∃ v μ' Ps', F vs μ = .ok v μ' ∧ ResR rm rq B μ Ps μ' Ps' v r ∧ St s ks A B γ' e μ' Ps' ∧ Fr μ Ps μ' Ps'
    | .exc c p γ' => ∃ μ' Ps', F vs μ = .exc c p μ' ∧ St s ks A B γ' e μ' Ps' ∧ Fr μ Ps μ' Ps'
    | .bad => True := by
  obtain ⟨k1, y, x, fp, h1, h2, h3, h4, h5⟩ := ix.get st.r
  rw [hk] at h1
  cases h1
  obtain ⟨v, rfl, h6, _⟩ := h5.owns hn
  obtain ⟨v', fp', o1, o2, o3, o4⟩ := st.own ix hk hn
  rw [eVar_of h3 (rp.nrm h6)] at o1
  have ev : v = v' := by injection o1
  subst ev
  obtain ⟨fps, z1, z2⟩ := ax.sem A B γ μ Ps fp v st h4 h3 h6
  rw [if_pos rfl] at z2
  have pm := flat_self h4
  have nd := List.nodup_append.mp (pm.nodup_iff.mp st.nd)
  have st1 : St al kds (vs.map some) (B ++ (Ps.set i []).flatten) (fa γ) (vs.map some) μ fps := ⟨z1, by rw [z2]; exact nd.1, fun l hl w => by
    rw [z2] at hl
    rcases List.mem_append.mp w with w | w
    · exact st.nb l (mem_flat h4 hl) w
    · exact nd.2.2 l hl l w rfl, fun l hl => by
    rcases List.mem_append.mp hl with w | w
    · exact st.lb l w
    · exact st.r.lt l (flat_nil.subset w)⟩
  have c := c _ μ vs (fa γ) fps st1
  -- the state behind
  have behind : ∀ {as' : HL Us} {μ' : Mem} {fps' : List (List Nat)}, St al kds (vs.map some) (B ++ (Ps.set i []).flatten) as' (vs.map some) μ' fps' → Fr μ fps μ' fps' → ∃ Ps', St s ks A B (p (oa as') γ) e μ' Ps' ∧ Fr μ Ps μ' Ps' ∧ Ps' = Ps.set i fps'.flatten := by
    intro as' μ' fps' st' f
    have b := ax.back _ μ' as' fps' v h3 st'.r
    rw [if_pos rfl] at b
    -- the slot's own footprint is the argument's
    have keepP : ∀ l, l < μ.length → l ∉ fp → μ'[l]? = μ[l]? := fun l hl hn => f.keep l hl (by rw [z2]; exact hn)
    have subP : ∀ l ∈ fps'.flatten, l ∈ fp ∨ μ.length ≤ l := fun l hl => by
      rcases f.sub l hl with w | w
      · rw [z2] at w
        exact .inl w
      · exact .inr w
    have pm2 := flat_set (fp := fps'.flatten) (List.getElem?_eq_some_iff.mp h4).1
    obtain ⟨k2, y2, x2, fp2, j1, j2, j3, j4, j5⟩ := ix.get st.r
    rw [hk] at j1
    cases j1
    rw [h3] at j3
    cases j3
    obtain ⟨v2, zz, j6, back⟩ := j5.owns hn
    cases zz
    have hput := st.putS ix (k' := kd) (x' := some v) (a' := oa as') (fp' := fps'.flatten) f.le (fun l hl => keepP l (st.lb l hl) fun w => st.nb l (mem_flat h4 w) hl) (fun l hl => keepP l (st.r.lt l (flat_nil.subset hl)) fun w => nd.2.2 l w l hl rfl) st'.nd (fun l hl => by
      have := st'.nb l hl
      exact ⟨fun w => this (List.mem_append_right _ w), fun w => this (List.mem_append_left _ w)⟩) (fun y' hy => by
      rw [j2] at hy
      cases hy
      exact back b)
    have q1 : ks.set i kd = ks := by
      obtain ⟨hl, e⟩ := List.getElem?_eq_some_iff.mp hk
      rw [← e]
      exact List.set_getElem_self hl
    have q2 : e.set i (some v) = e := by
      obtain ⟨hl, z⟩ := List.getElem?_eq_some_iff.mp h3
      rw [← z]
      exact List.set_getElem_self hl
    rw [q1, q2] at hput
    refine ⟨_, hput, ⟨f.le, fun l hl hn => keepP l hl fun w => hn (mem_flat h4 w), fun l hl => ?_⟩, rfl⟩
    rw [pm2.mem_iff, List.mem_append] at hl
    rcases hl with hl | hl
    · rcases subP l hl with w | w
      · exact .inl (mem_flat h4 w)
      · exact .inr w
    · exact .inl (flat_nil.subset hl)
  cases hr : t (fa γ) with
  | ok r as' =>
    rw [hr] at c
    obtain ⟨w, μ', fps', c1, c2, c3, c4⟩ := c
    obtain ⟨Q, b1, b2, b3⟩ := behind c3 c4
    refine ⟨w, μ', Q, c1, ?_, b1, b2⟩
    cases rm with
    | frz => exact c2
    | new m =>
      obtain ⟨fpR, d1, d2⟩ := c2
      have pm2 := flat_set (fp := fps'.flatten) (List.getElem?_eq_some_iff.mp h4).1
      refine ⟨fpR, d1, d2.nd, fun l hl => ⟨fun z => ?_, fun z => (d2.out l hl).2 (List.mem_append_left _ z)⟩, fun l hl => ?_⟩
      · rw [b3, pm2.mem_iff, List.mem_append] at z
        rcases z with z | z
        · exact (d2.out l hl).1 z
        · exact (d2.out l hl).2 (List.mem_append_right _ z)
      · rcases d2.sub l hl with z | z
        · rw [z2] at z
          exact .inl (mem_flat h4 z)
        · exact .inr z
  | exc c' q as' =>
    rw [hr] at c
    obtain ⟨μ', fps', c1, c3, c4⟩ := c
    obtain ⟨Q, b1, b2, b3⟩ := behind c3 c4
    exact ⟨μ', Q, c1, b1, b2⟩
  | bad => trivial
theorem AX.len {e : Env} {vs : List Val} {fa : HL Ts → HL Us} {p : α → HL Ts → HL Ts} {kd : Kd} (ax : AX s ks e i n rp g al kds vs fa oa true) {A : Env} {B : List Nat} {γ : HL Ts} {μ : Mem} {Ps : List (List Nat)} (ix : Ix rp s i g p) (hk : ks[i]? = some kd) (hn : kdO kd n = true) (st : St s ks A B γ e μ Ps) : vs.length = Us.length := by
  obtain ⟨k1, y, x, fp, h1, h2, h3, h4, h5⟩ := ix.get st.r
  rw [hk] at h1
  cases h1
  obtain ⟨v, rfl, h6, _⟩ := h5.owns hn
  obtain ⟨fps, z1, z2⟩ := ax.sem A B γ μ Ps fp v st h4 h3 h6
  exact len_args z1
theorem rfx_callE {N : Nat} {F : Fn} {m : AM} {p : α → HL Ts → HL Ts} {kd : Kd} {t : HL Us → ER (HL Us) ρ} {ta : HL Ts → ER (HL Ts) (HL Ts → HL Us)} (c : CE al kds .frz (callZ F) rq t) (ix : Ix rp s i g p) (hk : ks[i]? = some kd) (hn : kdO kd n = true) (ha : RfX s ks i n rp g m al kds oa true ta) (hN : N = Us.length := by rfl) : RfE s ks (eCallZ N F m) (Fz rq) (xCallE t p oa ta) := fun A B γ e μ Ps st => by
  have h := ha A B γ e μ Ps st
  show OkE s ks A B e μ Ps ((m e μ).bind fun xs μ => if xs.length = N then callZ F xs μ else .bad) _ ((ta γ).bind fun fa γ => (t (fa γ)).out fun as => p (oa as) γ)
  cases ht : ta γ with
  | ok fa γ' =>
    rw [ht] at h
    obtain ⟨vs, μ', Ps', h1, h2, h3, h4⟩ := h
    rw [h1, Res.bind_ok, ER.bind_ok, if_pos (by rw [h2.len ix hk hn h3, hN])]
    have z := call_X c ix hk hn h2 h3
    cases hr : (t (fa γ')).out fun as => p (oa as) γ' with
    | ok r γ2 =>
      rw [hr] at z
      obtain ⟨v, μ2, Ps2, z1, z2, z3, z4⟩ := z
      exact ⟨v, μ2, Ps2, z1, z2, z3, h4.trans z4⟩
    | exc c' q γ2 =>
      rw [hr] at z
      obtain ⟨μ2, Ps2, z1, z3, z4⟩ := z
      exact ⟨μ2, Ps2, z1, z3, h4.trans z4⟩
    | bad => trivial
  | exc c p γ' =>
    rw [ht] at h
    obtain ⟨μ', Ps', h1, h3, h4⟩ := h
    rw [h1]
    exact ⟨μ', Ps', rfl, h3, h4⟩
  | bad => trivial
end
end Fs
namespace Fs
open PySem PySem.Spec L2
section
variable {Ts Us : List Type} {s : SL Ts} {ks : List Kd} {α β ρ : Type} {rp : Rp α} {rq : Rp β} {n : Nat}
def rngL (lo : Int) (n : Nat) : List Int := (List.range n).map fun i => lo + (i : Nat)
@[simp] def oRng (j : Int) : PR (List Int) := if -big ≤ j ∧ j ≤ lim then .ok (rngL 0 j.toNat) else .bad
@[simp] def oRng2 (i j : Int) : PR (List Int) := if -big ≤ i ∧ i ≤ lim ∧ -big ≤ j ∧ j ≤ lim ∧ (j - i) ≤ lim then .ok (rngL i (j - i).toNat) else .bad
theorem rngL_len (lo : Int) (n : Nat) : (rngL lo n).length = n := by simp [rngL]
theorem rng_it (lo : Int) (n : Nat) (h : n ≤ lim) (B : List Nat) (μ : Mem) : ItR tyInt B μ (rngIts lo n) (rngL lo n) := by
  refine ⟨?_, ⟨by rw [rngL_len]; exact h, fun _ _ => trivial⟩, .inl rfl⟩
  show (List.range n).map (fun i => Val.d (.int (lo + (i : Nat)))) = lv tyInt (rngL lo n)
  unfold lv rngL
  rw [List.map_map]
  rfl
theorem OkE.bindI {A : Env} {B : List Nat} {e : Env} {μ : Mem} {Ps : List (List Nat)} {δ : Type} {x : Res δ} {P : δ → α → Prop} {r : ER (HL Ts) α} {f : δ → Mem → Res Its} {u : α → HL Ts → ER (HL Ts) (List β)} (h : OkE s ks A B e μ Ps x P r) (k : ∀ v a γ μ Ps, P v a → St s ks A B γ e μ Ps → OkI s ks A B e μ Ps (f v μ) rq (u a γ)) : OkI s ks A B e μ Ps (x.bind f) rq (r.bind u) := by
  cases r with
  | ok a γ' =>
    obtain ⟨v, μ', Ps', rfl, h2, h3, h4⟩ := h
    have k := k v a γ' μ' Ps' h2 h3
    rw [ER.bind_ok, Res.bind_ok]
    cases hu : u a γ' with
    | ok b γ2 =>
      rw [hu] at k
      obtain ⟨w, μ2, Ps2, k1, k2, k3, k4⟩ := k
      exact ⟨w, μ2, Ps2, k1, k2, k3, h4.trans k4⟩
    | exc c p γ2 =>
      rw [hu] at k
      obtain ⟨μ2, Ps2, k1, k3, k4⟩ := k
      exact ⟨μ2, Ps2, k1, k3, h4.trans k4⟩
    | bad => trivial
  | exc c p γ' =>
    obtain ⟨μ', Ps', rfl, h3, h4⟩ := h
    exact ⟨μ', Ps', rfl, h3, h4⟩
  | bad => trivial
theorem OkI.of {A : Env} {B : List Nat} {γ : HL Ts} {e : Env} {μ : Mem} {Ps : List (List Nat)} {it : Its} {xs : List α} (st : St s ks A B γ e μ Ps) (h : ItR rp B μ it xs) : OkI s ks A B e μ Ps (.ok it μ) rp (.ok xs γ) := ⟨it, μ, Ps, rfl, h, st, Fr.refl _ _⟩
theorem ri_rng {m : EM} {t : HL Ts → ER (HL Ts) Int} (h : RfE s ks m (Fz tyInt) t) : RfI s ks (iArg rngA (aCons m aNil)) tyInt (x1 oRng t) := fun A B γ e μ Ps st => by
  show OkI s ks A B e μ Ps ((aCons m aNil e μ).bind fun x μ => match rngA x μ with
    | some i => .ok i μ
    | Option.none => .bad) _ _
  rw [args1]
  refine (h A B γ e μ Ps st).bindI fun v a γ μ Ps hv st => ?_
  obtain ⟨rfl, _⟩ := hv
  show OkI s ks A B e μ Ps (match (if (-big ≤ a ∧ a < big) then some (rngIts 0 a.toNat) else Option.none) with
    | some i => .ok i μ
    | Option.none => .bad) _ ((if -big ≤ a ∧ a ≤ lim then PR.ok (rngL 0 a.toNat) else .bad).er γ)
  split
  · rename_i i hi
    split at hi
    · cases hi
      split
      · rename_i hc
        exact OkI.of st (rng_it 0 _ (by omega) _ _)
      · trivial
    · cases hi
  · rename_i hi
    split
    · rename_i hc
      rw [if_pos ⟨hc.1, by unfold big; have := hc.2; rw [lim_eq] at this; omega⟩] at hi
      cases hi
    · trivial
theorem ri_of {f : Val → Mem → Option Its} {m : EM} {t : HL Ts → ER (HL Ts) α} {u : α → List β} (h : RfE s ks m (Fz rp) t) (k : ∀ B μ v a, Fz rp v a → ∃ it, f v μ = some it ∧ ItR rq B μ it (u a)) : RfI s ks (iOf f m) rq (x1 (fun a => .ok (u a)) t) := fun A B γ e μ Ps st => by
  show OkI s ks A B e μ Ps ((m e μ).bind fun x μ => match f x μ with
    | some i => .ok i μ
    | Option.none => .bad) _ _
  refine (h A B γ e μ Ps st).bindI fun v a γ μ Ps hv st => ?_
  obtain ⟨it, h1, h2⟩ := k B μ v a hv
  rw [h1]
  exact OkI.of st h2
theorem ri_list {m : EM} {t : HL Ts → ER (HL Ts) (List α)} (h : RfE s ks m (Fz (tyList rp)) t) : RfI s ks (iOf itA m) rp (x1 (fun a => .ok a) t) := ri_of h fun B μ v a hv => by
  obtain ⟨rfl, hv⟩ := hv
  refine ⟨⟨lv rp a, Option.none⟩, ?_, rfl, hv, .inl rfl⟩
  show some (⟨(a.map rp.enc).map .d, Option.none⟩ : Its) = _
  rw [lv_d]
def chars (x : Str) : List Str := x.cps.toList.map sgS
theorem ri_str {m : EM} {t : HL Ts → ER (HL Ts) Str} (h : RfE s ks m (Fz tyStr) t) : RfI s ks (iOf itA m) tyStr (x1 (fun a => .ok (chars a)) t) := ri_of h fun B μ v a hv => by
  obtain ⟨rfl, hv⟩ := hv
  refine ⟨⟨lv tyStr (chars a), Option.none⟩, ?_, rfl, ⟨?_, fun x hx => ?_⟩, .inl rfl⟩
  · show some (⟨a.cps.toList.map fun c => .d (.str ⟨#[c]⟩), Option.none⟩ : Its) = _
    unfold lv chars
    rw [List.map_map]
    rfl
  · unfold chars
    rw [List.length_map]
    exact hv
  · obtain ⟨c, _, rfl⟩ := List.mem_map.mp hx
    show 1 ≤ lim
    decide
def lcM (c : α → PR Bool) (f : α → PR β) : List α → PR (List β)
  | [] => .ok []
  | x :: r => (c x).bind fun b => if b = true then (f x).bind fun y => (lcM c f r).bind fun ys => .ok (y :: ys) else lcM c f r
@[simp] def cComp {Γ : Type} (ti : Γ → PR (List α)) (set : α → Γ → Γ) (tc : Γ → PR Bool) (te : Γ → PR β) (γ : Γ) : PR (List β) := (ti γ).bind fun xs => lcM (fun x => tc (set x γ)) (fun x => te (set x γ)) xs
def OkIC (B : List Nat) (μ : Mem) (Ps : List (List Nat)) (x : Res Its) (rp : Rp α) (r : PR (List α)) : Prop := match r with
  | .ok a => ∃ it, x = .ok it μ ∧ it.items = lv rp a ∧ okL rp a ∧ (it.guard = Option.none ∨ ∃ l vs, it.guard = some (l, vs) ∧ (l ∈ Ps.flatten ∨ l ∈ B) ∧ μ[l]? = some (.lst vs))
  | .exc c p => x = .exc c p μ
  | .bad => True
def RfIC (s : SL Ts) (ks : List Kd) (m : IM) (rp : Rp α) (t : HL Ts → PR (List α)) : Prop := ∀ A B γ e μ Ps, St s ks A B γ e μ Ps → OkIC B μ Ps (m e μ) rp (t γ)
theorem ric_view {m : EM} {t : HL Ts → PR (List α)} (h : RfW s ks n m (tyList rp) t) : RfIC s ks (iOf itA m) rp t := fun A B γ e μ Ps st => by
  have h := h A B γ e μ Ps st
  show OkIC B μ Ps ((m e μ).bind fun x μ => match itA x μ with
    | some i => .ok i μ
    | Option.none => .bad) _ (t γ)
  cases ht : t γ with
  | ok a =>
    rw [ht] at h
    obtain ⟨v, q, h1, h2, h3⟩ := h
    rw [h1, Res.bind_ok]
    rcases h2 with ⟨⟨rfl, hv⟩, _⟩ | ⟨k, l, rfl, h8, rfl⟩
    · have e1 : itA (.d ((tyList rp).enc a)) μ = some ⟨lv rp a, Option.none⟩ := by
        show some (⟨(a.map rp.enc).map .d, Option.none⟩ : Its) = _
        rw [lv_d]
      rw [e1]
      exact ⟨_, rfl, rfl, hv, .inl rfl⟩
    · rw [p_itL h8]
      exact ⟨_, rfl, rfl, k, .inr ⟨l, _, rfl, h3 l (List.mem_singleton.mpr rfl), h8⟩⟩
  | exc c p =>
    rw [ht] at h
    have h : m e μ = .exc c p μ := h
    rw [h]
    rfl
  | bad => trivial
theorem Ix.eta {i : Nat} {g : HL Ts → α} {p : α → HL Ts → HL Ts} (ix : Ix rp s i g p) (γ : HL Ts) : p (g γ) γ = γ := by
  induction ix with
  | here => rfl
  | there ix ih =>
    obtain ⟨a, r⟩ := γ
    show (a, _) = _
    rw [ih]
inductive Wp (s : SL Ts) : List Nat → List Kd → List Kd → Prop where
  | nil {ks : List Kd} : Wp s [] ks ks
  | cons {α : Type} {rp : Rp α} {i : Nat} {vs : List Nat} {g : HL Ts → α} {p : α → HL Ts → HL Ts} {ks ks' : List Kd} : Ix rp s i g p → Wp s vs ks ks' → Wp s (i :: vs) ks (ks'.set i .dead)
theorem Wp.st {vs : List Nat} {ks' : List Kd} (w : Wp s vs ks ks') {A : Env} {B : List Nat} {γ : HL Ts} {e : Env} {μ : Mem} {Ps : List (List Nat)} (st : St s ks A B γ e μ Ps) : ∃ Ps', St s ks' A B γ (wipeE e vs) μ Ps' ∧ Fr μ Ps μ Ps' := by
  induction w with
  | nil => exact ⟨Ps, st, Fr.refl _ _⟩
  | @cons α rp i vs g p ks ks' ix w ih =>
    obtain ⟨Q, h1, h2⟩ := ih st
    have pg := ix.eta γ
    have h := h1.putS ix (k' := .dead) (x' := none) (a' := g γ) (fp' := []) (Nat.le_refl _) (fun _ _ => rfl) (fun _ _ => rfl) List.nodup_nil (fun l hl => by cases hl) (fun y _ => rfl)
    rw [pg] at h
    exact ⟨_, h, h2.trans ⟨Nat.le_refl _, fun _ _ _ => rfl, fun l hl => .inl (flat_nil.subset hl)⟩⟩
section
variable {gd : Option (Nat × List Val)} {l : Nat} {tg : Val → Env → Option Env} {t : TM} {el : EM} {v : Val} {r : List Val} {e e1 : Env} {μ : Mem}
theorem lcL_nil (h : GOk gd μ) : lcL gd l tg t el [] e μ = .ok () μ := by
  unfold lcL
  rw [if_pos h]
theorem lcL_skip (h : GOk gd μ) (h1 : tg v e = some e1) (h2 : t e1 μ = .ok false μ) : lcL gd l tg t el (v :: r) e μ = lcL gd l tg t el r e μ := by
  rw [lcL, if_pos h, h1]
  dsimp only
  rw [h2]
  rfl
theorem lcL_take {μ' : Mem} {y : Val} {acc : List Val} (h : GOk gd μ) (h1 : tg v e = some e1) (h2 : t e1 μ = .ok true μ) (h3 : el e1 μ = .ok y μ') (h4 : μ'[l]? = some (.lst acc)) (h5 : acc.length < 16777216) : lcL gd l tg t el (v :: r) e μ = lcL gd l tg t el r e (μ'.set l (.lst (acc ++ [y]))) := by
  rw [lcL, if_pos h, h1]
  dsimp only
  rw [h2]
  dsimp only
  rw [if_pos rfl, h3]
  dsimp only
  rw [h4]
  dsimp only
  rw [if_pos h5]
end
theorem lcL_ok {B : List Nat} {A : Env} {ksw ks1 : List Kd} {tg : Val → Env → Option Env} {set : α → HL Ts → HL Ts} {t : TM} {el : EM} {tc : HL Ts → PR Bool} {te : HL Ts → PR β} (hg : RfG s ksw rp tg set ks1) (hc : RfC s ks1 t Eq tc) (he : RfC s ks1 el (Fz rq) te)
    {γ : HL Ts} {e : Env} {μ : Mem} {Ps : List (List Nat)} (gd : Option (Nat × List Val)) (hgd : gd = Option.none ∨ ∃ l vs, gd = some (l, vs) ∧ μ[l]? = some (.lst vs)) (st : St s ksw A B γ e μ Ps) :
    ∀ (xs : List α), (∀ x ∈ xs, rp.ok x) → ∀ acc : List β, (∀ y ∈ acc, rq.ok y) → acc.length + xs.length ≤ lim → ∀ ys, lcM (fun x => tc (set x γ)) (fun x => te (set x γ)) xs = .ok ys →
      lcL gd μ.length tg t el (lv rp xs) e (μ ++ [.lst (lv rq acc)]) = .ok () (μ ++ [.lst (lv rq (acc ++ ys))]) ∧ okL rq (acc ++ ys) := by
  intro xs
  have gk : ∀ c : Cell, GOk gd (μ ++ [c]) := fun c => by
    rcases hgd with rfl | ⟨l, vs, rfl, h⟩
    · trivial
    · show (μ ++ [c])[l]? = _
      rw [List.getElem?_append_left (List.getElem?_eq_some_iff.mp h).1]
      exact h
  induction xs with
  | nil =>
    intro _ acc hacc hl ys hy
    cases hy
    rw [List.append_nil]
    exact ⟨lcL_nil (gk _), by simpa using hl, hacc⟩
  | cons x r ih =>
    intro hok acc hacc hl ys hy
    have st1 : St s ksw A B γ e (μ ++ [.lst (lv rq acc)]) Ps := (st.grow (μ' := μ ++ [.lst (lv rq acc)]) (by simp) fun l hl => List.getElem?_append_left hl).1
    obtain ⟨e1, P1, h1, h2, h3⟩ := hg A B γ e _ Ps (.d (rp.enc x)) x st1 ⟨rfl, hok x (List.mem_cons_self ..)⟩
    have c := hc A B _ e1 _ P1 h2
    have el' := he A B _ e1 _ P1 h2
    have hy : ((tc (set x γ)).bind fun b => if b = true then (te (set x γ)).bind fun y => (lcM (fun x => tc (set x γ)) (fun x => te (set x γ)) r).bind fun ys => .ok (y :: ys) else lcM (fun x => tc (set x γ)) (fun x => te (set x γ)) r) = .ok ys := hy
    have ih := ih fun z hz => hok z (List.mem_cons_of_mem _ hz)
    rw [List.length_cons] at hl
    show lcL gd μ.length tg t el (.d (rp.enc x) :: lv rp r) e _ = _ ∧ _
    cases htc : tc (set x γ) with
    | ok b =>
      rw [htc] at c hy
      obtain ⟨v, c1, c2⟩ := c
      obtain rfl : v = b := c2
      cases v with
      | false =>
        rw [lcL_skip (gk _) h1 c1]
        exact ih acc hacc (by omega) ys hy
      | true =>
        have hy : ((te (set x γ)).bind fun y => (lcM (fun x => tc (set x γ)) (fun x => te (set x γ)) r).bind fun ys => .ok (y :: ys)) = .ok ys := hy
        cases hte : te (set x γ) with
        | ok y =>
          rw [hte] at el' hy
          obtain ⟨u, d1, rfl, d2⟩ := el'
          rw [PR.bind_ok] at hy
          cases hr : lcM (fun x => tc (set x γ)) (fun x => te (set x γ)) r with
          | ok zs =>
            rw [hr] at hy
            cases hy
            have at1 : (μ ++ [Cell.lst (lv rq acc)])[μ.length]? = some (.lst (lv rq acc)) := by
              rw [List.getElem?_append_right (Nat.le_refl _), Nat.sub_self]
              rfl
            rw [lcL_take (gk _) h1 c1 d1 at1 (by rw [lv_len]; have := lim_eq; omega), set_set_last]
            have e2 : lv rq acc ++ [.d (rq.enc y)] = lv rq (acc ++ [y]) := (lv_app acc [y]).symm
            rw [e2]
            have := ih (acc ++ [y]) (fun z hz => by
              rcases List.mem_append.mp hz with w | w
              · exact hacc z w
              · rw [List.mem_singleton.mp w]
                exact d2) (by rw [List.length_append, List.length_singleton]; omega) zs hr
            rw [List.append_assoc] at this
            exact this
          | exc c' p =>
            rw [hr] at hy
            cases hy
          | bad =>
            rw [hr] at hy
            cases hy
        | exc c' p =>
          rw [hte] at hy
          cases hy
        | bad =>
          rw [hte] at hy
          cases hy
    | exc c' p =>
      rw [htc] at hy
      cases hy
    | bad =>
      rw [htc] at hy
      cases hy
def PR.calm {α : Type} : PR α → PR α
  | .ok a => .ok a
  | _ => .bad
@[simp] theorem PR.calm_ok {α : Type} (a : α) : (PR.ok a).calm = .ok a := rfl
@[simp] theorem PR.calm_bad {α : Type} : (PR.bad : PR α).calm = .bad := rfl
@[simp] theorem PR.calm_exc {α : Type} (c : Nat) (p : List Data) : (PR.exc c p : PR α).calm = .bad := rfl
@[simp] def cLc {Γ : Type} (ti : Γ → PR (List α)) (set : α → Γ → Γ) (tc : Γ → PR Bool) (te : Γ → PR β) (γ : Γ) : PR (List β) := (ti γ).bind fun xs => (lcM (fun x => tc (set x γ)) (fun x => te (set x γ)) xs).calm
theorem rt_yes : RfC s ks tYesM Eq (cC true) := fun A B γ e μ Ps st => ⟨true, rfl, rfl⟩
theorem rf_lc {ksw ks1 : List Kd} {vs : List Nat} {mi : IM} {ti : HL Ts → PR (List α)} {tg : Val → Env → Option Env} {set : α → HL Ts → HL Ts} {t : TM} {el : EM} {tc : HL Ts → PR Bool} {te : HL Ts → PR β} (hi : RfIC s ks mi rp ti) (w : Wp s vs ks ksw) (hg : RfG s ksw rp tg set ks1) (hc : RfC s ks1 t Eq tc) (he : RfC s ks1 el (Fz rq) te) :
    RfC s ks (eLc false vs mi tg t el) (Fz (tyList rq)) (cLc ti set tc te) := fun A B γ e μ Ps st => by
  have h := hi A B γ e μ Ps st
  show OkC μ ((mi e μ).bind fun i μ => match lcL i.guard μ.length tg t el i.items (wipeE e vs) (μ ++ [.lst []]) with
    | .ok _ μ' => lcEnd false μ μ' μ.length
    | _ => .bad) _ ((ti γ).bind fun xs => (lcM (fun x => tc (set x γ)) (fun x => te (set x γ)) xs).calm)
  cases ht : ti γ with
  | ok xs =>
    rw [ht] at h
    obtain ⟨it, h1, h2, h3, h4⟩ := h
    rw [h1, Res.bind_ok, PR.bind_ok, h2]
    obtain ⟨Q, st', f⟩ := w.st st
    cases hr : lcM (fun x => tc (set x γ)) (fun x => te (set x γ)) xs with
    | ok ys =>
      have z := lcL_ok (rq := rq) hg hc he it.guard (by
        rcases h4 with z | ⟨l, us, z1, _, z2⟩
        · exact .inl z
        · exact .inr ⟨l, us, z1, z2⟩) st' xs h3.2 [] (fun y hy => by cases hy) (by simpa using h3.1) ys hr
      obtain ⟨z1, z2⟩ := z
      have z1 : lcL it.guard μ.length tg t el (lv rp xs) (wipeE e vs) (μ ++ [.lst []]) = .ok () (μ ++ [.lst (lv rq ys)]) := z1
      rw [z1]
      refine ⟨.d ((tyList rq).enc ys), ?_, rfl, z2⟩
      show lcEnd false μ (μ ++ [.lst (lv rq ys)]) μ.length = _
      unfold lcEnd
      rw [List.getElem?_append_right (Nat.le_refl _), Nat.sub_self]
      show (match false, allD (lv rq ys) with
        | false, some ds => Res.ok (Val.d (.list ds)) (trunc μ ((μ ++ [Cell.lst (lv rq ys)]).set μ.length (.frz (.list ds))))
        | _, _ => .ok (.loc μ.length) (μ ++ [Cell.lst (lv rq ys)])) = _
      rw [allD_lv]
      show Res.ok _ (trunc μ ((μ ++ [Cell.lst (lv rq ys)]).set μ.length (.frz (.list (ys.map rq.enc))))) = _
      rw [set_set_last, trunc_keep (by simp) fun l hl => List.getElem?_append_left hl]
      rfl
    | exc c p => trivial
    | bad => trivial
  | exc c p =>
    rw [ht] at h
    have h : mi e μ = .exc c p μ := h
    rw [h]
    rfl
  | bad => trivial
end
end Fs
namespace Fs
open PySem PySem.Spec L2
section
variable {T : Tbl} {N : List Str} {sc : Scope} {k : Nat} {W : WX} {X : Cx}
end
section
variable {Ts : List Type} {s : SL Ts} {ks : List Kd} {α β : Type} {rp : Rp α} {rq : Rp β}
def lcE {Γ : Type} (set : α → Γ → Γ) (c : Γ → ER Γ Bool) (f : Γ → ER Γ β) : List α → Γ → ER Γ (List β)
  | [], γ => .ok [] γ
  | x :: r, γ => (c (set x γ)).bind fun b γ => if b = true then (f γ).bind fun y γ => (lcE set c f r γ).bind fun ys γ => .ok (y :: ys) γ else lcE set c f r γ
def ER.calmTo {Γ : Type} (r : ER Γ α) (fin : Γ → Γ) : ER Γ α := match r with
  | .ok a γ => .ok a (fin γ)
  | _ => .bad
@[simp] theorem ER.calmTo_ok {Γ : Type} (a : α) (γ : Γ) (fin : Γ → Γ) : (ER.ok a γ).calmTo fin = .ok a (fin γ) := rfl
@[simp] theorem ER.calmTo_bad {Γ : Type} (fin : Γ → Γ) : (ER.bad : ER Γ α).calmTo fin = .bad := rfl
@[simp] theorem ER.calmTo_exc {Γ : Type} (c : Nat) (p : List Data) (γ : Γ) (fin : Γ → Γ) : (ER.exc c p γ : ER Γ α).calmTo fin = .bad := rfl
@[simp] def xLc {Γ : Type} (ti : Γ → ER Γ (List α)) (set : α → Γ → Γ) (c : Γ → ER Γ Bool) (f : Γ → ER Γ β) (fin : Γ → Γ → Γ) (γ : Γ) : ER Γ (List β) := (ti γ).bind fun xs γ0 => (lcE set c f xs γ0).calmTo (fin γ0)
inductive Wq (s : SL Ts) (ks : List Kd) : List Nat → List Kd → (HL Ts → HL Ts → HL Ts) → Prop where
  | nil : Wq s ks [] ks (fun _ γ => γ)
  | cons {α : Type} {rp : Rp α} {i : Nat} {vs : List Nat} {g : HL Ts → α} {p : α → HL Ts → HL Ts} {ks' : List Kd} {fin : HL Ts → HL Ts → HL Ts} : Ix rp s i g p → (ks[i]? = some .dead ∨ ks[i]? = some .frz) → i ∉ vs → Wq s ks vs ks' fin → Wq s ks (i :: vs) (ks'.set i .dead) (fun γ0 γ => fin γ0 (p (g γ0) γ))
theorem Wq.wp {vs : List Nat} {ks' : List Kd} {fin : HL Ts → HL Ts → HL Ts} (w : Wq s ks vs ks' fin) : Wp s vs ks ks' := by
  induction w with
  | nil => exact .nil
  | cons ix _ _ _ ih => exact .cons ix ih
theorem wipeE_at {e : Env} {vs : List Nat} {i : Nat} (h : i ∉ vs) : (wipeE e vs)[i]? = e[i]? := by
  induction vs with
  | nil => rfl
  | cons v vs ih =>
    show ((wipeE e vs).set v none)[i]? = _
    rw [List.getElem?_set_ne (fun z => h (by simp [z]))]
    exact ih fun z => h (List.mem_cons_of_mem _ z)
theorem Wq.len {vs : List Nat} {ks' : List Kd} {fin : HL Ts → HL Ts → HL Ts} (w : Wq s ks vs ks' fin) : ks'.length = ks.length ∧ ∀ i, i ∉ vs → ks'[i]? = ks[i]? := by
  induction w with
  | nil => exact ⟨rfl, fun _ _ => rfl⟩
  | cons _ _ _ _ ih => exact ⟨by rw [List.length_set, ih.1], fun i hi => by
      rw [List.getElem?_set_ne (fun z => hi (by simp [z]))]
      exact ih.2 i fun z => hi (List.mem_cons_of_mem _ z)⟩
theorem set_back {α : Type} {xs : List α} {i : Nat} {a b : α} (h : xs[i]? = some a) : (xs.set i b).set i a = xs := by
  obtain ⟨hl, e⟩ := List.getElem?_eq_some_iff.mp h
  rw [List.set_set, ← e, List.set_getElem_self]
theorem Wq.back {vs : List Nat} {ks' : List Kd} {fin : HL Ts → HL Ts → HL Ts} (w : Wq s ks vs ks' fin) {A : Env} {B : List Nat} {γ0 γ : HL Ts} {e : Env} {μ0 μ : Mem} {Ps0 Ps : List (List Nat)} (st0 : St s ks A B γ0 e μ0 Ps0) (st : St s ks' A B γ (wipeE e vs) μ Ps) : ∃ Ps', St s ks A B (fin γ0 γ) e μ Ps' ∧ Fr μ Ps μ Ps' := by
  induction w generalizing γ Ps with
  | nil => exact ⟨Ps, st, Fr.refl _ _⟩
  | @cons α rp i vs g p ks' fin ix hk hi w ih =>
    obtain ⟨k, y, x, fp, e1, e2, e3, e4, h5⟩ := ix.get st0.r
    have hs : fp = [] ∧ slotR rp k B μ y x (g γ0) [] := by
      rcases hk with z | z
      · rw [e1] at z
        cases z
        exact ⟨h5, rfl⟩
      · rw [e1] at z
        cases z
        exact ⟨h5.2, h5.1, rfl⟩
    have h := st.putS ix (k' := k) (x' := x) (a' := g γ0) (fp' := []) (Nat.le_refl _) (fun _ _ => rfl) (fun _ _ => rfl) List.nodup_nil (fun l hl => by cases hl) (fun y' hy => by
      rw [e2] at hy
      cases hy
      exact hs.2)
    have q1 : (ks'.set i .dead).set i k = ks' := set_back (by rw [(w.len).2 i hi]; exact e1)
    have q2 : (wipeE e (i :: vs)).set i x = wipeE e vs := set_back (by rw [wipeE_at hi]; exact e3)
    rw [q1, q2] at h
    obtain ⟨Q, h6, h7⟩ := ih h
    exact ⟨Q, h6, Fr.trans ⟨Nat.le_refl _, fun _ _ _ => rfl, fun l hl => .inl (flat_nil.subset hl)⟩ h7⟩
theorem St.setAt {A : Env} {B : List Nat} {γ : HL Ts} {e : Env} {μ : Mem} {Ps : List (List Nat)} {l : Nat} {c : Cell} (st : St s ks A B γ e μ Ps) (h1 : l ∉ Ps.flatten) (h2 : l ∉ B) : St s ks A B γ e (μ.set l c) Ps := ⟨st.r.mono (fun j hj => List.getElem?_set_ne fun z => h1 (by rw [z]; exact hj)) (fun j hj => List.getElem?_set_ne fun z => h2 (by rw [z]; exact hj)), st.nd, st.nb, fun j hj => by rw [List.length_set]; exact st.lb j hj⟩
theorem StR.env {B : List Nat} {m : Mem} : ∀ {Ts : List Type} {s : SL Ts} {ks : List Kd} {A : Env} {γ : HL Ts} {e e' : Env} {Ps : List (List Nat)}, StR B m s ks A γ e Ps → e'.length = e.length → (∀ i : Nat, ks[i]? = some Kd.dead ∨ e'[i]? = e[i]?) → StR B m s ks A γ e' Ps := by
  intro Ts s
  induction s with
  | nil =>
    intro ks A γ e e' Ps h hl _
    obtain ⟨rfl, rfl, rfl, rfl⟩ := h.nilV
    obtain rfl := List.length_eq_zero_iff.mp hl
    exact h
  | cons rp s ih =>
    intro ks A γ e e' Ps h hl hq
    obtain ⟨k, ks', y, A', x, e2, fp, Ps', rfl, rfl, rfl, rfl, h1, h2⟩ := h.inv
    cases e' with
    | nil => cases hl
    | cons x' e' =>
      refine ⟨?_, ih h2 (by simpa using hl) fun i => by simpa using hq (i + 1)⟩
      rcases hq 0 with z | z
      · have z : k = .dead := by simpa using z
        subst z
        exact h1
      · have z : x' = x := by simpa using z
        rw [z]
        exact h1
def TgD (ks : List Kd) (tg : Val → Env → Option Env) : Prop := ∀ v e e1, tg v e = some e1 → e1.length = e.length ∧ ∀ i : Nat, ks[i]? = some Kd.dead ∨ e1[i]? = e[i]?
theorem tgd_name {i : Nat} (h : ks[i]? = some .dead) : TgD ks (gN i) := fun v e e1 q => by
  cases q
  refine ⟨by simp, fun j => ?_⟩
  by_cases z : i = j
  · rw [← z]
    exact .inl h
  · exact .inr (List.getElem?_set_ne z)
theorem lcE_ok {B : List Nat} {A : Env} {ksw ks1 : List Kd} {tg : Val → Env → Option Env} {set : α → HL Ts → HL Ts} {t : TM} {el : EM} {tc : HL Ts → ER (HL Ts) Bool} {te : HL Ts → ER (HL Ts) β} (hg : RfG s ksw rp tg set ks1) (hw : wkB ks1 ksw = true) (hd : TgD ksw tg) (hc : RfE s ks1 t Eq tc) (he : RfE s ks1 el (Fz rq) te)
    {e : Env} (gd : Option (Nat × List Val)) (l0 : Nat) (hlB : l0 ∉ B) :
    ∀ (xs : List α), (∀ x ∈ xs, rp.ok x) → ∀ (γ : HL Ts) (μ : Mem) (Ps : List (List Nat)) (acc : List β), (gd = Option.none ∨ ∃ l us, gd = some (l, us) ∧ l ∈ B ∧ μ[l]? = some (.lst us)) → St s ksw A B γ e μ Ps → l0 ∉ Ps.flatten → μ[l0]? = some (.lst (lv rq acc)) → (∀ y ∈ acc, rq.ok y) → acc.length + xs.length ≤ lim → ∀ ys γ', lcE set tc te xs γ = .ok ys γ' →
      ∃ μ' Ps', lcL gd l0 tg t el (lv rp xs) e μ = .ok () μ' ∧ μ'[l0]? = some (.lst (lv rq (acc ++ ys))) ∧ okL rq (acc ++ ys) ∧ St s ksw A B γ' e μ' Ps' ∧ (μ.length ≤ μ'.length ∧ (∀ l, l < μ.length → l ∉ Ps.flatten → l ≠ l0 → μ'[l]? = μ[l]?) ∧ ∀ l ∈ Ps'.flatten, l ∈ Ps.flatten ∨ μ.length ≤ l) ∧ l0 ∉ Ps'.flatten := by
  intro xs
  have gk : ∀ {μ : Mem}, (gd = Option.none ∨ ∃ l us, gd = some (l, us) ∧ l ∈ B ∧ μ[l]? = some (.lst us)) → GOk gd μ := fun {μ} h => by
    rcases h with rfl | ⟨l, vs, rfl, _, h⟩
    · trivial
    · exact h
  induction xs with
  | nil =>
    intro _ γ μ Ps acc hgd st hl0 hac hacc hl ys γ' hy
    cases hy
    refine ⟨μ, Ps, lcL_nil (gk hgd), by rw [List.append_nil]; exact hac, by rw [List.append_nil]; exact ⟨by simpa using hl, hacc⟩, st, ⟨Nat.le_refl _, fun _ _ _ _ => rfl, fun l h => .inl h⟩, hl0⟩
  | cons x r ih =>
    intro hok γ μ Ps acc hgd st hl0 hac hacc hl ys γ' hy
    rw [List.length_cons] at hl
    have hlt : l0 < μ.length := (List.getElem?_eq_some_iff.mp hac).1
    obtain ⟨e1, P1, h1, h2, h3⟩ := hg A B γ e μ Ps (.d (rp.enc x)) x st ⟨rfl, hok x (List.mem_cons_self ..)⟩
    have hl1 : l0 ∉ P1.flatten := fun z => by
      rcases h3.sub l0 z with w | w
      · exact hl0 w
      · omega
    have c := hc A B _ e1 _ P1 h2
    have hy : ((tc (set x γ)).bind fun b γ => if b = true then (te γ).bind fun y γ => (lcE set tc te r γ).bind fun ys γ => .ok (y :: ys) γ else lcE set tc te r γ) = .ok ys γ' := hy
    have ih := ih fun z hz => hok z (List.mem_cons_of_mem _ hz)
    -- back to the walk's environment
    have toE : ∀ {γ : HL Ts} {μ : Mem} {Q : List (List Nat)}, St s ks1 A B γ e1 μ Q → ∃ Q', St s ksw A B γ e μ Q' ∧ Fr μ Q μ Q' := fun {γ μ Q} st => by
      obtain ⟨Q', j1, j2⟩ := st.wk hw
      obtain ⟨d1, d2⟩ := hd _ _ _ h1
      exact ⟨Q', ⟨j1.r.env d1.symm fun i => by
        rcases d2 i with z | z
        · exact .inl z
        · exact .inr z.symm, j1.nd, j1.nb, j1.lb⟩, j2⟩
    show ∃ μ' Ps', lcL gd l0 tg t el (.d (rp.enc x) :: lv rp r) e μ = _ ∧ _
    cases htc : tc (set x γ) with
    | ok b γ1 =>
      rw [htc] at c hy
      obtain ⟨v, μ1, Q1, c1, c2, c3, c4⟩ := c
      obtain rfl : v = b := c2
      have hgd1 : gd = Option.none ∨ ∃ l us, gd = some (l, us) ∧ l ∈ B ∧ μ1[l]? = some (.lst us) := by
        rcases hgd with z | ⟨l, us, z1, z2, z3⟩
        · exact .inl z
        · exact .inr ⟨l, us, z1, z2, by rw [c4.keep l (st.lb l z2) fun w => h2.nb l w z2]; exact z3⟩
      have hac1 : μ1[l0]? = some (.lst (lv rq acc)) := by
        rw [c4.keep l0 hlt hl1]
        exact hac
      have hq1 : l0 ∉ Q1.flatten := fun z => by
        rcases c4.sub l0 z with w | w
        · exact hl1 w
        · omega
      have f1 := h3.trans c4
      rw [ER.bind_ok] at hy
      cases v with
      | false =>
        rw [if_neg Bool.false_ne_true] at hy
        obtain ⟨Q2, j1, j2⟩ := toE c3
        obtain ⟨μ', Ps', k1, k2, k3, k4, ⟨k5, k6, k7⟩, k8⟩ := ih γ1 μ1 Q2 acc hgd1 j1 (fun z => by
          rcases j2.sub l0 z with w | w
          · exact hq1 w
          · have := f1.le; omega) hac1 hacc (by omega) ys γ' hy
        have f2 := f1.trans j2
        have sk : lcL gd l0 tg t el (.d (rp.enc x) :: lv rp r) e μ = lcL gd l0 tg t el (lv rp r) e μ1 := by
          rw [lcL, if_pos (gk hgd), h1]
          dsimp only
          rw [c1]
          rfl
        refine ⟨μ', Ps', by rw [sk]; exact k1, k2, k3, k4, ⟨Nat.le_trans f2.le k5, fun l q1 q2 q3 => ?_, fun l hl => ?_⟩, k8⟩
        · rw [k6 l (Nat.lt_of_lt_of_le q1 f2.le) (fun z => by
            rcases f2.sub l z with w | w
            · exact q2 w
            · omega) q3]
          exact f1.keep l q1 q2
        · rcases k7 l hl with w | w
          · exact f2.sub l w
          · exact .inr (Nat.le_trans f2.le w)
      | true =>
        rw [if_pos rfl] at hy
        have el' := he A B _ e1 _ Q1 c3
        cases hte : te γ1 with
        | ok y γ2 =>
          rw [hte] at el' hy
          obtain ⟨u, μ2, Q2, d1, ⟨rfl, d2⟩, d3, d4⟩ := el'
          rw [ER.bind_ok] at hy
          cases hr : lcE set tc te r γ2 with
          | ok zs γ3 =>
            rw [hr] at hy
            cases hy
            have f2 := f1.trans d4
            have hl1' : l0 < μ1.length := Nat.lt_of_lt_of_le hlt f1.le
            have hac2 : μ2[l0]? = some (.lst (lv rq acc)) := by
              rw [d4.keep l0 hl1' hq1]
              exact hac1
            have hq2 : l0 ∉ Q2.flatten := fun z => by
              rcases d4.sub l0 z with w | w
              · exact hq1 w
              · omega
            have hlt2 : l0 < μ2.length := Nat.lt_of_lt_of_le hlt f2.le
            obtain ⟨Q3, j1, j2⟩ := toE d3
            have hq3 : l0 ∉ Q3.flatten := fun z => by
              rcases j2.sub l0 z with w | w
              · exact hq2 w
              · omega
            have st3 := j1.setAt (c := .lst (lv rq (acc ++ [y]))) hq3 hlB
            have f3 := f2.trans j2
            have hgd2 : gd = Option.none ∨ ∃ l us, gd = some (l, us) ∧ l ∈ B ∧ (μ2.set l0 (.lst (lv rq (acc ++ [y]))))[l]? = some (.lst us) := by
              rcases hgd1 with z | ⟨l, us, z1, z2, z3⟩
              · exact .inl z
              · refine .inr ⟨l, us, z1, z2, ?_⟩
                rw [List.getElem?_set_ne (fun w => hlB (by rw [w]; exact z2)), d4.keep l (c3.lb l z2) fun w => c3.nb l w z2]
                exact z3
            obtain ⟨μ', Ps', k1, k2, k3, k4, ⟨k5, k6, k7⟩, k8⟩ := ih γ2 _ Q3 (acc ++ [y]) hgd2 st3 hq3 (List.getElem?_set_self hlt2) (fun z hz => by
              rcases List.mem_append.mp hz with w | w
              · exact hacc z w
              · rw [List.mem_singleton.mp w]
                exact d2) (by rw [List.length_append, List.length_singleton]; omega) zs _ hr
            rw [List.append_assoc] at k2 k3
            have tk : lcL gd l0 tg t el (.d (rp.enc x) :: lv rp r) e μ = lcL gd l0 tg t el (lv rp r) e (μ2.set l0 (.lst (lv rq (acc ++ [y])))) := by
              rw [lcL, if_pos (gk hgd), h1]
              dsimp only
              rw [c1]
              dsimp only
              rw [if_pos rfl, d1]
              dsimp only
              rw [hac2]
              dsimp only
              rw [if_pos (by rw [lv_len]; have := lim_eq; omega), lv_app]
              rfl
            rw [List.length_set] at k5 k6 k7
            refine ⟨μ', Ps', by rw [tk]; exact k1, k2, k3, k4, ⟨Nat.le_trans f2.le k5, fun l q1 q2 q3 => ?_, fun l hl => ?_⟩, k8⟩
            · rw [k6 l (Nat.lt_of_lt_of_le q1 f2.le) (fun z => by
                rcases f3.sub l z with w | w
                · exact q2 w
                · omega) q3, List.getElem?_set_ne (Ne.symm q3)]
              exact f2.keep l q1 q2
            · rcases k7 l hl with w | w
              · exact f3.sub l w
              · exact .inr (Nat.le_trans f2.le w)
          | exc c' p γ3 =>
            rw [hr] at hy
            cases hy
          | bad =>
            rw [hr] at hy
            cases hy
        | exc c' p γ2 =>
          rw [hte] at hy
          cases hy
        | bad =>
          rw [hte] at hy
          cases hy
    | exc c' p γ1 =>
      rw [htc] at hy
      cases hy
    | bad =>
      rw [htc] at hy
      cases hy
end
end Fs
namespace Fs
open PySem PySem.Spec L2
section
variable {Ts Us : List Type} {s : SL Ts} {ks kr kx ks' : List Kd} {α β ρ : Type} {rp : Rp α} {rq : Rp β} {n : Nat}
@[simp] theorem enc_int (i : Int) : tyInt.enc i = .int i := rfl
@[simp] theorem enc_bool (i : Bool) : tyBool.enc i = .bool i := rfl
@[simp] theorem enc_str (i : Str) : tyStr.enc i = .str i := rfl
@[simp] theorem enc_none (i : Unit) : tyNone.enc i = .none := rfl
@[simp] theorem enc_data (i : Data) : tyData.enc i = i := rfl
@[simp] theorem enc_some (a : α) : (tyOpt rp).enc (some a) = rp.enc a := rfl
@[simp] theorem enc_onone : (tyOpt rp).enc Option.none = .none := rfl
@[simp] theorem enc_list (xs : List α) : (tyList rp).enc xs = .list (xs.map rp.enc) := rfl
@[simp] theorem enc_tl (xs : List α) : (tyTl rp).enc xs = .tup (xs.map rp.enc) := rfl
@[simp] theorem enc_tup {al : SL Us} (x : HL Us) : (tyTup al).enc x = .tup (encs al x) := rfl
@[simp] theorem encs_nil (x : HL []) : encs .nil x = [] := rfl
@[simp] theorem encs_cons {al : SL Us} (x : HL (α :: Us)) : encs (.cons rp al) x = rp.enc x.1 :: encs al x.2 := rfl
def Cast (rp : Rp α) (rq : Rp β) (op : α → PR β) : Prop := ∀ v a, Fz rp v a → match op a with
  | .ok b => Fz rq v b
  | .exc _ _ => False
  | .bad => True
theorem rf_cast {m : EM} {t : HL Ts → PR α} {op : α → PR β} (c : Cast rp rq op) (h : RfC s ks m (Fz rp) t) : RfC s ks m (Fz rq) (c1 op t) := fun A B γ e μ Ps st => by
  have h := h A B γ e μ Ps st
  show OkC μ (m e μ) _ ((t γ).bind op)
  cases ht : t γ with
  | ok a =>
    rw [ht] at h
    obtain ⟨v, h1, h2⟩ := h
    have c := c v a h2
    rw [PR.bind_ok]
    cases ho : op a with
    | ok b =>
      rw [ho] at c
      exact ⟨v, h1, c⟩
    | exc c' p =>
      rw [ho] at c
      exact c.elim
    | bad => trivial
  | exc c p =>
    rw [ht] at h
    exact h
  | bad => trivial
structure Up (rp : Rp α) (rq : Rp β) (c : α → β) : Prop where
  enc : ∀ a, rp.ok a → rq.enc (c a) = rp.enc a
  ok : ∀ a, rp.ok a → rq.ok (c a)
theorem Up.cast {c : α → β} (u : Up rp rq c) : Cast rp rq fun a => .ok (c a) := fun v a h => ⟨by rw [u.enc a h.2]; exact h.1, u.ok a h.2⟩
theorem up_id : Up rp rp (fun a => a) := ⟨fun _ _ => rfl, fun _ h => h⟩
theorem up_data : Up rp tyData rp.enc := ⟨fun _ _ => rfl, fun _ _ => trivial⟩
theorem up_some {c : α → β} (u : Up rp rq c) : Up rp (tyOpt rq) (fun a => some (c a)) := ⟨fun a h => u.enc a h, fun a h b e => by cases e; exact u.ok a h⟩
theorem up_none : Up tyNone (tyOpt rp) (fun _ => Option.none) := ⟨fun _ _ => rfl, fun _ _ a e => by cases e⟩
def Row {Us : List Type} (al : SL Us) (rq : Rp β) (c : HL Us → List β) : Prop := ∀ a, oks al a → (c a).map rq.enc = encs al a ∧ (∀ y ∈ c a, rq.ok y) ∧ (c a).length = Us.length
structure Dc (rp : Rp α) (dec : Data → Option α) : Prop where
  of : ∀ d a, dec d = some a → rp.enc a = d ∧ rp.ok a
theorem dn_data {dec : Data → Option α} (c : Dc rp dec) : Cast tyData rp fun d => ofO (dec d) := fun v d h => by
  obtain ⟨rfl, _⟩ := h
  dsimp only
  cases hd : dec d with
  | none => trivial
  | some a =>
    obtain ⟨h1, h2⟩ := c.of d a hd
    exact ⟨by rw [h1]; rfl, h2⟩
def decInt : Data → Option Int
  | .int i => some i
  | _ => Option.none
def decAll {α : Type} (dec : Data → Option α) : List Data → Option (List α)
  | [] => some []
  | d :: r => (dec d).bind fun a => (decAll dec r).map (a :: ·)
def decTl {α : Type} (dec : Data → Option α) : Data → Option (List α)
  | .tup ds => if ds.length ≤ lim then decAll dec ds else Option.none
  | _ => Option.none
theorem dc_int : Dc tyInt decInt := ⟨fun d a h => by
  cases d <;> first | (cases h; exact ⟨rfl, trivial⟩) | cases h⟩
theorem dc_all {dec : Data → Option α} (c : Dc rp dec) : ∀ (ds : List Data) (xs : List α), decAll dec ds = some xs → xs.map rp.enc = ds ∧ (∀ x ∈ xs, rp.ok x)
  | [], xs, h => by
    cases h
    exact ⟨rfl, fun x hx => by cases hx⟩
  | d :: r, xs, h => by
    obtain ⟨a, h1, h2⟩ := Option.bind_eq_some_iff.mp (show (dec d).bind (fun a => (decAll dec r).map (a :: ·)) = some xs from h)
    obtain ⟨ys, h3, rfl⟩ := Option.map_eq_some_iff.mp h2
    obtain ⟨k1, k2⟩ := dc_all c r ys h3
    obtain ⟨j1, j2⟩ := c.of d a h1
    refine ⟨by rw [List.map_cons, k1, j1], fun x hx => ?_⟩
    rcases List.mem_cons.mp hx with rfl | hx
    · exact j2
    · exact k2 x hx
theorem dc_tl {dec : Data → Option α} (c : Dc rp dec) : Dc (tyTl rp) (decTl dec) := ⟨fun d a h => by
  cases d with
  | tup ds =>
    unfold decTl at h
    dsimp only at h
    split at h
    · rename_i hl
      obtain ⟨k1, k2⟩ := dc_all c ds a h
      refine ⟨by rw [enc_tl, k1], ?_, k2⟩
      rw [← k1, List.length_map] at hl
      exact hl
    · cases h
  | _ => cases h⟩
def decOpt {α : Type} (dec : Data → Option α) : Data → Option (Option α)
  | .none => some Option.none
  | d => (dec d).map some
theorem dc_opt {dec : Data → Option α} (c : Dc rp dec) : Dc (tyOpt rp) (decOpt dec) := ⟨fun d a h => by
  have gen : ∀ d : Data, (dec d).map some = some a → (tyOpt rp).enc a = d ∧ (tyOpt rp).ok a := fun d h => by
    obtain ⟨b, h1, rfl⟩ := Option.map_eq_some_iff.mp h
    obtain ⟨k1, k2⟩ := c.of d b h1
    exact ⟨k1, fun z e => by cases e; exact k2⟩
  cases d with
  | none =>
    cases h
    exact ⟨rfl, fun z e => by cases e⟩
  | _ => exact gen _ h⟩
def kindD (d : Data) : Option String := kind [] (.d d)
def oIsi (b : String) (d : Data) : PR Bool := match kindD d with
  | some t => .ok (subK t b)
  | Option.none => .bad
def Knd (rp : Rp α) (n : Nat) : Prop := ∀ μ v a q, Vw rp n μ v a q → kind μ v = kindD (rp.enc a)
theorem kind_d (μ : Mem) (d : Data) : kind μ (.d d) = kindD d := by cases d <;> rfl
theorem knd_imm {enc : α → Data} {ok : α → Prop} : Knd (imm enc ok) n := fun μ v a q h => by
  obtain ⟨rfl, _⟩ := h.imm
  exact kind_d _ _
theorem knd_list : Knd (tyList rp) n := fun μ v a q h => by
  rcases h with ⟨⟨rfl, k⟩, _⟩ | ⟨k, l, rfl, h, _⟩
  · exact kind_d _ _
  · show (match μ[l]? with
      | some (.lst _) => some "list"
      | some (.dk _) => some "dict"
      | some (.dt _) => some "dict"
      | _ => Option.none) = _
    rw [h]
    rfl
theorem rf_isi {b : String} {m : EM} {t : HL Ts → PR α} (k : Knd rp n) (h : RfW s ks n m rp t) : RfC s ks (eIsi b m) (Fz tyBool) (c1 (fun a => oIsi b (rp.enc a)) t) := fun A B γ e μ Ps st => (h A B γ e μ Ps st).bind fun v a q hv _ => by
  rw [k μ v a q hv]
  unfold oIsi
  cases kindD (rp.enc a) with
  | none => trivial
  | some t => exact okOp (rq := tyBool) trivial
@[simp] def oJoin (a : Str) (xs : List Str) : PR Str := if lim < (xs.map Str.length).sum + xs.length * a.length then .bad else .ok (Txt.join a xs)
def seqD : Data → Option (List Data)
  | .list ds => some ds
  | .tup ds => some ds
  | _ => Option.none
def oLenD (d : Data) : PR Int := match d with
  | .str x => if 16777216 < x.length then .bad else .ok x.length
  | d => match seqD d with
    | some ds => .ok ds.length
    | Option.none => .bad
def oIdxD (d : Data) (i : Int) : PR Data := match d with
  | .str x => if 16777216 < x.length then .bad else ofO ((L2.atI x.cps.toList i).map fun c => .str (sgS c))
  | d => match seqD d with
    | some ds => ofO (L2.atI ds i)
    | Option.none => .bad
theorem seqV_D (μ : Mem) (d : Data) : seqV μ (.d d) = (seqD d).map fun ds => ds.map Val.d := by cases d <;> rfl
theorem op_oLenD : Op1 n tyData (fun v μ => lenV [v] μ) tyInt oLenD := by
  intro μ v a q h
  obtain ⟨rfl, _⟩ := h.imm
  show OkC μ (lenV [.d a] μ) _ (oLenD a)
  by_cases hs : ∃ x, a = .str x
  · obtain ⟨x, rfl⟩ := hs
    show OkC μ (if 16777216 < x.length then Res.bad else Res.ok (Val.d (Data.int x.length)) μ) _ (if 16777216 < x.length then PR.bad else PR.ok (x.length : Int))
    split
    · trivial
    · exact okOp (rq := tyInt) trivial
  · have e2 : oLenD a = (match seqD a with
      | some ds => PR.ok (ds.length : Int)
      | Option.none => .bad) := by
      cases a with
      | str x => exact absurd ⟨x, rfl⟩ hs
      | _ => rfl
    rw [e2]
    cases hd : seqD a with
    | none => trivial
    | some ds =>
      rw [lenV_seq (vs := ds.map .d) (by rw [seqV_D, hd]; rfl) (fun z e => hs ⟨z, by cases e; rfl⟩), List.length_map]
      exact okOp (rq := tyInt) trivial
end
end Fs
namespace Fs
open PySem PySem.Spec L2
section
variable {Ts Us : List Type} {s : SL Ts} {ks kr kx ks' k0 kds : List Kd} {al : SL Us} {α β ρ : Type} {rp : Rp α} {rq : Rp ρ} {n : Nat} {rm : Rm}
theorem rs_retN {m : EM} {t : HL Ts → ER (HL Ts) ρ} (h : RfN s ks n m rq t) (hr : wkB ks kr = true) (hx : wkB ks kx = true) : RfS s ks kr kx ks' (.new n) rq (sRet m) (tRet t) := fun A B γ e μ Ps st =>
  (h A B γ e μ Ps st).st (f := fun v m => .ret v m) hx fun v a γ' μ' Ps' fp hv hf st' f => by
    obtain ⟨Q, h1, h2⟩ := st'.wk hr
    exact ⟨v, e, μ', Q, rfl, ⟨fp, hv, hf.nd, fun l hl => ⟨fun z => by
      rcases h2.sub l z with w | w
      · exact (hf.out l hl).1 w
      · have := (rq.lt hv l hl)
        omega, (hf.out l hl).2⟩, hf.sub⟩, h1, f.trans h2⟩
theorem rs_retO {i : Nat} {g : HL Ts → ρ} {p : ρ → HL Ts → HL Ts} (ix : Ix rq s i g p) (hk : ks[i]? = some (.own n)) (hr : wkB (ks.set i .dead) kr = true) : RfS s ks kr kx ks' (.new n) rq (sRet (eVar i)) (tRet fun γ => .ok (g γ) γ) := fun A B γ e μ Ps st => by
  obtain ⟨k1, y, x, fp, e1, e2, e3, e4, h5⟩ := ix.get st.r
  rw [hk] at e1
  cases e1
  obtain ⟨v, rfl, hv⟩ := h5
  obtain ⟨st1, f1⟩ := st.kill ix (g γ)
  rw [ix.eta] at st1
  obtain ⟨Q, h1, h2⟩ := st1.wk hr
  have pm := flat_self e4
  have nd := List.nodup_append.mp (pm.nodup_iff.mp st.nd)
  refine ⟨v, e, μ, Q, ?_, ⟨fp, hv, nd.1, fun l hl => ⟨fun z => ?_, st.nb l (mem_flat e4 hl)⟩, fun l hl => .inl (mem_flat e4 hl)⟩, h1, f1.trans h2⟩
  · show (eVar i e μ).st e _ = _
    rw [eVar_of e3 (rq.nrm hv)]
    rfl
  · rcases h2.sub l z with w | w
    · exact nd.2.2 l hl l w rfl
    · have := rq.lt hv l hl
      omega
@[simp] def tPre {Γ : Type} (p : Γ → Γ) (a : Γ → SR Γ ρ) (γ : Γ) : SR Γ ρ := a (p γ)
theorem rx_argB {i n n' : Nat} {g : HL Ts → α} {oa : HL Us → α} {io : Bool} {rp' : Rp β} {m : EM} {mr : AM} {t : HL Ts → ER (HL Ts) β} {tr : HL Ts → ER (HL Ts) (HL Ts → HL Us)} (h : RfE s ks m (Fz rp') t) (k : RfX s ks i n rp g mr al kds oa io tr) : RfX s ks i n rp g (aCons m mr) (.cons rp' al) (.bor n' :: kds) (fun as => oa as.2) io (xaCons t tr) := fun A B γ e μ Ps st => by
  have h := h A B γ e μ Ps st
  show OkX (Us := β :: Us) s ks A B e μ Ps i n rp g ((m e μ).bind fun x μ => (mr e μ).bind fun xs μ => .ok (x :: xs) μ) _ _ _ _ ((t γ).bind fun a γ => (tr γ).bind fun fr γ => .ok (fun γ' => (a, fr γ')) γ)
  cases ht : t γ with
  | ok a γ' =>
    rw [ht] at h
    obtain ⟨v, μ', Ps', h1, h2, h3, h4⟩ := h
    rw [h1, Res.bind_ok, ER.bind_ok]
    have c := (k A B γ' e μ' Ps' h3).cons (rp' := rp') (kd := .bor n') (v := v) (a := fun _ => a) (io' := io) (ob := fun as => oa as.2) fun vs fa ax => ⟨fun A B γ μ Ps fp u st e1 e2 ow => by
      obtain ⟨fps, z1, z2⟩ := ax.sem A B γ μ Ps fp u st e1 e2 ow
      exact ⟨[] :: fps, ⟨⟨⟨v, [], rfl, h2.vw n' μ, fun l hl => by cases hl⟩, rfl⟩, z1⟩, by rw [List.flatten_cons, z2]; rfl⟩, fun B μ as fps u e1 h => by
      obtain ⟨k', ks', y, A', x, e', fp, Ps', q1, q2, q3, rfl, q4, q5⟩ := h.inv
      rw [List.map_cons] at q2 q3
      cases q1
      cases q2
      cases q3
      obtain ⟨_, rfl⟩ := q4
      exact ax.back B μ as.2 Ps' u e1 q5⟩
    cases hr : tr γ' with
    | ok fa γ2 =>
      rw [hr] at c
      obtain ⟨vs, μ2, Ps2, c1, c2, c3, c4⟩ := c
      exact ⟨vs, μ2, Ps2, c1, c2, c3, h4.trans c4⟩
    | exc c' p γ2 =>
      rw [hr] at c
      obtain ⟨μ2, Ps2, c1, c3, c4⟩ := c
      exact ⟨μ2, Ps2, c1, c3, h4.trans c4⟩
    | bad => trivial
  | exc c p γ' =>
    rw [ht] at h
    obtain ⟨μ', Ps', h1, h3, h4⟩ := h
    rw [h1]
    exact ⟨μ', Ps', rfl, h3, h4⟩
  | bad => trivial
end
theorem law_end {Ts : List Type} {F : Fn} {body : HL Ts → SR (HL Ts) Bool} {f : HL [List Int] → HL Ts} {o : HL [List Int] → HL Ts → HL [List Int]} {fin : Option Bool} (h : CE (.cons tyScr .nil) [.bor 0] .frz F tyBool (runE body f o fin)) {ns : List Int} (hl : ns.length ≤ 63) (hc : runC body f fin (ns, ()) = .ok true) : ∃ m, F [.ro ns] [] = .ok (.d (.bool true)) m := by
  have st : St (.cons tyScr .nil) [.bor 0] ([Val.ro ns].map some) [] ((ns, ()) : HL [List Int]) ([Val.ro ns].map some) [] [[]] := ⟨⟨⟨⟨.ro ns, [], rfl, .inr ⟨rfl, hl, rfl⟩, fun l hl => hl⟩, rfl⟩, trivial⟩, by simp, by simp, by simp⟩
  have h := h [] [] [.ro ns] (ns, ()) [[]] st
  rw [runC_eq body f o fin (ns, ())] at hc
  cases hr : runE body f o fin (ns, ()) with
  | ok r as =>
    rw [hr] at h hc
    obtain ⟨v, μ', fps', h1, ⟨rfl, _⟩, _, _⟩ := h
    have hc : PR.ok r = .ok true := hc
    cases hc
    exact ⟨μ', h1⟩
  | exc c p as =>
    rw [hr] at hc
    cases hc
  | bad =>
    rw [hr] at hc
    cases hc
end Fs
namespace Fs
open PySem PySem.Spec L2
section
variable {Ts : List Type} {s : SL Ts} {ks kr kx ks1 : List Kd} {α β ρ : Type} {rp : Rp α} {rq : Rp β} {rr : Rp ρ} {rm : Rm}
@[simp] def tRaise (c : Nat) (enc : α → Data) (t : HL Ts → ER (HL Ts) α) (γ : HL Ts) : SR (HL Ts) ρ := (t γ).st fun a γ => .exc c [enc a] γ
theorem rs_raise {c : Nat} {m : EM} {t : HL Ts → ER (HL Ts) α} {ks' : List Kd} (h : RfE s ks m (Fz rp) t) (hx : wkB ks kx = true) : RfS s ks kr kx ks' rm rr (sRaise c m) (tRaise c rp.enc t) := fun A B γ e μ Ps st =>
  (h A B γ e μ Ps st).st (f := fun v m => raiV c v e m) hx fun v a γ' μ' Ps' hv st' => by
    obtain ⟨rfl, _⟩ := hv
    obtain ⟨Q, h5, h6⟩ := st'.wk hx
    exact ⟨e, μ', Q, rfl, h5, h6⟩
@[simp] def tBad (γ : HL Ts) : SR (HL Ts) ρ := .bad
end
end Fs
namespace Fs
open PySem PySem.Spec L2
def fldR {α : Type} (o : Option Nat) (rp : Rp α) (m : Mem) (v : Val) (a : α) (p : List Nat) : Prop := match o with
  | Option.none => Fz rp v a ∧ p = []
  | some k => rp.own k m v a p
def ownFs (m : Mem) : {Us : List Type} → SL Us → List (Option Nat) → Nat → List Val → HL Us → List Nat → Prop
  | _, _, _, 0, vs, _, fp => vs = [] ∧ fp = []
  | _, .cons rp al, o :: os, n + 1, v :: vs, γ, fp => ∃ p q, fp = p ++ q ∧ fldR o rp m v γ.1 p ∧ ownFs m al os n vs γ.2 q
  | _, _, _, _, _, _, _ => False
theorem ownFs.loc {m m' : Mem} : ∀ {Us : List Type} {al : SL Us} {os : List (Option Nat)} {n : Nat} {vs : List Val} {γ : HL Us} {fp : List Nat}, ownFs m al os n vs γ fp → (∀ l ∈ fp, m'[l]? = m[l]?) → ownFs m' al os n vs γ fp := by
  intro Us al
  induction al with
  | nil =>
    intro os n vs γ fp h k
    cases n with
    | zero => simpa [ownFs] using h
    | succ n => simp [ownFs] at h
  | cons rp al ih =>
    intro os n vs γ fp h k
    cases n with
    | zero => simpa [ownFs] using h
    | succ n =>
      cases os with
      | nil => simp [ownFs] at h
      | cons o os =>
        cases vs with
        | nil => simp [ownFs] at h
        | cons v vs =>
          obtain ⟨p, q, rfl, h1, h2⟩ := h
          refine ⟨p, q, rfl, ?_, ih h2 fun l hl => k l (List.mem_append_right _ hl)⟩
          cases o with
          | none => exact h1
          | some z => exact rp.loc h1 fun l hl => k l (List.mem_append_left _ hl)
theorem ownFs.lt {m : Mem} : ∀ {Us : List Type} {al : SL Us} {os : List (Option Nat)} {n : Nat} {vs : List Val} {γ : HL Us} {fp : List Nat}, ownFs m al os n vs γ fp → ∀ l ∈ fp, l < m.length := by
  intro Us al
  induction al with
  | nil =>
    intro os n vs γ fp h l hl
    cases n with
    | zero =>
      obtain ⟨_, rfl⟩ : vs = [] ∧ fp = [] := by simpa [ownFs] using h
      cases hl
    | succ n => simp [ownFs] at h
  | cons rp al ih =>
    intro os n vs γ fp h l hl
    cases n with
    | zero =>
      obtain ⟨_, rfl⟩ : vs = [] ∧ fp = [] := by simpa [ownFs] using h
      cases hl
    | succ n =>
      cases os with
      | nil => simp [ownFs] at h
      | cons o os =>
        cases vs with
        | nil => simp [ownFs] at h
        | cons v vs =>
          obtain ⟨p, q, rfl, h1, h2⟩ := h
          rcases List.mem_append.mp hl with hl | hl
          · cases o with
            | none =>
              obtain ⟨_, rfl⟩ := h1
              cases hl
            | some z => exact rp.lt h1 l hl
          · exact ih h2 l hl
def tyIns {Us : List Type} (c : Nat) (al : SL Us) (os : List (Option Nat)) : Rp (HL Us) where
  enc γ := .ins c (encs al γ)
  ok := oks al
  own n m v γ fp := ∃ l vs q, v = .loc l ∧ m[l]? = some (.ins c vs) ∧ fp = l :: q ∧ ownFs m al os n vs γ q ∧ fp.Nodup
  loc := by
    rintro n m m' v γ fp ⟨l, vs, q, rfl, h, rfl, k, nd⟩ e
    exact ⟨l, vs, q, rfl, by rw [e l (List.mem_cons_self ..)]; exact h, rfl, k.loc (fun j hj => e j (List.mem_cons_of_mem _ hj)), nd⟩
  lt := by
    rintro n m v γ fp ⟨l, vs, q, rfl, h, rfl, k, nd⟩ j hj
    rcases List.mem_cons.mp hj with rfl | hj
    · exact (List.getElem?_eq_some_iff.mp h).1
    · exact k.lt j hj
  nrm := by
    rintro n m v γ fp ⟨l, vs, q, rfl, h, rfl, k, nd⟩
    show (match m[l]? with
      | some (.frz x) => Val.d x
      | _ => Val.loc l) = _
    rw [h]
end Fs
namespace Fs
open PySem PySem.Spec L2
theorem zip_look {κ α : Type} [BEq κ] [LawfulBEq κ] {f : κ} : ∀ {ks : List κ} {xs : List α} {i : Nat} {x : α}, ks.Nodup → ks[i]? = some f → xs[i]? = some x → (ks.zip xs).lookup f = some x
  | [], _, _, _, _, h, _ => by simp at h
  | _ :: _, [], _, _, _, _, h => by simp at h
  | k :: ks, y :: xs, 0, x, _, h, e => by
    have h : k = f := by simpa using h
    have e : y = x := by simpa using e
    subst h e
    rw [List.zip_cons_cons, List.lookup_cons, beq_self_eq_true]
  | k :: ks, y :: xs, i + 1, x, nd, h, e => by
    have h : ks[i]? = some f := h
    have hk : (f == k) = false := by
      apply beq_eq_false_iff_ne.mpr
      intro z
      subst z
      exact (List.nodup_cons.mp nd).1 (List.mem_of_getElem? h)
    rw [List.zip_cons_cons, List.lookup_cons, hk]
    exact zip_look (List.nodup_cons.mp nd).2 h (by simpa using e)
theorem fldOf_loc {c l : Nat} {m : Mem} {vs : List Val} (h : m[l]? = some (.ins c vs)) : fldOf m (.loc l) = some (c, vs) := by
  show (match m[l]? with
    | some (.ins c fs) => some (c, fs)
    | _ => Option.none) = _
  rw [h]
theorem getF_at {c : Nat} {f : Str} {x : Val} {m : Mem} {vs : List Val} {i : Nat} {v : Val} (hx : fldOf m x = some (c, vs)) (hf : (flds c)[i]? = some f) (hv : vs[i]? = some v) : getF [c] f x m = .ok (norm m v) m := by
  unfold getF
  rw [hx]
  dsimp only
  rw [if_pos (List.mem_singleton.mpr rfl), zip_look (flds_nodup c) hf hv]
section
variable {Ts Us Vs : List Type} {s : SL Ts} {ks : List Kd} {al : SL Us} {os : List (Option Nat)} {α β δ ρ : Type} {rp : Rp α} {rq : Rp ρ} {n c i j : Nat} {f : Str} {g : HL Us → α} {p : α → HL Us → HL Us}
theorem rf_fld {m : EM} {t : HL Ts → PR (HL Us)} (ix : Ix rp al i g p) (hf : (flds c)[i]? = some f) (h : RfC s ks m (Fz (tyIns c al os)) t) : RfC s ks (eUn (getF [c] f) m) (Fz rp) (c1 (fun x => .ok (g x)) t) := fun A B γ e μ Ps st =>
  (h A B γ e μ Ps st).bind fun v a hv => by
    obtain ⟨rfl, h1⟩ := hv
    have e1 := ix.encs a
    rw [getF_at (vs := (encs al a).map .d) (i := i) (v := .d (rp.enc (g a))) rfl hf (by rw [List.getElem?_map, e1]; rfl)]
    exact okOp (ix.oks h1)
theorem ownFs.get {m : Mem} : ∀ {Us : List Type} {al : SL Us} {i : Nat} {g : HL Us → α} {p : α → HL Us → HL Us} (_ : Ix rp al i g p) {os : List (Option Nat)} {n : Nat} {vs : List Val} {γ : HL Us} {fp : List Nat} {o : Option Nat}, ownFs m al os n vs γ fp → i < n → os[i]? = some o →
    ∃ v q, vs[i]? = some v ∧ (∀ l ∈ q, l ∈ fp) ∧ fldR o rp m v (g γ) q := by
  intro Us al i g p ix
  induction ix with
  | here =>
    intro os n vs γ fp o h hn ho
    cases n with
    | zero => omega
    | succ n =>
      cases os with
      | nil => simp at ho
      | cons b os =>
        cases vs with
        | nil => simp [ownFs] at h
        | cons v vs =>
          obtain ⟨p, q, rfl, h1, h2⟩ := h
          have ho : b = o := by simpa using ho
          subst ho
          exact ⟨v, p, rfl, fun l hl => List.mem_append_left _ hl, h1⟩
  | there ix ih =>
    intro os n vs γ fp o h hn ho
    cases n with
    | zero => omega
    | succ n =>
      cases os with
      | nil => simp at ho
      | cons b os =>
        cases vs with
        | nil => simp [ownFs] at h
        | cons v vs =>
          obtain ⟨p, q, rfl, h1, h2⟩ := h
          obtain ⟨v', q', e1, e2, e3⟩ := ih h2 (by omega) (by simpa using ho)
          exact ⟨v', q', by simpa using e1, fun l hl => List.mem_append_right _ (e2 l hl), e3⟩
theorem rf_fldW {m : EM} {t : HL Ts → PR (HL Us)} (ix : Ix rp al i g p) (hf : (flds c)[i]? = some f) (hn : i < n) (ho : os[i]? = some Option.none) (h : RfW s ks n m (tyIns c al os) t) : RfC s ks (eUn (getF [c] f) m) (Fz rp) (c1 (fun x => .ok (g x)) t) := fun A B γ e μ Ps st =>
  (h A B γ e μ Ps st).bind fun v a q hv _ => by
    rcases hv with ⟨⟨rfl, h1⟩, _⟩ | ⟨l, vs, q', rfl, h1, _, h2, _⟩
    · have e1 := ix.encs a
      rw [getF_at (vs := (encs al a).map .d) (i := i) (v := .d (rp.enc (g a))) rfl hf (by rw [List.getElem?_map, e1]; rfl)]
      exact okOp (ix.oks h1)
    · obtain ⟨v, q2, e1, _, e2⟩ := h2.get ix hn ho
      obtain ⟨⟨rfl, h3⟩, _⟩ := e2
      rw [getF_at (vs := vs) (i := i) (v := .d (rp.enc (g a))) (fldOf_loc h1) hf e1]
      exact okOp h3
theorem rf_fldV {k : Nat} {m : EM} {t : HL Ts → PR (HL Us)} (ix : Ix rp al i g p) (hf : (flds c)[i]? = some f) (hn : i < n) (ho : os[i]? = some (some k)) (h : RfW s ks n m (tyIns c al os) t) : RfW s ks k (eUn (getF [c] f) m) rp (c1 (fun x => .ok (g x)) t) := fun A B γ e μ Ps st =>
  (h A B γ e μ Ps st).bindW fun v a q hv hq => by
    rcases hv with ⟨⟨rfl, h1⟩, _⟩ | ⟨l, vs, q', rfl, h1, e0, h2, _⟩
    · have e1 := ix.encs a
      rw [getF_at (vs := (encs al a).map .d) (i := i) (v := .d (rp.enc (g a))) rfl hf (by rw [List.getElem?_map, e1]; rfl)]
      exact ⟨_, [], rfl, .inl ⟨⟨rfl, ix.oks h1⟩, rfl⟩, fun l hl => by cases hl⟩
    · obtain ⟨v, q2, e1, e3, e2⟩ := h2.get ix hn ho
      have e2 : rp.own k μ v (g a) q2 := e2
      rw [getF_at (vs := vs) (i := i) (v := v) (fldOf_loc h1) hf e1, rp.nrm e2]
      exact ⟨v, q2, rfl, .inr e2, fun x hx => hq x (by rw [e0]; exact List.mem_cons_of_mem _ (e3 x hx))⟩
def RfO (s : SL Ts) (ks : List Kd) (c : Nat) (m : EM) (t : HL Ts → PR β) : Prop := ∀ A B γ e μ Ps, St s ks A B γ e μ Ps → match t γ with
  | .ok a => ∃ v fs, m e μ = .ok v μ ∧ fldOf μ v = some (c, fs)
  | .exc k p => m e μ = .exc k p μ
  | .bad => True
theorem rfo_W {m : EM} {t : HL Ts → PR (HL Us)} (h : RfW s ks n m (tyIns c al os) t) : RfO s ks c m t := fun A B γ e μ Ps st => by
  have h := h A B γ e μ Ps st
  cases ht : t γ with
  | ok a =>
    rw [ht] at h
    obtain ⟨v, q, h1, h2, _⟩ := h
    rcases h2 with ⟨⟨rfl, h3⟩, _⟩ | ⟨l, vs, q', rfl, h3, e0, _, _⟩
    · exact ⟨_, _, h1, rfl⟩
    · refine ⟨_, vs, h1, ?_⟩
      show (match μ[l]? with
        | some (.ins c fs) => some (c, fs)
        | _ => Option.none) = _
      rw [h3]
  | exc k p =>
    rw [ht] at h
    exact h
  | bad => trivial
theorem rfo_C {m : EM} {t : HL Ts → PR (HL Us)} (h : RfC s ks m (Fz (tyIns c al os)) t) : RfO s ks c m t := rfo_W (h.w 0)
theorem meth_eq {fz : Bool} {N : Nat} {F : Fn} {mo : EM} {ma : AM} {e : Env} {μ : Mem} {v : Val} {fs : List Val} (h1 : mo e μ = .ok v μ) (h2 : fldOf μ v = some (c, fs)) : eMeth [(c, fz, N, F)] mo ma e μ = eCall N fz F (aCons mo ma) e μ := by
  have e1 : eMeth [(c, fz, N, F)] mo ma e μ = (mo e μ).bind fun x μ => match (fldOf μ x).bind fun p => [(c, fz, N, F)].lookup p.1 with
    | some (fz, n, f) => (ma e μ).bind fun xs μ => if xs.length + 1 = n then callF fz f (x :: xs) μ else .bad
    | Option.none => .bad := rfl
  have e2 : eCall N fz F (aCons mo ma) e μ = ((mo e μ).bind fun x μ => (ma e μ).bind fun xs μ => .ok (x :: xs) μ).bind fun xs μ => if xs.length = N then callF fz F xs μ else .bad := rfl
  rw [e1, e2, h1, Res.bind_ok, Res.bind_ok, h2]
  have e3 : ((some (c, fs)).bind fun p : Nat × List Val => [(c, fz, N, F)].lookup p.1) = some (fz, N, F) := by
    show List.lookup c [(c, fz, N, F)] = _
    rw [List.lookup_cons, beq_self_eq_true]
  rw [e3]
  cases ma e μ <;> rfl
theorem meth_exc {fz : Bool} {N : Nat} {F : Fn} {mo : EM} {ma : AM} {e : Env} {μ : Mem} {k : Nat} {p : List Data} (h1 : mo e μ = .exc k p μ) : eMeth [(c, fz, N, F)] mo ma e μ = eCall N fz F (aCons mo ma) e μ := by
  have e1 : eMeth [(c, fz, N, F)] mo ma e μ = (mo e μ).bind fun x μ => match (fldOf μ x).bind fun p => [(c, fz, N, F)].lookup p.1 with
    | some (fz, n, f) => (ma e μ).bind fun xs μ => if xs.length + 1 = n then callF fz f (x :: xs) μ else .bad
    | Option.none => .bad := rfl
  have e2 : eCall N fz F (aCons mo ma) e μ = ((mo e μ).bind fun x μ => (ma e μ).bind fun xs μ => .ok (x :: xs) μ).bind fun xs μ => if xs.length = N then callF fz F xs μ else .bad := rfl
  rw [e1, e2, h1]
  rfl
theorem rf_meth {fz : Bool} {N : Nat} {F : Fn} {mo : EM} {ma : AM} {to : HL Ts → PR β} {P : Val → δ → Prop} {t : HL Ts → PR δ} (ho : RfO s ks c mo to) (h : RfC s ks (eCall N fz F (aCons mo ma)) P t) (hb : ∀ γ, to γ = .bad → t γ = .bad) : RfC s ks (eMeth [(c, fz, N, F)] mo ma) P t := fun A B γ e μ Ps st => by
  have ho := ho A B γ e μ Ps st
  cases ht : to γ with
  | ok a =>
    rw [ht] at ho
    obtain ⟨v, fs, h1, h2⟩ := ho
    rw [meth_eq h1 h2]
    exact h A B γ e μ Ps st
  | exc k p =>
    rw [ht] at ho
    rw [meth_exc ho]
    exact h A B γ e μ Ps st
  | bad =>
    rw [hb γ ht]
    trivial
theorem rfx_meth {fz : Bool} {N : Nat} {F : Fn} {mo : EM} {ma : AM} {to : HL Ts → PR β} {P : Val → δ → Prop} {t : HL Ts → ER (HL Ts) δ} (ho : RfO s ks c mo to) (h : RfE s ks (eCall N fz F (aCons mo ma)) P t) (hb : ∀ γ, to γ = .bad → t γ = .bad) : RfE s ks (eMeth [(c, fz, N, F)] mo ma) P t := fun A B γ e μ Ps st => by
  have ho := ho A B γ e μ Ps st
  cases ht : to γ with
  | ok a =>
    rw [ht] at ho
    obtain ⟨v, fs, h1, h2⟩ := ho
    rw [meth_eq h1 h2]
    exact h A B γ e μ Ps st
  | exc k p =>
    rw [ht] at ho
    rw [meth_exc ho]
    exact h A B γ e μ Ps st
  | bad =>
    rw [hb γ ht]
    trivial
theorem rn_meth {fz : Bool} {N : Nat} {F : Fn} {mo : EM} {ma : AM} {to : HL Ts → PR β} {rr : Rp δ} {t : HL Ts → ER (HL Ts) δ} (ho : RfO s ks c mo to) (h : RfN s ks n (eCall N fz F (aCons mo ma)) rr t) (hb : ∀ γ, to γ = .bad → t γ = .bad) : RfN s ks n (eMeth [(c, fz, N, F)] mo ma) rr t := fun A B γ e μ Ps st => by
  have ho := ho A B γ e μ Ps st
  cases ht : to γ with
  | ok a =>
    rw [ht] at ho
    obtain ⟨v, fs, h1, h2⟩ := ho
    rw [meth_eq h1 h2]
    exact h A B γ e μ Ps st
  | exc k p =>
    rw [ht] at ho
    rw [meth_exc ho]
    exact h A B γ e μ Ps st
  | bad =>
    rw [hb γ ht]
    trivial
theorem cb_call {t : HL (β :: Vs) → PR ρ} {to : HL Ts → PR β} {tr : HL Ts → PR (HL Vs)} (γ : HL Ts) (h : to γ = .bad) : cCall t (cCons to tr) γ = .bad := by simp [h]
theorem nb_call {t : HL (β :: Vs) → ER (HL (β :: Vs)) ρ} {to : HL Ts → PR β} {tr : HL Ts → PR (HL Vs)} (γ : HL Ts) (h : to γ = .bad) : xCallN t (cCons to tr) γ = .bad := by simp [h]
@[simp] def cInO (neg : Bool) (t : HL [HL Us, α] → PR Bool) (ta : HL Ts → PR α) (tb : HL Ts → PR (HL Us)) (γ : HL Ts) : PR Bool := (ta γ).bind fun a => (tb γ).bind fun b => (t (b, a, ())).bind fun r => .ok (negB neg r)
def isTup : Data → Bool
  | .tup _ => true
  | _ => false
@[simp] def cOpO (enc : α → Data) (t : HL [HL Us, α] → PR ρ) (ta : HL Ts → PR (HL Us)) (tb : HL Ts → PR α) (γ : HL Ts) : PR ρ := (ta γ).bind fun a => (tb γ).bind fun b => if isTup (enc b) = true then t (a, b, ()) else .bad
theorem itOwn_at {c : Nat} {f : Str} {al : SL Us} {a : HL Us} {μ : Mem} {rp : Rp β} {g : HL Us → List β} {p : List β → HL Us → HL Us} (ix : Ix (tyList rp) al i g p) (hf : (flds c)[i]? = some f) : itOwn [(c, f)] (.d (.ins c (encs al a))) μ = some ⟨lv rp (g a), Option.none⟩ := by
  have e1 := ix.encs a
  have e2 := zip_look (xs := (encs al a).map Val.d) (x := .d ((tyList rp).enc (g a))) (flds_nodup c) hf (by rw [List.getElem?_map, e1]; rfl)
  show (match [(c, f)].lookup c with
    | some f => (((flds c).zip ((encs al a).map Val.d)).lookup f).bind fun u => itLst (norm μ u) μ
    | Option.none => Option.none) = _
  rw [List.lookup_cons, beq_self_eq_true]
  dsimp only
  rw [e2]
  show some (Its.mk (((g a).map rp.enc).map Val.d) Option.none) = _
  rw [lv_d]
theorem ri_own {rp : Rp β} {g : HL Us → List β} {p : List β → HL Us → HL Us} {m : EM} {t : HL Ts → ER (HL Ts) (HL Us)} (ix : Ix (tyList rp) al i g p) (hf : (flds c)[i]? = some f) (h : RfE s ks m (Fz (tyIns c al os)) t) : RfI s ks (iOf (itOwn [(c, f)]) m) rp (x1 (fun a => .ok (g a)) t) := ri_of h fun B μ v a hv => by
  obtain ⟨rfl, h1⟩ := hv
  exact ⟨_, itOwn_at ix hf, rfl, ix.oks h1, .inl rfl⟩
end
end Fs
namespace Fs
open PySem PySem.Spec L2
def CanF {ρ : Type} (rp : Rp ρ) (n d : Nat) : Prop := ∀ μ v a fp, rp.own n μ v a fp → rp.ok a ∧ ∃ μ', frzV d v μ = some (rp.enc a, μ') ∧ μ'.length = μ.length ∧ ∀ l, l ∉ fp → μ'[l]? = μ[l]?
theorem canF_list {α : Type} {rp : Rp α} {n d : Nat} : CanF (tyList rp) n (d + 1) := fun μ v a fp h => by
  obtain ⟨k, l, rfl, h, rfl⟩ := h
  refine ⟨k, μ.set l (.frz (.list (a.map rp.enc))), ?_, by simp, fun j hj => List.getElem?_set_ne fun z => hj (by simp [z])⟩
  unfold frzV
  simp only [h]
  rw [frzL_lv]
  simp only [Option.bind_some, h]
  rfl
theorem frzL_dv {α : Type} {rp : Rp α} (d : Nat) (m : Mem) (kvs : List (Str × α)) : frzL (frzV d) ((dv rp kvs).map (·.2)) m = some (kvs.map fun p => rp.enc p.2, m) := by
  have e : (dv rp kvs).map (·.2) = lv rp (kvs.map (·.2)) := by
    unfold dv lv
    rw [List.map_map, List.map_map]
    rfl
  rw [e, frzL_lv, List.map_map]
  rfl
theorem canF_dict {α : Type} {rp : Rp α} {n d : Nat} : CanF (tyDict rp) n (d + 1) := fun μ v a fp h => by
  obtain ⟨k, l, rfl, h, rfl⟩ := h
  have e0 : ((dv rp a).map (·.1)).zip (a.map fun p => rp.enc p.2) = a.map fun p => (.inr p.1, rp.enc p.2) := by
    unfold dv
    rw [List.map_map]
    clear h k
    induction a with
    | nil => rfl
    | cons x r ih => rw [List.map_cons, List.map_cons, List.map_cons, List.zip_cons_cons, ih]; rfl
  refine ⟨k, μ.set l (.frz (.dk (a.map fun p => (.inr p.1, rp.enc p.2)))), ?_, by simp, fun j hj => List.getElem?_set_ne fun z => hj (by simp [z])⟩
  unfold frzV
  simp only [h]
  rw [frzL_dv]
  simp only [Option.bind_some, h, e0]
  rfl
def CanFs : {Us : List Type} → SL Us → List (Option Nat) → Nat → Prop
  | _, .nil, _, _ => True
  | _, .cons rp al, o :: os, d => (∀ k, o = some k → CanF rp k d) ∧ CanFs al os d
  | _, .cons _ _, [], _ => False
theorem frzFs {d : Nat} : ∀ {Us : List Type} {al : SL Us} {os : List (Option Nat)}, CanFs al os d → ∀ {m : Mem} {vs : List Val} {γ : HL Us} {fp : List Nat}, ownFs m al os al.len vs γ fp → fp.Nodup →
    oks al γ ∧ ∃ m', frzL (frzV d) vs m = some (encs al γ, m') ∧ m'.length = m.length ∧ ∀ l, l ∉ fp → m'[l]? = m[l]? := by
  intro Us al
  induction al with
  | nil =>
    intro os _ m vs γ fp h _
    obtain ⟨rfl, rfl⟩ : vs = [] ∧ fp = [] := by simpa [ownFs, SL.len] using h
    exact ⟨trivial, m, rfl, rfl, fun _ _ => rfl⟩
  | cons rp al ih =>
    intro os hc m vs γ fp h nd
    cases os with
    | nil => exact hc.elim
    | cons o os =>
      obtain ⟨c1, c2⟩ := hc
      cases vs with
      | nil => simp [ownFs, SL.len] at h
      | cons v vs =>
        obtain ⟨p, q, rfl, h1, h2⟩ := h
        obtain ⟨nd1, nd2, nd3⟩ := List.nodup_append.mp nd
        have step : ∃ m1, rp.ok γ.1 ∧ frzV d v m = some (rp.enc γ.1, m1) ∧ m1.length = m.length ∧ ∀ l, l ∉ p → m1[l]? = m[l]? := by
          cases o with
          | some z =>
            obtain ⟨k1, m1, k2, k3, k4⟩ := c1 z rfl m v γ.1 p h1
            exact ⟨m1, k1, k2, k3, k4⟩
          | none =>
            obtain ⟨⟨rfl, k1⟩, _⟩ := h1
            exact ⟨m, k1, frzV_d _ _ _, rfl, fun _ _ => rfl⟩
        obtain ⟨m1, k1, k2, k3, k4⟩ := step
        obtain ⟨j1, m2, j2, j3, j4⟩ := ih c2 (h2.loc fun l hl => k4 l fun z => nd3 l z l hl rfl) nd2
        refine ⟨⟨k1, j1⟩, m2, ?_, j3.trans k3, fun l hl => ?_⟩
        · show (frzV d v m).bind (fun p => (frzL (frzV d) vs p.2).map fun q => (p.1 :: q.1, q.2)) = _
          rw [k2, Option.bind_some, j2]
          rfl
        · rw [j4 l fun z => hl (List.mem_append_right _ z), k4 l fun z => hl (List.mem_append_left _ z)]
theorem canF_ins {Us : List Type} {c d : Nat} {al : SL Us} {os : List (Option Nat)} (h : CanFs al os d) : CanF (tyIns c al os) al.len (d + 1) := fun μ v a fp ow => by
  obtain ⟨l, vs, q, rfl, h1, rfl, h2, nd⟩ := ow
  obtain ⟨nd1, nd2⟩ := List.nodup_cons.mp nd
  obtain ⟨k1, m', k2, k3, k4⟩ := frzFs h h2 nd2
  have hl : m'[l]? = some (.ins c vs) := by rw [k4 l nd1]; exact h1
  refine ⟨k1, m'.set l (.frz (.ins c (encs al a))), ?_, by rw [List.length_set]; exact k3, fun j hj => ?_⟩
  · unfold frzV
    simp only [h1]
    rw [k2]
    simp only [Option.bind_some, hl]
    rfl
  · rw [List.getElem?_set_ne fun z => hj (by simp [z]), k4 j fun z => hj (List.mem_cons_of_mem _ z)]
section
variable {Ts Us Vs : List Type} {s : SL Ts} {ks kr kx kds : List Kd} {al : SL Us} {os : List (Option Nat)} {α β δ ρ : Type} {rp : Rp α} {rm : Rm} {rr : Rp ρ} {n c i j : Nat} {f : Str} {gF : HL Us → α} {pF : α → HL Us → HL Us}
theorem ownFs.len {m : Mem} : ∀ {Us : List Type} {al : SL Us} {os : List (Option Nat)} {n : Nat} {vs : List Val} {γ : HL Us} {fp : List Nat}, ownFs m al os n vs γ fp → vs.length = n := by
  intro Us al
  induction al with
  | nil =>
    intro os n vs γ fp h
    cases n with
    | zero =>
      obtain ⟨rfl, _⟩ : vs = [] ∧ fp = [] := by simpa [ownFs] using h
      rfl
    | succ n => simp [ownFs] at h
  | cons rp al ih =>
    intro os n vs γ fp h
    cases n with
    | zero =>
      obtain ⟨rfl, _⟩ : vs = [] ∧ fp = [] := by simpa [ownFs] using h
      rfl
    | succ n =>
      cases os with
      | nil => simp [ownFs] at h
      | cons o os =>
        cases vs with
        | nil => simp [ownFs] at h
        | cons v vs =>
          obtain ⟨p, q, rfl, h1, h2⟩ := h
          rw [List.length_cons, ih h2]
theorem ownFs.snoc {m : Mem} : ∀ {Us : List Type} {al : SL Us} {n : Nat} {g : HL Us → α} {p : α → HL Us → HL Us} (_ : Ix rp al n g p) {os : List (Option Nat)} {vs : List Val} {γ : HL Us} {fp : List Nat} {o : Option Nat} {v : Val} {a : α} {q : List Nat}, ownFs m al os n vs γ fp → os[n]? = some o → fldR o rp m v a q → ownFs m al os (n + 1) (vs ++ [v]) (p a γ) (fp ++ q) := by
  intro Us al n g p ix
  induction ix with
  | here =>
    intro os vs γ fp o v a q h ho hv
    cases os with
    | nil => simp at ho
    | cons b os =>
      obtain ⟨rfl, rfl⟩ : vs = [] ∧ fp = [] := by simpa [ownFs] using h
      obtain rfl : b = o := by simpa using ho
      refine ⟨q, [], by simp, hv, ?_⟩
      simp [ownFs]
  | there ix ih =>
    intro os vs γ fp o v a q h ho hv
    cases os with
    | nil => simp at ho
    | cons b os =>
      cases vs with
      | nil => simp [ownFs] at h
      | cons w vs =>
        obtain ⟨p1, q1, rfl, h1, h2⟩ := h
        exact ⟨p1, q1 ++ q, by rw [List.append_assoc], h1, ih h2 (by simpa using ho) hv⟩
theorem ownFs.upd {m : Mem} {k : Nat} : ∀ {Us : List Type} {al : SL Us} {i : Nat} {g : HL Us → α} {p : α → HL Us → HL Us} (_ : Ix rp al i g p) {os : List (Option Nat)} {n : Nat} {vs : List Val} {γ : HL Us} {fp : List Nat}, ownFs m al os n vs γ fp → i < n → os[i]? = some (some k) →
    ∃ v p0 q r, fp = p0 ++ (q ++ r) ∧ vs[i]? = some v ∧ rp.own k m v (g γ) q ∧ ∀ {m' : Mem} {v' : Val} {a' : α} {q' : List Nat}, rp.own k m' v' a' q' → (∀ l ∈ p0 ++ r, m'[l]? = m[l]?) → ownFs m' al os n (vs.set i v') (p a' γ) (p0 ++ (q' ++ r)) := by
  intro Us al i g p ix
  induction ix with
  | here =>
    intro os n vs γ fp h hn ho
    cases n with
    | zero => omega
    | succ n =>
      cases os with
      | nil => simp at ho
      | cons b os =>
        cases vs with
        | nil => simp [ownFs] at h
        | cons v vs =>
          obtain ⟨p, q, rfl, h1, h2⟩ := h
          obtain rfl : b = some k := by simpa using ho
          have h1 : Rp.own _ k m v γ.1 p := h1
          refine ⟨v, [], p, q, rfl, rfl, h1, fun {m' v' a' q'} hv hk => ⟨q', q, rfl, hv, h2.loc fun l hl => hk l hl⟩⟩
  | there ix ih =>
    intro os n vs γ fp h hn ho
    cases n with
    | zero => omega
    | succ n =>
      cases os with
      | nil => simp at ho
      | cons b os =>
        cases vs with
        | nil => simp [ownFs] at h
        | cons v vs =>
          obtain ⟨p, q, rfl, h1, h2⟩ := h
          obtain ⟨w, p0, q0, r0, rfl, e1, e2, e3⟩ := ih h2 (by omega) (by simpa using ho)
          refine ⟨w, p ++ p0, q0, r0, by simp [List.append_assoc], by simpa using e1, e2, fun {m' v' a' q'} hv hk => ⟨p, p0 ++ (q' ++ r0), by simp [List.append_assoc], ?_, e3 hv fun l hl => hk l ?_⟩⟩
          · cases b with
            | none => exact h1
            | some z => exact Rp.loc _ h1 fun l hl => hk l (by simp [hl])
          · rw [List.append_assoc]
            exact List.mem_append_right _ hl
def kdUp (k : Kd) (n : Nat) : Kd := match k with
  | .own _ => .own n
  | .io _ => .io n
  | k => k
theorem slotR.owns2 {k : Kd} {B : List Nat} {μ : Mem} {y x : Option Val} {rp : Rp α} {a : α} {fp : List Nat} (h : slotR rp k B μ y x a fp) (hk : kdO k n = true) : ∃ v, x = some v ∧ rp.own n μ v a fp ∧ ∀ {n' : Nat} {m' : Mem} {a' : α} {fp' : List Nat}, rp.own n' m' v a' fp' → slotR rp (kdUp k n') B m' y x a' fp' := by
  cases k with
  | own k =>
    obtain rfl := eq_of_beq hk
    obtain ⟨v, rfl, hv⟩ := h
    exact ⟨v, rfl, hv, fun h => ⟨v, rfl, h⟩⟩
  | io k =>
    obtain rfl := eq_of_beq hk
    obtain ⟨v, rfl, rfl, hv⟩ := h
    exact ⟨v, rfl, hv, fun h => ⟨v, rfl, rfl, h⟩⟩
  | dead => cases hk
  | frz => cases hk
  | bor k => cases hk
  | lent k => cases hk
  | held => cases hk
section
variable {A : Env} {B : List Nat} {γ : HL Ts} {e : Env} {μ μ' : Mem} {Ps : List (List Nat)} {gS : HL Ts → β} {pS : β → HL Ts → HL Ts} {rS : Rp β}
theorem St.ownS (ix : Ix rS s i gS pS) (st : St s ks A B γ e μ Ps) {k : Kd} (hk : ks[i]? = some k) (hn : kdO k n = true) : ∃ v fp, eVar i e μ = .ok v μ ∧ Ps[i]? = some fp ∧ rS.own n μ v (gS γ) fp ∧ (∀ l ∈ fp, l ∉ B) ∧ (∀ l ∈ fp, l ∉ (Ps.set i []).flatten) ∧ fp.Nodup ∧
    ∀ {n' : Nat} {μ' : Mem} {a' : β} {fp' : List Nat}, rS.own n' μ' v a' fp' → μ.length ≤ μ'.length → (∀ l, l < μ.length → l ∉ fp → μ'[l]? = μ[l]?) → fp'.Nodup → (∀ l ∈ fp', l ∉ (Ps.set i []).flatten ∧ l ∉ B) → St s (ks.set i (kdUp k n')) A B (pS a' γ) e μ' (Ps.set i fp') := by
  obtain ⟨k1, y, x, fp, e1, e2, e3, e4, h5⟩ := ix.get st.r
  rw [hk] at e1
  cases e1
  obtain ⟨v, rfl, hv, back⟩ := h5.owns2 hn
  have pm0 := flat_self e4
  have nd := List.nodup_append.mp (pm0.nodup_iff.mp st.nd)
  have dis : ∀ l ∈ fp, l ∉ (Ps.set i []).flatten := fun l hl z => nd.2.2 l hl l z rfl
  refine ⟨v, fp, ?_, e4, hv, fun l hl => st.nb l (mem_flat e4 hl), dis, nd.1, fun {n' μ' a' fp'} h le keep nd sub => ?_⟩
  · show (match e[i]? with
      | some (some v) => Res.ok (norm μ v) μ
      | _ => Res.bad) = _
    rw [e3]
    show Res.ok (norm μ v) μ = _
    rw [rS.nrm hv]
  · have h1 := st.putS ix (k' := kdUp k n') (x' := some v) (a' := a') (fp' := fp') le (fun l hl => keep l (st.lb l hl) fun z => st.nb l (mem_flat e4 z) hl) (fun l hl => keep l (st.r.lt l (flat_nil.subset hl)) fun z => dis l z hl) nd sub (fun y' hy => by
      rw [e2] at hy
      cases hy
      exact back h)
    have k2 : e.set i (some v) = e := by
      obtain ⟨hl, z⟩ := List.getElem?_eq_some_iff.mp e3
      rw [← z]
      exact List.set_getElem_self hl
    rw [k2] at h1
    exact h1
theorem flat_sub {Q : List (List Nat)} {i : Nat} {fp fp' : List Nat} (h : Q[i]? = some fp) {l : Nat} (hl : l ∈ (Q.set i fp').flatten) : l ∈ fp' ∨ l ∈ Q.flatten := by
  have pm := flat_set (fp := fp') (List.getElem?_eq_some_iff.mp h).1
  rw [pm.mem_iff, List.mem_append] at hl
  rcases hl with hl | hl
  · exact .inl hl
  · exact .inr (flat_nil.subset hl)
end
theorem putV_next {vs : List Val} {v : Val} (hf : (flds c)[vs.length]? = some f) : putV c f v vs = some (vs ++ [v]) := by
  unfold putV
  rw [if_pos hf]
theorem setFl_at {l : Nat} {vs vs' : List Val} {v : Val} {e : Env} {μ : Mem} (h : μ[l]? = some (.ins c vs)) (hp : putV c f v vs = some vs') : setFl [c] f (.loc l) v e μ = .next e (μ.set l (.ins c vs')) := by
  unfold setFl
  dsimp only
  rw [h]
  dsimp only
  rw [if_pos (List.mem_singleton.mpr rfl), hp]
variable {gS : HL Ts → HL Us} {pS : HL Us → HL Ts → HL Ts}
theorem rs_fldF {k : Kd} {m : EM} {t : HL Ts → ER (HL Ts) α} (ix : Ix (tyIns c al os) s i gS pS) (iy : Ix rp al n gF pF) (hk : ks[i]? = some k) (hn : kdO k n = true) (hf : (flds c)[n]? = some f) (ho : os[n]? = some Option.none) (h : RfE s ks m (Fz rp) t) (hx : wkB ks kx = true) :
    RfS s ks kr kx (ks.set i (kdUp k (n + 1))) rm rr (sSetF [c] f (eVar i) m) (tSet (fun a γ => pS (pF a (gS γ)) γ) t) := fun A B γ e μ Ps st =>
  OkE.st (kr := kr) (ks' := ks.set i (kdUp k (n + 1))) (rm := rm) (rp := rr) hx (h A B γ e μ Ps st) fun v a γ μ Ps hv st => by
    obtain ⟨x, fp, h1, h2, h3, h4, h5, h6, h7⟩ := st.ownS ix hk hn
    obtain ⟨l, vs, q, rfl, g1, rfl, g2, nd⟩ := h3
    have hl := (List.getElem?_eq_some_iff.mp g1).1
    show OkSt s kr kx _ rm rr A B μ Ps ((eVar i e μ).st e fun x m => setFl [c] f x v e m) (.next (pS (pF a (gS γ)) γ))
    rw [h1]
    show OkSt s kr kx _ rm rr A B μ Ps (setFl [c] f (.loc l) v e μ) _
    rw [setFl_at g1 (putV_next (by rw [g2.len]; exact hf))]
    have ln : l ∉ q := (List.nodup_cons.mp nd).1
    have own : (tyIns c al os).own (n + 1) (μ.set l (.ins c (vs ++ [v]))) (.loc l) (pF a (gS γ)) (l :: q) := ⟨l, vs ++ [v], q, rfl, List.getElem?_set_self hl, rfl, by
      have := (g2.loc (m' := μ.set l (.ins c (vs ++ [v]))) fun y hy => List.getElem?_set_ne fun z => ln (by rw [z]; exact hy)).snoc iy ho (v := v) (a := a) (q := []) ⟨hv, rfl⟩
      rw [List.append_nil] at this
      exact this, nd⟩
    have st' := h7 own (by simp) (fun j hj hn => List.getElem?_set_ne fun z => hn (by simp [z])) h6 (fun j hj => ⟨h5 j hj, h4 j hj⟩)
    exact ⟨e, _, _, rfl, st', by simp, fun j hj hn => List.getElem?_set_ne fun z => hn (mem_flat h2 (by simp [z])), fun j hj => by
      rcases flat_sub h2 hj with z | z
      · exact .inl (mem_flat h2 z)
      · exact .inl z⟩
theorem rs_fldN {z0 : Nat} {k : Kd} {m : EM} {t : HL Ts → ER (HL Ts) α} (ix : Ix (tyIns c al os) s i gS pS) (iy : Ix rp al n gF pF) (hk : ks[i]? = some k) (hn : kdO k n = true) (hf : (flds c)[n]? = some f) (ho : os[n]? = some (some z0)) (h : RfN s ks z0 m rp t) (hx : wkB ks kx = true) :
    RfS s ks kr kx (ks.set i (kdUp k (n + 1))) rm rr (sSetF [c] f (eVar i) m) (tSet (fun a γ => pS (pF a (gS γ)) γ) t) := fun A B γ e μ0 Ps0 st =>
  OkN.st (kr := kr) (ks' := ks.set i (kdUp k (n + 1))) (rm := rm) (rp := rr) hx (h A B γ e μ0 Ps0 st) fun v a γ μ Ps fpv hv fre st fr => by
    obtain ⟨x, fp, h1, h2, h3, h4, h5, h6, h7⟩ := st.ownS ix hk hn
    obtain ⟨l, vs, q, rfl, g1, rfl, g2, nd⟩ := h3
    have hl := (List.getElem?_eq_some_iff.mp g1).1
    show OkSt s kr kx _ rm rr A B μ0 Ps0 ((eVar i e μ).st e fun x m => setFl [c] f x v e m) (.next (pS (pF a (gS γ)) γ))
    rw [h1]
    show OkSt s kr kx _ rm rr A B μ0 Ps0 (setFl [c] f (.loc l) v e μ) _
    rw [setFl_at g1 (putV_next (by rw [g2.len]; exact hf))]
    have ln : l ∉ q := (List.nodup_cons.mp nd).1
    have dv : ∀ z ∈ fpv, z ∉ l :: q := fun z hz w => (fre.out z hz).1 (mem_flat h2 w)
    have nd' : (l :: (q ++ fpv)).Nodup := by
      rw [← List.cons_append]
      exact List.nodup_append.mpr ⟨nd, fre.nd, fun a ha b hb w => dv b hb (w ▸ ha)⟩
    have own : (tyIns c al os).own (n + 1) (μ.set l (.ins c (vs ++ [v]))) (.loc l) (pF a (gS γ)) (l :: (q ++ fpv)) := ⟨l, vs ++ [v], q ++ fpv, rfl, List.getElem?_set_self hl, rfl,
      (g2.loc (m' := μ.set l (.ins c (vs ++ [v]))) fun y hy => List.getElem?_set_ne fun z => ln (by rw [z]; exact hy)).snoc iy ho (v := v) (a := a) (q := fpv) (by
        exact rp.loc hv fun j hj => List.getElem?_set_ne fun z => dv j hj (by simp [z])), nd'⟩
    have st' := h7 own (by simp) (fun j hj hn => List.getElem?_set_ne fun z => hn (by simp [z])) nd' (fun j hj => by
      rw [← List.cons_append] at hj
      rcases List.mem_append.mp hj with z | z
      · exact ⟨h5 j z, h4 j z⟩
      · exact ⟨fun w => (fre.out j z).1 (flat_nil.subset w), (fre.out j z).2⟩)
    refine ⟨e, _, _, rfl, st', by rw [List.length_set]; exact fr.le, fun j hj hn => ?_, fun j hj => ?_⟩
    · rw [List.getElem?_set_ne]
      · exact fr.keep j hj hn
      · intro z
        rcases fr.sub l (mem_flat h2 (List.mem_cons_self ..)) with w | w
        · exact hn (z ▸ w)
        · omega
    · rcases flat_sub h2 hj with z | z
      · rw [← List.cons_append] at z
        rcases List.mem_append.mp z with z | z
        · exact fr.sub j (mem_flat h2 z)
        · exact fre.sub j z
      · exact fr.sub j z
end
end Fs
namespace Fs
open PySem PySem.Spec L2
section
variable {Ts Us Vs : List Type} {s : SL Ts} {ks kr kx kds : List Kd} {al : SL Us} {os : List (Option Nat)} {α β δ ρ : Type} {rp : Rp α} {rm : Rm} {rr : Rp ρ} {n c i j : Nat} {f : Str}
def Plc (s : SL Ts) (ks : List Kd) (n : Nat) (m : EM) (rp : Rp α) (g : HL Ts → α) (p : α → HL Ts → HL Ts) : Prop := ∀ A B γ e μ Ps, St s ks A B γ e μ Ps → ∃ v fp, m e μ = .ok v μ ∧ rp.own n μ v (g γ) fp ∧ fp.Nodup ∧
  ∀ {μ' : Mem} {a' : α} {fp' : List Nat}, rp.own n μ' v a' fp' → μ.length ≤ μ'.length → (∀ l, l < μ.length → l ∉ fp → μ'[l]? = μ[l]?) → fp'.Nodup → (∀ l ∈ fp', l ∈ fp ∨ μ.length ≤ l) → ∃ Ps', St s ks A B (p a' γ) e μ' Ps' ∧ Fr μ Ps μ' Ps'
theorem plc_slot {g : HL Ts → α} {p : α → HL Ts → HL Ts} {k : Kd} (ix : Ix rp s i g p) (hk : ks[i]? = some k) (hn : kdO k n = true) : Plc s ks n (eVar i) rp g p := fun A B γ e μ Ps st => by
  obtain ⟨v, fp, h1, h2, h3, h4, h5, h6, _⟩ := st.ownS ix hk hn
  obtain ⟨v', fp', j1, j2, j3, j4⟩ := st.own ix hk hn
  rw [h1] at j1
  have e1 : v = v' := by injection j1
  subst e1
  obtain ⟨k1, y, x, fp2, e1, e2, e3, e4, h7⟩ := ix.get st.r
  rw [hk] at e1
  cases e1
  rw [h2] at e4
  cases e4
  obtain ⟨w, rfl, hw, back⟩ := h7.owns hn
  refine ⟨v, fp, h1, h3, h6, fun {μ' a' fp'} q1 q2 q3 q4 q5 => ?_⟩
  have ew : w = v := by
    have := eVar_of e3 (rp.nrm hw)
    rw [this] at h1
    injection h1
  subst ew
  have st' := st.putS ix (k' := k) (x' := some w) (a' := a') (fp' := fp') q2 (fun l hl => q3 l (st.lb l hl) fun z => h4 l z hl) (fun l hl => q3 l (st.r.lt l (flat_nil.subset hl)) fun z => h5 l z hl) q4 (fun l hl => by
    rcases q5 l hl with z | z
    · exact ⟨h5 l z, h4 l z⟩
    · exact ⟨fun w => Nat.lt_irrefl _ (Nat.lt_of_lt_of_le (st.r.lt l (flat_nil.subset w)) z), fun w => Nat.lt_irrefl _ (Nat.lt_of_lt_of_le (st.lb l w) z)⟩) (fun y' hy => by
    rw [e2] at hy
    cases hy
    exact back q1)
  have k1 : ks.set i k = ks := by
    obtain ⟨hl, e⟩ := List.getElem?_eq_some_iff.mp hk
    rw [← e]
    exact List.set_getElem_self hl
  have k2 : e.set i (some w) = e := by
    obtain ⟨hl, z⟩ := List.getElem?_eq_some_iff.mp e3
    rw [← z]
    exact List.set_getElem_self hl
  rw [k1, k2] at st'
  refine ⟨_, st', q2, fun l hl hn => q3 l hl fun z => hn (mem_flat h2 z), fun l hl => ?_⟩
  rcases flat_sub h2 hl with z | z
  · rcases q5 l z with z | z
    · exact .inl (mem_flat h2 z)
    · exact .inr z
  · exact .inl z
theorem plc_fld {k : Nat} {m : EM} {gS : HL Ts → HL Us} {pS : HL Us → HL Ts → HL Ts} {gF : HL Us → α} {pF : α → HL Us → HL Us} (h : Plc s ks n m (tyIns c al os) gS pS) (iy : Ix rp al j gF pF) (hf : (flds c)[j]? = some f) (hj : j < n) (ho : os[j]? = some (some k)) : Plc s ks k (eUn (getF [c] f) m) rp (fun γ => gF (gS γ)) (fun a γ => pS (pF a (gS γ)) γ) := fun A B γ e μ Ps st => by
  obtain ⟨v, fp, h1, ⟨l, vs, q, rfl, g1, rfl, g2, nd⟩, h3, h4⟩ := h A B γ e μ Ps st
  obtain ⟨w, p0, qj, r, rfl, e1, e2, e3⟩ := g2.upd iy hj ho
  obtain ⟨nl, nd2⟩ := List.nodup_cons.mp nd
  obtain ⟨n1, n2, n3⟩ := List.nodup_append.mp nd2
  obtain ⟨n4, n5, n6⟩ := List.nodup_append.mp n2
  refine ⟨w, qj, ?_, e2, n4, fun {μ' a' fp'} q1 q2 q3 q4 q5 => ?_⟩
  · show (m e μ).bind (fun x μ => getF [c] f x μ) = _
    rw [h1, Res.bind_ok, getF_at (fldOf_loc g1) hf e1, rp.nrm e2]
  · have lt := (⟨l, vs, _, rfl, g1, rfl, g2, nd⟩ : (tyIns c al os).own n μ (.loc l) (gS γ) (l :: (p0 ++ (qj ++ r))))
    have lt := (tyIns c al os).lt lt
    have sep : ∀ y ∈ p0 ++ r, y ∉ fp' ∧ y ∉ qj ∧ y < μ.length := fun y hy => by
      have hm : y ∈ l :: (p0 ++ (qj ++ r)) := by
        rcases List.mem_append.mp hy with z | z <;> simp [z]
      have nq : y ∉ qj := fun w => by
        rcases List.mem_append.mp hy with z | z
        · exact n3 y z y (by simp [w]) rfl
        · exact n6 y w y z rfl
      refine ⟨fun w => ?_, nq, lt y hm⟩
      rcases q5 y w with z | z
      · exact nq z
      · exact Nat.lt_irrefl _ (Nat.lt_of_lt_of_le (lt y hm) z)
    have nlq : l ∉ qj := fun w => nl (by simp [w])
    have ll := lt l (List.mem_cons_self ..)
    have nl' : l ∉ fp' := fun w => by
      rcases q5 l w with z | z
      · exact nlq z
      · omega
    have nd' : (l :: (p0 ++ (fp' ++ r))).Nodup := by
      rw [List.nodup_cons]
      refine ⟨fun w => ?_, ?_⟩
      · rcases List.mem_append.mp w with z | z
        · exact nl (by simp [z])
        · rcases List.mem_append.mp z with z | z
          · exact nl' z
          · exact nl (by simp [z])
      · refine List.nodup_append.mpr ⟨n1, List.nodup_append.mpr ⟨q4, n5, fun a ha b hb w => (sep b (by simp [hb])).1 (w ▸ ha)⟩, fun a ha b hb w => ?_⟩
        subst w
        rcases List.mem_append.mp hb with z | z
        · exact (sep a (by simp [ha])).1 z
        · exact n3 a ha a (by simp [z]) rfl
    have ow : (tyIns c al os).own n μ' (.loc l) (pF a' (gS γ)) (l :: (p0 ++ (fp' ++ r))) := ⟨l, vs.set j w, _, rfl, by
      have hv : vs.set j w = vs := by
        obtain ⟨hl, z⟩ := List.getElem?_eq_some_iff.mp e1
        rw [← z]
        exact List.set_getElem_self hl
      rw [hv, q3 l ll nlq]
      exact g1, rfl, e3 q1 fun y hy => q3 y (sep y hy).2.2 (sep y hy).2.1, nd'⟩
    exact h4 ow q2 (fun y hy hn => q3 y hy fun w => hn (by simp [w])) nd' fun y hy => by
      rcases List.mem_cons.mp hy with rfl | hy
      · exact .inl (List.mem_cons_self ..)
      · rcases List.mem_append.mp hy with z | z
        · exact .inl (by simp [z])
        · rcases List.mem_append.mp z with z | z
          · rcases q5 y z with w | w
            · exact .inl (by simp [w])
            · exact .inr w
          · exact .inl (by simp [z])
theorem Plc.view {m : EM} {g : HL Ts → α} {p : α → HL Ts → HL Ts} (h : Plc s ks n m rp g p) (hs : ∀ A B γ e μ Ps, St s ks A B γ e μ Ps → ∀ v fp, m e μ = .ok v μ → rp.own n μ v (g γ) fp → ∀ l ∈ fp, l ∈ Ps.flatten ∨ l ∈ B) : RfW s ks n m rp (cV g) := fun A B γ e μ Ps st => by
  obtain ⟨v, fp, h1, h2, _, _⟩ := h A B γ e μ Ps st
  exact ⟨v, fp, h1, .inr h2, hs A B γ e μ Ps st v fp h1 h2⟩
theorem rfx_appP {m mo : EM} {g : HL Ts → List α} {p : List α → HL Ts → HL Ts} {t : HL Ts → PR α} (ho : Plc s ks n mo (tyList rp) g p) (h : RfC s ks m (Fz rp) t) : RfE s ks (eBm isL appV mo (aCons m aNil)) (Fz tyNone) (xApp g p (xL t)) := fun A B γ e μ Ps st => by
  obtain ⟨v, fp, h1, ⟨ok, l, rfl, h2, rfl⟩, _, h3⟩ := ho A B γ e μ Ps st
  rw [eBm_eq, h1, Res.bind_ok, if_pos (p_isL h2), args1]
  have h := h A B γ e μ Ps st
  show OkE s ks A B e μ Ps _ _ (((t γ).er γ).bind fun a γ => if (g γ).length < lim then .ok () (p (g γ ++ [a]) γ) else .bad)
  cases ht : t γ with
  | ok a =>
    rw [ht] at h
    obtain ⟨v, k1, rfl, k2⟩ := h
    rw [k1]
    show OkE s ks A B e μ Ps (appV (.loc l) [.d (rp.enc a)] μ) _ (if (g γ).length < lim then _ else _)
    split
    · rename_i hl
      rw [p_app h2 (by rw [lv_len]; exact hl)]
      have hy : okL rp (g γ ++ [a]) := ⟨by rw [List.length_append]; exact hl, fun x hx => by
        rcases List.mem_append.mp hx with z | z
        · exact ok.2 x z
        · rw [List.mem_singleton.mp z]
          exact k2⟩
      have lt := (List.getElem?_eq_some_iff.mp h2).1
      obtain ⟨Q, h6, h7⟩ := h3 (μ' := μ.set l (.lst (lv rp (g γ ++ [a])))) (a' := g γ ++ [a]) (fp' := [l]) ⟨hy, l, rfl, List.getElem?_set_self lt, rfl⟩ (by simp) (fun y hy hn => List.getElem?_set_ne fun z => hn (by simp [z])) (nd1 _) fun y hy => .inl hy
      rw [lv_app] at h6 h7
      exact ⟨_, _, Q, rfl, ⟨rfl, trivial⟩, h6, h7⟩
    · trivial
  | exc c p =>
    rw [ht] at h
    have h : m e μ = .exc c p μ := h
    rw [h]
    exact ⟨μ, Ps, rfl, st, Fr.refl _ _⟩
  | bad => trivial
def getA (kvs : List (Str × α)) (k : Str) : Option α := (kvs.find? fun p => decide (p.1 = k)).map (·.2)
def putA (kvs : List (Str × α)) (k : Str) (a : α) : List (Str × α) := if (kvs.any fun p => decide (p.1 = k)) = true then kvs.map fun p => if p.1 = k then (p.1, a) else p else kvs ++ [(k, a)]
theorem inr_eq (a b : Str) : ((Sum.inr a : Key) = .inr b) = (a = b) := by simp
theorem lkV_dv (kvs : List (Str × α)) (k : Str) : lkV (dv rp kvs) (.inr k) = (getA kvs k).map fun a => .d (rp.enc a) := by
  unfold lkV getA dv
  induction kvs with
  | nil => rfl
  | cons x r ih =>
    rw [List.map_cons, List.find?_cons, List.find?_cons]
    simp only [inr_eq]
    by_cases h : x.1 = k
    · simp [h]
    · simp only [decide_eq_false h]
      exact ih
theorem ptV_dv (kvs : List (Str × α)) (k : Str) (a : α) : ptV (dv rp kvs) (.inr k) (.d (rp.enc a)) = dv rp (putA kvs k a) := by
  unfold ptV putA
  have e1 : ((dv rp kvs).any fun kv => decide (kv.1 = Sum.inr k)) = kvs.any fun p => decide (p.1 = k) := by
    unfold dv
    rw [List.any_map]
    congr 1
    funext p
    show decide ((Sum.inr p.1 : Key) = .inr k) = decide (p.1 = k)
    simp only [inr_eq]
  rw [e1]
  split
  · unfold dv
    rw [List.map_map, List.map_map]
    apply List.map_congr_left
    intro p _
    show (if (Sum.inr p.1 : Key) = .inr k then _ else _) = _
    simp only [inr_eq, Function.comp]
    split <;> rfl
  · unfold dv
    rw [List.map_append]
    rfl
theorem getA_mem {kvs : List (Str × α)} {k : Str} {a : α} (h : getA kvs k = some a) : (k, a) ∈ kvs := by
  unfold getA at h
  obtain ⟨p, h1, rfl⟩ := Option.map_eq_some_iff.mp h
  have e : p.1 = k := of_decide_eq_true (List.find?_some (p := fun p : Str × α => decide (p.1 = k)) h1)
  have m := List.mem_of_find?_eq_some h1
  rw [← e]
  exact m
theorem Vw.dct {μ : Mem} {v : Val} {q : List Nat} {kvs : List (Str × α)} (h : Vw (tyDict rp) n μ v kvs q) : dkV μ v = some (dv rp kvs) ∧ okD rp kvs := by
  rcases h with ⟨⟨rfl, k⟩, _⟩ | ⟨k, l, rfl, h, _⟩
  · refine ⟨?_, k⟩
    show some ((kvs.map fun p => (Sum.inr p.1, rp.enc p.2)).map fun p => (p.1, Val.d p.2)) = _
    rw [List.map_map]
    rfl
  · refine ⟨?_, k⟩
    show (match μ[l]? with
      | some (.dk kvs) => some kvs
      | _ => Option.none) = _
    rw [h]
@[simp] def oGetA (kvs : List (Str × α)) (k : Str) : PR α := ofO (getA kvs k)
@[simp] def oInA (neg : Bool) (k : Str) (kvs : List (Str × α)) : PR Bool := .ok (negB neg (getA kvs k).isSome)
theorem op_getA {n' : Nat} : Op2 n (tyDict rp) n' tyStr dgV rp oGetA := by
  intro μ v a q u k q' h hk
  obtain ⟨h1, h2⟩ := h.dct
  obtain ⟨rfl, _⟩ := hk.imm
  show OkC μ (match dkV μ v with
    | some kvs => (match keyV (.d (.str k)) with
      | some k => (match lkV kvs k with
        | some v => Res.ok (norm μ v) μ
        | Option.none => .bad)
      | Option.none => .bad)
    | Option.none => .bad) _ (ofO (getA a k))
  rw [h1]
  show OkC μ (match lkV (dv rp a) (.inr k) with
    | some v => Res.ok (norm μ v) μ
    | Option.none => .bad) _ _
  rw [lkV_dv]
  cases e : getA a k with
  | none => trivial
  | some x => exact okOp (h2.2 _ (getA_mem e)).2
theorem op_inA {n' : Nat} (neg : Bool) : Op2 n' tyStr n (tyDict rp) (dinV neg) tyBool (oInA neg) := by
  intro μ u k q' v a q hk h
  obtain ⟨h1, h2⟩ := h.dct
  obtain ⟨rfl, _⟩ := hk.imm
  show OkC μ (match dkV μ v with
    | some kvs => (match keyV (.d (.str k)) with
      | some k => Res.ok (Val.d (Data.bool (negB neg (lkV kvs k).isSome))) μ
      | Option.none => .bad)
    | Option.none => .bad) _ _
  rw [h1]
  show OkC μ (Res.ok (Val.d (Data.bool (negB neg (lkV (dv rp a) (.inr k)).isSome))) μ) _ _
  rw [lkV_dv, Option.isSome_map]
  exact okOp (rq := tyBool) trivial
@[simp] def tPutA {Γ ρ : Type} (g : Γ → List (Str × α)) (p : List (Str × α) → Γ → Γ) (tk : Γ → PR Str) (t : Γ → PR α) (γ : Γ) : SR Γ ρ := ((t γ).er γ).st fun a _ => ((tk γ).er γ).st fun k _ => if (g γ).length < lim then .next (p (putA (g γ) k a) γ) else .bad
theorem putA_ok {kvs : List (Str × α)} {k : Str} {a : α} (h : okD rp kvs) (hl : kvs.length < lim) (hk : k.length ≤ lim) (ha : rp.ok a) : okD rp (putA kvs k a) := by
  unfold putA
  split
  · refine ⟨by rw [List.length_map]; exact h.1, fun p hp => ?_⟩
    obtain ⟨q, hq, rfl⟩ := List.mem_map.mp hp
    split
    · exact ⟨(h.2 q hq).1, ha⟩
    · exact h.2 q hq
  · refine ⟨by rw [List.length_append]; exact hl, fun p hp => ?_⟩
    rcases List.mem_append.mp hp with z | z
    · exact h.2 p z
    · rw [List.mem_singleton.mp z]
      exact ⟨hk, ha⟩
theorem rs_putA {mo mk m : EM} {g : HL Ts → List (Str × α)} {p : List (Str × α) → HL Ts → HL Ts} {tk : HL Ts → PR Str} {t : HL Ts → PR α} (ho : Plc s ks n mo (tyDict rp) g p) (hk : RfC s ks mk (Fz tyStr) tk) (h : RfC s ks m (Fz rp) t) (hx : wkB ks kx = true) : RfS s ks kr kx ks rm rr (sPutD mo mk m) (tPutA g p tk t) := fun A B γ e μ Ps st =>
  OkC.st (f := fun v m => (mo e m).st e fun x m => (mk e m).st e fun y m => dpV x y v e m) (u := fun a => ((tk γ).er γ).st fun k _ => if (g γ).length < lim then .next (p (putA (g γ) k a) γ) else .bad) (ks' := ks) (kr := kr) (rm := rm) (rp := rr) hx st (h A B γ e μ Ps st) fun v a hv => by
    obtain ⟨w, fp, h1, ⟨ok, l, rfl, h2, rfl⟩, _, h3⟩ := ho A B γ e μ Ps st
    show OkSt s kr kx ks rm rr A B μ Ps ((mo e μ).st e fun x m => (mk e m).st e fun y m => dpV x y v e m) _
    rw [h1]
    show OkSt s kr kx ks rm rr A B μ Ps ((mk e μ).st e fun y m => dpV (.loc l) y v e m) _
    refine OkC.st (f := fun y m => dpV (.loc l) y v e m) (u := fun k => if (g γ).length < lim then .next (p (putA (g γ) k a) γ) else .bad) (ks' := ks) (kr := kr) (rm := rm) (rp := rr) hx st (hk A B γ e μ Ps st) fun u k hu => ?_
    obtain ⟨rfl, hv⟩ := hv
    obtain ⟨rfl, hu⟩ := hu
    have hu : k.length ≤ lim := hu
    show OkSt s kr kx ks rm rr A B μ Ps (match μ[l]? with
      | some (.dk kvs) => (match keyV (.d (.str k)) with
        | some k => if kvs.length < 16777216 then .next e (μ.set l (.dk (ptV kvs k (.d (rp.enc a))))) else .bad
        | Option.none => .bad)
      | _ => .bad) (if (g γ).length < lim then _ else _)
    rw [h2]
    show OkSt s kr kx ks rm rr A B μ Ps (if (dv rp (g γ)).length < 16777216 then .next e (μ.set l (.dk (ptV (dv rp (g γ)) (.inr k) (.d (rp.enc a))))) else .bad) _
    have el : (dv rp (g γ)).length = (g γ).length := by simp [dv]
    rw [el, lim_eq]
    split
    · rename_i hl
      rw [ptV_dv]
      have lt := (List.getElem?_eq_some_iff.mp h2).1
      obtain ⟨Q, h6, h7⟩ := h3 (μ' := μ.set l (.dk (dv rp (putA (g γ) k a)))) (a' := putA (g γ) k a) (fp' := [l]) ⟨putA_ok ok hl hu hv, l, rfl, List.getElem?_set_self lt, rfl⟩ (by simp) (fun y hy hn => List.getElem?_set_ne fun z => hn (by simp [z])) (nd1 _) fun y hy => .inl hy
      exact ⟨e, _, Q, rfl, h6, h7⟩
    · trivial
theorem rn_newD : RfN s ks n eNewD (tyDict rp) (xL (cC [])) := fun A B γ e μ Ps st => by
  obtain ⟨st2, f⟩ := st.grow (μ' := μ ++ [.dk []]) (by simp) fun l hl => List.getElem?_append_left hl
  refine ⟨.loc μ.length, _, Ps, [μ.length], rfl, ⟨⟨Nat.zero_le _, fun p hp => by cases hp⟩, μ.length, rfl, ?_, rfl⟩, ⟨nd1 _, fun l hl => ?_, fun l hl => .inr ?_⟩, st2, f⟩
  · rw [List.getElem?_append_right (Nat.le_refl _), Nat.sub_self]
    rfl
  · rw [List.mem_singleton.mp hl]
    exact ⟨fun z => Nat.lt_irrefl _ (st.r.lt _ z), fun z => Nat.lt_irrefl _ (st.lb _ z)⟩
  · rw [List.mem_singleton.mp hl]
    exact Nat.le_refl _
def oIndex (x : Data) (ds : List Data) : PR Int := if flatD x = true ∧ ds.all flatD = true then (match ds.findIdx? fun z => flatEq z x with
  | some j => .ok (j : Nat)
  | Option.none => .bad) else (match toPy x, toPys ds with
  | some p, some ps => if (SeqAt.shaped p && SeqAt.shaped (.list ps)) = true then (match ps.findIdx? fun z => PyData.eqv z p with
    | some j => .ok (j : Nat)
    | Option.none => .bad) else .bad
  | _, _ => .bad)
theorem rf_index {mo m : EM} {to : HL Ts → PR (List α)} {t : HL Ts → PR β} {rq : Rp β} (ho : RfW s ks n mo (tyList rp) to) (h : RfC s ks m (Fz rq) t) : RfC s ks (eBm isL indexV mo (aCons m aNil)) (Fz tyInt) (c2 (fun xs x => oIndex (rq.enc x) (xs.map rp.enc)) to t) := fun A B γ e μ Ps st => by
  rw [eBm_eq]
  refine (ho A B γ e μ Ps st).bind fun v a q hv _ => ?_
  obtain ⟨h1, h2, h3⟩ := hv.lst
  rw [if_pos (by show (lstV μ v).isSome = true; rw [h1]; rfl), args1]
  refine (h A B γ e μ Ps st).bind fun u b hu => ?_
  obtain ⟨rfl, _⟩ := hu
  show OkC μ (match lstV μ v, [Val.d (rq.enc b)] with
    | some us, [.d a] => (match allD us with
      | some ds => if flatD a = true ∧ ds.all flatD = true then (match ds.findIdx? (fun z => flatEq z a) with
        | some j => Res.ok (Val.d (Data.int j)) μ
        | Option.none => .bad) else (match toPy a, toPys ds with
        | some p, some ps => if (SeqAt.shaped p && SeqAt.shaped (.list ps)) = true then (match ps.findIdx? (fun z => PyData.eqv z p) with
          | some j => Res.ok (Val.d (Data.int j)) μ
          | Option.none => .bad) else .bad
        | _, _ => .bad)
      | Option.none => .bad)
    | _, _ => .bad) _ _
  rw [h1]
  dsimp only
  rw [allD_lv]
  dsimp only
  unfold oIndex
  split
  · cases e2 : (a.map rp.enc).findIdx? (fun z => flatEq z (rq.enc b)) with
    | none => trivial
    | some j => exact okOp (rq := tyInt) trivial
  · cases e1 : toPy (rq.enc b) with
    | none => trivial
    | some p =>
      cases e2 : toPys (a.map rp.enc) with
      | none => trivial
      | some ps =>
        dsimp only
        split
        · cases e3 : ps.findIdx? (fun z => PyData.eqv z p) with
          | none => trivial
          | some j => exact okOp (rq := tyInt) trivial
        · trivial
def lcM2 (c : α → PR Bool) (ti : α → PR (List β)) (c1 : α → β → PR Bool) (f : α → β → PR δ) : Nat → List α → PR (List δ)
  | _, [] => .ok []
  | k, x :: r => (c x).bind fun b => if b = true then (ti x).bind fun ys => if k + ys.length ≤ lim then (lcM (c1 x) (f x) ys).bind fun zs => (lcM2 c ti c1 f (k + ys.length) r).bind fun ws => .ok (zs ++ ws) else .bad else lcM2 c ti c1 f k r
@[simp] def cLc2 {Γ : Type} (ti : Γ → PR (List α)) (set : α → Γ → Γ) (tc : Γ → PR Bool) (ti1 : Γ → PR (List β)) (set1 : β → Γ → Γ) (tc1 : Γ → PR Bool) (te : Γ → PR δ) (γ : Γ) : PR (List δ) := (ti γ).bind fun xs => (lcM2 (fun x => tc (set x γ)) (fun x => ti1 (set x γ)) (fun x y => tc1 (set1 y (set x γ))) (fun x y => te (set1 y (set x γ))) 0 xs).calm
where
  lcM_len {c : β → PR Bool} {f : β → PR δ} : ∀ (us : List β) (zs : List δ), lcM c f us = .ok zs → zs.length ≤ us.length
    | [], zs, h => by
      cases h
      exact Nat.le_refl _
    | u :: us, zs, h => by
      have h : ((c u).bind fun b => if b = true then (f u).bind fun y => (lcM c f us).bind fun ys => .ok (y :: ys) else lcM c f us) = .ok zs := h
      cases hc : c u with
      | ok b =>
        rw [hc, PR.bind_ok] at h
        cases b with
        | false =>
          have := lcM_len us zs h
          rw [List.length_cons]
          omega
        | true =>
          rw [if_pos rfl] at h
          cases hf : f u with
          | ok y =>
            rw [hf, PR.bind_ok] at h
            cases hr : lcM c f us with
            | ok ys =>
              rw [hr] at h
              cases h
              have := lcM_len us ys hr
              simpa using this
            | exc c' p =>
              rw [hr] at h
              cases h
            | bad =>
              rw [hr] at h
              cases h
          | exc c' p =>
            rw [hf] at h
            cases h
          | bad =>
            rw [hf] at h
            cases h
      | exc c' p =>
        rw [hc] at h
        cases h
      | bad =>
        rw [hc] at h
        cases h
end
end Fs
namespace Fs
open PySem PySem.Spec L2
section
variable {Us0 Us Ts Vs : List Type} {al0 : SL Us0} {os : List (Option Nat)} {al : SL Us} {s : SL Ts} {kds ks kr ks' kx : List Kd} {f : HL Us → HL Ts} {o : HL Us → HL Ts → HL Us} {α β ρ : Type} {c n : Nat}
def runI (body : HL (HL Us0 :: Ts) → SR (HL (HL Us0 :: Ts)) Unit) (d : HL Us0) (f : HL Us → HL Ts) (o : HL Us → HL Ts → HL Us) (as : HL Us) : ER (HL Us) (HL Us0) := match body (d, f as) with
  | .ret _ γ => .ok γ.1 (o as γ.2)
  | .next γ => .ok γ.1 (o as γ.2)
  | .exc c p γ => .exc c p (o as γ.2)
  | .bad => .bad
def runIC (body : HL (HL Us0 :: Ts) → SR (HL (HL Us0 :: Ts)) Unit) (d : HL Us0) (f : HL Us → HL Ts) (as : HL Us) : PR (HL Us0) := match body (d, f as) with
  | .ret _ γ => .ok γ.1
  | .next γ => .ok γ.1
  | .exc c p _ => .exc c p
  | .bad => .bad
theorem cp_ofI {F : Fn} {rp : Rp (HL Us0)} {body : HL (HL Us0 :: Ts) → SR (HL (HL Us0 :: Ts)) Unit} {d : HL Us0} (hn : noIo kds = true) (h : CE al kds .frz (callZ F) rp (runI body d f o)) : CP al kds F rp (runIC body d f) := cp_of hn h fun as => by
  unfold runIC runI
  cases body (d, f as) <;> rfl
theorem fn_I {N K : Nat} {m : SM} {body : HL (HL Us0 :: Ts) → SR (HL (HL Us0 :: Ts)) Unit} {d : HL Us0} (hi : Ini al s kds ks kr f o) (hN : N = s.len + 1) (hb : RfS (.cons (tyIns c al0 os) s) (.io 0 :: ks) (.io K :: kr) (.dead :: kr) ks' .frz tyNone m body) (hw : wkB ks' (.io K :: kr) = true) :
    CE al kds (.new K) (mkFn c (fnM N m)) (tyIns c al0 os) (runI body d f o) := by
  intro B μ vs as fps st
  subst hN
  have e0 : mkFn c (fnM (s.len + 1) m) vs μ = (match (match m (some (.loc μ.length) :: (vs.map some ++ List.replicate (s.len + 1 - (vs.length + 1)) none)) (μ ++ [.ins c []]) with
    | .ret v m => Res.ok v m
    | .next _ m => .ok (.d .none) m
    | .exc c p _ m => .exc c p m
    | .bad => .bad) with
    | .ok (.d .none) m => .ok (.loc μ.length) m
    | .ok _ _ => .bad
    | .exc c p m => .exc c p m
    | .bad => .bad) := rfl
  rw [Nat.add_sub_add_right] at e0
  obtain ⟨stg, frg⟩ := st.grow (μ' := μ ++ [.ins c []]) (by simp) fun l hl => List.getElem?_append_left hl
  have fl : (fps ++ List.replicate (s.len - vs.length) []).flatten = fps.flatten := by rw [List.flatten_append, flat_repl, List.append_nil]
  have at1 : (μ ++ [Cell.ins c []])[μ.length]? = some (.ins c []) := by
    rw [List.getElem?_append_right (Nat.le_refl _), Nat.sub_self]
    rfl
  have new : ∀ l ∈ fps.flatten, l ≠ μ.length := fun l hl z => Nat.lt_irrefl _ (z ▸ st.r.lt l hl)
  have st0 : St (.cons (tyIns c al0 os) s) (.io 0 :: ks) (some (.loc μ.length) :: (vs.map some ++ List.replicate (s.len - vs.length) none)) B ((d, f as) : HL (HL Us0 :: Ts)) (some (.loc μ.length) :: (vs.map some ++ List.replicate (s.len - vs.length) none)) (μ ++ [.ins c []]) ([μ.length] :: (fps ++ List.replicate (s.len - vs.length) [])) := by
    refine ⟨⟨⟨.loc μ.length, rfl, rfl, μ.length, [], [], rfl, at1, rfl, ?_, nd1 _⟩, hi.start stg.r⟩, ?_, ?_, stg.lb⟩
    · simp [ownFs]
    · rw [List.flatten_cons, fl]
      exact List.nodup_cons.mpr ⟨fun z => new _ z rfl, st.nd⟩
    · rw [List.flatten_cons, fl]
      intro l hl
      rcases List.mem_cons.mp hl with rfl | hl
      · exact fun z => Nat.lt_irrefl _ (st.lb _ z)
      · exact st.nb l hl
  have h := hb _ B ((d, f as) : HL (HL Us0 :: Ts)) _ _ _ st0
  have fin0 : ∀ {γ : HL (HL Us0 :: Ts)} {e' : Env} {μ' : Mem} {Ps' : List (List Nat)} {k : Kd}, St (.cons (tyIns c al0 os) s) (k :: kr) (some (.loc μ.length) :: (vs.map some ++ List.replicate (s.len - vs.length) none)) B γ e' μ' Ps' → Fr (μ ++ [.ins c []]) ([μ.length] :: (fps ++ List.replicate (s.len - vs.length) [])) μ' Ps' →
      ∃ fp fps', St al kds (vs.map some) B (o as γ.2) (vs.map some) μ' fps' ∧ Fr μ fps μ' fps' ∧ Ps'.flatten = fp ++ fps'.flatten ∧ (k = .io K → (tyIns c al0 os).own K μ' (.loc μ.length) γ.1 fp) ∧ Fre fp B μ fps fps' := by
    intro γ e' μ' Ps' k st' fr
    obtain ⟨k', ks2, y, A', x, e2, fp, Ps2, q1, q2, rfl, rfl, q3, q4⟩ := st'.r.inv
    cases q1
    cases q2
    have keep : ∀ l, l < μ.length → l ∉ fps.flatten → μ'[l]? = μ[l]? := fun l hl hn => by
      rw [fr.keep l (by simp; omega) (by
        rw [List.flatten_cons, fl]
        intro z
        rcases List.mem_cons.mp z with rfl | z
        · exact Nat.lt_irrefl _ hl
        · exact hn z), List.getElem?_append_left hl]
    have sub : ∀ l ∈ fp ++ Ps2.flatten, l ∈ fps.flatten ∨ μ.length ≤ l := fun l hl => by
      rcases fr.sub l (by rw [List.flatten_cons]; exact hl) with z | z
      · rw [List.flatten_cons, fl] at z
        rcases List.mem_cons.mp z with rfl | z
        · exact .inr (Nat.le_refl _)
        · exact .inl z
      · rw [List.length_append] at z
        exact .inr (Nat.le_trans (Nat.le_add_right _ _) z)
    obtain ⟨F, i1, i2⟩ := hi.back (μ' := μ') st.r (fun l hl => keep l (st.lb l hl) fun z => st.nb l z hl) q4
    have nd := st'.nd
    rw [List.flatten_cons] at nd
    have nd := List.nodup_append.mp nd
    refine ⟨fp, F, ⟨i1, by rw [i2]; exact nd.2.1, fun l hl => st'.nb l (by rw [i2] at hl; rw [List.flatten_cons]; exact List.mem_append_right _ hl), st'.lb⟩, ⟨?_, keep, fun l hl => sub l (by rw [i2] at hl; exact List.mem_append_right _ hl)⟩, by rw [List.flatten_cons, i2], ?_, nd.1, fun l hl => ⟨fun z => ?_, st'.nb l (by rw [List.flatten_cons]; exact List.mem_append_left _ hl)⟩, fun l hl => sub l (List.mem_append_left _ hl)⟩
    · have := fr.le
      rw [List.length_append] at this
      exact Nat.le_trans (Nat.le_add_right _ _) this
    · rintro rfl
      obtain ⟨v, rfl, z2, z3⟩ := q3
      cases z2
      exact z3
    · rw [i2] at z
      exact nd.2.2 l hl l z rfl
  rw [e0]
  unfold runI
  cases hr : body (d, f as) with
  | ret r γ =>
    rw [hr] at h
    obtain ⟨v, e', μ', Ps', h1, h2, h3, h4⟩ := h
    obtain ⟨fp, F, i1, i2, _, i3, i4⟩ := fin0 h3 h4
    obtain ⟨rfl, _⟩ := h2
    rw [h1]
    exact ⟨.loc μ.length, μ', F, rfl, ⟨fp, i3 rfl, i4⟩, i1, i2⟩
  | exc c' p γ =>
    rw [hr] at h
    obtain ⟨e', μ', Ps', h1, h3, h4⟩ := h
    obtain ⟨fp, F, i1, i2, _, _, _⟩ := fin0 h3 h4
    rw [h1]
    exact ⟨μ', F, rfl, i1, i2⟩
  | next γ =>
    rw [hr] at h
    obtain ⟨e', μ', Ps', h1, h3, h4⟩ := h
    obtain ⟨Q, h5, h6⟩ := h3.wk hw
    obtain ⟨fp, F, i1, i2, _, i3, i4⟩ := fin0 h5 (h4.trans h6)
    rw [h1]
    exact ⟨.loc μ.length, μ', F, rfl, ⟨fp, i3 rfl, i4⟩, i1, i2⟩
  | bad => trivial
section
variable {i : Nat} {rp : Rp α} {rq : Rp ρ} {g : HL Ts → α} {oa : HL Us → α}
theorem rfx_callF {N : Nat} {F : Fn} {m : AM} {p : α → HL Ts → HL Ts} {kd : Kd} {t : HL Us → ER (HL Us) ρ} {ta : HL Ts → ER (HL Ts) (HL Ts → HL Us)} (ce : CE al kds .frz F rq t) (ix : Ix rp s i g p) (hk : ks[i]? = some kd) (hn : kdO kd n = true) (ha : RfX s ks i n rp g m al kds oa true ta) (hN : N = Us.length := by rfl) : RfE s ks (eCall N false F m) (Fz rq) (xCallE t p oa ta) := fun A B γ e μ Ps st => by
  have h := ha A B γ e μ Ps st
  show OkE s ks A B e μ Ps ((m e μ).bind fun xs μ => if xs.length = N then F xs μ else .bad) _ ((ta γ).bind fun fa γ => (t (fa γ)).out fun as => p (oa as) γ)
  cases ht : ta γ with
  | ok fa γ' =>
    rw [ht] at h
    obtain ⟨vs, μ', Ps', h1, h2, h3, h4⟩ := h
    rw [h1, Res.bind_ok, ER.bind_ok, if_pos (by rw [h2.len ix hk hn h3, hN])]
    have z := call_X ce ix hk hn h2 h3
    cases hr : (t (fa γ')).out fun as => p (oa as) γ' with
    | ok r γ2 =>
      rw [hr] at z
      obtain ⟨v, μ2, Ps2, z1, z2, z3, z4⟩ := z
      exact ⟨v, μ2, Ps2, z1, z2, z3, h4.trans z4⟩
    | exc c' q γ2 =>
      rw [hr] at z
      obtain ⟨μ2, Ps2, z1, z3, z4⟩ := z
      exact ⟨μ2, Ps2, z1, z3, h4.trans z4⟩
    | bad => trivial
  | exc c' q γ' =>
    rw [ht] at h
    obtain ⟨μ', Ps', h1, h3, h4⟩ := h
    rw [h1]
    exact ⟨μ', Ps', rfl, h3, h4⟩
  | bad => trivial
end
theorem rfo_slot {i : Nat} {al0 : SL Us0} {g : HL Ts → HL Us0} {p : HL Us0 → HL Ts → HL Ts} {k : Kd} (ix : Ix (tyIns c al0 os) s i g p) (hk : ks[i]? = some k) (hn : kdIs k n = true) : RfO s ks c (eVar i) (cV g) := rfo_W (rf_view ix hk hn).w
theorem eb_call {p : α → HL Ts → HL Ts} {t : HL Us → ER (HL Us) ρ} {oa : HL Us → α} {ta : HL Ts → ER (HL Ts) (HL Ts → HL Us)} {g : HL Ts → β} (γ : HL Ts) (h : cV g γ = .bad) : xCallE t p oa ta γ = .bad := by cases h
end
end Fs
namespace Fs
open PySem PySem.Spec L2
section
variable {Ts : List Type} {s : SL Ts} {ks : List Kd} {α β : Type} {rp : Rp α} {n : Nat}
end
section
variable {Ts : List Type} {s : SL Ts} {ks kr kx kxb ks1 ks' : List Kd} {ρ : Type} {rm : Rm} {rr : Rp ρ}
def tTryAs {Γ ρ : Type} (kn : List Nat) (ch : Nat) (tb : Γ → SR Γ ρ) (th : List Data → Γ → SR Γ ρ) (γ : Γ) : SR Γ ρ := match tb γ with
  | .exc c p γ' => if c ∈ kn then (if c = ch then (match th p γ' with
    | .next γ2 => .next γ2
    | _ => .bad) else .exc c p γ') else .bad
  | r => r
def tcase {Γ ρ : Type} (t : Data → Γ → SR Γ ρ) (p : List Data) (γ : Γ) : SR Γ ρ := match p with
  | [x] => t x γ
  | _ => .bad
theorem rs_case {m : Data → SM} {t : Data → HL Ts → SR (HL Ts) ρ} (h : ∀ x, RfS s ks kr kx ks' rm rr (m x) (t x)) (p : List Data) : RfS s ks kr kx ks' rm rr (hcase m p) (tcase t p) := fun A B γ e μ Ps st => by
  cases p with
  | nil => trivial
  | cons x r =>
    cases r with
    | nil => exact h x A B γ e μ Ps st
    | cons y r => trivial
theorem St.unset {A : Env} {B : List Nat} {γ : HL Ts} {e : Env} {μ : Mem} {Ps : List (List Nat)} {i : Nat} (st : St s ks A B γ e μ Ps) (hd : ks[i]? = some .dead) : St s ks A B γ (e.set i none) μ Ps := ⟨st.r.env (by simp) fun j => by
  by_cases hj : i = j
  · subst hj
    exact .inl hd
  · exact .inr (List.getElem?_set_ne hj), st.nd, st.nb, st.lb⟩
theorem rs_tryAs {kn : List Nat} {ch i : Nat} {mb : SM} {mh : List Data → SM} {tb : HL Ts → SR (HL Ts) ρ} {th : List Data → HL Ts → SR (HL Ts) ρ} (hb : RfS s ks kr kxb ks' rm rr mb tb) (hh : ∀ p, RfS s kxb kr kx ks1 rm rr (mh p) (th p)) (h0 : kxb[i]? = some .dead) (h1 : wkB ks1 ks' = true) (h2 : ks1[i]? = some .dead) (h3 : wkB kxb kx = true) :
    RfS s ks kr kx ks' rm rr (sTryAs kn ch i mb mh) (tTryAs kn ch tb th) := fun A B γ e μ Ps st => by
  have h := hb A B γ e μ Ps st
  show OkSt s kr kx ks' rm rr A B μ Ps (match mb e μ with
    | .exc c p e' μ' => if c ∈ kn then (if c = ch then unS i (mh p (e'.set i none) μ') else .exc c p e' μ') else .bad
    | r => r) _
  unfold tTryAs
  cases hr : tb γ with
  | next γ' =>
    rw [hr] at h
    obtain ⟨e', μ', Ps', k1, k2, k3⟩ := h
    rw [k1]
    exact ⟨e', μ', Ps', rfl, k2, k3⟩
  | ret r γ' =>
    rw [hr] at h
    obtain ⟨v, e', μ', Ps', k1, k4, k2, k3⟩ := h
    rw [k1]
    exact ⟨v, e', μ', Ps', rfl, k4, k2, k3⟩
  | bad => trivial
  | exc c p γ' =>
    rw [hr] at h
    obtain ⟨e', μ', Ps', k1, k2, k3⟩ := h
    rw [k1]
    dsimp only
    split
    · split
      · have k := hh p A B γ' (e'.set i none) μ' Ps' (k2.unset h0)
        cases ht : th p γ' with
        | next γ2 =>
          rw [ht] at k
          obtain ⟨e2, μ2, Ps2, j1, j2, j3⟩ := k
          rw [j1]
          obtain ⟨Q, j4, j5⟩ := (j2.unset h2).wk h1
          exact ⟨_, μ2, Q, rfl, j4, (k3.trans j3).trans j5⟩
        | _ => trivial
      · obtain ⟨Q, j4, j5⟩ := k2.wk h3
        exact ⟨e', μ', Q, rfl, j4, k3.trans j5⟩
    · trivial
end
end Fs
namespace Fs
open PySem PySem.Spec L2
section
variable {Ts : List Type} {s : SL Ts} {ks kr kx ks' : List Kd} {α ρ : Type} {rp : Rp α} {rm : Rm} {rr : Rp ρ}
end
end Fs
namespace Fs
open PySem PySem.Spec L2
def SR.mapR {Γ ρ δ : Type} (f : ρ → δ) : SR Γ ρ → SR Γ δ
  | .next γ => .next γ
  | .ret r γ => .ret (f r) γ
  | .exc c p γ => .exc c p γ
  | .bad => .bad
@[simp] def tMapR {Γ ρ δ : Type} (f : ρ → δ) (t : Γ → SR Γ ρ) (γ : Γ) : SR Γ δ := (t γ).mapR f
section
variable {Ts : List Type} {s : SL Ts} {ks kr kx ks' : List Kd} {α : Type} {rp : Rp α} {n : Nat}
end
end Fs
namespace Fs
open PySem PySem.Spec L2
section
variable {Ts : List Type} {s : SL Ts} {ks : List Kd} {α β : Type} {rp : Rp α} {rq : Rp β} {n n' : Nat} {μ : Mem}
def oSeqD (d : Data) : PR (List Data) := match seqD d with
  | some ds => if ds.length ≤ lim then .ok ds else .bad
  | Option.none => .bad
theorem oSeqD_x (a : Data) : (∃ b, oSeqD a = .ok b) ∨ oSeqD a = .bad := by
  unfold oSeqD
  split
  · split
    · exact .inl ⟨_, rfl⟩
    · exact .inr rfl
  · exact .inr rfl
theorem oSeqD_it {a : Data} {b : List Data} (h : oSeqD a = .ok b) : itA (.d a) μ = some ⟨lv tyData b, Option.none⟩ ∧ okL tyData b := by
  unfold oSeqD at h
  cases hs : seqD a with
  | none =>
    rw [hs] at h
    cases h
  | some ds =>
    rw [hs] at h
    have h : (if ds.length ≤ lim then PR.ok ds else .bad) = .ok b := h
    by_cases hl : ds.length ≤ lim
    · rw [if_pos hl] at h
      cases h
      refine ⟨?_, hl, fun _ _ => trivial⟩
      have e : itA (.d a) μ = (seqV μ (.d a)).map fun vs => ⟨vs, Option.none⟩ := by
        cases a <;> first | rfl | cases hs
      rw [e, seqV_D, hs]
      rfl
    · rw [if_neg hl] at h
      cases h
theorem ri_dat {m : EM} {t : HL Ts → ER (HL Ts) Data} (h : RfE s ks m (Fz tyData) t) : RfI s ks (iOf itA m) tyData (x1 oSeqD t) := fun A B γ e μ Ps st => by
  show OkI s ks A B e μ Ps ((m e μ).bind fun x μ => match itA x μ with
    | some i => .ok i μ
    | Option.none => .bad) _ _
  refine (h A B γ e μ Ps st).bindI fun v a γ μ Ps hv st => ?_
  obtain ⟨rfl, hv⟩ := hv
  show OkI _ _ _ _ _ _ _ _ _ ((oSeqD a).er γ)
  rcases oSeqD_x a with ⟨b, e1⟩ | e1
  · obtain ⟨e2, e3⟩ := oSeqD_it (μ := μ) e1
    have e2 : itA (.d (tyData.enc a)) μ = some ⟨lv tyData b, Option.none⟩ := e2
    rw [e1, e2]
    exact OkI.of st ⟨rfl, e3, .inl rfl⟩
  · rw [e1]
    trivial
end
end Fs
namespace Fs
open PySem PySem.Spec L2
noncomputable def eLcN (vs : List Nat) (it : IM) (tg : Val → Fs.Env → Option Fs.Env) (t : TM) (el : EM) : EM := fun e μ => (it e μ).bind fun i μ => match lcL i.guard μ.length tg t el i.items (wipeE e vs) (μ ++ [.lst []]) with
  | .ok _ μ' => .ok (.loc μ.length) μ'
  | _ => .bad
section
variable {T : Tbl} {N : List Str} {sc : Scope} {k : Nat} {W : WX} {X : Cx}
theorem rd_lcN {vs js : List Nat} {mi : IM} {tg : Val → Fs.Env → Option Fs.Env} {t : TM} {el : EM} {σ : L2.St} {H : Hp} {Q : VK} (hjs : ∀ j ∈ js, j ∈ vs) (h : rdE T W (eLcN vs mi tg t el) σ H Q) : tLc (rdI T W mi) (rdGt T js tg) (rdT T W0 t) (rdE T W0 el) vs σ H Q := by
  obtain ⟨w, e, μ, er, mr, ok⟩ := h
  refine ⟨w, e, μ, er, mr, ?_⟩
  have ok : OkR T (VRep T) w ((mi e μ).bind fun i μ => match lcL i.guard μ.length tg t el i.items (wipeE e vs) (μ ++ [.lst []]) with
    | .ok _ μ' => .ok (.loc μ.length) μ'
    | _ => .bad) Q (fun c d H' => W c d σ H') := ok
  cases hm : mi e μ with
  | bad =>
    rw [hm] at ok
    exact ok
  | exc c p μ' =>
    rw [hm] at ok
    exact ok
  | ok it μ1 =>
    rw [hm] at ok
    intro w1 H1 J le1 mr1 iok D hD
    obtain ⟨le2, mr2⟩ := mr1.newC (o := .lst []) (c := .lst []) hD ⟨mr1.newF hD, [], upd_same, .nil⟩
    have hl : (⟨w1.r ++ [D], w1.F⟩ : Wd).r[μ1.length]? = some D := by
      show (w1.r ++ [D])[μ1.length]? = some D
      rw [← mr1.len, List.getElem?_append_right (Nat.le_refl _), Nat.sub_self]
      rfl
    have ok : OkR T (VRep T) w (match lcL it.guard μ1.length tg t el it.items (wipeE e vs) (μ1 ++ [.lst []]) with
      | .ok _ μ' => .ok (.loc μ1.length) μ'
      | _ => .bad) Q (fun c d H' => W c d σ H') := ok
    cases hr : lcL it.guard μ1.length tg t el it.items (wipeE e vs) (μ1 ++ [.lst []]) with
    | bad =>
      rw [hr] at ok
      exact ok.elim
    | exc c p m =>
      rw [hr] at ok
      exact ok.elim
    | ok u μ2 =>
      rw [hr] at ok
      have fin : ∀ w' H', (⟨w1.r ++ [D], w1.F⟩ : Wd).Le w' → MRel T w' μ2 H' → Q (.ref D) H' := fun w' H' le' mr' => ok w' H' _ (le1.trans (le2.trans le')) mr' (.loc (le'.at hl))
      refine ⟨fun i m H => m = it.items.length - i ∧ i ≤ it.items.length ∧ LcI T (L2.wipe σ vs) (wipeE e vs) ⟨w1.r ++ [D], w1.F⟩ it.guard μ1.length tg t el (it.items.drop i) μ2 H,
        ⟨it.items.length, by simp, Nat.zero_le _, _, _, Wd.Le.refl _, ((er.mono le1).mono le2).wipe vs, mr2, by rw [List.drop_zero]; exact hr⟩, ?_⟩
      rintro i m H ⟨rfl, hi, hI⟩
      rcases lc_turn hjs le2 hl iok fin i hi H hI with z | ⟨z1, z2, z3⟩
      · exact .inl z
      · exact .inr ⟨z1, _, fun H' z => ⟨it.items.length - (i + 1), by omega, rfl, z2, z⟩, z3⟩
theorem de_lcN (B : Bx T N sc k W X) (own : List (Str × Nat)) (L : List (Str × NameKind)) {elt tg iter : Expr} {ifs : List Expr} {scope : Scope} {pos : Pos} {mi : IM} {js : List Nat} {g : Val → Fs.Env → Option Fs.Env} {mt : TM} {me : EM} (hi : DI T W X tg iter mi) (ok : BlkOk N sc scope own) (S : Sk (relS scope sc) L)
    (hg : ∀ Y : Cx, Bx T N (relS scope sc) k W0 Y → Sk (relS scope sc) L → DG T Y tg js g) (ht : ∀ Y : Cx, Bx T N (relS scope sc) k W0 Y → Sk (relS scope sc) L → DTs T W0 Y ifs mt) (he : ∀ Y : Cx, Bx T N (relS scope sc) k W0 Y → Sk (relS scope sc) L → DE T W0 Y elt me)
    (hjs : ∀ j ∈ js, j ∈ own.map (·.2) := by decide) (hs : ∀ x, foldedSetIterable iter X.env x = pure x := by intro _; rfl) : DE T W X (.ListComp elt [⟨tg, iter, ifs, 0⟩] scope pos) (eLcN (own.map (·.2)) mi g mt me) :=
  (pe_lc B.calm (by rw [B.hN]; exact B.nd) hi (by rw [B.hN, B.hsc]; exact ok) (fun s H C cl fp => (hg _ (B.blk s H scope cl C fp) S).can) (fun s H C cl fp => ht _ (B.blk s H scope cl C fp) S) (fun s H C cl fp => he _ (B.blk s H scope cl C fp) S) hs).mono fun _ _ _ h => rd_lcN hjs h
theorem ds_setLcN (B : Bx T N sc k W X) (own : List (Str × Nat)) (L : List (Str × NameKind)) (i : Nat) {y : Str} {py spos : Pos} {elt tg iter : Expr} {ifs : List Expr} {scope : Scope} {pos : Pos} {mi : IM} {js : List Nat} {g : Val → Fs.Env → Option Fs.Env} {mt : TM} {me : EM} (hy : N[i]? = some y) (hyl : sc.names.lookup y = some NameKind.local) (hi : DI T W X tg iter mi) (ok : BlkOk N sc scope own) (S : Sk (relS scope sc) L)
    (hg : ∀ Y : Cx, Bx T N (relS scope sc) k W0 Y → Sk (relS scope sc) L → DG T Y tg js g) (ht : ∀ Y : Cx, Bx T N (relS scope sc) k W0 Y → Sk (relS scope sc) L → DTs T W0 Y ifs mt) (he : ∀ Y : Cx, Bx T N (relS scope sc) k W0 Y → Sk (relS scope sc) L → DE T W0 Y elt me)
    (hsw : swapsWith (.ListComp elt [⟨tg, iter, ifs, 0⟩] scope pos) (some (.Name y py)) spos.line X.env = pure true) (hjs : ∀ j ∈ js, j ∈ own.map (·.2) := by decide) (hs : ∀ x, foldedSetIterable iter X.env x = pure x := by intro _; rfl) :
    DS T W X (.Assign [.Name y py] (.ListComp elt [⟨tg, iter, ifs, 0⟩] scope pos) spos) (sSet i (eLcN (own.map (·.2)) mi g mt me)) := by
  refine (ps_setLc (i := i) B.calm (by rw [B.hN]; exact B.nd) (by rw [B.hN]; exact hy) (by rw [B.hsc]; exact hyl) hsw hi (by rw [B.hN, B.hsc]; exact ok) (fun s H C cl fp => (hg _ (B.blk s H scope cl C fp) S).can) (fun s H C cl fp => ht _ (B.blk s H scope cl C fp) S) (fun s H C cl fp => he _ (B.blk s H scope cl C fp) S) hs).mono fun D σ H h => ?_
  obtain ⟨w, e, μ, er, mr, ok⟩ := h
  refine rd_lcN (W := W) hjs ?_
  refine (OkS.go (P := VRep T) er mr ok).imp fun x H1 ⟨w1, v, μ1, le1, mr1, p1, ok1⟩ => ?_
  exact ok1 w1 _ H1 (Wd.Le.refl _) ((er.mono le1).set i p1) mr1
end
section
variable {Ts : List Type} {s : SL Ts} {ks : List Kd} {α β : Type} {rp : Rp α} {rq : Rp β}
theorem rnx_lc {ksw ks1 : List Kd} {vs : List Nat} {mi : IM} {ti : HL Ts → ER (HL Ts) (List α)} {tg : Val → Env → Option Env} {set : α → HL Ts → HL Ts} {t : TM} {el : EM} {tc : HL Ts → ER (HL Ts) Bool} {te : HL Ts → ER (HL Ts) β} {fin : HL Ts → HL Ts → HL Ts} (hi : RfI s ks mi rp ti) (w : Wq s ks vs ksw fin) (hg : RfG s ksw rp tg set ks1) (hw : wkB ks1 ksw = true) (hd : TgD ksw tg) (hc : RfE s ks1 t Eq tc) (he : RfE s ks1 el (Fz rq) te) :
    RfN s ks 0 (eLcN vs mi tg t el) (tyList rq) (xLc ti set tc te fin) := fun A B γ e μ Ps st => by
  have h := hi A B γ e μ Ps st
  show OkN s ks A B e μ Ps 0 ((mi e μ).bind fun i μ => match lcL i.guard μ.length tg t el i.items (wipeE e vs) (μ ++ [.lst []]) with
    | .ok _ μ' => .ok (.loc μ.length) μ'
    | _ => .bad) _ ((ti γ).bind fun xs γ0 => (lcE set tc te xs γ0).calmTo (fin γ0))
  cases ht : ti γ with
  | ok xs γ0 =>
    rw [ht] at h
    obtain ⟨it, μ1, Ps1, h1, h2, st1, f1⟩ := h
    rw [h1, Res.bind_ok, ER.bind_ok, h2.items]
    obtain ⟨Q, stw, fw⟩ := w.wp.st st1
    obtain ⟨stg, fg⟩ := stw.grow (μ' := μ1 ++ [.lst []]) (by simp) fun l hl => List.getElem?_append_left hl
    cases hr : lcE set tc te xs γ0 with
    | ok ys γ2 =>
      have nQ : μ1.length ∉ Q.flatten := fun z => Nat.lt_irrefl _ (stw.r.lt _ z)
      have nB : μ1.length ∉ B := fun z => Nat.lt_irrefl _ (st1.lb _ z)
      obtain ⟨μ2, Q2, k1, k2, k3, k4, ⟨k5, k6, k7⟩, k8⟩ := lcE_ok (rq := rq) hg hw hd hc he it.guard μ1.length nB xs h2.ok.2 γ0 (μ1 ++ [.lst []]) Q [] (by
        rcases h2.guard with z | ⟨l, us, z1, z2, z3⟩
        · exact .inl z
        · exact .inr ⟨l, us, z1, z2, by rw [List.getElem?_append_left (st1.lb l z2)]; exact z3⟩) stg nQ (by rw [List.getElem?_append_right (Nat.le_refl _), Nat.sub_self]; rfl) (fun y hy => by cases hy) (by simpa using h2.ok.1) ys γ2 hr
      rw [List.nil_append] at k2 k3
      rw [k1]
      obtain ⟨Q3, j1, j2⟩ := w.back st1 k4
      have f3 : Fr μ1 Ps1 μ2 Q3 := Fr.trans ⟨by simp at k5; omega, fun l q1 q2 => by
        rw [k6 l (by simp; omega) (fun z => by
          rcases fw.sub l z with w | w
          · exact q2 w
          · omega) (by omega), List.getElem?_append_left q1], fun l hl => by
        rcases k7 l hl with w | w
        · exact fw.sub l w
        · simp at w
          exact .inr (by omega)⟩ j2
      have f4 := f1.trans f3
      refine ⟨.loc μ1.length, μ2, Q3, [μ1.length], rfl, ⟨k3, μ1.length, rfl, k2, rfl⟩, ⟨nd1 _, fun l hl => ?_, fun l hl => .inr ?_⟩, j1, f4⟩
      · rw [List.mem_singleton.mp hl]
        refine ⟨fun z => ?_, nB⟩
        rcases j2.sub _ z with z | z
        · exact k8 z
        · have : μ1.length < μ2.length := by simp at k5; omega
          omega
      · rw [List.mem_singleton.mp hl]
        exact f1.le
    | exc c p γ2 => trivial
    | bad => trivial
  | exc c p γ' =>
    rw [ht] at h
    obtain ⟨μ', Ps', h1, h3, h4⟩ := h
    rw [h1]
    exact ⟨μ', Ps', rfl, h3, h4⟩
  | bad => trivial
end
end Fs
namespace Fs
open PySem PySem.Spec L2
def ownS {α : Type} (r : Rp α) (k : Nat) (m : Mem) : List Val → List α → List Nat → Prop
  | [], [], fp => fp = []
  | v :: vs, a :: as, fp => ∃ p q, fp = p ++ q ∧ r.own k m v a p ∧ ownS r k m vs as q
  | _, _, _ => False
section
variable {α : Type} {r : Rp α} {k : Nat} {m m' : Mem}
theorem ownS.loc : ∀ {vs : List Val} {as : List α} {fp : List Nat}, ownS r k m vs as fp → (∀ l ∈ fp, m'[l]? = m[l]?) → ownS r k m' vs as fp
  | [], [], _, h, _ => h
  | _ :: _, _ :: _, _, ⟨p, q, e, h1, h2⟩, k => by
    subst e
    exact ⟨p, q, rfl, r.loc h1 fun l hl => k l (List.mem_append_left _ hl), h2.loc fun l hl => k l (List.mem_append_right _ hl)⟩
  | [], _ :: _, _, h, _ => h.elim
  | _ :: _, [], _, h, _ => h.elim
theorem ownS.lt : ∀ {vs : List Val} {as : List α} {fp : List Nat}, ownS r k m vs as fp → ∀ l ∈ fp, l < m.length
  | [], [], _, h, l, hl => by
    have h : _ = [] := h
    rw [h] at hl
    cases hl
  | _ :: _, _ :: _, _, ⟨p, q, e, h1, h2⟩, l, hl => by
    subst e
    rcases List.mem_append.mp hl with hl | hl
    · exact r.lt h1 l hl
    · exact h2.lt l hl
  | [], _ :: _, _, h, _, _ => h.elim
  | _ :: _, [], _, h, _, _ => h.elim
theorem ownS.len : ∀ {vs : List Val} {as : List α} {fp : List Nat}, ownS r k m vs as fp → vs.length = as.length
  | [], [], _, _ => rfl
  | _ :: _, _ :: _, _, ⟨_, _, _, _, h2⟩ => by rw [List.length_cons, List.length_cons, h2.len]
  | [], _ :: _, _, h => h.elim
  | _ :: _, [], _, h => h.elim
theorem ownS.upd : ∀ {vs : List Val} {as : List α} {fp : List Nat} {i : Nat} {a : α}, ownS r k m vs as fp → as[i]? = some a → ∃ w p0 q rr, fp = p0 ++ (q ++ rr) ∧ vs[i]? = some w ∧ r.own k m w a q ∧ ∀ {m' : Mem} {a' : α} {q' : List Nat}, r.own k m' w a' q' → (∀ y ∈ p0 ++ rr, m'[y]? = m[y]?) → ownS r k m' vs (as.set i a') (p0 ++ (q' ++ rr))
  | [], [], _, _, _, _, e => by simp at e
  | v :: vs, b :: as, _, 0, a, ⟨p, q, e, h1, h2⟩, e1 => by
    subst e
    have e1 : b = a := by simpa using e1
    subst e1
    exact ⟨v, [], p, q, rfl, rfl, h1, fun {m' a' q'} h3 h4 => ⟨q', q, rfl, h3, h2.loc fun l hl => h4 l hl⟩⟩
  | v :: vs, b :: as, _, i + 1, a, ⟨p, q, e, h1, h2⟩, e1 => by
    subst e
    obtain ⟨w, p0, q1, rr, e2, e3, e4, e5⟩ := h2.upd (i := i) (a := a) (by simpa using e1)
    subst e2
    refine ⟨w, p ++ p0, q1, rr, by rw [List.append_assoc], by simpa using e3, e4, fun {m' a' q'} h3 h4 => ?_⟩
    refine ⟨p, p0 ++ (q' ++ rr), by rw [List.append_assoc], r.loc h1 fun l hl => h4 l (by simp [hl]), e5 h3 fun y hy => h4 y ?_⟩
    rcases List.mem_append.mp hy with z | z <;> simp [z]
  | [], _ :: _, _, _, _, h, _ => h.elim
  | _ :: _, [], _, _, _, h, _ => h.elim
theorem ownS.snoc : ∀ {vs : List Val} {as : List α} {fp : List Nat} {v : Val} {a : α} {p : List Nat}, ownS r k m vs as fp → r.own k m v a p → ownS r k m (vs ++ [v]) (as ++ [a]) (fp ++ p)
  | [], [], fp, v, a, p, h, h2 => by
    have h : fp = [] := h
    subst h
    exact ⟨p, [], by simp, h2, rfl⟩
  | _ :: _, _ :: _, _, v, a, p, ⟨q1, q2, e, h1, h2⟩, h3 => by
    subst e
    exact ⟨q1, q2 ++ p, by simp, h1, h2.snoc h3⟩
  | [], _ :: _, _, _, _, _, h, _ => h.elim
  | _ :: _, [], _, _, _, _, h, _ => h.elim
end
def tyListL {α : Type} (r : Rp α) : Rp (List α) where
  enc xs := .list (xs.map r.enc)
  ok := okL r
  own _ m v xs fp := xs.length ≤ lim ∧ ∃ l vs q, v = .loc l ∧ m[l]? = some (.lst vs) ∧ fp = l :: q ∧ ownS r 0 m vs xs q ∧ fp.Nodup
  loc := by
    rintro n m m' v xs fp ⟨hl, l, vs, q, rfl, h, rfl, k, nd⟩ e
    exact ⟨hl, l, vs, q, rfl, by rw [e l (List.mem_cons_self ..)]; exact h, rfl, k.loc (fun j hj => e j (List.mem_cons_of_mem _ hj)), nd⟩
  lt := by
    rintro n m v xs fp ⟨hl, l, vs, q, rfl, h, rfl, k, nd⟩ j hj
    rcases List.mem_cons.mp hj with rfl | hj
    · exact (List.getElem?_eq_some_iff.mp h).1
    · exact k.lt j hj
  nrm := by
    rintro n m v xs fp ⟨hl, l, vs, q, rfl, h, rfl, k, nd⟩
    show (match m[l]? with
      | some (.frz x) => Val.d x
      | _ => Val.loc l) = _
    rw [h]
def dkL (kvs : List Str) (vs : List Val) : List (Key × Val) := (kvs.map Sum.inr).zip vs
def tyDictL {α : Type} (r : Rp α) : Rp (List (Str × α)) where
  enc kvs := .dk (kvs.map fun p => (.inr p.1, r.enc p.2))
  ok := okD r
  own _ m v kvs fp := (kvs.length ≤ lim ∧ (kvs.map (·.1)).Nodup) ∧ ∃ l vs q, v = .loc l ∧ m[l]? = some (.dk (dkL (kvs.map (·.1)) vs)) ∧ fp = l :: q ∧ ownS r 0 m vs (kvs.map (·.2)) q ∧ fp.Nodup
  loc := by
    rintro n m m' v xs fp ⟨hl, l, vs, q, rfl, h, rfl, k, nd⟩ e
    exact ⟨hl, l, vs, q, rfl, by rw [e l (List.mem_cons_self ..)]; exact h, rfl, k.loc (fun j hj => e j (List.mem_cons_of_mem _ hj)), nd⟩
  lt := by
    rintro n m v xs fp ⟨hl, l, vs, q, rfl, h, rfl, k, nd⟩ j hj
    rcases List.mem_cons.mp hj with rfl | hj
    · exact (List.getElem?_eq_some_iff.mp h).1
    · exact k.lt j hj
  nrm := by
    rintro n m v xs fp ⟨hl, l, vs, q, rfl, h, rfl, k, nd⟩
    show (match m[l]? with
      | some (.frz x) => Val.d x
      | _ => Val.loc l) = _
    rw [h]
section
variable {Ts : List Type} {s : SL Ts} {ks kr kx : List Kd} {α β ρ : Type} {rp : Rp α} {rr : Rp ρ} {rm : Rm} {n n' : Nat}
def OkP (s : SL Ts) (ks : List Kd) (A : Env) (B : List Nat) (γ : HL Ts) (e : Env) (μ : Mem) (Ps : List (List Nat)) (n : Nat) (x : Res Val) (rp : Rp α) (p : α → HL Ts → HL Ts) (r : PR α) : Prop := match r with
  | .ok a => ∃ v fp, x = .ok v μ ∧ rp.own n μ v a fp ∧ fp.Nodup ∧
    ∀ {μ' : Mem} {a' : α} {fp' : List Nat}, rp.own n μ' v a' fp' → μ.length ≤ μ'.length → (∀ l, l < μ.length → l ∉ fp → μ'[l]? = μ[l]?) → fp'.Nodup → (∀ l ∈ fp', l ∈ fp ∨ μ.length ≤ l) → ∃ Ps', St s ks A B (p a' γ) e μ' Ps' ∧ Fr μ Ps μ' Ps'
  | .exc c q => x = .exc c q μ
  | .bad => True
def PlcO (s : SL Ts) (ks : List Kd) (n : Nat) (m : EM) (rp : Rp α) (t : HL Ts → PR α) (p : α → HL Ts → HL Ts) : Prop := ∀ A B γ e μ Ps, St s ks A B γ e μ Ps → OkP s ks A B γ e μ Ps n (m e μ) rp p (t γ)
theorem Plc.o {m : EM} {g : HL Ts → α} {p : α → HL Ts → HL Ts} (h : Plc s ks n m rp g p) : PlcO s ks n m rp (cV g) p := fun A B γ e μ Ps st => h A B γ e μ Ps st
theorem part_ok {μ : Mem} {l : Nat} {p0 q rr : List Nat} {fp : List Nat} (nd : (l :: (p0 ++ (q ++ rr))).Nodup) (lt : ∀ y ∈ l :: (p0 ++ (q ++ rr)), y < μ.length) {fp' : List Nat} (q4 : fp'.Nodup) (q5 : ∀ y ∈ fp', y ∈ q ∨ μ.length ≤ y) :
    l ∉ q ∧ (∀ y ∈ p0 ++ rr, y ∉ q ∧ y < μ.length) ∧ (l :: (p0 ++ (fp' ++ rr))).Nodup := by
  obtain ⟨nl, nd2⟩ := List.nodup_cons.mp nd
  obtain ⟨n1, n2, n3⟩ := List.nodup_append.mp nd2
  obtain ⟨n4, n5, n6⟩ := List.nodup_append.mp n2
  have sep : ∀ y ∈ p0 ++ rr, y ∉ fp' ∧ y ∉ q ∧ y < μ.length := fun y hy => by
    have hm : y ∈ l :: (p0 ++ (q ++ rr)) := by
      rcases List.mem_append.mp hy with z | z <;> simp [z]
    have nq : y ∉ q := fun w => by
      rcases List.mem_append.mp hy with z | z
      · exact n3 y z y (by simp [w]) rfl
      · exact n6 y w y z rfl
    refine ⟨fun w => ?_, nq, lt y hm⟩
    rcases q5 y w with z | z
    · exact nq z
    · exact Nat.lt_irrefl _ (Nat.lt_of_lt_of_le (lt y hm) z)
  have nlq : l ∉ q := fun w => nl (by simp [w])
  have ll := lt l (List.mem_cons_self ..)
  have nl' : l ∉ fp' := fun w => by
    rcases q5 l w with z | z
    · exact nlq z
    · omega
  refine ⟨nlq, fun y hy => (sep y hy).2, ?_⟩
  rw [List.nodup_cons]
  refine ⟨fun w => ?_, ?_⟩
  · rcases List.mem_append.mp w with z | z
    · exact nl (by simp [z])
    · rcases List.mem_append.mp z with z | z
      · exact nl' z
      · exact nl (by simp [z])
  · refine List.nodup_append.mpr ⟨n1, List.nodup_append.mpr ⟨q4, n5, fun a ha b hb w => (sep b (by simp [hb])).1 (w ▸ ha)⟩, fun a ha b hb w => ?_⟩
    subst w
    rcases List.mem_append.mp hb with z | z
    · exact (sep a (by simp [ha])).1 z
    · exact n3 a ha a (by simp [z]) rfl
theorem mem_part {l y : Nat} {p0 q q' rr : List Nat} (μ : Mem) (hy : y ∈ l :: (p0 ++ (q' ++ rr))) (q5 : ∀ y ∈ q', y ∈ q ∨ μ.length ≤ y) : y ∈ l :: (p0 ++ (q ++ rr)) ∨ μ.length ≤ y := by
  rcases List.mem_cons.mp hy with rfl | hy
  · exact .inl (List.mem_cons_self ..)
  · rcases List.mem_append.mp hy with z | z
    · exact .inl (by simp [z])
    · rcases List.mem_append.mp z with z | z
      · rcases q5 y z with w | w
        · exact .inl (by simp [w])
        · exact .inr w
      · exact .inl (by simp [z])
def putIx (t : HL Ts → PR (List α)) (ti : HL Ts → PR Int) (p : List α → HL Ts → HL Ts) (a : α) (γ : HL Ts) : HL Ts := match t γ, ti γ with
  | .ok xs, .ok i => (match L2.ixN xs.length i with
    | some j => p (xs.set j a) γ
    | Option.none => γ)
  | _, _ => γ
theorem lstO {μ : Mem} {v : Val} {xs : List α} {fp : List Nat} (h : (tyListL rp).own n μ v xs fp) : ∃ l vs q, v = .loc l ∧ μ[l]? = some (.lst vs) ∧ fp = l :: q ∧ ownS rp 0 μ vs xs q ∧ fp.Nodup ∧ xs.length ≤ lim := by
  obtain ⟨hl, l, vs, q, e1, e2, e3, e4, e5⟩ := h
  exact ⟨l, vs, q, e1, e2, e3, e4, e5, hl⟩
theorem plo_idx {mo mi : EM} {t : HL Ts → PR (List α)} {p : List α → HL Ts → HL Ts} {ti : HL Ts → PR Int} (ho : PlcO s ks n mo (tyListL rp) t p) (hi : RfC s ks mi (Fz tyInt) ti) : PlcO s ks 0 (eBin idxV mo mi) rp (c2 oIdx t ti) (putIx t ti p) := fun A B γ e μ Ps st => by
  have h := ho A B γ e μ Ps st
  have hi := hi A B γ e μ Ps st
  show OkP s ks A B γ e μ Ps 0 _ rp _ ((t γ).bind _)
  cases ht : t γ with
  | bad => trivial
  | exc c q =>
    rw [ht] at h
    have h : mo e μ = .exc c q μ := h
    show (mo e μ).bind _ = _
    rw [h]
    rfl
  | ok xs =>
    rw [ht] at h
    obtain ⟨v, fp, h1, h2, nd, h3⟩ := h
    rw [PR.bind_ok]
    cases hti : ti γ with
    | bad => trivial
    | exc c q =>
      rw [hti] at hi
      have hi : mi e μ = .exc c q μ := hi
      show (mo e μ).bind _ = _
      rw [h1, Res.bind_ok, hi]
      rfl
    | ok i =>
      rw [hti] at hi
      obtain ⟨u, hi, rfl, _⟩ := hi
      rw [PR.bind_ok]
      obtain ⟨l, vs, q, rfl, e2, rfl, e4, e5, el⟩ := lstO h2
      show OkP s ks A B γ e μ Ps 0 _ rp _ (ofO (L2.atI xs i))
      cases hat : L2.atI xs i with
      | none => trivial
      | some a =>
        obtain ⟨j, hj, ha⟩ := Option.bind_eq_some_iff.mp (show (L2.ixN xs.length i).bind (xs[·]?) = some a from hat)
        obtain ⟨w, p0, q1, rr, rfl, f2, f3, f4⟩ := e4.upd ha
        have lt := (tyListL rp).lt h2
        have nd1 : q1.Nodup := (List.nodup_append.mp (List.nodup_append.mp (List.nodup_cons.mp nd).2).2.1).1
        have hat2 : L2.atI vs i = some w := by
          show (L2.ixN vs.length i).bind (vs[·]?) = _
          rw [e4.len, hj]
          exact f2
        refine ⟨w, q1, ?_, f3, nd1, fun {μ' a' fp'} r1 r2 r3 r4 r5 => ?_⟩
        · show (mo e μ).bind (fun x μ => (mi e μ).bind fun y μ => idxV x y μ) = _
          rw [h1, Res.bind_ok, hi, Res.bind_ok]
          show idxV (.loc l) (.d (.int i)) μ = _
          rw [idxV_seq (v := .loc l) (vs := vs) (by
            show (match μ[l]? with
              | some (.lst vs) => some vs
              | _ => Option.none) = _
            rw [e2]) (fun z w => by cases w) hat2, rp.nrm f3]
        · obtain ⟨s1, s2, s3⟩ := part_ok (fp := []) nd lt r4 r5
          have ll := lt l (List.mem_cons_self ..)
          obtain ⟨Q, k1, k2⟩ := h3 (μ' := μ') (a' := xs.set j a') (fp' := l :: (p0 ++ (fp' ++ rr))) ⟨by rw [List.length_set]; exact el, l, vs, _, rfl, by rw [r3 l ll s1]; exact e2, rfl, f4 r1 fun y hy => r3 y (s2 y hy).2 (s2 y hy).1, s3⟩ r2 (fun y hy hn => r3 y hy fun w => hn (by simp [w])) s3 fun y hy => mem_part μ hy r5
          refine ⟨Q, ?_, k2⟩
          have e9 : putIx t ti p a' γ = p (xs.set j a') γ := by
            unfold putIx
            rw [ht, hti]
            show (match L2.ixN xs.length i with
              | some j => p (xs.set j a') γ
              | Option.none => γ) = _
            rw [hj]
          rw [e9]
          exact k1
theorem lkV_dkL : ∀ {kvs : List (Str × α)} {vs : List Val} {k : Str} {a : α}, vs.length = kvs.length → getA kvs k = some a → ∃ (j : Nat) (w : Val), kvs[j]? = some (k, a) ∧ vs[j]? = some w ∧ lkV (dkL (kvs.map (·.1)) vs) (.inr k) = some w
  | [], _, _, _, _, h => by cases h
  | _ :: _, [], _, _, hl, _ => by cases hl
  | (b, x) :: kvs, v :: vs, k, a, hl, h => by
    unfold getA at h
    rw [List.find?_cons] at h
    by_cases e : b = k
    · subst e
      simp at h
      subst h
      refine ⟨0, v, rfl, rfl, ?_⟩
      simp [lkV, dkL]
    · have h : getA kvs k = some a := by
        unfold getA
        simpa [e] using h
      obtain ⟨j, w, h1, h2, h3⟩ := lkV_dkL (by simpa using hl) h
      refine ⟨j + 1, w, by simpa using h1, by simpa using h2, ?_⟩
      rw [← h3]
      unfold lkV dkL
      rw [List.map_cons, List.map_cons, List.zip_cons_cons, List.find?_cons]
      have e2 : ¬ ((Sum.inr b : Key) = .inr k) := by
        rw [inr_eq]
        exact e
      simp only [decide_eq_false e2]
theorem putA_at : ∀ {kvs : List (Str × α)} {k : Str} {a : α} {j : Nat} (b : α), (kvs.map (·.1)).Nodup → kvs[j]? = some (k, a) → putA kvs k b = kvs.set j (k, b)
  | [], _, _, _, _, _, h => by simp at h
  | (c, x) :: kvs, k, a, 0, b, nd, h => by
    have h : c = k ∧ x = a := by simpa using h
    obtain ⟨rfl, rfl⟩ := h
    have hn : c ∉ kvs.map (·.1) := (List.nodup_cons.mp nd).1
    unfold putA
    rw [if_pos (by simp)]
    rw [List.map_cons, if_pos rfl, List.set_cons_zero]
    congr 1
    have e : ∀ p ∈ kvs, (if p.1 = c then (p.1, b) else p) = p := fun p hp => if_neg fun z => hn (by rw [← z]; exact List.mem_map_of_mem hp)
    rw [List.map_congr_left e, List.map_id']
  | (c, x) :: kvs, k, a, j + 1, b, nd, h => by
    obtain ⟨hn, nd2⟩ := List.nodup_cons.mp nd
    have h : kvs[j]? = some (k, a) := by simpa using h
    have hm : (k, a) ∈ kvs := List.mem_of_getElem? h
    have hc : ¬ c = k := fun z => hn (by rw [z]; exact List.mem_map.mpr ⟨_, hm, rfl⟩)
    have ih := putA_at b nd2 h
    unfold putA at ih ⊢
    have a1 : (kvs.any fun p => decide (p.1 = k)) = true := List.any_eq_true.mpr ⟨_, hm, by simp⟩
    rw [if_pos a1] at ih
    rw [if_pos (by rw [List.any_cons, a1, Bool.or_true]), List.map_cons, if_neg hc, ih]
    rfl
def putKey (t : HL Ts → PR (List (Str × α))) (tk : HL Ts → PR Str) (p : List (Str × α) → HL Ts → HL Ts) (a : α) (γ : HL Ts) : HL Ts := match t γ, tk γ with
  | .ok kvs, .ok k => p (putA kvs k a) γ
  | _, _ => γ
theorem dctO {μ : Mem} {v : Val} {kvs : List (Str × α)} {fp : List Nat} (h : (tyDictL rp).own n μ v kvs fp) : ∃ l vs q, v = .loc l ∧ μ[l]? = some (.dk (dkL (kvs.map (·.1)) vs)) ∧ fp = l :: q ∧ ownS rp 0 μ vs (kvs.map (·.2)) q ∧ fp.Nodup ∧ kvs.length ≤ lim ∧ (kvs.map (·.1)).Nodup := by
  obtain ⟨⟨hl, hn⟩, l, vs, q, e1, e2, e3, e4, e5⟩ := h
  exact ⟨l, vs, q, e1, e2, e3, e4, e5, hl, hn⟩
theorem dgV_at {μ : Mem} {l : Nat} {kvs : List (Key × Val)} {k : Str} {w : Val} (h : μ[l]? = some (.dk kvs)) (h2 : lkV kvs (.inr k) = some w) : dgV (.loc l) (.d (.str k)) μ = .ok (norm μ w) μ := by
  have e : dkV μ (.loc l) = some kvs := by
    show (match μ[l]? with
      | some (.dk kvs) => some kvs
      | _ => Option.none) = _
    rw [h]
  unfold dgV
  rw [e]
  show (match lkV kvs (.inr k) with
    | some v => Res.ok (norm μ v) μ
    | Option.none => .bad) = _
  rw [h2]
theorem plo_key {mo mi : EM} {t : HL Ts → PR (List (Str × α))} {p : List (Str × α) → HL Ts → HL Ts} {ti : HL Ts → PR Str} (ho : PlcO s ks n mo (tyDictL rp) t p) (hi : RfC s ks mi (Fz tyStr) ti) : PlcO s ks 0 (eBin dgV mo mi) rp (c2 oGetA t ti) (putKey t ti p) := fun A B γ e μ Ps st => by
  have h := ho A B γ e μ Ps st
  have hi := hi A B γ e μ Ps st
  show OkP s ks A B γ e μ Ps 0 _ rp _ ((t γ).bind _)
  cases ht : t γ with
  | bad => trivial
  | exc c q =>
    rw [ht] at h
    have h : mo e μ = .exc c q μ := h
    show (mo e μ).bind _ = _
    rw [h]
    rfl
  | ok kvs =>
    rw [ht] at h
    obtain ⟨v, fp, h1, h2, nd, h3⟩ := h
    rw [PR.bind_ok]
    cases hti : ti γ with
    | bad => trivial
    | exc c q =>
      rw [hti] at hi
      have hi : mi e μ = .exc c q μ := hi
      show (mo e μ).bind _ = _
      rw [h1, Res.bind_ok, hi]
      rfl
    | ok k =>
      rw [hti] at hi
      obtain ⟨u, hi, rfl, _⟩ := hi
      rw [PR.bind_ok]
      obtain ⟨l, vs, q, rfl, e2, rfl, e4, e5, el, kn⟩ := dctO h2
      show OkP s ks A B γ e μ Ps 0 _ rp _ (ofO (getA kvs k))
      cases hat : getA kvs k with
      | none => trivial
      | some a =>
        have hlen : vs.length = kvs.length := by rw [e4.len, List.length_map]
        obtain ⟨j, w, ha, f2, lk⟩ := lkV_dkL hlen hat
        have ha2 : (kvs.map (·.2))[j]? = some a := by rw [List.getElem?_map, ha]; rfl
        obtain ⟨w', p0, q1, rr, rfl, f2', f3, f4⟩ := e4.upd ha2
        rw [f2] at f2'
        cases f2'
        have lt := (tyDictL rp).lt h2
        have nd1 : q1.Nodup := (List.nodup_append.mp (List.nodup_append.mp (List.nodup_cons.mp nd).2).2.1).1
        refine ⟨w, q1, ?_, f3, nd1, fun {μ' a' fp'} r1 r2 r3 r4 r5 => ?_⟩
        · show (mo e μ).bind (fun x μ => (mi e μ).bind fun y μ => dgV x y μ) = _
          rw [h1, Res.bind_ok, hi, Res.bind_ok]
          show dgV (.loc l) (.d (.str k)) μ = _
          rw [dgV_at e2 lk, rp.nrm f3]
        · obtain ⟨s1, s2, s3⟩ := part_ok (fp := []) nd lt r4 r5
          have ll := lt l (List.mem_cons_self ..)
          have pe := putA_at (b := a') kn ha
          have pk : (putA kvs k a').map (·.1) = kvs.map (·.1) := by
            rw [pe, List.map_set]
            obtain ⟨hj, z⟩ := List.getElem?_eq_some_iff.mp (show (kvs.map (·.1))[j]? = some k by rw [List.getElem?_map, ha]; rfl)
            rw [← z]
            exact List.set_getElem_self hj
          have pv : (putA kvs k a').map (·.2) = (kvs.map (·.2)).set j a' := by rw [pe, List.map_set]
          obtain ⟨Q, k1, k2⟩ := h3 (μ' := μ') (a' := putA kvs k a') (fp' := l :: (p0 ++ (fp' ++ rr))) ⟨⟨by rw [pe, List.length_set]; exact el, by rw [pk]; exact kn⟩, l, vs, _, rfl, by rw [pk, r3 l ll s1]; exact e2, rfl, by rw [pv]; exact f4 r1 fun y hy => r3 y (s2 y hy).2 (s2 y hy).1, s3⟩ r2 (fun y hy hn => r3 y hy fun w => hn (by simp [w])) s3 fun y hy => mem_part μ hy r5
          refine ⟨Q, ?_, k2⟩
          have e9 : putKey t ti p a' γ = p (putA kvs k a') γ := by
            unfold putKey
            rw [ht, hti]
          rw [e9]
          exact k1
theorem rw_idxO {mo mi : EM} {t : HL Ts → PR (List α)} {ti : HL Ts → PR Int} (ho : RfW s ks n mo (tyListL rp) t) (hi : RfC s ks mi (Fz tyInt) ti) : RfW s ks 0 (eBin idxV mo mi) rp (c2 oIdx t ti) := fun A B γ e μ Ps st =>
  (ho A B γ e μ Ps st).bindW fun v xs q hv hq => by
    have hi := hi A B γ e μ Ps st
    cases hti : ti γ with
    | bad => trivial
    | exc c q =>
      rw [hti] at hi
      have hi : mi e μ = .exc c q μ := hi
      show (mi e μ).bind _ = _
      rw [hi]
      rfl
    | ok i =>
      rw [hti] at hi
      obtain ⟨u, hi, rfl, _⟩ := hi
      show OkW B μ Ps 0 ((mi e μ).bind fun y μ => idxV v y μ) rp _
      rw [hi, Res.bind_ok, PR.bind_ok]
      rcases hv with ⟨⟨rfl, h1⟩, _⟩ | h2
      · have z := op_oIdx (rp := rp) (n := 0) (n' := 0) μ (.d ((tyList rp).enc xs)) xs [] (.d (.int i)) i [] (.inl ⟨⟨rfl, h1⟩, rfl⟩) (.inl ⟨⟨rfl, trivial⟩, rfl⟩)
        cases hx : oIdx xs i with
        | ok a =>
          rw [hx] at z
          obtain ⟨w, z1, z2⟩ := z
          exact ⟨w, [], z1, .inl ⟨z2, rfl⟩, fun l hl => by cases hl⟩
        | exc c q =>
          rw [hx] at z
          exact z
        | bad => trivial
      · obtain ⟨l, vs, q2, rfl, e2, rfl, e4, e5, el⟩ := lstO h2
        show OkW B μ Ps 0 _ rp (ofO (L2.atI xs i))
        cases hat : L2.atI xs i with
        | none => trivial
        | some a =>
          obtain ⟨j, hj, ha⟩ := Option.bind_eq_some_iff.mp (show (L2.ixN xs.length i).bind (xs[·]?) = some a from hat)
          obtain ⟨w, p0, q1, rr, rfl, f2, f3, f4⟩ := e4.upd ha
          have hat2 : L2.atI vs i = some w := by
            show (L2.ixN vs.length i).bind (vs[·]?) = _
            rw [e4.len, hj]
            exact f2
          refine ⟨w, q1, ?_, .inr f3, fun y hy => hq y (by simp [hy])⟩
          show idxV (.loc l) (.d (.int i)) μ = _
          rw [idxV_seq (v := .loc l) (vs := vs) (by
            show (match μ[l]? with
              | some (.lst vs) => some vs
              | _ => Option.none) = _
            rw [e2]) (fun z w => by cases w) hat2, rp.nrm f3]
theorem rw_getO {mo mi : EM} {t : HL Ts → PR (List (Str × α))} {ti : HL Ts → PR Str} (ho : RfW s ks n mo (tyDictL rp) t) (hi : RfC s ks mi (Fz tyStr) ti) : RfW s ks 0 (eBin dgV mo mi) rp (c2 oGetA t ti) := fun A B γ e μ Ps st =>
  (ho A B γ e μ Ps st).bindW fun v xs q hv hq => by
    have hi := hi A B γ e μ Ps st
    cases hti : ti γ with
    | bad => trivial
    | exc c q =>
      rw [hti] at hi
      have hi : mi e μ = .exc c q μ := hi
      show (mi e μ).bind _ = _
      rw [hi]
      rfl
    | ok i =>
      rw [hti] at hi
      obtain ⟨u, hi, rfl, hk⟩ := hi
      show OkW B μ Ps 0 ((mi e μ).bind fun y μ => dgV v y μ) rp _
      rw [hi, Res.bind_ok, PR.bind_ok]
      rcases hv with ⟨⟨rfl, h1⟩, _⟩ | h2
      · have z := op_getA (rp := rp) (n := 0) (n' := 0) μ (.d ((tyDict rp).enc xs)) xs [] (.d (.str i)) i [] (.inl ⟨⟨rfl, h1⟩, rfl⟩) (.inl ⟨⟨rfl, hk⟩, rfl⟩)
        cases hx : oGetA xs i with
        | ok a =>
          rw [hx] at z
          obtain ⟨w, z1, z2⟩ := z
          exact ⟨w, [], z1, .inl ⟨z2, rfl⟩, fun l hl => by cases hl⟩
        | exc c q =>
          rw [hx] at z
          exact z
        | bad => trivial
      · obtain ⟨l, vs, q2, rfl, e2, rfl, e4, e5, el, kn⟩ := dctO h2
        show OkW B μ Ps 0 _ rp (ofO (getA xs i))
        cases hat : getA xs i with
        | none => trivial
        | some a =>
          have hlen : vs.length = xs.length := by rw [e4.len, List.length_map]
          obtain ⟨j, w, ha, f2, lk⟩ := lkV_dkL hlen hat
          have ha2 : (xs.map (·.2))[j]? = some a := by rw [List.getElem?_map, ha]; rfl
          obtain ⟨w', p0, q1, rr, rfl, f2', f3, f4⟩ := e4.upd ha2
          rw [f2] at f2'
          cases f2'
          refine ⟨w, q1, ?_, .inr f3, fun y hy => hq y (by simp [hy])⟩
          show dgV (.loc l) (.d (.str i)) μ = _
          rw [dgV_at e2 lk, rp.nrm f3]
def xAppO {Γ : Type} (t : Γ → PR (List α)) (p : List α → Γ → Γ) (te : Γ → PR α) (γ : Γ) : ER Γ Unit := match t γ with
  | .ok xs => (match te γ with
    | .ok a => if xs.length < lim then .ok () (p (xs ++ [a]) γ) else .bad
    | .exc c q => .exc c q γ
    | .bad => .bad)
  | .exc c q => .exc c q γ
  | .bad => .bad
theorem rfx_appO {m mo : EM} {t : HL Ts → PR (List α)} {p : List α → HL Ts → HL Ts} {te : HL Ts → PR α} (ho : PlcO s ks n mo (tyList rp) t p) (h : RfC s ks m (Fz rp) te) : RfE s ks (eBm isL appV mo (aCons m aNil)) (Fz tyNone) (xAppO t p te) := fun A B γ e μ Ps st => by
  have ho := ho A B γ e μ Ps st
  have h := h A B γ e μ Ps st
  unfold xAppO
  cases ht : t γ with
  | bad => trivial
  | exc c q =>
    rw [ht] at ho
    have ho : mo e μ = .exc c q μ := ho
    rw [eBm_eq, ho]
    exact ⟨μ, Ps, rfl, st, Fr.refl _ _⟩
  | ok xs =>
    rw [ht] at ho
    obtain ⟨v, fp, h1, ⟨ok, l, rfl, h2, rfl⟩, _, h3⟩ := ho
    rw [eBm_eq, h1, Res.bind_ok, if_pos (p_isL h2), args1]
    show OkE s ks A B e μ Ps _ _ (match te γ with
    | .ok a => if xs.length < lim then .ok () (p (xs ++ [a]) γ) else .bad
    | .exc c q => .exc c q γ
    | .bad => .bad)
    cases hte : te γ with
    | ok a =>
      rw [hte] at h
      obtain ⟨v, k1, rfl, k2⟩ := h
      rw [k1]
      show OkE s ks A B e μ Ps (appV (.loc l) [.d (rp.enc a)] μ) _ (if xs.length < lim then _ else _)
      split
      · rename_i hl
        rw [p_app h2 (by rw [lv_len]; exact hl)]
        have hy : okL rp (xs ++ [a]) := ⟨by rw [List.length_append]; exact hl, fun x hx => by
          rcases List.mem_append.mp hx with z | z
          · exact ok.2 x z
          · rw [List.mem_singleton.mp z]
            exact k2⟩
        have lt := (List.getElem?_eq_some_iff.mp h2).1
        obtain ⟨Q, h6, h7⟩ := h3 (μ' := μ.set l (.lst (lv rp (xs ++ [a])))) (a' := xs ++ [a]) (fp' := [l]) ⟨hy, l, rfl, List.getElem?_set_self lt, rfl⟩ (by simp) (fun y hy hn => List.getElem?_set_ne fun z => hn (by simp [z])) (nd1 _) fun y hy => .inl hy
        rw [lv_app] at h6 h7
        exact ⟨_, _, Q, rfl, ⟨rfl, trivial⟩, h6, h7⟩
      · trivial
    | exc c p =>
      rw [hte] at h
      have h : m e μ = .exc c p μ := h
      rw [h]
      exact ⟨μ, Ps, rfl, st, Fr.refl _ _⟩
    | bad => trivial
end
end Fs
namespace Fs
open PySem PySem.Spec L2
section
variable {Ts : List Type} {s : SL Ts} {ks : List Kd} {α β : Type} {rp : Rp α} {rq : Rp β}
theorem lcE_okN {B : List Nat} {A : Env} {ksw ks1 : List Kd} {tg : Val → Env → Option Env} {set : α → HL Ts → HL Ts} {t : TM} {el : EM} {te : HL Ts → ER (HL Ts) β} (hg : RfG s ksw rp tg set ks1) (hw : wkB ks1 ksw = true) (hd : TgD ksw tg) (hc : RfE s ks1 t Eq (xL (cC true))) (he : RfN s ks1 0 el rq te)
    {e : Env} (gd : Option (Nat × List Val)) (l0 : Nat) (hlB : l0 ∉ B) :
    ∀ (xs : List α), (∀ x ∈ xs, rp.ok x) → ∀ (γ : HL Ts) (μ : Mem) (Ps : List (List Nat)) (acc : List β) (vs : List Val) (q : List Nat), (gd = Option.none ∨ ∃ l us, gd = some (l, us) ∧ l ∈ B ∧ μ[l]? = some (.lst us)) → St s ksw A B γ e μ Ps → l0 ∉ Ps.flatten → μ[l0]? = some (.lst vs) → ownS rq 0 μ vs acc q → (l0 :: q).Nodup → (∀ l ∈ q, l ∉ Ps.flatten ∧ l ∉ B) → acc.length + xs.length ≤ lim → ∀ ys γ', lcE set (xL (cC true)) te xs γ = .ok ys γ' →
      ∃ μ' Ps' vs' q', lcL gd l0 tg t el (lv rp xs) e μ = .ok () μ' ∧ μ'[l0]? = some (.lst vs') ∧ ownS rq 0 μ' vs' (acc ++ ys) q' ∧ (l0 :: q').Nodup ∧ (∀ l ∈ q', l ∉ Ps'.flatten ∧ l ∉ B) ∧ (∀ l ∈ q', l ∈ q ∨ l ∈ Ps.flatten ∨ μ.length ≤ l) ∧ (acc ++ ys).length ≤ lim ∧ St s ksw A B γ' e μ' Ps' ∧ (μ.length ≤ μ'.length ∧ (∀ l, l < μ.length → l ∉ Ps.flatten → l ≠ l0 → μ'[l]? = μ[l]?) ∧ ∀ l ∈ Ps'.flatten, l ∈ Ps.flatten ∨ μ.length ≤ l) ∧ l0 ∉ Ps'.flatten := by
  intro xs
  have gk : ∀ {μ : Mem}, (gd = Option.none ∨ ∃ l us, gd = some (l, us) ∧ l ∈ B ∧ μ[l]? = some (.lst us)) → GOk gd μ := fun {μ} h => by
    rcases h with rfl | ⟨l, vs, rfl, _, h⟩
    · trivial
    · exact h
  induction xs with
  | nil =>
    intro _ γ μ Ps acc vs q hgd st hl0 hac ho nd hq hl ys γ' hy
    cases hy
    refine ⟨μ, Ps, vs, q, lcL_nil (gk hgd), hac, by rw [List.append_nil]; exact ho, nd, hq, fun l h => .inl h, by rw [List.append_nil]; simpa using hl, st, ⟨Nat.le_refl _, fun _ _ _ _ => rfl, fun l h => .inl h⟩, hl0⟩
  | cons x r ih =>
    intro hok γ μ Ps acc vs q hgd st hl0 hac ho nd hq hl ys γ' hy
    rw [List.length_cons] at hl
    have hlt : l0 < μ.length := (List.getElem?_eq_some_iff.mp hac).1
    obtain ⟨e1, P1, h1, h2, h3⟩ := hg A B γ e μ Ps (.d (rp.enc x)) x st ⟨rfl, hok x (List.mem_cons_self ..)⟩
    have hl1 : l0 ∉ P1.flatten := fun z => by
      rcases h3.sub l0 z with w | w
      · exact hl0 w
      · omega
    have c := hc A B _ e1 _ P1 h2
    have hy : ((te (set x γ)).bind fun y γ => (lcE set (xL (cC true)) te r γ).bind fun ys γ => .ok (y :: ys) γ) = .ok ys γ' := hy
    have ih := ih fun z hz => hok z (List.mem_cons_of_mem _ hz)
    have toE : ∀ {γ : HL Ts} {μ : Mem} {Q : List (List Nat)}, St s ks1 A B γ e1 μ Q → ∃ Q', St s ksw A B γ e μ Q' ∧ Fr μ Q μ Q' := fun {γ μ Q} st => by
      obtain ⟨Q', j1, j2⟩ := st.wk hw
      obtain ⟨d1, d2⟩ := hd _ _ _ h1
      exact ⟨Q', ⟨j1.r.env d1.symm fun i => by
        rcases d2 i with z | z
        · exact .inl z
        · exact .inr z.symm, j1.nd, j1.nb, j1.lb⟩, j2⟩
    show ∃ μ' Ps' vs' q', lcL gd l0 tg t el (.d (rp.enc x) :: lv rp r) e μ = _ ∧ _
    obtain ⟨v, μ1, Q1, c1, c2, c3, c4⟩ := (show OkE s ks1 A B e1 μ P1 (t e1 μ) Eq (.ok true (set x γ)) from c)
    subst c2
    have hgd1 : gd = Option.none ∨ ∃ l us, gd = some (l, us) ∧ l ∈ B ∧ μ1[l]? = some (.lst us) := by
      rcases hgd with z | ⟨l, us, z1, z2, z3⟩
      · exact .inl z
      · exact .inr ⟨l, us, z1, z2, by rw [c4.keep l (st.lb l z2) fun w => h2.nb l w z2]; exact z3⟩
    have f1 := h3.trans c4
    have hq1 : l0 ∉ Q1.flatten := fun z => by
      rcases c4.sub l0 z with w | w
      · exact hl1 w
      · omega
    have el' := he A B _ e1 _ Q1 c3
    cases hte : te (set x γ) with
    | ok y γ2 =>
      rw [hte] at el' hy
      obtain ⟨u, μ2, Q2, fp, d1, d2, d5, d3, d4⟩ := el'
      rw [ER.bind_ok] at hy
      cases hr : lcE set (xL (cC true)) te r γ2 with
      | ok zs γ3 =>
        rw [hr] at hy
        cases hy
        have f2 := f1.trans d4
        have hac2 : μ2[l0]? = some (.lst vs) := by
          rw [f2.keep l0 hlt hl0]
          exact hac
        have hq2 : l0 ∉ Q2.flatten := fun z => by
          rcases f2.sub l0 z with w | w
          · exact hl0 w
          · omega
        have hlt2 : l0 < μ2.length := Nat.lt_of_lt_of_le hlt f2.le
        obtain ⟨Q3, j1, j2⟩ := toE d3
        have f3 := f2.trans j2
        have hq3 : l0 ∉ Q3.flatten := fun z => by
          rcases j2.sub l0 z with w | w
          · exact hq2 w
          · omega
        have ho2 : ownS rq 0 μ2 vs acc q := ho.loc fun l hl => f2.keep l (ho.lt l hl) (hq l hl).1
        -- the new thing's places
        have fpo : ∀ l ∈ fp, l ∈ Ps.flatten ∨ μ.length ≤ l := fun l hl => by
          rcases d5.sub l hl with w | w
          · exact f1.sub l w
          · exact .inr (Nat.le_trans f1.le w)
        have nq : ∀ l ∈ fp, l ∉ q ∧ l ≠ l0 := fun l hl => by
          rcases fpo l hl with w | w
          · exact ⟨fun z => (hq l z).1 w, fun z => hl0 (z ▸ w)⟩
          · exact ⟨fun z => Nat.lt_irrefl _ (Nat.lt_of_lt_of_le (ho.lt l z) w), fun z => by omega⟩
        obtain ⟨nl, nq0⟩ := List.nodup_cons.mp nd
        have nd2 : (l0 :: (q ++ fp)).Nodup := by
          rw [List.nodup_cons]
          refine ⟨fun z => ?_, List.nodup_append.mpr ⟨nq0, d5.nd, fun a ha b hb w => (nq b hb).1 (w ▸ ha)⟩⟩
          rcases List.mem_append.mp z with z | z
          · exact nl z
          · exact (nq _ z).2 rfl
        have qo : ∀ l ∈ q ++ fp, l ∉ Q3.flatten ∧ l ∉ B := fun l hl => by
          rcases List.mem_append.mp hl with z | z
          · refine ⟨fun w => ?_, (hq l z).2⟩
            rcases f3.sub l w with w | w
            · exact (hq l z).1 w
            · exact Nat.lt_irrefl _ (Nat.lt_of_lt_of_le (ho.lt l z) w)
          · refine ⟨fun w => ?_, (d5.out l z).2⟩
            rcases j2.sub l w with w | w
            · exact (d5.out l z).1 w
            · exact Nat.lt_irrefl _ (Nat.lt_of_lt_of_le (rq.lt d2 l z) w)
        have st3 := j1.setAt (c := .lst (vs ++ [u])) hq3 hlB
        have ho3 : ownS rq 0 (μ2.set l0 (.lst (vs ++ [u]))) (vs ++ [u]) (acc ++ [y]) (q ++ fp) := (ho2.snoc d2).loc fun l hl => by
          refine List.getElem?_set_ne fun z => ?_
          subst z
          exact (List.nodup_cons.mp nd2).1 hl
        have hgd2 : gd = Option.none ∨ ∃ l us, gd = some (l, us) ∧ l ∈ B ∧ (μ2.set l0 (.lst (vs ++ [u])))[l]? = some (.lst us) := by
          rcases hgd1 with z | ⟨l, us, z1, z2, z3⟩
          · exact .inl z
          · refine .inr ⟨l, us, z1, z2, ?_⟩
            rw [List.getElem?_set_ne (fun w => hlB (by rw [w]; exact z2)), d4.keep l (c3.lb l z2) fun w => c3.nb l w z2]
            exact z3
        obtain ⟨μ', Ps', vs', q', k1, k2, k3, k3a, k3b, k3c, k3d, k4, ⟨k5, k6, k7⟩, k8⟩ := ih γ2 _ Q3 (acc ++ [y]) (vs ++ [u]) (q ++ fp) hgd2 st3 hq3 (List.getElem?_set_self hlt2) ho3 nd2 qo (by rw [List.length_append, List.length_singleton]; omega) zs _ hr
        rw [List.append_assoc] at k3 k3d
        have vl : vs.length < 16777216 := by
          rw [ho.len]
          have := lim_eq
          omega
        have tk : lcL gd l0 tg t el (.d (rp.enc x) :: lv rp r) e μ = lcL gd l0 tg t el (lv rp r) e (μ2.set l0 (.lst (vs ++ [u]))) := by
          rw [lcL, if_pos (gk hgd), h1]
          dsimp only
          rw [c1]
          dsimp only
          rw [if_pos rfl, d1]
          dsimp only
          rw [hac2]
          dsimp only
          rw [if_pos vl]
        rw [List.length_set] at k5 k6 k7
        refine ⟨μ', Ps', vs', q', by rw [tk]; exact k1, k2, k3, k3a, k3b, fun l hl => ?_, k3d, k4, ⟨Nat.le_trans f2.le k5, fun l q1 q2 q3 => ?_, fun l hl => ?_⟩, k8⟩
        · rcases k3c l hl with w | w | w
          · rcases List.mem_append.mp w with w | w
            · exact .inl w
            · exact .inr (fpo l w)
          · exact .inr (f3.sub l w)
          · rw [List.length_set] at w
            exact .inr (.inr (Nat.le_trans f2.le w))
        · rw [k6 l (Nat.lt_of_lt_of_le q1 f2.le) (fun z => by
            rcases f3.sub l z with w | w
            · exact q2 w
            · omega) q3, List.getElem?_set_ne (Ne.symm q3)]
          exact f2.keep l q1 q2
        · rcases k7 l hl with w | w
          · exact f3.sub l w
          · exact .inr (Nat.le_trans f2.le w)
      | exc c' p γ3 =>
        rw [hr] at hy
        cases hy
      | bad =>
        rw [hr] at hy
        cases hy
    | exc c' p γ2 =>
      rw [hte] at hy
      cases hy
    | bad =>
      rw [hte] at hy
      cases hy
theorem rnx_lcL {n : Nat} {ksw ks1 : List Kd} {vs : List Nat} {mi : IM} {ti : HL Ts → ER (HL Ts) (List α)} {tg : Val → Env → Option Env} {set : α → HL Ts → HL Ts} {t : TM} {el : EM} {te : HL Ts → ER (HL Ts) β} {fin : HL Ts → HL Ts → HL Ts} (hi : RfI s ks mi rp ti) (w : Wq s ks vs ksw fin) (hg : RfG s ksw rp tg set ks1) (hw : wkB ks1 ksw = true) (hd : TgD ksw tg) (hc : RfE s ks1 t Eq (xL (cC true))) (he : RfN s ks1 0 el rq te) :
    RfN s ks n (eLcN vs mi tg t el) (tyListL rq) (xLc ti set (xL (cC true)) te fin) := fun A B γ e μ Ps st => by
  have h := hi A B γ e μ Ps st
  show OkN s ks A B e μ Ps n ((mi e μ).bind fun i μ => match lcL i.guard μ.length tg t el i.items (wipeE e vs) (μ ++ [.lst []]) with
    | .ok _ μ' => .ok (.loc μ.length) μ'
    | _ => .bad) _ ((ti γ).bind fun xs γ0 => (lcE set (xL (cC true)) te xs γ0).calmTo (fin γ0))
  cases ht : ti γ with
  | ok xs γ0 =>
    rw [ht] at h
    obtain ⟨it, μ1, Ps1, h1, h2, st1, f1⟩ := h
    rw [h1, Res.bind_ok, ER.bind_ok, h2.items]
    obtain ⟨Q, stw, fw⟩ := w.wp.st st1
    obtain ⟨stg, fg⟩ := stw.grow (μ' := μ1 ++ [.lst []]) (by simp) fun l hl => List.getElem?_append_left hl
    cases hr : lcE set (xL (cC true)) te xs γ0 with
    | ok ys γ2 =>
      have nQ : μ1.length ∉ Q.flatten := fun z => Nat.lt_irrefl _ (stw.r.lt _ z)
      have nB : μ1.length ∉ B := fun z => Nat.lt_irrefl _ (st1.lb _ z)
      obtain ⟨μ2, Q2, vs', q', k1, k2, k3, k3a, k3b, k3c, k3d, k4, ⟨k5, k6, k7⟩, k8⟩ := lcE_okN (rq := rq) hg hw hd hc he it.guard μ1.length nB xs h2.ok.2 γ0 (μ1 ++ [.lst []]) Q [] [] [] (by
        rcases h2.guard with z | ⟨l, us, z1, z2, z3⟩
        · exact .inl z
        · exact .inr ⟨l, us, z1, z2, by rw [List.getElem?_append_left (st1.lb l z2)]; exact z3⟩) stg nQ (by rw [List.getElem?_append_right (Nat.le_refl _), Nat.sub_self]; rfl) rfl (nd1 _) (fun y hy => by cases hy) (by simpa using h2.ok.1) ys γ2 hr
      rw [List.nil_append] at k3 k3d
      rw [k1]
      obtain ⟨Q3, j1, j2⟩ := w.back st1 k4
      simp only [List.length_append, List.length_singleton] at k5 k6 k7 k3c
      have f3 : Fr μ1 Ps1 μ2 Q3 := Fr.trans ⟨by omega, fun l q1 q2 => by
        rw [k6 l (by omega) (fun z => by
          rcases fw.sub l z with w | w
          · exact q2 w
          · omega) (by omega), List.getElem?_append_left q1], fun l hl => by
        rcases k7 l hl with w | w
        · exact fw.sub l w
        · exact .inr (by omega)⟩ j2
      have f4 := f1.trans f3
      have qlt : ∀ l ∈ q', l < μ2.length := fun l hl => k3.lt l hl
      refine ⟨.loc μ1.length, μ2, Q3, μ1.length :: q', rfl, ⟨k3d, μ1.length, vs', q', rfl, k2, rfl, k3, k3a⟩, ⟨k3a, fun l hl => ?_, fun l hl => ?_⟩, j1, f4⟩
      · rcases List.mem_cons.mp hl with rfl | hl
        · refine ⟨fun z => ?_, nB⟩
          rcases j2.sub _ z with z | z
          · exact k8 z
          · omega
        · refine ⟨fun z => ?_, (k3b l hl).2⟩
          rcases j2.sub _ z with z | z
          · exact (k3b l hl).1 z
          · have := qlt l hl
            omega
      · rcases List.mem_cons.mp hl with rfl | hl
        · exact .inr f1.le
        · rcases k3c l hl with w | w | w
          · cases w
          · rcases fw.sub l w with w | w
            · exact f1.sub l w
            · exact .inr (Nat.le_trans f1.le w)
          · exact .inr (by have := f1.le; omega)
    | exc c p γ2 => trivial
    | bad => trivial
  | exc c p γ' =>
    rw [ht] at h
    obtain ⟨μ', Ps', h1, h3, h4⟩ := h
    rw [h1]
    exact ⟨μ', Ps', rfl, h3, h4⟩
  | bad => trivial
def dcE {Γ : Type} (set : α → Γ → Γ) (tk : Γ → PR Str) (te : Γ → ER Γ β) : List α → List (Str × β) → Γ → ER Γ (List (Str × β))
  | [], acc, γ => .ok acc γ
  | x :: r, acc, γ => match tk (set x γ) with
    | .ok k => (te (set x γ)).bind fun y γ => if k ∈ acc.map (·.1) then .bad else dcE set tk te r (acc ++ [(k, y)]) γ
    | _ => .bad
@[simp] def xDc {Γ : Type} (ti : Γ → ER Γ (List α)) (set : α → Γ → Γ) (tk : Γ → PR Str) (te : Γ → ER Γ β) (fin : Γ → Γ → Γ) (γ : Γ) : ER Γ (List (Str × β)) := (ti γ).bind fun xs γ0 => (dcE set tk te xs [] γ0).calmTo (fin γ0)
theorem dcL_nil {gd : Option (Nat × List Val)} {l : Nat} {tg : Val → Env → Option Env} {t : TM} {ke ve : EM} {e : Env} {μ : Mem} (h : GOk gd μ) : dcL gd l tg t ke ve [] e μ = .ok () μ := by
  unfold dcL
  rw [if_pos h]
theorem ptV_dkL {kn : List Str} {vs : List Val} {k : Str} {u : Val} (hl : vs.length = kn.length) (h : k ∉ kn) : ptV (dkL kn vs) (.inr k) u = dkL (kn ++ [k]) (vs ++ [u]) := by
  unfold ptV
  rw [if_neg]
  · unfold dkL
    rw [List.map_append, List.zip_append (by rw [List.length_map, hl])]
    rfl
  · intro z
    obtain ⟨p, hp, e⟩ := List.any_eq_true.mp z
    have e : p.1 = Sum.inr k := of_decide_eq_true e
    have := (List.of_mem_zip (show (p.1, p.2) ∈ (kn.map Sum.inr).zip vs from hp)).1
    rw [e] at this
    obtain ⟨x, hx, e2⟩ := List.mem_map.mp this
    cases e2
    exact h hx
theorem dcE_okN {B : List Nat} {A : Env} {ksw ks1 : List Kd} {tg : Val → Env → Option Env} {set : α → HL Ts → HL Ts} {t : TM} {ke ve : EM} {tk : HL Ts → PR Str} {te : HL Ts → ER (HL Ts) β} (hg : RfG s ksw rp tg set ks1) (hw : wkB ks1 ksw = true) (hd : TgD ksw tg) (hc : RfE s ks1 t Eq (xL (cC true))) (hk : RfC s ks1 ke (Fz tyStr) tk) (he : RfN s ks1 0 ve rq te)
    {e : Env} (gd : Option (Nat × List Val)) (l0 : Nat) (hlB : l0 ∉ B) :
    ∀ (xs : List α), (∀ x ∈ xs, rp.ok x) → ∀ (γ : HL Ts) (μ : Mem) (Ps : List (List Nat)) (acc : List (Str × β)) (vs : List Val) (q : List Nat), (gd = Option.none ∨ ∃ l us, gd = some (l, us) ∧ l ∈ B ∧ μ[l]? = some (.lst us)) → St s ksw A B γ e μ Ps → l0 ∉ Ps.flatten → μ[l0]? = some (.dk (dkL (acc.map (·.1)) vs)) → ownS rq 0 μ vs (acc.map (·.2)) q → (acc.map (·.1)).Nodup → (l0 :: q).Nodup → (∀ l ∈ q, l ∉ Ps.flatten ∧ l ∉ B) → acc.length + xs.length ≤ lim → ∀ ys γ', dcE set tk te xs acc γ = .ok ys γ' →
      ∃ μ' Ps' vs' q', dcL gd l0 tg t ke ve (lv rp xs) e μ = .ok () μ' ∧ μ'[l0]? = some (.dk (dkL (ys.map (·.1)) vs')) ∧ ownS rq 0 μ' vs' (ys.map (·.2)) q' ∧ (ys.map (·.1)).Nodup ∧ (l0 :: q').Nodup ∧ (∀ l ∈ q', l ∉ Ps'.flatten ∧ l ∉ B) ∧ (∀ l ∈ q', l ∈ q ∨ l ∈ Ps.flatten ∨ μ.length ≤ l) ∧ ys.length ≤ lim ∧ St s ksw A B γ' e μ' Ps' ∧ (μ.length ≤ μ'.length ∧ (∀ l, l < μ.length → l ∉ Ps.flatten → l ≠ l0 → μ'[l]? = μ[l]?) ∧ ∀ l ∈ Ps'.flatten, l ∈ Ps.flatten ∨ μ.length ≤ l) ∧ l0 ∉ Ps'.flatten := by
  intro xs
  have gk : ∀ {μ : Mem}, (gd = Option.none ∨ ∃ l us, gd = some (l, us) ∧ l ∈ B ∧ μ[l]? = some (.lst us)) → GOk gd μ := fun {μ} h => by
    rcases h with rfl | ⟨l, vs, rfl, _, h⟩
    · trivial
    · exact h
  induction xs with
  | nil =>
    intro _ γ μ Ps acc vs q hgd st hl0 hac ho hkn nd hq hl ys γ' hy
    cases hy
    refine ⟨μ, Ps, vs, q, dcL_nil (gk hgd), hac, ho, hkn, nd, hq, fun l h => .inl h, by simpa using hl, st, ⟨Nat.le_refl _, fun _ _ _ _ => rfl, fun l h => .inl h⟩, hl0⟩
  | cons x r ih =>
    intro hok γ μ Ps acc vs q hgd st hl0 hac ho hkn nd hq hl ys γ' hy
    rw [List.length_cons] at hl
    have hlt : l0 < μ.length := (List.getElem?_eq_some_iff.mp hac).1
    obtain ⟨e1, P1, h1, h2, h3⟩ := hg A B γ e μ Ps (.d (rp.enc x)) x st ⟨rfl, hok x (List.mem_cons_self ..)⟩
    have hl1 : l0 ∉ P1.flatten := fun z => by
      rcases h3.sub l0 z with w | w
      · exact hl0 w
      · omega
    have c := hc A B _ e1 _ P1 h2
    have hy : (match tk (set x γ) with
      | .ok k => (te (set x γ)).bind fun y γ => if k ∈ acc.map (fun z : Str × β => z.1) then .bad else dcE set tk te r (acc ++ [(k, y)]) γ
      | _ => .bad) = .ok ys γ' := hy
    have ih := ih fun z hz => hok z (List.mem_cons_of_mem _ hz)
    have toE : ∀ {γ : HL Ts} {μ : Mem} {Q : List (List Nat)}, St s ks1 A B γ e1 μ Q → ∃ Q', St s ksw A B γ e μ Q' ∧ Fr μ Q μ Q' := fun {γ μ Q} st => by
      obtain ⟨Q', j1, j2⟩ := st.wk hw
      obtain ⟨d1, d2⟩ := hd _ _ _ h1
      exact ⟨Q', ⟨j1.r.env d1.symm fun i => by
        rcases d2 i with z | z
        · exact .inl z
        · exact .inr z.symm, j1.nd, j1.nb, j1.lb⟩, j2⟩
    show ∃ μ' Ps' vs' q', dcL gd l0 tg t ke ve (.d (rp.enc x) :: lv rp r) e μ = _ ∧ _
    obtain ⟨v, μ1, Q1, c1, c2, c3, c4⟩ := (show OkE s ks1 A B e1 μ P1 (t e1 μ) Eq (.ok true (set x γ)) from c)
    subst c2
    have hgd1 : gd = Option.none ∨ ∃ l us, gd = some (l, us) ∧ l ∈ B ∧ μ1[l]? = some (.lst us) := by
      rcases hgd with z | ⟨l, us, z1, z2, z3⟩
      · exact .inl z
      · exact .inr ⟨l, us, z1, z2, by rw [c4.keep l (st.lb l z2) fun w => h2.nb l w z2]; exact z3⟩
    have f1 := h3.trans c4
    have hq1 : l0 ∉ Q1.flatten := fun z => by
      rcases c4.sub l0 z with w | w
      · exact hl1 w
      · omega
    have kl := hk A B _ e1 _ Q1 c3
    cases htk : tk (set x γ) with
    | exc c' p =>
      rw [htk] at hy
      cases hy
    | bad =>
      rw [htk] at hy
      cases hy
    | ok k =>
    rw [htk] at kl hy
    obtain ⟨kv, kl1, rfl, _⟩ := kl
    have el' := he A B _ e1 _ Q1 c3
    have hy : ((te (set x γ)).bind fun y γ => if k ∈ acc.map (·.1) then .bad else dcE set tk te r (acc ++ [(k, y)]) γ) = .ok ys γ' := hy
    cases hte : te (set x γ) with
    | ok y γ2 =>
      rw [hte] at el' hy
      obtain ⟨u, μ2, Q2, fp, d1, d2, d5, d3, d4⟩ := el'
      rw [ER.bind_ok] at hy
      by_cases hin : k ∈ acc.map (·.1)
      · rw [if_pos hin] at hy
        cases hy
      · rw [if_neg hin] at hy
        have f2 := f1.trans d4
        have hac2 : μ2[l0]? = some (.dk (dkL (acc.map (·.1)) vs)) := by
          rw [f2.keep l0 hlt hl0]
          exact hac
        have hq2 : l0 ∉ Q2.flatten := fun z => by
          rcases f2.sub l0 z with w | w
          · exact hl0 w
          · omega
        have hlt2 : l0 < μ2.length := Nat.lt_of_lt_of_le hlt f2.le
        obtain ⟨Q3, j1, j2⟩ := toE d3
        have f3 := f2.trans j2
        have hq3 : l0 ∉ Q3.flatten := fun z => by
          rcases j2.sub l0 z with w | w
          · exact hq2 w
          · omega
        have ho2 : ownS rq 0 μ2 vs (acc.map (·.2)) q := ho.loc fun l hl => f2.keep l (ho.lt l hl) (hq l hl).1
        -- the new thing's places
        have fpo : ∀ l ∈ fp, l ∈ Ps.flatten ∨ μ.length ≤ l := fun l hl => by
          rcases d5.sub l hl with w | w
          · exact f1.sub l w
          · exact .inr (Nat.le_trans f1.le w)
        have nq : ∀ l ∈ fp, l ∉ q ∧ l ≠ l0 := fun l hl => by
          rcases fpo l hl with w | w
          · exact ⟨fun z => (hq l z).1 w, fun z => hl0 (z ▸ w)⟩
          · exact ⟨fun z => Nat.lt_irrefl _ (Nat.lt_of_lt_of_le (ho.lt l z) w), fun z => by omega⟩
        obtain ⟨nl, nq0⟩ := List.nodup_cons.mp nd
        have nd2 : (l0 :: (q ++ fp)).Nodup := by
          rw [List.nodup_cons]
          refine ⟨fun z => ?_, List.nodup_append.mpr ⟨nq0, d5.nd, fun a ha b hb w => (nq b hb).1 (w ▸ ha)⟩⟩
          rcases List.mem_append.mp z with z | z
          · exact nl z
          · exact (nq _ z).2 rfl
        have qo : ∀ l ∈ q ++ fp, l ∉ Q3.flatten ∧ l ∉ B := fun l hl => by
          rcases List.mem_append.mp hl with z | z
          · refine ⟨fun w => ?_, (hq l z).2⟩
            rcases f3.sub l w with w | w
            · exact (hq l z).1 w
            · exact Nat.lt_irrefl _ (Nat.lt_of_lt_of_le (ho.lt l z) w)
          · refine ⟨fun w => ?_, (d5.out l z).2⟩
            rcases j2.sub l w with w | w
            · exact (d5.out l z).1 w
            · exact Nat.lt_irrefl _ (Nat.lt_of_lt_of_le (rq.lt d2 l z) w)
        have st3 := j1.setAt (c := .dk (dkL ((acc ++ [(k, y)]).map (·.1)) (vs ++ [u]))) hq3 hlB
        have ho3 : ownS rq 0 (μ2.set l0 (.dk (dkL ((acc ++ [(k, y)]).map (·.1)) (vs ++ [u])))) (vs ++ [u]) ((acc ++ [(k, y)]).map (·.2)) (q ++ fp) := (show ownS rq 0 μ2 (vs ++ [u]) ((acc ++ [(k, y)]).map (·.2)) (q ++ fp) by rw [List.map_append]; exact ho2.snoc d2).loc fun l hl => by
          refine List.getElem?_set_ne fun z => ?_
          subst z
          exact (List.nodup_cons.mp nd2).1 hl
        have hgd2 : gd = Option.none ∨ ∃ l us, gd = some (l, us) ∧ l ∈ B ∧ (μ2.set l0 (.dk (dkL ((acc ++ [(k, y)]).map (·.1)) (vs ++ [u]))))[l]? = some (.lst us) := by
          rcases hgd1 with z | ⟨l, us, z1, z2, z3⟩
          · exact .inl z
          · refine .inr ⟨l, us, z1, z2, ?_⟩
            rw [List.getElem?_set_ne (fun w => hlB (by rw [w]; exact z2)), d4.keep l (c3.lb l z2) fun w => c3.nb l w z2]
            exact z3
        have hkn2 : ((acc ++ [(k, y)]).map (·.1)).Nodup := by
          rw [List.map_append]
          exact List.nodup_append.mpr ⟨hkn, by simp, fun a ha b hb w => hin (by
            have hb : b = k := by simpa using hb
            rw [← hb, ← w]
            exact ha)⟩
        obtain ⟨μ', Ps', vs', q', k1, k2, k3, k3n, k3a, k3b, k3c, k3d, k4, ⟨k5, k6, k7⟩, k8⟩ := ih γ2 _ Q3 (acc ++ [(k, y)]) (vs ++ [u]) (q ++ fp) hgd2 st3 hq3 (List.getElem?_set_self hlt2) ho3 hkn2 nd2 qo (by rw [List.length_append, List.length_singleton]; omega) ys _ hy
        have vl : vs.length < 16777216 := by
          rw [ho.len, List.length_map]
          have := lim_eq
          omega
        have vl2 : vs.length = (acc.map (·.1)).length := by rw [ho.len, List.length_map, List.length_map]
        have al : (dkL (acc.map (·.1)) vs).length < 16777216 := by
          unfold dkL
          rw [List.length_zip, List.length_map, ← vl2, Nat.min_self]
          exact vl
        have tk2 : dcL gd l0 tg t ke ve (.d (rp.enc x) :: lv rp r) e μ = dcL gd l0 tg t ke ve (lv rp r) e (μ2.set l0 (.dk (dkL ((acc ++ [(k, y)]).map (·.1)) (vs ++ [u])))) := by
          rw [dcL, if_pos (gk hgd), h1]
          dsimp only
          rw [c1]
          dsimp only
          rw [if_pos rfl, kl1]
          dsimp only
          rw [d1]
          dsimp only
          rw [hac2]
          show (if (dkL (acc.map (·.1)) vs).length < 16777216 then dcL gd l0 tg t ke ve (lv rp r) e (μ2.set l0 (.dk (ptV (dkL (acc.map (·.1)) vs) (.inr k) u))) else .bad) = _
          rw [if_pos al, ptV_dkL vl2 hin, List.map_append]
          rfl
        rw [List.length_set] at k5 k6 k7
        refine ⟨μ', Ps', vs', q', by rw [tk2]; exact k1, k2, k3, k3n, k3a, k3b, fun l hl => ?_, k3d, k4, ⟨Nat.le_trans f2.le k5, fun l q1 q2 q3 => ?_, fun l hl => ?_⟩, k8⟩
        · rcases k3c l hl with w | w | w
          · rcases List.mem_append.mp w with w | w
            · exact .inl w
            · exact .inr (fpo l w)
          · exact .inr (f3.sub l w)
          · rw [List.length_set] at w
            exact .inr (.inr (Nat.le_trans f2.le w))
        · rw [k6 l (Nat.lt_of_lt_of_le q1 f2.le) (fun z => by
            rcases f3.sub l z with w | w
            · exact q2 w
            · omega) q3, List.getElem?_set_ne (Ne.symm q3)]
          exact f2.keep l q1 q2
        · rcases k7 l hl with w | w
          · exact f3.sub l w
          · exact .inr (Nat.le_trans f2.le w)
    | exc c' p γ2 =>
      rw [hte] at hy
      cases hy
    | bad =>
      rw [hte] at hy
      cases hy
theorem rnx_dc {n : Nat} {ksw ks1 : List Kd} {vs : List Nat} {mi : IM} {ti : HL Ts → ER (HL Ts) (List α)} {tg : Val → Env → Option Env} {set : α → HL Ts → HL Ts} {t : TM} {ke ve : EM} {tk : HL Ts → PR Str} {te : HL Ts → ER (HL Ts) β} {fin : HL Ts → HL Ts → HL Ts} (hi : RfI s ks mi rp ti) (w : Wq s ks vs ksw fin) (hg : RfG s ksw rp tg set ks1) (hw : wkB ks1 ksw = true) (hd : TgD ksw tg) (hc : RfE s ks1 t Eq (xL (cC true))) (hk : RfC s ks1 ke (Fz tyStr) tk) (he : RfN s ks1 0 ve rq te) :
    RfN s ks n (eDc vs mi tg t ke ve) (tyDictL rq) (xDc ti set tk te fin) := fun A B γ e μ Ps st => by
  have h := hi A B γ e μ Ps st
  show OkN s ks A B e μ Ps n ((mi e μ).bind fun i μ => match dcL i.guard μ.length tg t ke ve i.items (wipeE e vs) (μ ++ [.dk []]) with
    | .ok _ μ' => .ok (.loc μ.length) μ'
    | _ => .bad) _ ((ti γ).bind fun xs γ0 => (dcE set tk te xs [] γ0).calmTo (fin γ0))
  cases ht : ti γ with
  | ok xs γ0 =>
    rw [ht] at h
    obtain ⟨it, μ1, Ps1, h1, h2, st1, f1⟩ := h
    rw [h1, Res.bind_ok, ER.bind_ok, h2.items]
    obtain ⟨Q, stw, fw⟩ := w.wp.st st1
    obtain ⟨stg, fg⟩ := stw.grow (μ' := μ1 ++ [.dk []]) (by simp) fun l hl => List.getElem?_append_left hl
    cases hr : dcE set tk te xs [] γ0 with
    | ok ys γ2 =>
      have nQ : μ1.length ∉ Q.flatten := fun z => Nat.lt_irrefl _ (stw.r.lt _ z)
      have nB : μ1.length ∉ B := fun z => Nat.lt_irrefl _ (st1.lb _ z)
      obtain ⟨μ2, Q2, vs', q', k1, k2, k3, k3n, k3a, k3b, k3c, k3d, k4, ⟨k5, k6, k7⟩, k8⟩ := dcE_okN (rq := rq) hg hw hd hc hk he it.guard μ1.length nB xs h2.ok.2 γ0 (μ1 ++ [.dk []]) Q [] [] [] (by
        rcases h2.guard with z | ⟨l, us, z1, z2, z3⟩
        · exact .inl z
        · exact .inr ⟨l, us, z1, z2, by rw [List.getElem?_append_left (st1.lb l z2)]; exact z3⟩) stg nQ (by rw [List.getElem?_append_right (Nat.le_refl _), Nat.sub_self]; rfl) rfl List.nodup_nil (nd1 _) (fun y hy => by cases hy) (by simpa using h2.ok.1) ys γ2 hr
      rw [k1]
      obtain ⟨Q3, j1, j2⟩ := w.back st1 k4
      simp only [List.length_append, List.length_singleton] at k5 k6 k7 k3c
      have f3 : Fr μ1 Ps1 μ2 Q3 := Fr.trans ⟨by omega, fun l q1 q2 => by
        rw [k6 l (by omega) (fun z => by
          rcases fw.sub l z with w | w
          · exact q2 w
          · omega) (by omega), List.getElem?_append_left q1], fun l hl => by
        rcases k7 l hl with w | w
        · exact fw.sub l w
        · exact .inr (by omega)⟩ j2
      have f4 := f1.trans f3
      have qlt : ∀ l ∈ q', l < μ2.length := fun l hl => k3.lt l hl
      refine ⟨.loc μ1.length, μ2, Q3, μ1.length :: q', rfl, ⟨⟨k3d, k3n⟩, μ1.length, vs', q', rfl, k2, rfl, k3, k3a⟩, ⟨k3a, fun l hl => ?_, fun l hl => ?_⟩, j1, f4⟩
      · rcases List.mem_cons.mp hl with rfl | hl
        · refine ⟨fun z => ?_, nB⟩
          rcases j2.sub _ z with z | z
          · exact k8 z
          · omega
        · refine ⟨fun z => ?_, (k3b l hl).2⟩
          rcases j2.sub _ z with z | z
          · exact (k3b l hl).1 z
          · have := qlt l hl
            omega
      · rcases List.mem_cons.mp hl with rfl | hl
        · exact .inr f1.le
        · rcases k3c l hl with w | w | w
          · cases w
          · rcases fw.sub l w with w | w
            · exact f1.sub l w
            · exact .inr (Nat.le_trans f1.le w)
          · exact .inr (by have := f1.le; omega)
    | exc c p γ2 => trivial
    | bad => trivial
  | exc c p γ' =>
    rw [ht] at h
    obtain ⟨μ', Ps', h1, h3, h4⟩ := h
    rw [h1]
    exact ⟨μ', Ps', rfl, h3, h4⟩
  | bad => trivial
end
end Fs
namespace Fs
open PySem PySem.Spec L2
section
variable {Ts : List Type} {s : SL Ts} {ks kr kx kxb ks1 ks' : List Kd} {ρ : Type} {rm : Rm} {rr : Rp ρ}
end
theorem op_tupD {n : Nat} : Op1 n tyData (fun v μ => tupleV [v] μ) (tyTl tyData) oSeqD := by
  intro μ v a q h
  obtain ⟨rfl, _⟩ := h.imm
  have e3 : ∀ ds : List Data, ds.map tyData.enc = ds := fun ds => List.map_id' ds
  have fin : ∀ ds : List Data, ds.length ≤ lim → Fz (tyTl tyData) (.d (.tup ds)) ds := fun ds hl => by
    refine ⟨?_, hl, fun _ _ => trivial⟩
    show Val.d (.tup ds) = .d (.tup (ds.map tyData.enc))
    rw [e3]
  cases a with
  | list ds =>
    show OkC μ (mkT (ds.map Val.d) μ) _ (if ds.length ≤ lim then .ok ds else .bad)
    split
    · rename_i hl
      have e : mkT (ds.map Val.d) μ = .ok (.d (.tup ds)) μ := by
        unfold mkT
        rw [if_neg (by rw [List.length_map]; have := lim_eq; omega)]
        have e2 : allD (ds.map Val.d) = some ds := by
          have := allD_lv (rp := tyData) ds
          unfold lv at this
          rw [e3] at this
          exact this
        rw [e2]
      rw [e]
      exact ⟨_, rfl, fin ds hl⟩
    · trivial
  | tup ds =>
    show OkC μ (Res.ok (Val.d (.tup ds)) μ) _ (if ds.length ≤ lim then .ok ds else .bad)
    split
    · rename_i hl
      exact ⟨_, rfl, fin ds hl⟩
    · trivial
  | _ => trivial
end Fs
namespace Fs
open PySem PySem.Spec L2
section
variable {Ts : List Type} {s : SL Ts} {ks kr kx : List Kd} {α ρ : Type} {rm : Rm} {rr : Rp ρ} {rp : Rp α}
inductive RtE (s : SL Ts) (ks : List Kd) (ma : AM) (rp : Rp α) : List (Str × Bool × Nat × Fn) → List (Str × (HL Ts → ER (HL Ts) α)) → Prop
  | nil : RtE s ks ma rp [] []
  | cons {key : Str} {fz : Bool} {n : Nat} {f : Fn} {t : HL Ts → ER (HL Ts) α} {l : List (Str × Bool × Nat × Fn)} {tl : List (Str × (HL Ts → ER (HL Ts) α))} (h : RfE s ks (eCall n fz f ma) (Fz rp) t) (r : RtE s ks ma rp l tl) : RtE s ks ma rp ((key, fz, n, f) :: l) ((key, t) :: tl)
theorem RtE.look {ma : AM} {l : List (Str × Bool × Nat × Fn)} {tl : List (Str × (HL Ts → ER (HL Ts) α))} (h : RtE s ks ma rp l tl) (z : Str) {t : HL Ts → ER (HL Ts) α} (e : tl.lookup z = some t) : ∃ q, l.lookup z = some q ∧ RfE s ks (eCall q.2.1 q.1 q.2.2 ma) (Fz rp) t := by
  induction h with
  | nil => cases e
  | @cons key fz n f t' l tl h r ih =>
    rw [List.lookup_cons] at e ⊢
    cases hb : z == key with
    | true =>
      rw [hb] at e
      cases e
      exact ⟨_, rfl, h⟩
    | false =>
      rw [hb] at e
      exact ih e
end
@[simp] def oIsntB (a b : Bool) : PR Bool := .ok (!decide (a = b))
end Fs
namespace Fs
open PySem PySem.Spec L2
abbrev U_Step : List Type := [Str, Str, Str, Str, Str]
abbrev O_Step : Type := Nat × HL U_Step
section
variable {Ts Us Vs : List Type} {s : SL Ts} {ks : List Kd} {al : SL Us} {α β δ ρ : Type} {rp : Rp α} {rq : Rp ρ} {n : Nat}
def sel4 {α : Type} (a b c d : α) (k : Nat) : α := match k with
  | 0 => a
  | 1 => b
  | 2 => c
  | _ => d
@[simp] def cSel {Γ : Type} (to : Γ → PR O_Step) (t0 t1 t2 t3 : Γ → PR δ) (γ : Γ) : PR δ := (to γ).bind fun x => sel4 (t0 γ) (t1 γ) (t2 γ) (t3 γ) x.1
@[simp] def xSel {Γ : Type} (to : Γ → PR O_Step) (t0 t1 t2 t3 : Γ → ER Γ δ) (γ : Γ) : ER Γ δ := ((to γ).er γ).bind fun x _ => sel4 (t0 γ) (t1 γ) (t2 γ) (t3 γ) x.1
section
variable {fz : Bool} {N : Nat} {F0 F1 F2 F3 : Fn} {mo : EM} {ma : AM} {to : HL Ts → PR O_Step}
@[simp] def cSup {Γ : Type} (k : Nat) (to : Γ → PR O_Step) (t : Γ → PR δ) (γ : Γ) : PR δ := (to γ).bind fun x => if x.1 = k then t γ else .bad
@[simp] def xSup {Γ : Type} (k : Nat) (to : Γ → PR O_Step) (t : Γ → ER Γ δ) (γ : Γ) : ER Γ δ := ((to γ).er γ).bind fun x _ => if x.1 = k then t γ else .bad
end
end
end Fs
namespace Fs
open PySem PySem.Spec L2
end Fs
namespace Fs
open PySem PySem.Spec L2
def lfM {α : Type} (f : α → PR Data) : List α → List Data → PR (List Data)
  | [], acc => .ok acc
  | x :: r, acc => match f x with
    | .ok d => if lfOk d = true ∧ acc.length < lim then lfM f r (ptLf acc d) else .bad
    | _ => .bad
@[simp] def cDcLf {Γ α : Type} (ti : Γ → PR (List α)) (set : α → Γ → Γ) (te : Γ → PR Data) (γ : Γ) : PR (List Data) := (ti γ).bind fun xs => (lfM (fun x => te (set x γ)) xs []).calm
section
variable {Ts : List Type} {s : SL Ts} {ks : List Kd} {α : Type} {rp : Rp α} {n : Nat}
@[simp] def oInLf (neg : Bool) (d : Data) (ks : List Data) : PR Bool := if lfOk d = true then .ok (negB neg (ks.any fun z => flatEq z d)) else .bad
end
end Fs
namespace Fs
open PySem PySem.Spec L2
def tyKey : Rp (List Data) where
  enc xs := .tup xs
  ok _ := False
  own _ _ v xs fp := v = .tup (xs.map .d) ∧ xs.length ≤ lim ∧ fp = []
  loc h _ := h
  lt := by
    rintro n m v a fp ⟨rfl, _, rfl⟩ l h
    cases h
  nrm := by
    rintro n m v a fp ⟨rfl, _, rfl⟩
    rfl
def KeyV (v : Val) (a : List Data) : Prop := v = .tup (a.map .d) ∧ a.length ≤ lim
def keyD : Data → Option Key
  | .int i => some (.inl i)
  | .str s => some (.inr s)
  | _ => Option.none
def keysD : List Data → Option (List Key)
  | [] => some []
  | d :: r => (keyD d).bind fun k => (keysD r).map (k :: ·)
section
variable {α : Type}
def getT (kvs : List (List Key × α)) (k : List Key) : Option α := (kvs.find? fun p => decide (p.1 = k)).map (·.2)
def putT (kvs : List (List Key × α)) (k : List Key) (a : α) : List (List Key × α) := if (kvs.any fun p => decide (p.1 = k)) = true then kvs.map fun p => if p.1 = k then (p.1, a) else p else kvs ++ [(k, a)]
variable {rp : Rp α} {n n' : Nat}
theorem Vw.key {μ : Mem} {v : Val} {q : List Nat} {a : List Data} (h : Vw tyKey n μ v a q) : KeyV v a := by
  rcases h with ⟨⟨_, k⟩, _⟩ | ⟨h1, h2, _⟩
  · exact False.elim k
  · exact ⟨h1, h2⟩
@[simp] def oGetT (kvs : List (List Key × α)) (ds : List Data) : PR α := match keysD ds with
  | some k => ofO (getT kvs k)
  | Option.none => .bad
@[simp] def oInT (neg : Bool) (ds : List Data) (kvs : List (List Key × α)) : PR Bool := match keysD ds with
  | some k => .ok (negB neg (getT kvs k).isSome)
  | Option.none => .bad
end
section
variable {Ts : List Type} {s : SL Ts} {ks kr kx : List Kd} {α ρ β : Type} {rp : Rp α} {rr : Rp ρ} {rm : Rm} {n : Nat}
@[simp] def tPutT {Γ ρ : Type} (g : Γ → List (List Key × α)) (p : List (List Key × α) → Γ → Γ) (tk : Γ → PR (List Data)) (t : Γ → PR α) (γ : Γ) : SR Γ ρ := ((t γ).er γ).st fun a _ => ((tk γ).er γ).st fun ds _ => match keysD ds with
  | some k => if (g γ).length < lim then .next (p (putT (g γ) k a) γ) else .bad
  | Option.none => .bad
end
end Fs
namespace Fs
open PySem PySem.Spec L2
section
variable {Ts : List Type} {s : SL Ts} {ks kr kx ks' : List Kd} {α ρ : Type} {rp : Rp α} {rr : Rp ρ} {rm : Rm} {n : Nat}
@[simp] def tAppM {Γ ρ α : Type} (g : Γ → List α) (p : List α → Γ → Γ) (gJ : Γ → α) (γ : Γ) : SR Γ ρ := if (g γ).length < lim then .next (p (g γ ++ [gJ γ]) γ) else .bad
end
end Fs
namespace Fs
open PySem PySem.Spec L2
section
variable {B B' : List Nat} {m : Mem} {α : Type} {rp : Rp α}
theorem slotR.monoB {k : Kd} {y x : Option Val} {a : α} {fp : List Nat} (h : slotR rp k B m y x a fp) (q : ∀ l ∈ B, l ∈ B') : slotR rp k B' m y x a fp := by
  cases k with
  | dead => exact h
  | frz => exact h
  | bor n =>
    obtain ⟨⟨v, q1, e, hv, hB⟩, h2⟩ := h
    exact ⟨⟨v, q1, e, hv, fun l hl => q l (hB l hl)⟩, h2⟩
  | own n => exact h
  | io n => exact h
  | lent n =>
    obtain ⟨⟨v, q1, e, e2, hv, hB⟩, h2⟩ := h
    exact ⟨⟨v, q1, e, e2, hv, fun l hl => q l (hB l hl)⟩, h2⟩
  | held => exact h
def noB1 : Kd → Bool
  | .bor _ => false
  | .lent _ => false
  | _ => true
def noB (ks : List Kd) : Bool := ks.all noB1
theorem slotR.lessB {k : Kd} {y x : Option Val} {a : α} {fp : List Nat} (h : slotR rp k B m y x a fp) (hk : noB1 k = true) : slotR rp k B' m y x a fp := by
  cases k with
  | dead => exact h
  | frz => exact h
  | bor n => cases hk
  | own n => exact h
  | io n => exact h
  | lent n => cases hk
  | held => exact h
end
section
variable {B B' : List Nat} {m : Mem}
theorem StR.monoB {Ts : List Type} {s : SL Ts} : ∀ {ks : List Kd} {A : Env} {γ : HL Ts} {e : Env} {Ps : List (List Nat)}, StR B m s ks A γ e Ps → (∀ l ∈ B, l ∈ B') → StR B' m s ks A γ e Ps := by
  induction s with
  | nil =>
    intro ks A γ e Ps h q
    cases ks <;> cases A <;> cases e <;> cases Ps <;> first | exact h | exact h.elim
  | cons rp s ih =>
    intro ks A γ e Ps h q
    obtain ⟨k, ks', y, A', x, e', fp, Ps', rfl, rfl, rfl, rfl, h1, h2⟩ := h.inv
    exact ⟨h1.monoB q, ih h2 q⟩
theorem StR.lessB {Ts : List Type} {s : SL Ts} : ∀ {ks : List Kd} {A : Env} {γ : HL Ts} {e : Env} {Ps : List (List Nat)}, StR B m s ks A γ e Ps → noB ks = true → StR B' m s ks A γ e Ps := by
  induction s with
  | nil =>
    intro ks A γ e Ps h q
    cases ks <;> cases A <;> cases e <;> cases Ps <;> first | exact h | exact h.elim
  | cons rp s ih =>
    intro ks A γ e Ps h q
    obtain ⟨k, ks', y, A', x, e', fp, Ps', rfl, rfl, rfl, rfl, h1, h2⟩ := h.inv
    have q : (noB1 k && noB ks') = true := q
    obtain ⟨q1, q2⟩ := Bool.and_eq_true_iff.mp q
    exact ⟨h1.lessB q1, ih h2 q2⟩
theorem Ix.putA {α : Type} {rp : Rp α} {Ts : List Type} {s : SL Ts} {i : Nat} {g : HL Ts → α} {p : α → HL Ts → HL Ts} (ix : Ix rp s i g p) {k' : Kd} {y' x' : Option Val} {a' : α} {fp' : List Nat} : ∀ {ks : List Kd} {A : Env} {γ : HL Ts} {e : Env} {Ps : List (List Nat)}, StR B m s ks A γ e Ps →
    (∀ l ∈ B, l ∈ B') → slotR rp k' B' m y' x' a' fp' → StR B' m s (ks.set i k') (A.set i y') (p a' γ) (e.set i x') (Ps.set i fp') := by
  induction ix with
  | here =>
    intro ks A e γ Ps h q n
    obtain ⟨k, ks', y, A', x, e', fp, Ps', rfl, rfl, rfl, rfl, h1, h2⟩ := h.inv
    exact ⟨n, h2.monoB q⟩
  | there ix ih =>
    intro ks A e γ Ps h q n
    obtain ⟨k, ks', y, A', x, e', fp, Ps', rfl, rfl, rfl, rfl, h1, h2⟩ := h.inv
    exact ⟨h1.monoB q, ih h2 q n⟩
end
theorem set_self {α : Type} {l : List α} {i : Nat} {a : α} (h : l[i]? = some a) : l.set i a = l := by
  obtain ⟨hi, e⟩ := List.getElem?_eq_some_iff.mp h
  apply List.ext_getElem?
  intro j
  by_cases hj : i = j
  · subst hj
    rw [List.getElem?_set_self hi, h]
  · rw [List.getElem?_set_ne hj]
theorem flat_setE {Ps : List (List Nat)} {i : Nat} {l : Nat} (h : l ∈ (Ps.set i []).flatten) : l ∈ Ps.flatten := flat_nil.subset h
@[simp] def tLend {Γ ρ α : Type} (g : Γ → α) (p : α → Γ → Γ) (t : Γ → SR Γ ρ) (γ : Γ) : SR Γ ρ := match t γ with
  | .next γ' => .next (p (g γ) γ')
  | r => r
section
variable {Ts : List Type} {s : SL Ts} {ks kr kx ks' : List Kd} {α ρ : Type} {rp : Rp α} {rr : Rp ρ} {rm : Rm} {n : Nat}
theorem St.unlend {i : Nat} {g : HL Ts → α} {p : α → HL Ts → HL Ts} (ix : Ix rp s i g p) {kz : List Kd} (hz : noB kz = true) (hi : kz[i]? = some .dead) {A : Env} {B B' : List Nat} {y x : Option Val} {γ : HL Ts} {e : Env} {μ : Mem} {Ps : List (List Nat)} (hA : A[i]? = some y) (hB : ∀ l ∈ B, l ∈ B') (st : St s kz (A.set i x) B' γ e μ Ps) : St s kz A B γ e μ Ps := by
  obtain ⟨k1, y1, x1, fp, e1, e2, e3, e4, h5⟩ := ix.get st.r
  rw [hi] at e1
  cases e1
  have h5 : fp = [] := h5
  subst h5
  have r := ix.putA (B' := B') (k' := .dead) (y' := y) (x' := x1) (a' := g γ) (fp' := []) st.r (fun l hl => hl) (show ([] : List Nat) = [] from rfl)
  rw [set_self hi, List.set_set, set_self hA, ix.eta, set_self e3, set_self e4] at r
  exact ⟨r.lessB hz, st.nd, fun l hl z => st.nb l hl (hB l z), fun l hl => st.lb l (hB l hl)⟩
end
end Fs
namespace Fs
open PySem PySem.Spec L2
def sumLen {β : Type} (xs : List (List β)) : Int := ((xs.map List.length).map fun n : Nat => (n : Int)).sum
@[simp] def oSumLens {β : Type} (xs : List (List β)) : PR Int := if xs.length < lim then .ok (sumLen xs) else .bad
@[simp] def oSumVals {β : Type} (kvs : List (Str × List β)) : PR Int := if kvs.length < lim then .ok (sumLen (kvs.map (·.2))) else .bad
section
variable {α : Type} {rp : Rp α} {μ : Mem} {n : Nat}
theorem lensV_cons {v : Val} {vs us : List Val} {ns : List Nat} (h1 : lstV μ v = some us) (h2 : lensV μ vs = some ns) : lensV μ (v :: vs) = some (us.length :: ns) := by
  show (match lstV μ v, lensV μ vs with
    | some xs, some ns => some (xs.length :: ns)
    | _, _ => Option.none) = _
  rw [h1, h2]
theorem lens_frz : ∀ xs : List (List α), lensV μ (xs.map fun x => Val.d ((tyList rp).enc x)) = some (xs.map List.length)
  | [] => rfl
  | x :: xs => by
    rw [List.map_cons, List.map_cons]
    have e : lstV μ (.d ((tyList rp).enc x)) = some (lv rp x) := by
      show some ((x.map rp.enc).map Val.d) = _
      rw [lv_d]
    rw [lensV_cons e (lens_frz xs), lv_len]
theorem lens_own : ∀ {vs : List Val} {xs : List (List α)} {fp : List Nat}, ownS (tyList rp) n μ vs xs fp → lensV μ vs = some (xs.map List.length)
  | [], [], _, _ => rfl
  | v :: vs, x :: xs, _, ⟨p, q, _, h1, h2⟩ => by
    have e := (Vw.lst (rp := rp) (n := n) (.inr h1)).1
    rw [List.map_cons, lensV_cons e (lens_own h2), lv_len]
  | [], _ :: _, _, h => h.elim
  | _ :: _, [], _, h => h.elim
theorem op_sumD : Op1 n (tyDictL (tyList rp)) (fun v μ => sumD μ v) tyInt oSumVals := by
  intro μ v xs q h
  show OkC μ (sumD μ v) _ (if xs.length < lim then .ok (sumLen (xs.map (·.2))) else .bad)
  by_cases hl : xs.length < lim
  · rw [if_pos hl]
    have hl : xs.length < 16777216 := hl
    rcases h with ⟨⟨rfl, k⟩, _⟩ | h
    · have e : dkV μ (.d ((tyDictL (tyList rp)).enc xs)) = some ((xs.map fun p => (((.inr p.1 : Key)), (tyList rp).enc p.2)).map fun p => (p.1, Val.d p.2)) := rfl
      unfold sumD
      rw [e]
      dsimp only
      have e2 : ((xs.map fun p => (((.inr p.1 : Key)), (tyList rp).enc p.2)).map fun p => (p.1, Val.d p.2)).map (·.2) = (xs.map (·.2)).map fun x => Val.d ((tyList rp).enc x) := by
        rw [List.map_map, List.map_map, List.map_map]
        rfl
      rw [if_pos (by rw [List.length_map, List.length_map]; exact hl), e2, lens_frz]
      exact okOp (rq := tyInt) trivial
    · obtain ⟨l, vs, q, rfl, e2, _, e4, _, _, _⟩ := dctO h
      have e : dkV μ (.loc l) = some (dkL (xs.map (·.1)) vs) := by
        show (match μ[l]? with
          | some (.dk kvs) => some kvs
          | _ => Option.none) = _
        rw [e2]
      have hlen : vs.length = xs.length := by rw [e4.len, List.length_map]
      have e3 : (dkL (xs.map (·.1)) vs).map (·.2) = vs := by
        unfold dkL
        exact List.map_snd_zip (by rw [List.length_map, List.length_map, hlen]; exact Nat.le_refl _)
      have e5 : (dkL (xs.map (·.1)) vs).length < 16777216 := by
        unfold dkL
        rw [List.length_zip, List.length_map, List.length_map]
        omega
      unfold sumD
      rw [e]
      dsimp only
      rw [if_pos e5, e3, lens_own e4]
      exact okOp (rq := tyInt) trivial
  · rw [if_neg hl]
    trivial
end
section
variable {Ts : List Type} {s : SL Ts} {ks : List Kd} {α β : Type} {rp : Rp α} {rj : Rp β} {n j : Nat} {mo : EM} {gj : HL Ts → β} {pj : β → HL Ts → HL Ts}
theorem slot_lt (ix : Ix rj s j gj pj) {A : Env} {B : List Nat} {γ : HL Ts} {e : Env} {μ : Mem} {Ps : List (List Nat)} (st : St s ks A B γ e μ Ps) : ¬ e.length ≤ j := by
  obtain ⟨k1, y, x, fp, e1, e2, e3, e4, h5⟩ := ix.get st.r
  have := (List.getElem?_eq_some_iff.mp e3).1
  omega
theorem rf_sumVals {t : HL Ts → PR (List (Str × List α))} (ix : Ix rj s j gj pj) (ho : RfW s ks n mo (tyDictL (tyList rp)) t) : RfC s ks (eSumVals j mo) (Fz tyInt) (c1 oSumVals t) := fun A B γ e μ Ps st => by
  unfold eSumVals
  rw [if_neg (slot_lt ix st)]
  exact rf_1 op_sumD ho A B γ e μ Ps st
end
end Fs
namespace Fs
open PySem PySem.Spec L2
@[simp] def tAlias {Γ ρ α : Type} (g : Γ → List α) (p : List α → Γ → Γ) (gx : Γ → α) (px : α → Γ → Γ) (ti : Γ → PR Int) (d : α) (t : Γ → SR Γ ρ) (γ : Γ) : SR Γ ρ := match ti γ with
  | .ok z => match L2.ixN (g γ).length z with
    | some k => match (g γ)[k]? with
      | some a => match t (px a γ) with
        | .next γ' => .next (p ((g γ).set k (gx γ')) (px d γ'))
        | r => r
      | Option.none => .bad
    | Option.none => .bad
  | _ => .bad
def tyFull {α : Type} (k : Nat) (r : Rp α) : Rp α where
  enc := r.enc
  ok := r.ok
  own _ := r.own k
  loc h := r.loc h
  lt h := r.lt h
  nrm h := r.nrm h
section
variable {Ts : List Type} {s : SL Ts} {ks kr kx ks' : List Kd} {α ρ : Type} {rp : Rp α} {rr : Rp ρ} {rm : Rm} {n : Nat}
theorem rn_full {k : Nat} {m : EM} {t : HL Ts → ER (HL Ts) α} (h : RfN s ks k m rp t) : RfN s ks n m (tyFull k rp) t := h
theorem rw_full {k : Nat} {m : EM} {t : HL Ts → PR α} (h : RfW s ks n m (tyFull k rp) t) : RfW s ks k m rp t := h
theorem rs_alias {i j : Nat} {g : HL Ts → List α} {p : List α → HL Ts → HL Ts} {gx : HL Ts → α} {px : α → HL Ts → HL Ts} {mi : EM} {ti : HL Ts → PR Int} {d : α} {m : SM} {t : HL Ts → SR (HL Ts) ρ} {kk : Nat} (ix : Ix (tyListL (tyFull kk rp)) s i g p) (ixx : Ix rp s j gx px) (hij : i ≠ j) (hk : ks[i]? = some (.own n)) (hkx : ks[j]? = some .dead) (hti : RfC s ks mi (Fz tyInt) ti)
    (hi : ks'[i]? = some .held) (hj : ks'[j]? = some (.io kk)) (hr : noB kr = true) (hri : kr[i]? = some .dead) (hrj : kr[j]? = some .dead) (hx : noB kx = true) (hxi : kx[i]? = some .dead) (hxj : kx[j]? = some .dead)
    (h : RfS s ((ks.set i .held).set j (.io kk)) kr kx ks' rm rr m t) : RfS s ks kr kx ((ks'.set j .dead).set i (.own n)) rm rr (sSeq (sSet j (eBin idxV (eVar i) mi)) m) (tAlias g p gx px ti d t) := fun A B γ e μ Ps st => by
  obtain ⟨k1, y, x, fp, e1, e2, e3, e4, h5⟩ := ix.get st.r
  rw [hk] at e1
  cases e1
  obtain ⟨v, rfl, hv⟩ := h5
  obtain ⟨k2, yx, xx, fpx, x1, x2, x3, x4, x5⟩ := ixx.get st.r
  rw [hkx] at x1
  cases x1
  have x5 : fpx = [] := x5
  subst x5
  have hnr := (tyListL (tyFull kk rp)).nrm hv
  have hlt := (tyListL (tyFull kk rp)).lt hv
  obtain ⟨l, vs, q, rfl, m2, rfl, m4, m5, el⟩ := lstO hv
  have hi0 := hti A B γ e μ Ps st
  unfold tAlias
  cases hz : ti γ with
  | bad => trivial
  | exc c q => trivial
  | ok z =>
    rw [hz] at hi0
    obtain ⟨u, hmi, rfl, _⟩ := hi0
    dsimp only
    cases hN : L2.ixN (g γ).length z with
    | none => trivial
    | some k =>
      dsimp only
      cases ha : (g γ)[k]? with
      | none => trivial
      | some a =>
        dsimp only
        obtain ⟨w, p0, q1, rr', rfl, f2, f3, f4⟩ := m4.upd ha
        have hat : L2.atI vs z = some w := by
          show (L2.ixN vs.length z).bind (vs[·]?) = _
          rw [m4.len, hN]
          exact f2
        have hev : eBin idxV (eVar i) mi e μ = .ok w μ := by
          have e0 : eVar i e μ = .ok (.loc l) μ := by
            unfold eVar
            rw [e3]
            show Res.ok (norm μ (.loc l)) μ = _
            rw [hnr]
          show (eVar i e μ).bind (fun x μ => (mi e μ).bind fun y μ => idxV x y μ) = _
          rw [e0, Res.bind_ok, hmi, Res.bind_ok]
          show idxV (.loc l) (.d (.int z)) μ = _
          rw [idxV_seq (v := .loc l) (vs := vs) (by
            show (match μ[l]? with
              | some (.lst vs) => some vs
              | _ => Option.none) = _
            rw [m2]) (fun z w => by cases w) hat, rp.nrm f3]
        have hrun : sSeq (sSet j (eBin idxV (eVar i) mi)) m e μ = m (e.set j (some w)) μ := by
          have e5 : sSet j (eBin idxV (eVar i) mi) e μ = .next (e.set j (some w)) μ := by
            show (eBin idxV (eVar i) mi e μ).st e _ = _
            rw [hev]
            rfl
          unfold sSeq
          rw [e5]
        rw [hrun]
        have pm := flat_self e4
        have ndp := List.nodup_append.mp (pm.nodup_iff.mp st.nd)
        have hfp : ∀ c ∈ l :: (p0 ++ (q1 ++ rr')), c ∈ Ps.flatten := fun c hc => mem_flat e4 hc
        have x4' : (Ps.set i [])[j]? = some [] := by rw [List.getElem?_set_ne hij]; exact x4
        have hlP := (List.getElem?_eq_some_iff.mp e4).1
        have pm0 : ((Ps.set i []).set j q1).flatten.Perm (q1 ++ (Ps.set i []).flatten) := by
          have hl2 := (List.getElem?_eq_some_iff.mp x4').1
          have := flat_self (Ps := (Ps.set i []).set j q1) (List.getElem?_set_self hl2)
          rw [List.set_set, set_self x4'] at this
          exact this
        have qsub : ∀ c ∈ q1, c ∈ l :: (p0 ++ (q1 ++ rr')) := fun c hc => by simp [hc]
        have ndq : q1.Nodup := (List.nodup_append.mp (List.nodup_append.mp (List.nodup_cons.mp ndp.1).2).2.1).1
        have sub0 : ∀ c ∈ ((Ps.set i []).set j q1).flatten, c ∈ Ps.flatten := fun c hc => by
          rcases List.mem_append.mp (pm0.subset hc) with hc | hc
          · exact hfp c (qsub c hc)
          · exact flat_setE hc
        have st0 : St s ((ks.set i .held).set j (.io kk)) ((A.set i (some (.loc l))).set j (some w)) B (px a γ) (e.set j (some w)) μ ((Ps.set i []).set j q1) := by
          have r := ix.putA (B' := B) (k' := .held) (y' := some (.loc l)) (x' := some (.loc l)) (a' := g γ) (fp' := []) st.r (fun _ h => h) ⟨⟨.loc l, rfl, rfl⟩, rfl⟩
          rw [ix.eta, set_self e3] at r
          have r2 := ixx.putA (B' := B) (k' := .io kk) (y' := some w) (x' := some w) (a' := a) (fp' := q1) r (fun _ h => h) ⟨w, rfl, rfl, f3⟩
          refine ⟨r2, ?_, fun c hc => st.nb c (sub0 c hc), st.lb⟩
          exact pm0.nodup_iff.mpr (List.nodup_append.mpr ⟨ndq, ndp.2.1, fun a ha b hb => ndp.2.2 a (qsub a ha) b hb⟩)
        have h := h _ _ _ _ μ _ st0
        have frU : ∀ {μ' : Mem} {Q : List (List Nat)}, Fr μ ((Ps.set i []).set j q1) μ' Q → Fr μ Ps μ' Q := fun f => ⟨f.le, fun c h1 h2 => f.keep c h1 fun z => h2 (sub0 c z), fun c hc => (f.sub c hc).imp (sub0 c) id⟩
        have hA2 : ((A.set i (some (.loc l))).set j (some w))[j]? = some (some w) := by
          have := (List.getElem?_eq_some_iff.mp x2).1
          exact List.getElem?_set_self (by rw [List.length_set]; exact this)
        have hA1 : ((A.set i (some (.loc l))).set j (some w))[i]? = some (some (.loc l)) := by
          have := (List.getElem?_eq_some_iff.mp e2).1
          rw [List.getElem?_set_ne (Ne.symm hij)]
          exact List.getElem?_set_self this
        have back : ∀ {kz : List Kd} {γ' : HL Ts} {e' : Env} {μ' : Mem} {Q : List (List Nat)}, noB kz = true → kz[i]? = some .dead → kz[j]? = some .dead → St s kz ((A.set i (some (.loc l))).set j (some w)) B γ' e' μ' Q → St s kz A B γ' e' μ' Q := fun hz zi zj q => by
          have x2' : (A.set i (some (.loc l)))[j]? = some yx := by rw [List.getElem?_set_ne hij]; exact x2
          exact (q.unlend ixx hz zj x2' (fun _ h => h)).unlend ix hz zi e2 (fun _ h => h)
        cases ht : t (px a γ) with
        | bad => trivial
        | ret r γ' =>
          rw [ht] at h
          obtain ⟨w2, e', μ', Q, h1, h2, h3, h4⟩ := h
          refine ⟨w2, e', μ', Q, h1, ?_, back hr hri hrj h3, frU h4⟩
          cases rm with
          | frz => exact h2
          | new n' =>
            obtain ⟨fq, a1, a2⟩ := h2
            exact ⟨fq, a1, a2.nd, a2.out, fun c hc => (a2.sub c hc).imp (sub0 c) id⟩
        | exc c q γ' =>
          rw [ht] at h
          obtain ⟨e', μ', Q, h1, h3, h4⟩ := h
          exact ⟨e', μ', Q, h1, back hx hxi hxj h3, frU h4⟩
        | next γ' =>
          rw [ht] at h
          obtain ⟨e', μ', Q, h1, h2, h3⟩ := h
          obtain ⟨kz, y2, z2, fq, g1, g2, g3, g4, g5⟩ := ix.get h2.r
          rw [hi] at g1
          cases g1
          obtain ⟨⟨v2, rfl, ey⟩, rfl⟩ := g5
          rw [hA1] at g2
          have g2 := Option.some.inj g2
          rw [ey] at g2
          obtain rfl := Option.some.inj g2
          obtain ⟨kz, y3, z3, q2, b1, b2, b3, b4, b5⟩ := ixx.get h2.r
          rw [hj] at b1
          cases b1
          obtain ⟨v3, rfl, ey3, hown⟩ := b5
          rw [hA2] at b2
          have b2 := Option.some.inj b2
          rw [ey3] at b2
          obtain rfl := Option.some.inj b2
          have g4' : (Q.set j [])[i]? = some [] := by rw [List.getElem?_set_ne (Ne.symm hij)]; exact g4
          have pmQ : Q.flatten.Perm (q2 ++ (Q.set j []).flatten) := flat_self b4
          have ndQ := List.nodup_append.mp (pmQ.nodup_iff.mp h2.nd)
          have rest_ne : ∀ c ∈ l :: (p0 ++ rr'), c ∉ Q.flatten ∧ c ∉ q1 ∧ c < μ.length := fun c hc => by
            have hc2 : c ∈ l :: (p0 ++ (q1 ++ rr')) := by
              rcases List.mem_cons.mp hc with rfl | hc
              · exact List.mem_cons_self ..
              · rcases List.mem_append.mp hc with hc | hc <;> simp [hc]
            have cl := hlt c hc2
            obtain ⟨nl, nd2⟩ := List.nodup_cons.mp ndp.1
            obtain ⟨n1, n2, n3⟩ := List.nodup_append.mp nd2
            obtain ⟨n4, n5, n6⟩ := List.nodup_append.mp n2
            have cq : c ∉ q1 := fun z => by
              rcases List.mem_cons.mp hc with rfl | hc
              · exact nl (by simp [z])
              · rcases List.mem_append.mp hc with hc | hc
                · exact n3 c hc c (List.mem_append_left _ z) rfl
                · exact n6 c z c hc rfl
            have c0 : c ∉ ((Ps.set i []).set j q1).flatten := fun z => by
              rcases List.mem_append.mp (pm0.subset z) with z | z
              · exact cq z
              · exact ndp.2.2 c hc2 c z rfl
            refine ⟨fun z => ?_, cq, cl⟩
            rcases h3.sub c z with z | z
            · exact c0 z
            · exact absurd cl (Nat.not_lt.mpr z)
          have keep : ∀ c ∈ l :: (p0 ++ rr'), μ'[c]? = μ[c]? := fun c hc => h3.keep c (rest_ne c hc).2.2 fun z => by
            rcases List.mem_append.mp (pm0.subset z) with z | z
            · exact (rest_ne c hc).2.1 z
            · have hc2 : c ∈ l :: (p0 ++ (q1 ++ rr')) := by
                rcases List.mem_cons.mp hc with rfl | hc
                · exact List.mem_cons_self ..
                · rcases List.mem_append.mp hc with hc | hc <;> simp [hc]
              exact ndp.2.2 c hc2 c z rfl
          have q2Q : ∀ c ∈ q2, c ∈ Q.flatten := fun c hc => mem_flat b4 hc
          have ndN : (l :: (p0 ++ (q2 ++ rr'))).Nodup := by
            obtain ⟨nl, nd2⟩ := List.nodup_cons.mp ndp.1
            obtain ⟨n1, n2, n3⟩ := List.nodup_append.mp nd2
            obtain ⟨n4, n5, n6⟩ := List.nodup_append.mp n2
            refine List.nodup_cons.mpr ⟨fun z => ?_, List.nodup_append.mpr ⟨n1, List.nodup_append.mpr ⟨ndQ.1, n5, fun a ha b hb w => ?_⟩, fun a ha b hb w => ?_⟩⟩
            · rcases List.mem_append.mp z with z | z
              · exact nl (by simp [z])
              · rcases List.mem_append.mp z with z | z
                · exact (rest_ne l (List.mem_cons_self ..)).1 (q2Q l z)
                · exact nl (by simp [z])
            · subst w
              exact (rest_ne a (by simp [hb])).1 (q2Q a ha)
            · subst w
              rcases List.mem_append.mp hb with z | z
              · exact (rest_ne a (by simp [ha])).1 (q2Q a z)
              · exact n3 a ha a (List.mem_append_right _ z) rfl
          have hown2 : (tyListL (tyFull kk rp)).own n μ' (.loc l) ((g γ).set k (gx γ')) (l :: (p0 ++ (q2 ++ rr'))) := ⟨by rw [List.length_set]; exact el, l, vs, _, rfl, by rw [keep l (List.mem_cons_self ..)]; exact m2, rfl, f4 hown fun c hc => keep c (List.mem_cons_of_mem _ hc), ndN⟩
          have r1 := ixx.putA (B' := B) (k' := .dead) (y' := yx) (x' := some w) (a' := d) (fp' := []) h2.r (fun _ h => h) (show ([] : List Nat) = [] from rfl)
          rw [set_self b3] at r1
          have r2 := ix.putA (B' := B) (k' := .own n) (y' := y) (x' := some (.loc l)) (a' := (g γ).set k (gx γ')) (fp' := l :: (p0 ++ (q2 ++ rr'))) r1 (fun _ h => h) ⟨.loc l, rfl, hown2⟩
          rw [set_self g3] at r2
          have hAA : ((((A.set i (some (.loc l))).set j (some w)).set j yx).set i y) = A := by
            refine List.ext_getElem? fun c => ?_
            by_cases hci : c = i
            · subst hci
              have := (List.getElem?_eq_some_iff.mp e2).1
              rw [List.getElem?_set_self (by simpa using this), e2]
            · rw [List.getElem?_set_ne (Ne.symm hci), List.set_set]
              by_cases hcj : c = j
              · subst hcj
                have := (List.getElem?_eq_some_iff.mp x2).1
                rw [List.getElem?_set_self (by simpa using this), x2]
              · rw [List.getElem?_set_ne (Ne.symm hcj), List.getElem?_set_ne (Ne.symm hci)]
          rw [hAA] at r2
          have hlQ := (List.getElem?_eq_some_iff.mp g4').1
          have pm3 : ((Q.set j []).set i (l :: (p0 ++ (q2 ++ rr')))).flatten.Perm ((l :: (p0 ++ (q2 ++ rr'))) ++ (Q.set j []).flatten) := by
            have := flat_self (Ps := (Q.set j []).set i (l :: (p0 ++ (q2 ++ rr')))) (List.getElem?_set_self hlQ)
            rw [List.set_set, set_self g4'] at this
            exact this
          have memN : ∀ c ∈ l :: (p0 ++ (q2 ++ rr')), c ∈ l :: (p0 ++ rr') ∨ c ∈ q2 := fun c hc => by
            rcases List.mem_cons.mp hc with rfl | hc
            · exact .inl (List.mem_cons_self ..)
            · rcases List.mem_append.mp hc with hc | hc
              · exact .inl (by simp [hc])
              · rcases List.mem_append.mp hc with hc | hc
                · exact .inr hc
                · exact .inl (by simp [hc])
          have inP : ∀ c ∈ l :: (p0 ++ rr'), c ∈ Ps.flatten := fun c hc => hfp c (by
            rcases List.mem_cons.mp hc with rfl | hc
            · exact List.mem_cons_self ..
            · rcases List.mem_append.mp hc with hc | hc <;> simp [hc])
          refine ⟨e', μ', (Q.set j []).set i (l :: (p0 ++ (q2 ++ rr'))), h1, ⟨r2, ?_, fun c hc => ?_, fun c hc => Nat.lt_of_lt_of_le (st.lb c hc) h3.le⟩, h3.le, fun c a1 a2 => h3.keep c a1 fun z => a2 (sub0 c z), fun c hc => ?_⟩
          · refine pm3.nodup_iff.mpr (List.nodup_append.mpr ⟨ndN, ndQ.2.1, fun a ha b hb w => ?_⟩)
            subst w
            rcases memN a ha with z | z
            · exact (rest_ne a z).1 (flat_setE hb)
            · exact ndQ.2.2 a z a hb rfl
          · rcases List.mem_append.mp (pm3.subset hc) with z | z
            · rcases memN c z with z | z
              · exact st.nb c (inP c z)
              · exact h2.nb c (q2Q c z)
            · exact h2.nb c (flat_setE z)
          · rcases List.mem_append.mp (pm3.subset hc) with z | z
            · rcases memN c z with z | z
              · exact .inl (inP c z)
              · exact (h3.sub c (q2Q c z)).imp (sub0 c) id
            · exact (h3.sub c (flat_setE z)).imp (sub0 c) id
end
end Fs
namespace Fs
open PySem PySem.Spec L2
def tyDV : Rp Data where
  enc x := x
  ok _ := True
  own _ m v a fp := ∃ l ds, v = .loc l ∧ m[l]? = some (.lst (ds.map Val.d)) ∧ a = .list ds ∧ fp = [l]
  loc := by
    rintro n m m' v a fp ⟨l, ds, rfl, h, rfl, rfl⟩ q
    exact ⟨l, ds, rfl, by rw [q l (List.mem_singleton.mpr rfl)]; exact h, rfl, rfl⟩
  lt := by
    rintro n m v a fp ⟨l, ds, rfl, h, rfl, rfl⟩ q hq
    rw [List.mem_singleton.mp hq]
    exact (List.getElem?_eq_some_iff.mp h).1
  nrm := by
    rintro n m v a fp ⟨l, ds, rfl, h, rfl, rfl⟩
    show (match m[l]? with
      | some (.frz x) => Val.d x
      | _ => Val.loc l) = _
    rw [h]
section
variable {Ts : List Type} {s : SL Ts} {ks : List Kd} {α : Type} {rp : Rp α} {n : Nat}
theorem dv_seq {μ : Mem} {l : Nat} {ds : List Data} (h : μ[l]? = some (.lst (ds.map Val.d))) : lstV μ (.loc l) = some (ds.map .d) ∧ seqV μ (.loc l) = some (ds.map .d) := by
  have e : lstV μ (.loc l) = some (ds.map .d) := by
    show (match μ[l]? with
      | some (.lst vs) => some vs
      | _ => Option.none) = _
    rw [h]
  exact ⟨e, e⟩
theorem op_lenDV : Op1 n tyDV (fun v μ => lenV [v] μ) tyInt oLenD := by
  intro μ v a q h
  rcases h with ⟨⟨rfl, _⟩, hq⟩ | ⟨l, ds, rfl, h, rfl, rfl⟩
  · exact op_oLenD (n := n) μ (.d a) a q (.inl ⟨⟨rfl, trivial⟩, hq⟩)
  · have e := op_oLenD (n := n) μ (.d (.list ds)) (.list ds) [] (.inl ⟨⟨rfl, trivial⟩, rfl⟩)
    have e2 : lenV [.loc l] μ = lenV [.d (.list ds)] μ := by
      rw [lenV_seq (dv_seq h).2 (fun z w => by cases w)]
      exact (lenV_seq (v := .d (.list ds)) (vs := ds.map .d) rfl (fun z w => by cases w)).symm
    show OkC μ (lenV [.loc l] μ) _ _
    rw [e2]
    exact e
theorem op_tupDV : Op1 n tyDV (fun v μ => tupleV [v] μ) (tyTl tyData) oSeqD := by
  intro μ v a q h
  rcases h with ⟨⟨rfl, _⟩, hq⟩ | ⟨l, ds, rfl, h, rfl, rfl⟩
  · exact op_tupD (n := n) μ (.d a) a q (.inl ⟨⟨rfl, trivial⟩, hq⟩)
  · have e := op_tupD (n := n) μ (.d (.list ds)) (.list ds) [] (.inl ⟨⟨rfl, trivial⟩, rfl⟩)
    have e2 : tupleV [.loc l] μ = tupleV [.d (.list ds)] μ := by
      unfold tupleV
      dsimp only
      rw [(dv_seq h).1]
      rfl
    show OkC μ (tupleV [.loc l] μ) _ _
    rw [e2]
    exact e
theorem ri_dv {i : Nat} {g : HL Ts → Data} {p : Data → HL Ts → HL Ts} (ix : Ix tyDV s i g p) (hk : ks[i]? = some (.bor n)) : RfI s ks (iOf itA (eVar i)) tyData (x1 oSeqD (xL (cV g))) := fun A B γ e μ Ps st => by
  obtain ⟨k, y, x, fp, h1, h2, h3, h4, h5⟩ := ix.get st.r
  rw [hk] at h1
  cases h1
  obtain ⟨⟨v, q, rfl, h6, h7⟩, _⟩ := h5
  show OkI s ks A B e μ Ps ((eVar i e μ).bind fun x μ => match itA x μ with
    | some i => .ok i μ
    | Option.none => .bad) _ _
  have hn : norm μ v = v := by
    rcases h6 with ⟨⟨rfl, _⟩, _⟩ | h6
    · rfl
    · exact tyDV.nrm h6
  rw [eVar_of h3 hn, Res.bind_ok]
  show OkI s ks A B e μ Ps _ _ ((oSeqD (g γ)).er γ)
  rcases h6 with ⟨⟨rfl, hv⟩, _⟩ | ⟨l, ds, rfl, h8, ea, rfl⟩
  · rcases oSeqD_x (g γ) with ⟨b, e1⟩ | e1
    · obtain ⟨e2, e3⟩ := oSeqD_it (μ := μ) e1
      have e2 : itA (.d (tyDV.enc (g γ))) μ = some ⟨lv tyData b, Option.none⟩ := e2
      rw [e1, e2]
      exact OkI.of st ⟨rfl, e3, .inl rfl⟩
    · rw [e1]
      trivial
  · rw [ea]
    show OkI s ks A B e μ Ps _ _ (PR.er γ (if ds.length ≤ lim then .ok ds else .bad))
    by_cases hl : ds.length ≤ lim
    · rw [if_pos hl, p_itL h8]
      exact OkI.of st ⟨by
        show ds.map Val.d = ds.map fun x => Val.d (tyData.enc x)
        rfl, ⟨hl, fun _ _ => trivial⟩, .inr ⟨l, _, rfl, h7 l (List.mem_singleton.mpr rfl), h8⟩⟩
    · rw [if_neg hl]
      trivial
theorem dv_conv {μ : Mem} {v : Val} {a : List α} {q : List Nat} (h : Vw (tyList rp) n μ v a q) : Vw tyDV n μ v ((tyList rp).enc a) q := by
  rcases h with ⟨⟨rfl, k⟩, rfl⟩ | ⟨k, l, rfl, h, rfl⟩
  · exact .inl ⟨⟨rfl, trivial⟩, rfl⟩
  · refine .inr ⟨l, a.map rp.enc, rfl, ?_, rfl, rfl⟩
    rw [h]
    show some (Cell.lst (a.map fun x => Val.d (rp.enc x))) = some (.lst ((a.map rp.enc).map Val.d))
    rw [List.map_map]
    rfl
end
section
variable {Ts Us : List Type} {s : SL Ts} {ks kds : List Kd} {al : SL Us} {α β ρ : Type} {rp : Rp α} {rq : Rp ρ} {n : Nat} {rm : Rm} {i : Nat} {g : HL Ts → α} {oa : HL Us → α} {io : Bool}
theorem rx_viewL {rl : Rp β} {j n' : Nat} {g' : HL Ts → List β} {p' : List β → HL Ts → HL Ts} {kd : Kd} {mr : AM} {tr : HL Ts → ER (HL Ts) (HL Ts → HL Us)} (ix : Ix (tyList rl) s j g' p') (hk : ks[j]? = some kd) (hn : kdIs kd n' = true) (hj : j ≠ i) (k : RfX s ks i n rp g mr al kds oa io tr) : RfX s ks i n rp g (aCons (eVar j) mr) (.cons tyDV al) (.bor n' :: kds) (fun as => oa as.2) io (xaSlot (fun γ => (tyList rl).enc (g' γ)) tr) := fun A B γ e μ Ps st => by
  obtain ⟨k1, y, x, fp, h1, h2, h3, h4, h5⟩ := ix.get st.r
  rw [hk] at h1
  cases h1
  obtain ⟨v, q, rfl, h6, h7⟩ := h5.vw hn
  show OkX (Us := Data :: Us) s ks A B e μ Ps i n rp g ((eVar j e μ).bind fun x μ => (mr e μ).bind fun xs μ => .ok (x :: xs) μ) _ _ _ _ ((tr γ).bind fun fr γ => .ok (fun γ' => ((tyList rl).enc (g' γ'), fr γ')) γ)
  rw [eVar_of h3 h6.nrm, Res.bind_ok]
  refine (k A B γ e μ Ps st).cons fun vs fa ax => ⟨fun A B γ μ Ps fp u st e1 e2 ow => ?_, fun B μ as fps u e1 h => ?_⟩
  · obtain ⟨fps, z1, z2⟩ := ax.sem A B γ μ Ps fp u st e1 e2 ow
    obtain ⟨k2, y2, x2, fp2, j1, j2, j3, j4, j5⟩ := ix.get st.r
    rw [hk] at j1
    cases j1
    rw [h3] at j3
    cases j3
    obtain ⟨v2, q2, z, j6, j7⟩ := j5.vw hn
    cases z
    refine ⟨[] :: fps, ⟨⟨⟨v, q2, rfl, dv_conv j6, fun l hl => ?_⟩, rfl⟩, z1⟩, by rw [List.flatten_cons, z2]; rfl⟩
    rcases j7 l hl with w | w
    · refine List.mem_append_right _ (mem_flat (i := j) (fp := fp2) ?_ w)
      rw [List.getElem?_set_ne (Ne.symm hj)]
      exact j4
    · exact List.mem_append_left _ w
  · obtain ⟨k', ks', y, A', x, e', fp, Ps', q1, q2, q3, rfl, q4, q5⟩ := h.inv
    rw [List.map_cons] at q2 q3
    cases q1
    cases q2
    cases q3
    obtain ⟨_, rfl⟩ := q4
    exact ax.back B μ as.2 Ps' u e1 q5
end
section
variable {Ts : List Type} {s : SL Ts} {ks : List Kd} {α : Type} {rp : Rp α} {n : Nat}
end
end Fs
namespace Fs
open PySem PySem.Spec L2
@[simp] def xLim {Γ α : Type} (t : Γ → ER Γ (List α)) (γ : Γ) : ER Γ (List α) := (t γ).bind fun xs γ => if xs.length ≤ lim then .ok xs γ else .bad
section
variable {Ts : List Type} {s : SL Ts} {ks : List Kd} {α : Type} {rp : Rp α} {n : Nat}
def OkNL (s : SL Ts) (ks : List Kd) (A : Env) (B : List Nat) (e : Env) (μ : Mem) (Ps : List (List Nat)) (x : Res (List Val)) (rp : Rp α) (r : ER (HL Ts) (List α)) : Prop := match r with
  | .ok a γ' => ∃ vs μ' Ps' fp, x = .ok vs μ' ∧ ownS rp 0 μ' vs a fp ∧ Fre fp B μ Ps Ps' ∧ St s ks A B γ' e μ' Ps' ∧ Fr μ Ps μ' Ps'
  | .exc c p γ' => ∃ μ' Ps', x = .exc c p μ' ∧ St s ks A B γ' e μ' Ps' ∧ Fr μ Ps μ' Ps'
  | .bad => True
def RfNL (s : SL Ts) (ks : List Kd) (m : AM) (rp : Rp α) (t : HL Ts → ER (HL Ts) (List α)) : Prop := ∀ A B γ e μ Ps, St s ks A B γ e μ Ps → OkNL s ks A B e μ Ps (m e μ) rp (t γ)
theorem rnl_nil : RfNL s ks aNil rp (xL (cLNil (α := α))) := fun A B γ e μ Ps st => ⟨[], μ, Ps, [], rfl, rfl, ⟨List.nodup_nil, fun l hl => (by cases hl), fun l hl => (by cases hl)⟩, st, Fr.refl _ _⟩
theorem rnl_cons {m : EM} {mr : AM} {t : HL Ts → ER (HL Ts) α} {tr : HL Ts → ER (HL Ts) (List α)} (h : RfN s ks 0 m rp t) (k : RfNL s ks mr rp tr) : RfNL s ks (aCons m mr) rp (xLCons t tr) := fun A B γ e μ Ps st => by
  have h := h A B γ e μ Ps st
  show OkNL s ks A B e μ Ps ((m e μ).bind fun x μ => (mr e μ).bind fun xs μ => .ok (x :: xs) μ) rp ((t γ).bind fun a γ => (tr γ).bind fun r γ => .ok (a :: r) γ)
  cases ht : t γ with
  | bad => trivial
  | exc c p γ1 =>
    rw [ht] at h
    obtain ⟨μ1, Ps1, e1, s1, f1⟩ := h
    rw [e1]
    exact ⟨μ1, Ps1, rfl, s1, f1⟩
  | ok a γ1 =>
    rw [ht] at h
    obtain ⟨v, μ1, Ps1, fp1, e1, hv, fr1, st1, f1⟩ := h
    rw [e1]
    show OkNL s ks A B e μ Ps ((mr e μ1).bind fun xs μ => .ok (v :: xs) μ) rp ((tr γ1).bind fun r γ => .ok (a :: r) γ)
    have k := k A B γ1 e μ1 Ps1 st1
    cases hr : tr γ1 with
    | bad => trivial
    | exc c p γ2 =>
      rw [hr] at k
      obtain ⟨μ2, Ps2, e2, s2, f2⟩ := k
      rw [e2]
      exact ⟨μ2, Ps2, rfl, s2, f1.trans f2⟩
    | ok r γ2 =>
      rw [hr] at k
      obtain ⟨vs, μ2, Ps2, fp2, e2, hvs, fr2, st2, f2⟩ := k
      rw [e2]
      have lt1 := rp.lt hv
      have hv2 := rp.loc hv fun l hl => f2.keep l (lt1 l hl) (fr1.out l hl).1
      refine ⟨v :: vs, μ2, Ps2, fp1 ++ fp2, rfl, ⟨fp1, fp2, rfl, hv2, hvs⟩, ⟨List.nodup_append.mpr ⟨fr1.nd, fr2.nd, fun c hc d hd w => ?_⟩, fun c hc => ?_, fun c hc => ?_⟩, st2, f1.trans f2⟩
      · subst w
        rcases fr2.sub c hd with z | z
        · exact (fr1.out c hc).1 z
        · exact absurd (lt1 c hc) (Nat.not_lt.mpr z)
      · rcases List.mem_append.mp hc with hc | hc
        · refine ⟨fun z => ?_, (fr1.out c hc).2⟩
          rcases f2.sub c z with z | z
          · exact (fr1.out c hc).1 z
          · exact absurd (lt1 c hc) (Nat.not_lt.mpr z)
        · exact fr2.out c hc
      · rcases List.mem_append.mp hc with hc | hc
        · exact fr1.sub c hc
        · rcases fr2.sub c hc with z | z
          · exact f1.sub c z
          · exact .inr (Nat.le_trans f1.le z)
theorem rn_lstO {ma : AM} {t : HL Ts → ER (HL Ts) (List α)} (h : RfNL s ks ma rp t) : RfN s ks n (eArgs (mkL true) ma) (tyListL rp) (xLim t) := fun A B γ e μ Ps st => by
  have h := h A B γ e μ Ps st
  show OkN s ks A B e μ Ps n ((ma e μ).bind fun xs μ => mkL true xs μ) (tyListL rp) ((t γ).bind fun xs γ => if xs.length ≤ lim then .ok xs γ else .bad)
  cases ht : t γ with
  | bad => trivial
  | exc c p γ1 =>
    rw [ht] at h
    obtain ⟨μ1, Ps1, e1, s1, f1⟩ := h
    rw [e1]
    exact ⟨μ1, Ps1, rfl, s1, f1⟩
  | ok xs γ1 =>
    rw [ht] at h
    obtain ⟨vs, μ1, Ps1, fp, e1, hv, fr, st1, f1⟩ := h
    rw [e1]
    show OkN s ks A B e μ Ps n (mkL true vs μ1) (tyListL rp) (if xs.length ≤ lim then .ok xs γ1 else .bad)
    by_cases hl : xs.length ≤ lim
    · rw [if_pos hl]
      have hl2 : ¬ 16777216 < vs.length := by
        have hl : xs.length ≤ 16777216 := hl
        rw [hv.len]
        omega
      have em : mkL true vs μ1 = .ok (.loc μ1.length) (μ1 ++ [.lst vs]) := by
        unfold mkL
        rw [if_neg hl2]
      rw [em]
      have ltf : ∀ c ∈ fp, c < μ1.length := hv.lt
      obtain ⟨st2, f2⟩ := st1.grow (μ' := μ1 ++ [.lst vs]) (by simp) fun l hl => List.getElem?_append_left hl
      have hv2 : ownS rp 0 (μ1 ++ [.lst vs]) vs xs fp := hv.loc fun c hc => List.getElem?_append_left (ltf c hc)
      have ndf : (μ1.length :: fp).Nodup := List.nodup_cons.mpr ⟨fun z => Nat.lt_irrefl _ (ltf _ z), fr.nd⟩
      refine ⟨.loc μ1.length, _, Ps1, μ1.length :: fp, rfl, ⟨hl, μ1.length, vs, fp, rfl, ?_, rfl, hv2, ndf⟩, ⟨ndf, fun c hc => ?_, fun c hc => ?_⟩, st2, f1.trans f2⟩
      · rw [List.getElem?_append_right (Nat.le_refl _), Nat.sub_self]
        rfl
      · rcases List.mem_cons.mp hc with rfl | hc
        · exact ⟨fun z => Nat.lt_irrefl _ (st1.r.lt _ z), fun z => Nat.lt_irrefl _ (st1.lb _ z)⟩
        · exact fr.out c hc
      · rcases List.mem_cons.mp hc with rfl | hc
        · exact .inr f1.le
        · exact fr.sub c hc
    · rw [if_neg hl]
      trivial
end
end Fs
namespace Fs
open PySem PySem.Spec L2
section
variable {Ts : List Type} {s : SL Ts} {ks kr kx ks1 k0 : List Kd} {α ρ : Type} {rp : Rp α} {n : Nat} {rm : Rm} {rq : Rp ρ}
theorem rs_forH {i : Nat} {g : HL Ts → List α} {p : List α → HL Ts → HL Ts} {tg : Val → Env → Option Env} {set : α → HL Ts → HL Ts} {b : SM} {tb : HL Ts → SR (HL Ts) ρ} (ix : Ix (tyList rp) s i g p) (hk : ks[i]? = some (.own n)) (hg : RfG s k0 rp tg set ks1) (hb : RfS s ks1 kr kx k0 rm rq b tb) (h0 : wkB (ks.set i .held) k0 = true) (hki : k0[i]? = some .held) (hr : noB kr = true) (hri : kr[i]? = some .dead) (hx : noB kx = true) (hxi : kx[i]? = some .dead) :
    RfS s ks kr kx (k0.set i (.own n)) rm rq (sFor (iOf itA (eVar i)) tg b) (tLend g p (tFor (fun γ => .ok (g γ) γ) set tb)) := fun A B γ e μ Ps st => by
  have loop : ∀ (A : Env) (l : Nat) (vs : List Val) (xs : List α), (∀ x ∈ xs, rp.ok x) → ∀ γ e μ Ps, l ∉ Ps.flatten → l < μ.length → μ[l]? = some (.lst vs) → St s k0 A B γ e μ Ps → OkSt s kr kx k0 rm rq A B μ Ps (sForL (some (l, vs)) tg b (lv rp xs) e μ) (forL set tb xs γ) := by
    intro A l vs xs
    induction xs with
    | nil =>
      intro _ γ e μ Ps _ _ hm st
      exact ⟨e, μ, Ps, for_nil (show GOk (some (l, vs)) μ from hm), st, Fr.refl _ _⟩
    | cons x r ih =>
      intro hok γ e μ Ps hn hl hm st
      have gk : GOk (some (l, vs)) μ := hm
      obtain ⟨e1, P1, h1, h2, h3⟩ := hg A B γ e μ Ps (.d (rp.enc x)) x st ⟨rfl, hok x (List.mem_cons_self ..)⟩
      have h := (hb A B _ e1 μ P1 h2).go (f := sForL (some (l, vs)) tg b (lv rp r)) (u := forL set tb r) fun γ' e' μ' Ps' j2 j3 => by
        have f := h3.trans j3
        refine ih (fun y hy => hok y (List.mem_cons_of_mem _ hy)) γ' e' μ' Ps' (fun z => ?_) (Nat.lt_of_lt_of_le hl f.le) (by rw [f.keep l hl hn]; exact hm) j2
        rcases f.sub l z with z | z
        · exact hn z
        · exact absurd hl (Nat.not_lt.mpr z)
      have e2 : sForL (some (l, vs)) tg b (lv rp (x :: r)) e μ = sGo (b e1 μ) (sForL (some (l, vs)) tg b (lv rp r)) := by
        show sForL (some (l, vs)) tg b (.d (rp.enc x) :: lv rp r) e μ = _
        rw [for_cons gk h1]
        cases b e1 μ <;> rfl
      rw [e2]
      exact h.from h3
  obtain ⟨k1, y, x, fp, e1, e2, e3, e4, h5⟩ := ix.get st.r
  rw [hk] at e1
  cases e1
  obtain ⟨v, rfl, hv⟩ := h5
  have hnr := (tyList rp).nrm hv
  have hlt := (tyList rp).lt hv
  have hv0 := hv
  obtain ⟨okx, l, rfl, m2, rfl⟩ := hv
  have pm := flat_self e4
  have ndp := List.nodup_append.mp (pm.nodup_iff.mp st.nd)
  have lP : l ∈ Ps.flatten := mem_flat e4 (List.mem_singleton.mpr rfl)
  have ll : l < μ.length := hlt l (List.mem_singleton.mpr rfl)
  have l0 : l ∉ (Ps.set i []).flatten := fun z => ndp.2.2 l (List.mem_singleton.mpr rfl) l z rfl
  have st0 : St s (ks.set i .held) (A.set i (some (.loc l))) B γ e μ (Ps.set i []) := by
    have r := ix.putA (B' := B) (k' := .held) (y' := some (.loc l)) (x' := some (.loc l)) (a' := g γ) (fp' := []) st.r (fun _ h => h) ⟨⟨.loc l, rfl, rfl⟩, rfl⟩
    rw [ix.eta, set_self e3] at r
    exact ⟨r, ndp.2.1, fun c hc => st.nb c (flat_setE hc), st.lb⟩
  obtain ⟨Q0, s1, f0⟩ := st0.wk h0
  have lQ0 : l ∉ Q0.flatten := fun z => by
    rcases f0.sub l z with z | z
    · exact l0 z
    · exact absurd ll (Nat.not_lt.mpr z)
  have h := loop (A.set i (some (.loc l))) l (lv rp (g γ)) (g γ) okx.2 γ e μ Q0 lQ0 ll m2 s1
  have hit : sFor (iOf itA (eVar i)) tg b e μ = sForL (some (l, lv rp (g γ))) tg b (lv rp (g γ)) e μ := by
    show ((eVar i e μ).bind fun x μ => match itA x μ with
      | some i => .ok i μ
      | Option.none => .bad).st e (fun i μ => sForL i.guard tg b i.items e μ) = _
    rw [eVar_of e3 hnr, Res.bind_ok, p_itL m2]
    rfl
  rw [hit]
  have fU : ∀ {μ' : Mem} {Q : List (List Nat)}, Fr μ Q0 μ' Q → Fr μ (Ps.set i []) μ' Q := fun f => f0.trans f
  have frU : ∀ {μ' : Mem} {Q : List (List Nat)}, Fr μ Q0 μ' Q → Fr μ Ps μ' Q := fun f => ⟨(fU f).le, fun c h1 h2 => (fU f).keep c h1 fun z => h2 (flat_setE z), fun c hc => ((fU f).sub c hc).imp flat_setE id⟩
  have e7 : (tFor (fun γ => .ok (g γ) γ) set tb : HL Ts → SR (HL Ts) ρ) γ = forL set tb (g γ) γ := rfl
  unfold tLend
  rw [e7]
  cases ht : forL set tb (g γ) γ with
  | bad => trivial
  | ret r γ' =>
    rw [ht] at h
    obtain ⟨w2, e', μ', Q, h1, h2, h3, h4⟩ := h
    refine ⟨w2, e', μ', Q, h1, ?_, h3.unlend ix hr hri e2 (fun _ h => h), frU h4⟩
    cases rm with
    | frz => exact h2
    | new n' =>
      obtain ⟨fq, a1, a2⟩ := h2
      exact ⟨fq, a1, a2.nd, a2.out, fun c hc => by
        rcases a2.sub c hc with z | z
        · exact (f0.sub c z).imp flat_setE id
        · exact .inr z⟩
  | exc c q γ' =>
    rw [ht] at h
    obtain ⟨e', μ', Q, h1, h3, h4⟩ := h
    exact ⟨e', μ', Q, h1, h3.unlend ix hx hxi e2 (fun _ h => h), frU h4⟩
  | next γ' =>
    rw [ht] at h
    obtain ⟨e', μ', Q, h1, h2, h3⟩ := h
    obtain ⟨kz, y2, z2, fq, g1, g2, g3, g4, g5⟩ := ix.get h2.r
    rw [hki] at g1
    cases g1
    obtain ⟨⟨v2, rfl, ey⟩, rfl⟩ := g5
    have hA1 : (A.set i (some (.loc l)))[i]? = some (some (.loc l)) := List.getElem?_set_self (List.getElem?_eq_some_iff.mp e2).1
    rw [hA1] at g2
    have g2 := Option.some.inj g2
    rw [ey] at g2
    obtain rfl := Option.some.inj g2
    have lQ : l ∉ Q.flatten := fun z => by
      rcases h3.sub l z with z | z
      · exact lQ0 z
      · exact absurd ll (Nat.not_lt.mpr z)
    have keep : μ'[l]? = μ[l]? := h3.keep l ll lQ0
    have hown : (tyList rp).own n μ' (.loc l) (g γ) [l] := (tyList rp).loc hv0 fun c hc => by rw [List.mem_singleton.mp hc]; exact keep
    have r2 := ix.putA (B' := B) (k' := .own n) (y' := y) (x' := some (.loc l)) (a' := g γ) (fp' := [l]) h2.r (fun _ h => h) ⟨.loc l, rfl, hown⟩
    rw [List.set_set, set_self e2, set_self g3] at r2
    have hlQ := (List.getElem?_eq_some_iff.mp g4).1
    have pm3 : (Q.set i [l]).flatten.Perm ([l] ++ Q.flatten) := by
      have := flat_self (Ps := Q.set i [l]) (List.getElem?_set_self hlQ)
      rw [List.set_set, set_self g4] at this
      exact this
    refine ⟨e', μ', Q.set i [l], h1, ⟨r2, ?_, fun c hc => ?_, fun c hc => Nat.lt_of_lt_of_le (st.lb c hc) h3.le⟩, h3.le, (frU h3).keep, fun c hc => ?_⟩
    · exact pm3.nodup_iff.mpr (List.nodup_append.mpr ⟨nd1 _, h2.nd, fun a ha b hb w => by
        rw [List.mem_singleton.mp ha] at w
        exact lQ (w ▸ hb)⟩)
    · rcases List.mem_append.mp (pm3.subset hc) with z | z
      · rw [List.mem_singleton.mp z]
        exact st.nb l lP
      · exact h2.nb c z
    · rcases List.mem_append.mp (pm3.subset hc) with z | z
      · rw [List.mem_singleton.mp z]
        exact .inl lP
      · exact (frU h3).sub c z
end
end Fs
namespace Fs
open PySem PySem.Spec L2
section
variable {Γ ρ α β : Type}
theorem forL_inv {set : α → Γ → Γ} {b : Γ → SR Γ ρ} {I : Nat → Γ → Prop} : ∀ (xs : List α) (k : Nat) (γ : Γ), I k γ → (∀ (i : Nat) (x : α) (γ : Γ), xs[i]? = some x → I (k + i) γ → ∃ γ', b (set x γ) = .next γ' ∧ I (k + i + 1) γ') → ∃ γ', forL set b xs γ = .next γ' ∧ I (k + xs.length) γ'
  | [], k, γ, h0, _ => ⟨γ, rfl, h0⟩
  | x :: r, k, γ, h0, st => by
    obtain ⟨γ1, e1, h1⟩ := st 0 x γ rfl h0
    obtain ⟨γ2, e2, h2⟩ := forL_inv r (k + 1) γ1 h1 fun i y γ hy hI => by
      have := st (i + 1) y γ hy (by rw [show k + (i + 1) = k + 1 + i by omega]; exact hI)
      rw [show k + (i + 1) + 1 = k + 1 + i + 1 by omega] at this
      exact this
    refine ⟨γ2, ?_, by rw [List.length_cons, show k + (r.length + 1) = k + 1 + r.length by omega]; exact h2⟩
    show (b (set x γ)).go (forL set b r) = _
    rw [e1]
    exact e2
theorem lcM_map {c : α → PR Bool} {f : α → PR β} {g : α → β} : ∀ xs : List α, (∀ x ∈ xs, c x = .ok true) → (∀ x ∈ xs, f x = .ok (g x)) → lcM c f xs = .ok (xs.map g)
  | [], _, _ => rfl
  | x :: r, hc, hf => by
    unfold lcM
    rw [hc x (List.mem_cons_self ..), PR.bind_ok, if_pos rfl, hf x (List.mem_cons_self ..), PR.bind_ok, lcM_map r (fun y hy => hc y (List.mem_cons_of_mem _ hy)) fun y hy => hf y (List.mem_cons_of_mem _ hy)]
    rfl
end
theorem oEq_int (neg : Bool) (a b : Int) : oEq neg (.int a) (.int b) = .ok (if neg then !(a == b) else a == b) := rfl
def Sh (k : Nat) (d : Data) : Prop := ∃ p, toPy d = some p ∧ p.canLay0 = true ∧ p.depth ≤ k
theorem sh_int (i : Int) (k : Nat) : Sh k (.int i) := ⟨_, rfl, rfl, Nat.zero_le _⟩
theorem sh_none (k : Nat) : Sh k .none := ⟨_, rfl, rfl, Nat.zero_le _⟩
theorem sh_str {i : Str} (k : Nat) (h : PyData.strOk i = true) : Sh k (.str i) := ⟨_, rfl, h, Nat.zero_le _⟩
theorem sh_all {k : Nat} : ∀ {ds : List Data}, (∀ d ∈ ds, Sh k d) → ∃ ps, toPys ds = some ps ∧ PyData.canLayAll0 ps = true ∧ PyData.depthAll ps ≤ k ∧ ps.length = ds.length
  | [], _ => ⟨[], rfl, rfl, Nat.zero_le _, rfl⟩
  | d :: r, h => by
    obtain ⟨p, h1, h2, h3⟩ := h d (List.mem_cons_self ..)
    obtain ⟨ps, k1, k2, k3, k4⟩ := sh_all (ds := r) fun x hx => h x (List.mem_cons_of_mem _ hx)
    refine ⟨p :: ps, ?_, ?_, ?_, by rw [List.length_cons, List.length_cons, k4]⟩
    · show (toPy d).bind (fun y => (toPys r).map (y :: ·)) = _
      rw [h1, k1]
      rfl
    · unfold PyData.canLayAll0
      simp [h2, k2]
    · unfold PyData.depthAll
      exact Nat.max_le.mpr ⟨h3, k3⟩
theorem sh_list {k : Nat} {ds : List Data} (h : ∀ d ∈ ds, Sh k d) (hl : ds.length ≤ lim) : Sh (k + 1) (.list ds) := by
  obtain ⟨ps, k1, k2, k3, k4⟩ := sh_all h
  refine ⟨.list ps, ?_, ?_, ?_⟩
  · show (toPys ds).map _ = _
    rw [k1]
    rfl
  · unfold PyData.canLay0
    simp [k2]
  · unfold PyData.depth
    omega
theorem sh_tup {k : Nat} {ds : List Data} (h : ∀ d ∈ ds, Sh k d) (hl : ds.length ≤ lim) : Sh (k + 1) (.tup ds) := by
  obtain ⟨ps, k1, k2, k3, k4⟩ := sh_all h
  refine ⟨.tuple ps, ?_, ?_, ?_⟩
  · show (toPys ds).map _ = _
    rw [k1]
    rfl
  · unfold PyData.canLay0
    simp [k2]
  · unfold PyData.depth
    omega
theorem oEq_refl (neg : Bool) {d : Data} (h : Sh 64 d) : oEq neg d d = .ok (!neg) := by
  obtain ⟨p, h1, h2, h3⟩ := h
  have hs : SeqAt.shaped p = true := by
    unfold SeqAt.shaped
    simp [h2, h3]
  unfold oEq eqO
  rw [h1]
  simp only [hs, Bool.and_self, Bool.or_true, if_true, SeqAt.eqv_refl p h2]
  cases neg <;> rfl
theorem atI_ok {α : Type} (xs : List α) (k : Int) (h : 0 ≤ k ∧ k < xs.length) : ∃ x, xs[k.toNat]? = some x ∧ L2.atI xs k = some x := by
  have e : L2.ixN xs.length k = some k.toNat := by
    unfold L2.ixN
    rw [if_pos h.1, if_pos h.2]
  have hl : k.toNat < xs.length := by omega
  refine ⟨xs[k.toNat], List.getElem?_eq_getElem hl, ?_⟩
  unfold L2.atI
  rw [e]
  exact List.getElem?_eq_getElem hl
theorem atI_nat {α : Type} (xs : List α) (k : Nat) (x : α) (h : xs[k]? = some x) : L2.atI xs (k : Int) = some x := by
  have hl := (List.getElem?_eq_some_iff.mp h).1
  obtain ⟨y, h1, h2⟩ := atI_ok xs (k : Int) ⟨by omega, by omega⟩
  rw [Int.toNat_natCast, h] at h1
  rw [h2, h1]
theorem rng_lo : -big ≤ (0 : Int) := by decide
theorem rng_in {j : Int} (h : 0 ≤ j ∧ j ≤ 16777216) : (-big ≤ j) = True ∧ (j ≤ (lim : Int)) = True := by
  refine ⟨eq_true (Int.le_trans rng_lo h.1), eq_true ?_⟩
  exact h.2
theorem rngL_get {lo : Int} {n i : Nat} {x : Int} (h : (rngL lo n)[i]? = some x) : i < n ∧ x = lo + i := by
  unfold rngL at h
  rw [List.getElem?_map] at h
  obtain ⟨j, h1, h2⟩ := Option.map_eq_some_iff.mp h
  obtain ⟨h3, h4⟩ := List.getElem?_eq_some_iff.mp h1
  rw [List.getElem_range] at h4
  rw [List.length_range] at h3
  subst h4
  exact ⟨h3, h2.symm⟩
section
variable {Γ α β δ ρ : Type}
theorem lcE_cons {set : α → Γ → Γ} {c : Γ → ER Γ Bool} {f : Γ → ER Γ β} {x : α} {r : List α} {γ γ1 γ2 γ3 : Γ} {y : β} {ys : List β} (h1 : c (set x γ) = .ok true γ1) (h2 : f γ1 = .ok y γ2) (h3 : lcE set c f r γ2 = .ok ys γ3) : lcE set c f (x :: r) γ = .ok (y :: ys) γ3 := by
  unfold lcE
  rw [h1, ER.bind_ok, if_pos rfl, h2, ER.bind_ok, h3]
  rfl
theorem xLc_ok {ti : Γ → ER Γ (List α)} {set : α → Γ → Γ} {c : Γ → ER Γ Bool} {f : Γ → ER Γ β} {fin : Γ → Γ → Γ} {γ γ0 γ1 : Γ} {xs : List α} {ys : List β} (h1 : ti γ = .ok xs γ0) (h2 : lcE set c f xs γ0 = .ok ys γ1) : xLc ti set c f fin γ = .ok ys (fin γ0 γ1) := by
  unfold xLc
  rw [h1, ER.bind_ok, h2]
  rfl
theorem xApp_ok {g : Γ → List α} {p : List α → Γ → Γ} {t : Γ → ER Γ α} {γ γ' : Γ} {a : α} (h : t γ = .ok a γ') (hl : (g γ').length < lim) : xApp g p t γ = .ok () (p (g γ' ++ [a]) γ') := by
  unfold xApp
  rw [h, ER.bind_ok, if_pos hl]
theorem tDo_ok {t : Γ → ER Γ α} {γ γ' : Γ} {a : α} (h : t γ = .ok a γ') : (tDo t γ : SR Γ ρ) = .next γ' := by
  unfold tDo
  rw [h]
  rfl
theorem tSet_ok {set : α → Γ → Γ} {t : Γ → ER Γ α} {γ γ' : Γ} {a : α} (h : t γ = .ok a γ') : (tSet set t γ : SR Γ ρ) = .next (set a γ') := by
  unfold tSet
  rw [h]
  rfl
theorem tSeq_ok {a b : Γ → SR Γ ρ} {γ γ' : Γ} (h : a γ = .next γ') : tSeq a b γ = b γ' := by
  unfold tSeq
  rw [h]
  rfl
theorem tKill_ok {p : Γ → Γ} {a : Γ → SR Γ ρ} {γ γ' : Γ} (h : a γ = .next γ') : tKill p a γ = .next (p γ') := by
  unfold tKill
  rw [h]
  rfl
theorem tIf_t {c : Γ → ER Γ Bool} {a b : Γ → SR Γ ρ} {γ γ' : Γ} (h : c γ = .ok true γ') : tIf c a b γ = a γ' := by
  unfold tIf
  rw [h]
  rfl
theorem tIf_f {c : Γ → ER Γ Bool} {a b : Γ → SR Γ ρ} {γ γ' : Γ} (h : c γ = .ok false γ') : tIf c a b γ = b γ' := by
  unfold tIf
  rw [h]
  rfl
theorem tFor_ok {ti : Γ → ER Γ (List α)} {set : α → Γ → Γ} {b : Γ → SR Γ ρ} {γ γ' : Γ} {xs : List α} (h : ti γ = .ok xs γ') : tFor ti set b γ = forL set b xs γ' := by
  unfold tFor
  rw [h]
  rfl
theorem xL_ok {t : Γ → PR α} {γ : Γ} {a : α} (h : t γ = .ok a) : xL t γ = .ok a γ := by
  unfold xL
  rw [h]
  rfl
theorem c2_ok {op : α → β → PR δ} {ta : Γ → PR α} {tb : Γ → PR β} {γ : Γ} {a : α} {b : β} {r : PR δ} (h1 : ta γ = .ok a) (h2 : tb γ = .ok b) (h3 : op a b = r) : c2 op ta tb γ = r := by
  unfold c2
  rw [h1, PR.bind_ok, h2, PR.bind_ok, h3]
theorem c1_ok {op : α → PR δ} {ta : Γ → PR α} {γ : Γ} {a : α} {r : PR δ} (h1 : ta γ = .ok a) (h3 : op a = r) : c1 op ta γ = r := by
  unfold c1
  rw [h1, PR.bind_ok, h3]
theorem cCons_ok {Us : List Type} {t : Γ → PR α} {tr : Γ → PR (HL Us)} {γ : Γ} {a : α} {r : HL Us} (h1 : t γ = .ok a) (h2 : tr γ = .ok r) : cCons t tr γ = .ok ((a, r) : HL (α :: Us)) := by
  unfold cCons
  rw [h1, PR.bind_ok, h2]
  rfl
theorem tRet_ok {t : Γ → ER Γ ρ} {γ γ' : Γ} {a : ρ} (h : t γ = .ok a γ') : tRet t γ = .ret a γ' := by
  unfold tRet
  rw [h]
  rfl
theorem cLCons_ok {t : Γ → PR α} {tr : Γ → PR (List α)} {γ : Γ} {a : α} {r : List α} (h1 : t γ = .ok a) (h2 : tr γ = .ok r) : cLCons t tr γ = .ok (a :: r) := by
  unfold cLCons
  rw [h1, PR.bind_ok, h2]
  rfl
theorem cNot_ok {t : Γ → PR Bool} {γ : Γ} {b : Bool} (h : t γ = .ok b) : cNot t γ = .ok (!b) := by
  unfold cNot
  rw [h]
  rfl
theorem cOr_f {a b : Γ → PR Bool} {γ : Γ} {r : PR Bool} (h : a γ = .ok false) (h2 : b γ = r) : cOr a b γ = r := by
  unfold cOr
  rw [h, ← h2]
  rfl
theorem cAnd_t {a b : Γ → PR Bool} {γ : Γ} {r : PR Bool} (h : a γ = .ok true) (h2 : b γ = r) : cAnd a b γ = r := by
  unfold cAnd
  rw [h, ← h2]
  rfl
theorem x1_ok {op : α → PR β} {ta : Γ → ER Γ α} {γ γ' : Γ} {a : α} {b : β} (h : ta γ = .ok a γ') (h2 : op a = .ok b) : x1 op ta γ = .ok b γ' := by
  unfold x1
  rw [h, ER.bind_ok, h2]
  rfl
theorem runC_ret {Us Ts : List Type} {body : HL Ts → SR (HL Ts) ρ} {f : HL Us → HL Ts} {fin : Option ρ} {as : HL Us} {r : ρ} {γ : HL Ts} (h : body (f as) = .ret r γ) : runC body f fin as = .ok r := by
  unfold runC
  rw [h]
theorem oIdx_of {xs : List α} {i : Int} {x : α} (h : L2.atI xs i = some x) : oIdx xs i = .ok x := by
  unfold oIdx
  rw [h]
  rfl
theorem cCall_ok {U : Type} {t : U → PR ρ} {ta : Γ → PR U} {γ : Γ} {u : U} {r : PR ρ} (h1 : ta γ = .ok u) (h2 : t u = r) : cCall t ta γ = r := by
  unfold cCall
  rw [h1, PR.bind_ok, h2]
end
end Fs
namespace Fm
open PySem PySem.Spec L2 Fs
noncomputable def b1__law_pool : SM := (sSeq (sIf (tOf (eBin (cmpI gtI) (eVar 3) (eC (.int 0)))) (sDo (eBm isL appV (eVar 1) (aCons (eBin (intOp modI) (eArgs intV (aCons (eVar 3) aNil)) (eC (.int 100))) aNil))) sNext) (sSet 3 (eBin (intOp fdvI) (eVar 3) (eC (.int 100)))))
noncomputable def b2__law_pool : SM := (sSeq (sSet 5 (eBin (intOp modI) (eArgs intV (aCons (eBin (addV false) (eBin (addV false) (eBin (repV false) (eVar 5) (eVar 5)) (eBin (repV false) (eVar 4) (eC (.int 69621)))) (eVar 2)) aNil)) (eC (.int 998244353)))) (sDo (eBm isL appV (eVar 1) (aCons (eBin (intOp modI) (eArgs intV (aCons (eBin (intOp fdvI) (eVar 5) (eC (.int 7))) aNil)) (eC (.int 9973))) aNil))))
noncomputable def b3__law_pool : SM := (sSeq (sSet 3 (eArgs absV (aCons (eBin idxV (eVar 0) (eVar 2)) aNil))) (sIf (tOf (eBin (cmpI geI) (eVar 3) (eBin (intOp powI) (eC (.int 10)) (eC (.int 18))))) (sFor (iArg rngA (aCons (eC (.int 60)) aNil)) (gN 4) b1__law_pool) (sSeq (sSet 5 (eBin (intOp modI) (eArgs intV (aCons (eBin (addV false) (eBin (addV false) (eBin (addV false) (eBin (repV false) (eVar 3) (eC (.int 48271))) (eBin (repV false) (eVar 2) (eC (.int 7919)))) (eBin (repV false) (eArgs intV (aCons (eBin (cmpI ltI) (eBin idxV (eVar 0) (eVar 2)) (eC (.int 0))) aNil)) (eC (.int 104729)))) (eC (.int 11))) aNil)) (eC (.int 2147483647)))) (sFor (iArg rngA (aCons (eC (.int 12)) aNil)) (gN 4) b2__law_pool))))
noncomputable def m__law_pool : SM := (sSeq (sSet 1 (eArgs (mkL true) aNil)) (sSeq (sFor (iArg rngA (aCons (eArgs minV (aCons (eArgs lenV (aCons (eVar 0) aNil)) (aCons (eC (.int 63)) aNil))) aNil)) (gN 2) b3__law_pool) (sRet (eVar 1))))
noncomputable def f__law_pool : Fn := fnM 6 m__law_pool
noncomputable def m__law_take : SM := (sSeq (sIf (tOf (eBin (eqV false) (eArgs lenV (aCons (eVar 0) aNil)) (eC (.int 0)))) (sRet (eC (.int 0))) sNext) (sRet (eBin (intOp modI) (eArgs intV (aCons (eBm isL popAtV (eVar 0) (aCons (eC (.int 0)) aNil)) aNil)) (eVar 1))))
noncomputable def f__law_take : Fn := fnM 2 m__law_take
noncomputable def b1__law_names : SM := (sDo (eBm isL appV (eVar 4) (aCons (eBm isL popAtV (eVar 3) (aCons (eCallZ 2 f__law_take (aCons (eVar 0) (aCons (eArgs lenV (aCons (eVar 3) aNil)) aNil))) aNil)) aNil)))
noncomputable def m__law_names : SM := (sSeq (sSet 3 (eArgs (listV true) (aCons (eVar 1) aNil))) (sSeq (sSet 4 (eArgs (mkL true) aNil)) (sSeq (sFor (iArg rngA (aCons (eVar 2) aNil)) (gN 5) b1__law_names) (sRet (eVar 4)))))
noncomputable def f__law_names : Fn := fnM 6 m__law_names
noncomputable def b1__law_tables : SM := (sSeq (sSet 6 (eCallZ 3 f__law_names (aCons (eVar 0) (aCons (eArgs (mkL false) (aCons (eC (.str "id")) (aCons (eC (.str "i")) (aCons (eC (.str "k")) (aCons (eC (.str "t")) (aCons (eC (.str "k2")) (aCons (eC (.str "reference")) (aCons (eC (.str "zz")) aNil)))))))) (aCons (eBin (addV false) (eC (.int 1)) (eCallZ 2 f__law_take (aCons (eVar 0) (aCons (eVar 2) aNil)))) aNil))))) (sDo (eBm isL appV (eVar 4) (aCons (eArgs mkT (aCons (eVar 5) (aCons (eVar 6) aNil))) aNil))))
noncomputable def m__law_tables : SM := (sSeq (sSet 3 (eArgs (mkL false) (aCons (eC (.str "t")) (aCons (eC (.str "ta")) (aCons (eC (.str "orders")) (aCons (eC (.str "unique")) (aCons (eC (.str "t1")) (aCons (eC (.str "t10")) (aCons (eC (.str "a23456789012")) (aCons (eC (.str "b")) aNil)))))))))) (sSeq (sSet 4 (eArgs (mkL true) aNil)) (sSeq (sFor (iOf itA (eCallZ 3 f__law_names (aCons (eVar 0) (aCons (eVar 3) (aCons (eBin (addV false) (eC (.int 1)) (eCallZ 2 f__law_take (aCons (eVar 0) (aCons (eVar 1) aNil)))) aNil))))) (gN 5) b1__law_tables) (sRet (eVar 4)))))
noncomputable def f__law_tables : Fn := fnM 7 m__law_tables
noncomputable def b1_is_name : SM := (sIf (Fs.tAnd (tOf (eBin (inV true) (eVar 1) (eC (.str "abcdefghijklmnopqrstuvwxyz")))) (tOf (eBin (inV true) (eVar 1) (eC (.str "0123456789"))))) (sRet (eC (.bool false))) sNext)
noncomputable def m_is_name : SM := (sSeq (sIf (Fs.tOr (tOf (eBin (eqV false) (eVar 0) (eC (.str "")))) (Fs.tOr (tOf (eBin (cmpI gtI) (eArgs lenV (aCons (eVar 0) aNil)) (eC (.int 12)))) (tOf (eBin (inV true) (eBin idxV (eVar 0) (eC (.int 0))) (eC (.str "abcdefghijklmnopqrstuvwxyz")))))) (sRet (eC (.bool false))) sNext) (sSeq (sFor (iOf itA (eVar 0)) (gN 1) b1_is_name) (sRet (eC (.bool true)))))
noncomputable def f_is_name : Fn := fnM 2 m_is_name
noncomputable def b1_Schema_padd : SM := (sIf (Fs.tOr (tNot (tOf (eCall 1 true f_is_name (aCons (eBin idxV (eVar 2) (eVar 3)) aNil)))) (tOf (eBin (inV false) (eBin idxV (eVar 2) (eVar 3)) (eSlc false (eVar 2) oNone (oSome (eVar 3)))))) (sRaise 20 (eBin idxV (eVar 2) (eVar 3))) sNext)
noncomputable def m_Schema_padd : SM := (sSeq (sIf (Fs.tOr (tNot (tOf (eCall 1 true f_is_name (aCons (eVar 1) aNil)))) (tOf (eBin (dinV false) (eVar 1) (eUn (getF [0] "_columns") (eVar 0))))) (sRaise 20 (eVar 1)) sNext) (sSeq (sIf (Fs.tOr (tOf (eBin (cmpI ltI) (eArgs lenV (aCons (eVar 2) aNil)) (eC (.int 1)))) (tOf (eBin (cmpI gtI) (eArgs lenV (aCons (eVar 2) aNil)) (eC (.int 4))))) (sRaise 20 (eVar 1)) sNext) (sSeq (sFor (iArg rngA (aCons (eArgs lenV (aCons (eVar 2) aNil)) aNil)) (gN 3) b1_Schema_padd) (sSeq (sDo (eBm isL appV (eUn (getF [0] "_names") (eVar 0)) (aCons (eVar 1) aNil))) (sPutD (eUn (getF [0] "_columns") (eVar 0)) (eVar 1) (eVar 2))))))
noncomputable def f_Schema_padd : Fn := fnM 4 m_Schema_padd
noncomputable def b1_Schema_xinit : SM := (sDo (eMeth [(0, false, 3, f_Schema_padd)] (eVar 0) (aCons (eVar 2) (aCons (eArgs (listV false) (aCons (eVar 3) aNil)) aNil))))
noncomputable def m_Schema_xinit : SM := (sSeq (sIf (Fs.tOr (tOf (eBin (cmpI ltI) (eArgs lenV (aCons (eVar 1) aNil)) (eC (.int 1)))) (tOf (eBin (cmpI gtI) (eArgs lenV (aCons (eVar 1) aNil)) (eC (.int 5))))) (sRaise 20 (eC (.str "tables"))) sNext) (sSeq (sSetF [0] "_names" (eVar 0) (eArgs (mkL true) aNil)) (sSeq (sSetF [0] "_columns" (eVar 0) eNewD) (sFor (iOf itA (eVar 1)) (gT (gsCons (gN 2) (gsCons (gN 3) gsNil))) b1_Schema_xinit))))
noncomputable def f_Schema_xinit : Fn := fnM 4 m_Schema_xinit
noncomputable def m_Store_xinit : SM := (sSeq (sSetF [2] "schema" (eVar 0) (eVar 1)) (sSetF [2] "_rows" (eVar 0) (eDc [2] (iOf (itOwn [(0, "_names")]) (eVar 1)) (gN 2) tYesM (eVar 2) (eArgs (mkL true) aNil))))
noncomputable def f_Store_xinit : Fn := fnM 3 m_Store_xinit
noncomputable def m__law_cell : SM := (sSeq (sSet 1 (eCallZ 2 f__law_take (aCons (eVar 0) (aCons (eC (.int 100)) aNil)))) (sRet (eBin idxV (eArgs (mkL false) (aCons (eC (.int 0)) (aCons (eC (.int 1)) (aCons (eC .none) (aCons (eVar 1) (aCons (eBin (intOp subI) (eUn negV (eC (.int 1))) (eVar 1)) (aCons (eBin (addV false) (eBin (intOp powI) (eC (.int 10)) (eC (.int 24))) (eVar 1)) (aCons (eC .none) (aCons (eC (.int 7)) aNil))))))))) (eCallZ 2 f__law_take (aCons (eVar 0) (aCons (eC (.int 8)) aNil))))))
noncomputable def f__law_cell : Fn := fnM 2 m__law_cell
noncomputable def m__law_is : SM := (sRet (eAnd (eIsi "int" (eVar 0)) (eAnd (eNot (eIsi "bool" (eVar 0))) (eBin (eqV false) (eVar 0) (eVar 1)))))
noncomputable def f__law_is : Fn := fnM 2 m__law_is
noncomputable def m__is_cell : SM := (sRet (eOr (eBin (isV false) (eVar 0) (eC .none)) (eAnd (eIsi "int" (eVar 0)) (eNot (eIsi "bool" (eVar 0))))))
noncomputable def f__is_cell : Fn := fnM 1 m__is_cell
noncomputable def m_Schema_columns : SM := (sSeq (sIf (tOf (eBin (dinV true) (eVar 1) (eUn (getF [0] "_columns") (eVar 0)))) (sRaise 20 (eVar 1)) sNext) (sRet (eArgs (listV false) (aCons (eBin dgV (eUn (getF [0] "_columns") (eVar 0)) (eVar 1)) aNil))))
noncomputable def f_Schema_columns : Fn := fnM 2 m_Schema_columns
noncomputable def b1_Store_put : SM := (sIf (tNot (tOf (eCall 1 true f__is_cell (aCons (eVar 4) aNil)))) (sRaise 23 (eVar 1)) sNext)
noncomputable def m_Store_put : SM := (sSeq (sSet 3 (eMeth [(0, true, 2, f_Schema_columns)] (eUn (getF [2] "schema") (eVar 0)) (aCons (eVar 1) aNil))) (sSeq (sIf (tOf (eBin (eqV true) (eArgs lenV (aCons (eVar 2) aNil)) (eArgs lenV (aCons (eVar 3) aNil)))) (sRaise 23 (eVar 1)) sNext) (sSeq (sFor (iOf itA (eVar 2)) (gN 4) b1_Store_put) (sSeq (sIf (tOf (eBin (eqV false) (eArgs lenV (aCons (eBin dgV (eUn (getF [2] "_rows") (eVar 0)) (eVar 1)) aNil)) (eC (.int 200)))) (sRaise 30 (eVar 1)) sNext) (sSeq (sDo (eBm isL appV (eBin dgV (eUn (getF [2] "_rows") (eVar 0)) (eVar 1)) (aCons (eArgs tupleV (aCons (eVar 2) aNil)) aNil))) (sRet (eBin (intOp subI) (eArgs lenV (aCons (eBin dgV (eUn (getF [2] "_rows") (eVar 0)) (eVar 1)) aNil)) (eC (.int 1)))))))))
noncomputable def f_Store_put : Fn := fnM 5 m_Store_put
noncomputable def m_Schema_rank : SM := (sSeq (sIf (tOf (eBin (dinV true) (eVar 1) (eUn (getF [0] "_columns") (eVar 0)))) (sRaise 20 (eVar 1)) sNext) (sRet (eBm isL indexV (eUn (getF [0] "_names") (eVar 0)) (aCons (eVar 1) aNil))))
noncomputable def f_Schema_rank : Fn := fnM 2 m_Schema_rank
noncomputable def m_Store_rows : SM := (sSeq (sDo (eMeth [(0, true, 2, f_Schema_rank)] (eUn (getF [2] "schema") (eVar 0)) (aCons (eVar 1) aNil))) (sRet (eArgs (listV true) (aCons (eBin dgV (eUn (getF [2] "_rows") (eVar 0)) (eVar 1)) aNil))))
noncomputable def f_Store_rows : Fn := fnM 2 m_Store_rows
noncomputable def m_Store_size : SM := (sRet (eSumVals 1 (eUn (getF [2] "_rows") (eVar 0))))
noncomputable def f_Store_size : Fn := fnM 2 m_Store_size
noncomputable def b1__law_holds : SM := (sIf (Fs.tOr (tNot (tOf (eIsi "tuple" (eVar 6)))) (tOf (eIsi "bool" (eVar 7)))) (sRet (eC (.bool false))) sNext)
noncomputable def b2__law_holds : SM := (sFor (iOf itA (eVar 6)) (gN 7) b1__law_holds)
noncomputable def b3__law_holds : SM := (sSeq (sSet 5 (eMeth [(2, false, 2, f_Store_rows)] (eVar 0) (aCons (eBin idxV (eBin idxV (eVar 1) (eVar 4)) (eC (.int 0))) aNil))) (sSeq (sIf (Fs.tOr (tNot (tOf (eIsi "list" (eVar 5)))) (tOf (eBin (eqV true) (eVar 5) (eBin idxV (eVar 2) (eVar 4))))) (sRet (eC (.bool false))) sNext) (sSeq (sFor (iOf itA (eVar 5)) (gN 6) b2__law_holds) (sSeq (sDo (eBm isL insV (eVar 5) (aCons (eC (.int 0)) (aCons (eArgs mkT (aCons (eC (.str "q0")) aNil)) aNil)))) (sSet 3 (eBin (addV false) (eVar 3) (eArgs lenV (aCons (eBin idxV (eVar 2) (eVar 4)) aNil))))))))
noncomputable def m__law_holds : SM := (sSeq (sSet 3 (eC (.int 0))) (sSeq (sFor (iArg rngA (aCons (eArgs lenV (aCons (eVar 1) aNil)) aNil)) (gN 4) b3__law_holds) (sRet (eCall 2 true f__law_is (aCons (eMeth [(2, true, 1, f_Store_size)] (eVar 0) aNil) (aCons (eVar 3) aNil))))))
noncomputable def f__law_holds : Fn := fnM 8 m__law_holds
noncomputable def m__law_unknown : SM := (sSeq (sSet 2 (eC .none)) (sSeq (sTryAs [20, 23, 30] 20 3 (sDo (eMeth [(2, true, 2, f_Store_rows)] (eVar 0) (aCons (eVar 1) aNil))) (hcase fun x => (sSet 2 (eC x)))) (sRet (eVar 2))))
noncomputable def f__law_unknown : Fn := fnM 4 m__law_unknown
noncomputable def m_Schema_names : SM := (sRet (eArgs (listV false) (aCons (eUn (getF [0] "_names") (eVar 0)) aNil)))
noncomputable def f_Schema_names : Fn := fnM 1 m_Schema_names
noncomputable def b1_law : SM := (sSeq (sSet 7 (eBin (intOp fdvI) (eCallZ 2 f__law_take (aCons (eVar 1) (aCons (eC (.int 3)) aNil))) (eC (.int 2)))) (sSeq (sSet 8 (eCallZ 2 f__law_take (aCons (eVar 1) (aCons (eArgs lenV (aCons (eVar 2) aNil)) aNil)))) (sSeq (sSet 9 (eLcN [13] (iOf itA (eBin idxV (eBin idxV (eVar 2) (eVar 8)) (eC (.int 1)))) (gN 13) tYesM (eCallZ 1 f__law_cell (aCons (eVar 1) aNil)))) (sSeq (sIf (Fs.tAnd (tOf (eBin (eqV false) (eCallZ 2 f__law_take (aCons (eVar 1) (aCons (eC (.int 4)) aNil))) (eC (.int 3)))) (tOf (eBin (cmpI gtI) (eArgs lenV (aCons (eBin idxV (eBin idxV (eVar 5) (eC (.int 0))) (eVar 8)) aNil)) (eC (.int 0))))) (sSet 9 (eArgs (listV true) (aCons (eBin idxV (eBin idxV (eBin idxV (eVar 5) (eC (.int 0))) (eVar 8)) (eC (.int 0))) aNil))) sNext) (sSeq (sSet 10 (eArgs lenV (aCons (eBin idxV (eBin idxV (eVar 5) (eVar 7)) (eVar 8)) aNil))) (sSeq (sDo (eBm isL appV (eBin idxV (eBin idxV (eVar 5) (eVar 7)) (eVar 8)) (aCons (eArgs tupleV (aCons (eVar 9) aNil)) aNil))) (sSeq (sSet 11 (eBin idxV (eVar 4) (eVar 7))) (sSeq (sIf (tOf (eBin (eqV false) (eCallZ 2 f__law_take (aCons (eVar 1) (aCons (eC (.int 2)) aNil))) (eC (.int 1)))) (sIf (tNot (tOf (eCall 2 true f__law_is (aCons (eMeth [(2, false, 3, f_Store_put)] (eVar 11) (aCons (eBin idxV (eBin idxV (eVar 2) (eVar 8)) (eC (.int 0))) (aCons (eArgs tupleV (aCons (eVar 9) aNil)) aNil))) (aCons (eVar 10) aNil))))) (sRet (eC (.bool false))) sNext) (sIf (tNot (tOf (eCall 2 true f__law_is (aCons (eMeth [(2, false, 3, f_Store_put)] (eVar 11) (aCons (eBin idxV (eBin idxV (eVar 2) (eVar 8)) (eC (.int 0))) (aCons (eVar 9) aNil))) (aCons (eVar 10) aNil))))) (sRet (eC (.bool false))) sNext)) (sSeq (sDo (eBm isL appV (eVar 9) (aCons (eC (.int 5)) aNil))) (sSetIx (eVar 9) (eC (.int 0)) (eC (.int 6))))))))))))
noncomputable def b2_law : SM := (sIf (tNot (tOf (eCall 3 true f__law_holds (aCons (eBin idxV (eVar 4) (eVar 7)) (aCons (eVar 2) (aCons (eBin idxV (eVar 5) (eVar 7)) aNil)))))) (sRet (eC (.bool false))) sNext)
noncomputable def m_law : SM := (sSeq (sSet 1 (eCall 1 false f__law_pool (aCons (eVar 0) aNil))) (sSeq (sSet 2 (eCallZ 3 f__law_tables (aCons (eVar 1) (aCons (eC (.int 4)) (aCons (eC (.int 4)) aNil))))) (sSeq (sSet 3 (eCall 1 true (mkFn 0 f_Schema_xinit) (aCons (eLc false [12] (iOf itA (eVar 2)) (gN 12) tYesM (eArgs mkT (aCons (eBin idxV (eVar 12) (eC (.int 0))) (aCons (eArgs (listV false) (aCons (eBin idxV (eVar 12) (eC (.int 1))) aNil)) aNil)))) aNil))) (sSeq (sSet 4 (eArgs (mkL true) (aCons (eCall 1 false (mkFn 2 f_Store_xinit) (aCons (eVar 3) aNil)) (aCons (eCall 1 false (mkFn 2 f_Store_xinit) (aCons (eVar 3) aNil)) aNil)))) (sSeq (sSet 5 (eArgs (mkL true) (aCons (eLcN [12] (iOf itA (eVar 2)) (gN 12) tYesM (eArgs (mkL true) aNil)) (aCons (eLcN [12] (iOf itA (eVar 2)) (gN 12) tYesM (eArgs (mkL true) aNil)) aNil)))) (sSeq (sFor (iArg rngA (aCons (eCallZ 2 f__law_take (aCons (eVar 1) (aCons (eC (.int 21)) aNil))) aNil)) (gN 6) b1_law) (sSeq (sFor (iOf itA (eArgs (mkL false) (aCons (eC (.int 0)) (aCons (eC (.int 1)) (aCons (eC (.int 0)) aNil))))) (gN 7) b2_law) (sSeq (sIf (Fs.tOr (tOf (eBin (eqV true) (eCall 2 true f__law_unknown (aCons (eBin idxV (eVar 4) (eC (.int 0))) (aCons (eC (.str "q0")) aNil))) (eC (.str "q0")))) (tOf (eBin (eqV true) (eMeth [(0, true, 1, f_Schema_names)] (eUn (getF [2] "schema") (eBin idxV (eVar 4) (eC (.int 0)))) aNil) (eLc false [12] (iOf itA (eVar 2)) (gN 12) tYesM (eBin idxV (eVar 12) (eC (.int 0))))))) (sRet (eC (.bool false))) sNext) (sRet (eCall 2 true f__law_is (aCons (eC (.int 200)) (aCons (eC (.int 200)) aNil))))))))))))
noncomputable def f_law : Fn := fnM 14 m_law
end Fm
namespace Ft
open PySem PySem.Spec L2 Fs
abbrev O_Schema : Type := HL [(List Str), (List (Str × (List Str)))]
abbrev a_Schema : SL [(List Str), (List (Str × (List Str)))] := (.cons (tyList tyStr) (.cons (tyDict (tyList tyStr)) .nil))
abbrev r_Schema : Rp O_Schema := tyIns 0 a_Schema [some 0, some 0]
abbrev d_O_Schema : O_Schema := (([] : (List Str)), ([] : (List (Str × (List Str)))), ())
abbrev O_Store : Type := HL [O_Schema, (List (Str × (List Fs.Data)))]
abbrev a_Store : SL [O_Schema, (List (Str × (List Fs.Data)))] := (.cons r_Schema (.cons (tyDictL (tyList tyData)) .nil))
abbrev r_Store : Rp O_Store := tyIns 2 a_Store [Option.none, some 0]
abbrev d_O_Store : O_Store := (d_O_Schema, ([] : (List (Str × (List Fs.Data)))), ())
abbrev T__law_pool : List Type := [(List Int), (List Int), Int, Int, Int, Int]
abbrev G__law_pool : Type := HL T__law_pool
abbrev s__law_pool : SL T__law_pool := (.cons tyScr (.cons (tyList tyInt) (.cons tyInt (.cons tyInt (.cons tyInt (.cons tyInt .nil))))))
abbrev U__law_pool : List Type := [(List Int)]
abbrev al__law_pool : SL U__law_pool := (.cons tyScr .nil)
@[simp] def g__law_pool_0 (γ : G__law_pool) : (List Int) := γ.1
@[simp] def p__law_pool_0 (a : (List Int)) (γ : G__law_pool) : G__law_pool := (a, γ.2)
@[simp] def g__law_pool_1 (γ : G__law_pool) : (List Int) := γ.2.1
@[simp] def p__law_pool_1 (a : (List Int)) (γ : G__law_pool) : G__law_pool := (γ.1, a, γ.2.2)
@[simp] def g__law_pool_2 (γ : G__law_pool) : Int := γ.2.2.1
@[simp] def p__law_pool_2 (a : Int) (γ : G__law_pool) : G__law_pool := (γ.1, γ.2.1, a, γ.2.2.2)
@[simp] def g__law_pool_3 (γ : G__law_pool) : Int := γ.2.2.2.1
@[simp] def p__law_pool_3 (a : Int) (γ : G__law_pool) : G__law_pool := (γ.1, γ.2.1, γ.2.2.1, a, γ.2.2.2.2)
@[simp] def g__law_pool_4 (γ : G__law_pool) : Int := γ.2.2.2.2.1
@[simp] def p__law_pool_4 (a : Int) (γ : G__law_pool) : G__law_pool := (γ.1, γ.2.1, γ.2.2.1, γ.2.2.2.1, a, γ.2.2.2.2.2)
@[simp] def g__law_pool_5 (γ : G__law_pool) : Int := γ.2.2.2.2.2.1
@[simp] def p__law_pool_5 (a : Int) (γ : G__law_pool) : G__law_pool := (γ.1, γ.2.1, γ.2.2.1, γ.2.2.2.1, γ.2.2.2.2.1, a, γ.2.2.2.2.2.2)
noncomputable def tb1__law_pool : G__law_pool → SR G__law_pool (List Int) := (tKill (fun γ => (p__law_pool_4 (0 : Int) γ)) (tSeq (tIf (xL (c2 (oCmp gtI) (cV g__law_pool_3) (cC (0 : Int)))) (tDo (xApp g__law_pool_1 p__law_pool_1 (xL (c2 oMod (c1 oInt (cV g__law_pool_3)) (cC (100 : Int)))))) tNext) (tSet p__law_pool_3 (xL (c2 oFdv (cV g__law_pool_3) (cC (100 : Int)))))))
noncomputable def tb2__law_pool : G__law_pool → SR G__law_pool (List Int) := (tKill (fun γ => (p__law_pool_4 (0 : Int) γ)) (tSeq (tSet p__law_pool_5 (xL (c2 oMod (c1 oInt (c2 oAdd (c2 oAdd (c2 oMul (cV g__law_pool_5) (cV g__law_pool_5)) (c2 oMul (cV g__law_pool_4) (cC (69621 : Int)))) (cV g__law_pool_2))) (cC (998244353 : Int))))) (tDo (xApp g__law_pool_1 p__law_pool_1 (xL (c2 oMod (c1 oInt (c2 oFdv (cV g__law_pool_5) (cC (7 : Int)))) (cC (9973 : Int))))))))
noncomputable def tb3__law_pool : G__law_pool → SR G__law_pool (List Int) := (tSeq (tSet p__law_pool_3 (xL (c1 oAbs (c2 oIdx (cV g__law_pool_0) (cV g__law_pool_2))))) (tIf (xL (c2 (oCmp geI) (cV g__law_pool_3) (c2 oPow (cC (10 : Int)) (cC (18 : Int))))) (tKill (fun γ => (p__law_pool_3 (0 : Int) γ)) (tFor (x1 oRng (xL (cC (60 : Int)))) p__law_pool_4 tb1__law_pool)) (tKill (fun γ => (p__law_pool_5 (0 : Int) (p__law_pool_2 (0 : Int) γ))) (tSeq (tSet p__law_pool_5 (xL (c2 oMod (c1 oInt (c2 oAdd (c2 oAdd (c2 oAdd (c2 oMul (cV g__law_pool_3) (cC (48271 : Int))) (c2 oMul (cV g__law_pool_2) (cC (7919 : Int)))) (c2 oMul (c1 oIntB (c2 (oCmp ltI) (c2 oIdx (cV g__law_pool_0) (cV g__law_pool_2)) (cC (0 : Int)))) (cC (104729 : Int)))) (cC (11 : Int)))) (cC (2147483647 : Int))))) (tFor (x1 oRng (xL (cC (12 : Int)))) p__law_pool_4 tb2__law_pool)))))
noncomputable def B__law_pool : G__law_pool → SR G__law_pool (List Int) := (tSeq (tSet p__law_pool_1 (xL (cLNil (α := Int)))) (tSeq (tFor (x1 oRng (xL (c2 oMin (c1 oLen (cV g__law_pool_0)) (cC (63 : Int))))) p__law_pool_2 tb3__law_pool) (tRet (fun γ => .ok (g__law_pool_1 γ) γ))))
def i__law_pool (as : HL U__law_pool) : G__law_pool := (as.1, ([] : (List Int)), (0 : Int), (0 : Int), (0 : Int), (0 : Int), ())
def o__law_pool (as : HL U__law_pool) (γ : G__law_pool) : HL U__law_pool := (as.1, ())
noncomputable def t__law_pool : HL U__law_pool → ER (HL U__law_pool) (List Int) := runE B__law_pool i__law_pool o__law_pool Option.none
abbrev T__law_take : List Type := [(List Int), Int]
abbrev G__law_take : Type := HL T__law_take
abbrev s__law_take : SL T__law_take := (.cons (tyList tyInt) (.cons tyInt .nil))
abbrev U__law_take : List Type := [(List Int), Int]
abbrev al__law_take : SL U__law_take := (.cons (tyList tyInt) (.cons tyInt .nil))
@[simp] def g__law_take_0 (γ : G__law_take) : (List Int) := γ.1
@[simp] def p__law_take_0 (a : (List Int)) (γ : G__law_take) : G__law_take := (a, γ.2)
@[simp] def g__law_take_1 (γ : G__law_take) : Int := γ.2.1
@[simp] def p__law_take_1 (a : Int) (γ : G__law_take) : G__law_take := (γ.1, a, γ.2.2)
noncomputable def B__law_take : G__law_take → SR G__law_take Int := (tSeq (tIf (xL (c2 (fun x y => oEq false (tyInt.enc x) (tyInt.enc y)) (c1 oLen (cV g__law_take_0)) (cC (0 : Int)))) (tRet (xL (cC (0 : Int)))) tNext) (tRet (x2 oMod (x1 oInt (xPopAt g__law_take_0 p__law_take_0 (xL (cC (0 : Int))))) (xL (cV g__law_take_1)))))
def i__law_take (as : HL U__law_take) : G__law_take := (as.1, as.2.1, ())
def o__law_take (as : HL U__law_take) (γ : G__law_take) : HL U__law_take := (γ.1, as.2.1, ())
noncomputable def t__law_take : HL U__law_take → ER (HL U__law_take) Int := runE B__law_take i__law_take o__law_take Option.none
abbrev T__law_names : List Type := [(List Int), (List Str), Int, (List Str), (List Str), Int]
abbrev G__law_names : Type := HL T__law_names
abbrev s__law_names : SL T__law_names := (.cons (tyList tyInt) (.cons (tyList tyStr) (.cons tyInt (.cons (tyList tyStr) (.cons (tyList tyStr) (.cons tyInt .nil))))))
abbrev U__law_names : List Type := [(List Int), (List Str), Int]
abbrev al__law_names : SL U__law_names := (.cons (tyList tyInt) (.cons (tyList tyStr) (.cons tyInt .nil)))
@[simp] def g__law_names_0 (γ : G__law_names) : (List Int) := γ.1
@[simp] def p__law_names_0 (a : (List Int)) (γ : G__law_names) : G__law_names := (a, γ.2)
@[simp] def g__law_names_1 (γ : G__law_names) : (List Str) := γ.2.1
@[simp] def p__law_names_1 (a : (List Str)) (γ : G__law_names) : G__law_names := (γ.1, a, γ.2.2)
@[simp] def g__law_names_2 (γ : G__law_names) : Int := γ.2.2.1
@[simp] def p__law_names_2 (a : Int) (γ : G__law_names) : G__law_names := (γ.1, γ.2.1, a, γ.2.2.2)
@[simp] def g__law_names_3 (γ : G__law_names) : (List Str) := γ.2.2.2.1
@[simp] def p__law_names_3 (a : (List Str)) (γ : G__law_names) : G__law_names := (γ.1, γ.2.1, γ.2.2.1, a, γ.2.2.2.2)
@[simp] def g__law_names_4 (γ : G__law_names) : (List Str) := γ.2.2.2.2.1
@[simp] def p__law_names_4 (a : (List Str)) (γ : G__law_names) : G__law_names := (γ.1, γ.2.1, γ.2.2.1, γ.2.2.2.1, a, γ.2.2.2.2.2)
@[simp] def g__law_names_5 (γ : G__law_names) : Int := γ.2.2.2.2.2.1
@[simp] def p__law_names_5 (a : Int) (γ : G__law_names) : G__law_names := (γ.1, γ.2.1, γ.2.2.1, γ.2.2.2.1, γ.2.2.2.2.1, a, γ.2.2.2.2.2.2)
noncomputable def tb1__law_names : G__law_names → SR G__law_names (List Str) := (tKill (fun γ => (p__law_names_5 (0 : Int) γ)) (tDo (xApp g__law_names_4 p__law_names_4 (xPopAt g__law_names_3 p__law_names_3 (xCallE t__law_take p__law_names_0 (fun as : HL [(List Int), Int] => as.1) (xaSlot g__law_names_0 (xaCons (xL (c1 oLen (cV g__law_names_3))) xaNil)))))))
noncomputable def B__law_names : G__law_names → SR G__law_names (List Str) := (tSeq (tSet p__law_names_3 (xL (cV g__law_names_1))) (tSeq (tSet p__law_names_4 (xL (cLNil (α := Str)))) (tSeq (tFor (x1 oRng (xL (cV g__law_names_2))) p__law_names_5 tb1__law_names) (tRet (fun γ => .ok (g__law_names_4 γ) γ)))))
def i__law_names (as : HL U__law_names) : G__law_names := (as.1, as.2.1, as.2.2.1, ([] : (List Str)), ([] : (List Str)), (0 : Int), ())
def o__law_names (as : HL U__law_names) (γ : G__law_names) : HL U__law_names := (γ.1, as.2.1, as.2.2.1, ())
noncomputable def t__law_names : HL U__law_names → ER (HL U__law_names) (List Str) := runE B__law_names i__law_names o__law_names Option.none
abbrev T__law_tables : List Type := [(List Int), Int, Int, (List Str), (List (HL [Str, (List Str)])), Str, (List Str)]
abbrev G__law_tables : Type := HL T__law_tables
abbrev s__law_tables : SL T__law_tables := (.cons (tyList tyInt) (.cons tyInt (.cons tyInt (.cons (tyList tyStr) (.cons (tyList (tyTup (.cons tyStr (.cons (tyList tyStr) .nil)))) (.cons tyStr (.cons (tyList tyStr) .nil)))))))
abbrev U__law_tables : List Type := [(List Int), Int, Int]
abbrev al__law_tables : SL U__law_tables := (.cons (tyList tyInt) (.cons tyInt (.cons tyInt .nil)))
@[simp] def g__law_tables_0 (γ : G__law_tables) : (List Int) := γ.1
@[simp] def p__law_tables_0 (a : (List Int)) (γ : G__law_tables) : G__law_tables := (a, γ.2)
@[simp] def g__law_tables_1 (γ : G__law_tables) : Int := γ.2.1
@[simp] def p__law_tables_1 (a : Int) (γ : G__law_tables) : G__law_tables := (γ.1, a, γ.2.2)
@[simp] def g__law_tables_2 (γ : G__law_tables) : Int := γ.2.2.1
@[simp] def p__law_tables_2 (a : Int) (γ : G__law_tables) : G__law_tables := (γ.1, γ.2.1, a, γ.2.2.2)
@[simp] def g__law_tables_3 (γ : G__law_tables) : (List Str) := γ.2.2.2.1
@[simp] def p__law_tables_3 (a : (List Str)) (γ : G__law_tables) : G__law_tables := (γ.1, γ.2.1, γ.2.2.1, a, γ.2.2.2.2)
@[simp] def g__law_tables_4 (γ : G__law_tables) : (List (HL [Str, (List Str)])) := γ.2.2.2.2.1
@[simp] def p__law_tables_4 (a : (List (HL [Str, (List Str)]))) (γ : G__law_tables) : G__law_tables := (γ.1, γ.2.1, γ.2.2.1, γ.2.2.2.1, a, γ.2.2.2.2.2)
@[simp] def g__law_tables_5 (γ : G__law_tables) : Str := γ.2.2.2.2.2.1
@[simp] def p__law_tables_5 (a : Str) (γ : G__law_tables) : G__law_tables := (γ.1, γ.2.1, γ.2.2.1, γ.2.2.2.1, γ.2.2.2.2.1, a, γ.2.2.2.2.2.2)
@[simp] def g__law_tables_6 (γ : G__law_tables) : (List Str) := γ.2.2.2.2.2.2.1
@[simp] def p__law_tables_6 (a : (List Str)) (γ : G__law_tables) : G__law_tables := (γ.1, γ.2.1, γ.2.2.1, γ.2.2.2.1, γ.2.2.2.2.1, γ.2.2.2.2.2.1, a, γ.2.2.2.2.2.2.2)
noncomputable def tb1__law_tables : G__law_tables → SR G__law_tables (List (HL [Str, (List Str)])) := (tKill (fun γ => (p__law_tables_6 ([] : (List Str)) (p__law_tables_5 ("" : Str) γ))) (tSeq (tSet p__law_tables_6 (xCallE t__law_names p__law_tables_0 (fun as : HL [(List Int), (List Str), Int] => as.1) (xaSlot g__law_tables_0 (xaCons (xL (cLCons (cC ("id" : Str)) (cLCons (cC ("i" : Str)) (cLCons (cC ("k" : Str)) (cLCons (cC ("t" : Str)) (cLCons (cC ("k2" : Str)) (cLCons (cC ("reference" : Str)) (cLCons (cC ("zz" : Str)) cLNil)))))))) (xaCons (x2 oAdd (xL (cC (1 : Int))) (xCallE t__law_take p__law_tables_0 (fun as : HL [(List Int), Int] => as.1) (xaSlot g__law_tables_0 (xaCons (xL (cV g__law_tables_2)) xaNil)))) xaNil))))) (tDo (xApp g__law_tables_4 p__law_tables_4 (xL (cCons (cV g__law_tables_5) (cCons (cV g__law_tables_6) cNil)))))))
noncomputable def B__law_tables : G__law_tables → SR G__law_tables (List (HL [Str, (List Str)])) := (tSeq (tSet p__law_tables_3 (xL (cLCons (cC ("t" : Str)) (cLCons (cC ("ta" : Str)) (cLCons (cC ("orders" : Str)) (cLCons (cC ("unique" : Str)) (cLCons (cC ("t1" : Str)) (cLCons (cC ("t10" : Str)) (cLCons (cC ("a23456789012" : Str)) (cLCons (cC ("b" : Str)) cLNil)))))))))) (tSeq (tSet p__law_tables_4 (xL (cLNil (α := (HL [Str, (List Str)]))))) (tSeq (tFor (x1 (fun a => .ok a) (xCallE t__law_names p__law_tables_0 (fun as : HL [(List Int), (List Str), Int] => as.1) (xaSlot g__law_tables_0 (xaCons (xL (cV g__law_tables_3)) (xaCons (x2 oAdd (xL (cC (1 : Int))) (xCallE t__law_take p__law_tables_0 (fun as : HL [(List Int), Int] => as.1) (xaSlot g__law_tables_0 (xaCons (xL (cV g__law_tables_1)) xaNil)))) xaNil))))) p__law_tables_5 tb1__law_tables) (tRet (fun γ => .ok (g__law_tables_4 γ) γ)))))
def i__law_tables (as : HL U__law_tables) : G__law_tables := (as.1, as.2.1, as.2.2.1, ([] : (List Str)), ([] : (List (HL [Str, (List Str)]))), ("" : Str), ([] : (List Str)), ())
def o__law_tables (as : HL U__law_tables) (γ : G__law_tables) : HL U__law_tables := (γ.1, as.2.1, as.2.2.1, ())
noncomputable def t__law_tables : HL U__law_tables → ER (HL U__law_tables) (List (HL [Str, (List Str)])) := runE B__law_tables i__law_tables o__law_tables Option.none
abbrev T_is_name : List Type := [Str, Str]
abbrev G_is_name : Type := HL T_is_name
abbrev s_is_name : SL T_is_name := (.cons tyStr (.cons tyStr .nil))
abbrev U_is_name : List Type := [Str]
abbrev al_is_name : SL U_is_name := (.cons tyStr .nil)
@[simp] def g_is_name_0 (γ : G_is_name) : Str := γ.1
@[simp] def p_is_name_0 (a : Str) (γ : G_is_name) : G_is_name := (a, γ.2)
@[simp] def g_is_name_1 (γ : G_is_name) : Str := γ.2.1
@[simp] def p_is_name_1 (a : Str) (γ : G_is_name) : G_is_name := (γ.1, a, γ.2.2)
noncomputable def tb1_is_name : G_is_name → SR G_is_name Bool := (tKill (fun γ => (p_is_name_1 ("" : Str) γ)) (tIf (xL (cAnd (c2 (oInS true) (cV g_is_name_1) (cC ("abcdefghijklmnopqrstuvwxyz" : Str))) (c2 (oInS true) (cV g_is_name_1) (cC ("0123456789" : Str))))) (tRet (xL (cC false))) tNext))
noncomputable def B_is_name : G_is_name → SR G_is_name Bool := (tSeq (tIf (xL (cOr (c2 (fun x y => oEq false (tyStr.enc x) (tyStr.enc y)) (cV g_is_name_0) (cC ("" : Str))) (cOr (c2 (oCmp gtI) (c1 oLenS (cV g_is_name_0)) (cC (12 : Int))) (c2 (oInS true) (c2 oIdxS (cV g_is_name_0) (cC (0 : Int))) (cC ("abcdefghijklmnopqrstuvwxyz" : Str)))))) (tRet (xL (cC false))) tNext) (tSeq (tFor (x1 (fun a => .ok (chars a)) (xL (cV g_is_name_0))) p_is_name_1 tb1_is_name) (tRet (xL (cC true)))))
def i_is_name (as : HL U_is_name) : G_is_name := (as.1, ("" : Str), ())
def o_is_name (as : HL U_is_name) (γ : G_is_name) : HL U_is_name := (as.1, ())
noncomputable def t_is_name : HL U_is_name → ER (HL U_is_name) Bool := runE B_is_name i_is_name o_is_name Option.none
noncomputable def c_is_name : HL U_is_name → PR Bool := runC B_is_name i_is_name Option.none
abbrev T_Schema_padd : List Type := [O_Schema, Str, (List Str), Int]
abbrev G_Schema_padd : Type := HL T_Schema_padd
abbrev s_Schema_padd : SL T_Schema_padd := (.cons r_Schema (.cons tyStr (.cons (tyList tyStr) (.cons tyInt .nil))))
abbrev U_Schema_padd : List Type := [O_Schema, Str, (List Str)]
abbrev al_Schema_padd : SL U_Schema_padd := (.cons r_Schema (.cons tyStr (.cons (tyList tyStr) .nil)))
@[simp] def g_Schema_padd_0 (γ : G_Schema_padd) : O_Schema := γ.1
@[simp] def p_Schema_padd_0 (a : O_Schema) (γ : G_Schema_padd) : G_Schema_padd := (a, γ.2)
@[simp] def g_Schema_padd_1 (γ : G_Schema_padd) : Str := γ.2.1
@[simp] def p_Schema_padd_1 (a : Str) (γ : G_Schema_padd) : G_Schema_padd := (γ.1, a, γ.2.2)
@[simp] def g_Schema_padd_2 (γ : G_Schema_padd) : (List Str) := γ.2.2.1
@[simp] def p_Schema_padd_2 (a : (List Str)) (γ : G_Schema_padd) : G_Schema_padd := (γ.1, γ.2.1, a, γ.2.2.2)
@[simp] def g_Schema_padd_3 (γ : G_Schema_padd) : Int := γ.2.2.2.1
@[simp] def p_Schema_padd_3 (a : Int) (γ : G_Schema_padd) : G_Schema_padd := (γ.1, γ.2.1, γ.2.2.1, a, γ.2.2.2.2)
noncomputable def tb1_Schema_padd : G_Schema_padd → SR G_Schema_padd Unit := (tKill (fun γ => (p_Schema_padd_3 (0 : Int) γ)) (tIf (xL (cOr (cNot (cCall c_is_name (cCons (c2 oIdx (cV g_Schema_padd_2) (cV g_Schema_padd_3)) cNil))) (c2 (fun x ys => oIn false true (tyStr.enc x) (ys.map tyStr.enc)) (c2 oIdx (cV g_Schema_padd_2) (cV g_Schema_padd_3)) (c3 oSlc (cV g_Schema_padd_2) cNo (cSo (cV g_Schema_padd_3)))))) (tRaise 20 tyStr.enc (xL (c2 oIdx (cV g_Schema_padd_2) (cV g_Schema_padd_3)))) tNext))
noncomputable def B_Schema_padd : G_Schema_padd → SR G_Schema_padd Unit := (tSeq (tIf (xL (cOr (cNot (cCall c_is_name (cCons (cV g_Schema_padd_1) cNil))) (c2 (oInA false) (cV g_Schema_padd_1) (c1 (fun x : O_Schema => .ok (x.2.1)) (cV g_Schema_padd_0))))) (tRaise 20 tyStr.enc (xL (cV g_Schema_padd_1))) tNext) (tSeq (tIf (xL (cOr (c2 (oCmp ltI) (c1 oLen (cV g_Schema_padd_2)) (cC (1 : Int))) (c2 (oCmp gtI) (c1 oLen (cV g_Schema_padd_2)) (cC (4 : Int))))) (tRaise 20 tyStr.enc (xL (cV g_Schema_padd_1))) tNext) (tSeq (tFor (x1 oRng (xL (c1 oLen (cV g_Schema_padd_2)))) p_Schema_padd_3 tb1_Schema_padd) (tSeq (tDo (xApp (fun γ => (g_Schema_padd_0 γ).1) (fun (a : (List Str)) γ => p_Schema_padd_0 ((fun (a : (List Str)) (x : O_Schema) => ((a, x.2) : O_Schema)) a (g_Schema_padd_0 γ)) γ) (xL (cV g_Schema_padd_1)))) (tPutA (fun γ => (g_Schema_padd_0 γ).2.1) (fun (a : (List (Str × (List Str)))) γ => p_Schema_padd_0 ((fun (a : (List (Str × (List Str)))) (x : O_Schema) => ((x.1, a, x.2.2) : O_Schema)) a (g_Schema_padd_0 γ)) γ) (cV g_Schema_padd_1) (cV g_Schema_padd_2))))))
def i_Schema_padd (as : HL U_Schema_padd) : G_Schema_padd := (as.1, as.2.1, as.2.2.1, (0 : Int), ())
def o_Schema_padd (as : HL U_Schema_padd) (γ : G_Schema_padd) : HL U_Schema_padd := (γ.1, as.2.1, as.2.2.1, ())
noncomputable def t_Schema_padd : HL U_Schema_padd → ER (HL U_Schema_padd) Unit := runE B_Schema_padd i_Schema_padd o_Schema_padd (some ())
abbrev T_Schema_xinit : List Type := [O_Schema, (List (HL [Str, (List Str)])), Str, (List Str)]
abbrev G_Schema_xinit : Type := HL T_Schema_xinit
abbrev s_Schema_xinit : SL T_Schema_xinit := (.cons r_Schema (.cons (tyList (tyTup (.cons tyStr (.cons (tyList tyStr) .nil)))) (.cons tyStr (.cons (tyList tyStr) .nil))))
abbrev U_Schema_xinit : List Type := [(List (HL [Str, (List Str)]))]
abbrev al_Schema_xinit : SL U_Schema_xinit := (.cons (tyList (tyTup (.cons tyStr (.cons (tyList tyStr) .nil)))) .nil)
@[simp] def g_Schema_xinit_0 (γ : G_Schema_xinit) : O_Schema := γ.1
@[simp] def p_Schema_xinit_0 (a : O_Schema) (γ : G_Schema_xinit) : G_Schema_xinit := (a, γ.2)
@[simp] def g_Schema_xinit_1 (γ : G_Schema_xinit) : (List (HL [Str, (List Str)])) := γ.2.1
@[simp] def p_Schema_xinit_1 (a : (List (HL [Str, (List Str)]))) (γ : G_Schema_xinit) : G_Schema_xinit := (γ.1, a, γ.2.2)
@[simp] def g_Schema_xinit_2 (γ : G_Schema_xinit) : Str := γ.2.2.1
@[simp] def p_Schema_xinit_2 (a : Str) (γ : G_Schema_xinit) : G_Schema_xinit := (γ.1, γ.2.1, a, γ.2.2.2)
@[simp] def g_Schema_xinit_3 (γ : G_Schema_xinit) : (List Str) := γ.2.2.2.1
@[simp] def p_Schema_xinit_3 (a : (List Str)) (γ : G_Schema_xinit) : G_Schema_xinit := (γ.1, γ.2.1, γ.2.2.1, a, γ.2.2.2.2)
noncomputable def tb1_Schema_xinit : G_Schema_xinit → SR G_Schema_xinit Unit := (tKill (fun γ => (p_Schema_xinit_3 ([] : (List Str)) (p_Schema_xinit_2 ("" : Str) γ))) (tDo (xCallE t_Schema_padd p_Schema_xinit_0 (fun as : HL [O_Schema, Str, (List Str)] => as.1) (xaSlot g_Schema_xinit_0 (xaCons (xL (cV g_Schema_xinit_2)) (xaCons (xL (c1 oId (cV g_Schema_xinit_3))) xaNil))))))
noncomputable def B_Schema_xinit : G_Schema_xinit → SR G_Schema_xinit Unit := (tSeq (tIf (xL (cOr (c2 (oCmp ltI) (c1 oLen (cV g_Schema_xinit_1)) (cC (1 : Int))) (c2 (oCmp gtI) (c1 oLen (cV g_Schema_xinit_1)) (cC (5 : Int))))) (tRaise 20 tyStr.enc (xL (cC ("tables" : Str)))) tNext) (tSeq (tSet (fun (a : (List Str)) γ => p_Schema_xinit_0 ((fun (a : (List Str)) (x : O_Schema) => ((a, x.2) : O_Schema)) a (g_Schema_xinit_0 γ)) γ) (xL (cLNil (α := Str)))) (tSeq (tSet (fun (a : (List (Str × (List Str)))) γ => p_Schema_xinit_0 ((fun (a : (List (Str × (List Str)))) (x : O_Schema) => ((x.1, a, x.2.2) : O_Schema)) a (g_Schema_xinit_0 γ)) γ) (xL (cC (([] : (List (Str × (List Str)))))))) (tFor (x1 (fun a => .ok a) (xL (cV g_Schema_xinit_1))) (fun x γ => (fun x γ => (fun _ γ => γ) x.2 (p_Schema_xinit_3 x.1 γ)) x.2 (p_Schema_xinit_2 x.1 γ)) tb1_Schema_xinit))))
abbrev V_Schema_xinit : List Type := [(List (HL [Str, (List Str)])), Str, (List Str)]
abbrev w_Schema_xinit : SL V_Schema_xinit := (.cons (tyList (tyTup (.cons tyStr (.cons (tyList tyStr) .nil)))) (.cons tyStr (.cons (tyList tyStr) .nil)))
def i_Schema_xinit (as : HL U_Schema_xinit) : (HL V_Schema_xinit) := (as.1, ("" : Str), ([] : (List Str)), ())
def o_Schema_xinit (as : HL U_Schema_xinit) (γ : (HL V_Schema_xinit)) : HL U_Schema_xinit := (as.1, ())
noncomputable def t_Schema_xinit : HL U_Schema_xinit → ER (HL U_Schema_xinit) O_Schema := runI B_Schema_xinit d_O_Schema i_Schema_xinit o_Schema_xinit
noncomputable def c_Schema_xinit : HL U_Schema_xinit → PR O_Schema := runIC B_Schema_xinit d_O_Schema i_Schema_xinit
abbrev T_Store_xinit : List Type := [O_Store, O_Schema, Str]
abbrev G_Store_xinit : Type := HL T_Store_xinit
abbrev s_Store_xinit : SL T_Store_xinit := (.cons r_Store (.cons r_Schema (.cons tyStr .nil)))
abbrev U_Store_xinit : List Type := [O_Schema]
abbrev al_Store_xinit : SL U_Store_xinit := (.cons r_Schema .nil)
@[simp] def g_Store_xinit_0 (γ : G_Store_xinit) : O_Store := γ.1
@[simp] def p_Store_xinit_0 (a : O_Store) (γ : G_Store_xinit) : G_Store_xinit := (a, γ.2)
@[simp] def g_Store_xinit_1 (γ : G_Store_xinit) : O_Schema := γ.2.1
@[simp] def p_Store_xinit_1 (a : O_Schema) (γ : G_Store_xinit) : G_Store_xinit := (γ.1, a, γ.2.2)
@[simp] def g_Store_xinit_2 (γ : G_Store_xinit) : Str := γ.2.2.1
@[simp] def p_Store_xinit_2 (a : Str) (γ : G_Store_xinit) : G_Store_xinit := (γ.1, γ.2.1, a, γ.2.2.2)
noncomputable def B_Store_xinit : G_Store_xinit → SR G_Store_xinit Unit := (tSeq (tSet (fun (a : O_Schema) γ => p_Store_xinit_0 ((fun (a : O_Schema) (x : O_Store) => ((a, x.2) : O_Store)) a (g_Store_xinit_0 γ)) γ) (xL (cV g_Store_xinit_1))) (tSet (fun (a : (List (Str × (List Fs.Data)))) γ => p_Store_xinit_0 ((fun (a : (List (Str × (List Fs.Data)))) (x : O_Store) => ((x.1, a, x.2.2) : O_Store)) a (g_Store_xinit_0 γ)) γ) (xDc (x1 (fun a : O_Schema => .ok (a.1)) (xL (cV g_Store_xinit_1))) p_Store_xinit_2 (cV g_Store_xinit_2) (xL (cLNil (α := Fs.Data))) (fun γ0 γ => (p_Store_xinit_2 (g_Store_xinit_2 γ0) γ)))))
abbrev V_Store_xinit : List Type := [O_Schema, Str]
abbrev w_Store_xinit : SL V_Store_xinit := (.cons r_Schema (.cons tyStr .nil))
def i_Store_xinit (as : HL U_Store_xinit) : (HL V_Store_xinit) := (as.1, ("" : Str), ())
def o_Store_xinit (as : HL U_Store_xinit) (γ : (HL V_Store_xinit)) : HL U_Store_xinit := (as.1, ())
noncomputable def t_Store_xinit : HL U_Store_xinit → ER (HL U_Store_xinit) O_Store := runI B_Store_xinit d_O_Store i_Store_xinit o_Store_xinit
abbrev T__law_cell : List Type := [(List Int), Int]
abbrev G__law_cell : Type := HL T__law_cell
abbrev s__law_cell : SL T__law_cell := (.cons (tyList tyInt) (.cons tyInt .nil))
abbrev U__law_cell : List Type := [(List Int)]
abbrev al__law_cell : SL U__law_cell := (.cons (tyList tyInt) .nil)
@[simp] def g__law_cell_0 (γ : G__law_cell) : (List Int) := γ.1
@[simp] def p__law_cell_0 (a : (List Int)) (γ : G__law_cell) : G__law_cell := (a, γ.2)
@[simp] def g__law_cell_1 (γ : G__law_cell) : Int := γ.2.1
@[simp] def p__law_cell_1 (a : Int) (γ : G__law_cell) : G__law_cell := (γ.1, a, γ.2.2)
noncomputable def B__law_cell : G__law_cell → SR G__law_cell (Option Int) := (tSeq (tSet p__law_cell_1 (xCallE t__law_take p__law_cell_0 (fun as : HL [(List Int), Int] => as.1) (xaSlot g__law_cell_0 (xaCons (xL (cC (100 : Int))) xaNil)))) (tRet (x2 oIdx (xL (cLCons (c1 (fun a => .ok ((fun a => some ((fun a => a) a)) a)) (cC (0 : Int))) (cLCons (c1 (fun a => .ok ((fun a => some ((fun a => a) a)) a)) (cC (1 : Int))) (cLCons (c1 (fun a => .ok ((fun _ => Option.none) a)) (cC ())) (cLCons (c1 (fun a => .ok ((fun a => some ((fun a => a) a)) a)) (cV g__law_cell_1)) (cLCons (c1 (fun a => .ok ((fun a => some ((fun a => a) a)) a)) (c2 oSub (c1 oNeg (cC (1 : Int))) (cV g__law_cell_1))) (cLCons (c1 (fun a => .ok ((fun a => some ((fun a => a) a)) a)) (c2 oAdd (c2 oPow (cC (10 : Int)) (cC (24 : Int))) (cV g__law_cell_1))) (cLCons (c1 (fun a => .ok ((fun _ => Option.none) a)) (cC ())) (cLCons (c1 (fun a => .ok ((fun a => some ((fun a => a) a)) a)) (cC (7 : Int))) cLNil))))))))) (xCallE t__law_take p__law_cell_0 (fun as : HL [(List Int), Int] => as.1) (xaSlot g__law_cell_0 (xaCons (xL (cC (8 : Int))) xaNil))))))
def i__law_cell (as : HL U__law_cell) : G__law_cell := (as.1, (0 : Int), ())
def o__law_cell (as : HL U__law_cell) (γ : G__law_cell) : HL U__law_cell := (γ.1, ())
noncomputable def t__law_cell : HL U__law_cell → ER (HL U__law_cell) (Option Int) := runE B__law_cell i__law_cell o__law_cell Option.none
abbrev T__law_is : List Type := [Int, Int]
abbrev G__law_is : Type := HL T__law_is
abbrev s__law_is : SL T__law_is := (.cons tyInt (.cons tyInt .nil))
abbrev U__law_is : List Type := [Int, Int]
abbrev al__law_is : SL U__law_is := (.cons tyInt (.cons tyInt .nil))
@[simp] def g__law_is_0 (γ : G__law_is) : Int := γ.1
@[simp] def p__law_is_0 (a : Int) (γ : G__law_is) : G__law_is := (a, γ.2)
@[simp] def g__law_is_1 (γ : G__law_is) : Int := γ.2.1
@[simp] def p__law_is_1 (a : Int) (γ : G__law_is) : G__law_is := (γ.1, a, γ.2.2)
noncomputable def B__law_is : G__law_is → SR G__law_is Bool := (tRet (xL (cAnd (c1 (fun a => oIsi "int" (tyInt.enc a)) (cV g__law_is_0)) (cAnd (cNot (c1 (fun a => oIsi "bool" (tyInt.enc a)) (cV g__law_is_0))) (c2 (fun x y => oEq false (tyInt.enc x) (tyInt.enc y)) (cV g__law_is_0) (cV g__law_is_1))))))
def i__law_is (as : HL U__law_is) : G__law_is := (as.1, as.2.1, ())
def o__law_is (as : HL U__law_is) (γ : G__law_is) : HL U__law_is := (as.1, as.2.1, ())
noncomputable def t__law_is : HL U__law_is → ER (HL U__law_is) Bool := runE B__law_is i__law_is o__law_is Option.none
noncomputable def c__law_is : HL U__law_is → PR Bool := runC B__law_is i__law_is Option.none
abbrev T__is_cell : List Type := [Fs.Data]
abbrev G__is_cell : Type := HL T__is_cell
abbrev s__is_cell : SL T__is_cell := (.cons tyData .nil)
abbrev U__is_cell : List Type := [Fs.Data]
abbrev al__is_cell : SL U__is_cell := (.cons tyData .nil)
@[simp] def g__is_cell_0 (γ : G__is_cell) : Fs.Data := γ.1
@[simp] def p__is_cell_0 (a : Fs.Data) (γ : G__is_cell) : G__is_cell := (a, γ.2)
noncomputable def B__is_cell : G__is_cell → SR G__is_cell Bool := (tRet (xL (cOr (c1 (fun x => oIs false (tyData.enc x)) (cV g__is_cell_0)) (cAnd (c1 (fun a => oIsi "int" (tyData.enc a)) (cV g__is_cell_0)) (cNot (c1 (fun a => oIsi "bool" (tyData.enc a)) (cV g__is_cell_0)))))))
def i__is_cell (as : HL U__is_cell) : G__is_cell := (as.1, ())
def o__is_cell (as : HL U__is_cell) (γ : G__is_cell) : HL U__is_cell := (as.1, ())
noncomputable def t__is_cell : HL U__is_cell → ER (HL U__is_cell) Bool := runE B__is_cell i__is_cell o__is_cell Option.none
noncomputable def c__is_cell : HL U__is_cell → PR Bool := runC B__is_cell i__is_cell Option.none
abbrev T_Schema_columns : List Type := [O_Schema, Str]
abbrev G_Schema_columns : Type := HL T_Schema_columns
abbrev s_Schema_columns : SL T_Schema_columns := (.cons r_Schema (.cons tyStr .nil))
abbrev U_Schema_columns : List Type := [O_Schema, Str]
abbrev al_Schema_columns : SL U_Schema_columns := (.cons r_Schema (.cons tyStr .nil))
@[simp] def g_Schema_columns_0 (γ : G_Schema_columns) : O_Schema := γ.1
@[simp] def p_Schema_columns_0 (a : O_Schema) (γ : G_Schema_columns) : G_Schema_columns := (a, γ.2)
@[simp] def g_Schema_columns_1 (γ : G_Schema_columns) : Str := γ.2.1
@[simp] def p_Schema_columns_1 (a : Str) (γ : G_Schema_columns) : G_Schema_columns := (γ.1, a, γ.2.2)
noncomputable def B_Schema_columns : G_Schema_columns → SR G_Schema_columns (List Str) := (tSeq (tIf (xL (c2 (oInA true) (cV g_Schema_columns_1) (c1 (fun x : O_Schema => .ok (x.2.1)) (cV g_Schema_columns_0)))) (tRaise 20 tyStr.enc (xL (cV g_Schema_columns_1))) tNext) (tRet (xL (c1 oId (c2 oGetA (c1 (fun x : O_Schema => .ok (x.2.1)) (cV g_Schema_columns_0)) (cV g_Schema_columns_1))))))
def i_Schema_columns (as : HL U_Schema_columns) : G_Schema_columns := (as.1, as.2.1, ())
def o_Schema_columns (as : HL U_Schema_columns) (γ : G_Schema_columns) : HL U_Schema_columns := (as.1, as.2.1, ())
noncomputable def t_Schema_columns : HL U_Schema_columns → ER (HL U_Schema_columns) (List Str) := runE B_Schema_columns i_Schema_columns o_Schema_columns Option.none
noncomputable def c_Schema_columns : HL U_Schema_columns → PR (List Str) := runC B_Schema_columns i_Schema_columns Option.none
abbrev T_Store_put : List Type := [O_Store, Str, Fs.Data, (List Str), Fs.Data]
abbrev G_Store_put : Type := HL T_Store_put
abbrev s_Store_put : SL T_Store_put := (.cons r_Store (.cons tyStr (.cons tyDV (.cons (tyList tyStr) (.cons tyData .nil)))))
abbrev U_Store_put : List Type := [O_Store, Str, Fs.Data]
abbrev al_Store_put : SL U_Store_put := (.cons r_Store (.cons tyStr (.cons tyDV .nil)))
@[simp] def g_Store_put_0 (γ : G_Store_put) : O_Store := γ.1
@[simp] def p_Store_put_0 (a : O_Store) (γ : G_Store_put) : G_Store_put := (a, γ.2)
@[simp] def g_Store_put_1 (γ : G_Store_put) : Str := γ.2.1
@[simp] def p_Store_put_1 (a : Str) (γ : G_Store_put) : G_Store_put := (γ.1, a, γ.2.2)
@[simp] def g_Store_put_2 (γ : G_Store_put) : Fs.Data := γ.2.2.1
@[simp] def p_Store_put_2 (a : Fs.Data) (γ : G_Store_put) : G_Store_put := (γ.1, γ.2.1, a, γ.2.2.2)
@[simp] def g_Store_put_3 (γ : G_Store_put) : (List Str) := γ.2.2.2.1
@[simp] def p_Store_put_3 (a : (List Str)) (γ : G_Store_put) : G_Store_put := (γ.1, γ.2.1, γ.2.2.1, a, γ.2.2.2.2)
@[simp] def g_Store_put_4 (γ : G_Store_put) : Fs.Data := γ.2.2.2.2.1
@[simp] def p_Store_put_4 (a : Fs.Data) (γ : G_Store_put) : G_Store_put := (γ.1, γ.2.1, γ.2.2.1, γ.2.2.2.1, a, γ.2.2.2.2.2)
noncomputable def tb1_Store_put : G_Store_put → SR G_Store_put Int := (tKill (fun γ => (p_Store_put_4 Fs.Data.none γ)) (tIf (xL (cNot (cCall c__is_cell (cCons (cV g_Store_put_4) cNil)))) (tRaise 23 tyStr.enc (xL (cV g_Store_put_1))) tNext))
noncomputable def B_Store_put : G_Store_put → SR G_Store_put Int := (tSeq (tSet p_Store_put_3 (xL (cCall c_Schema_columns (cCons (c1 (fun x : O_Store => .ok (x.1)) (cV g_Store_put_0)) (cCons (cV g_Store_put_1) cNil))))) (tSeq (tIf (xL (c2 (fun x y => oEq true (tyInt.enc x) (tyInt.enc y)) (c1 oLenD (cV g_Store_put_2)) (c1 oLen (cV g_Store_put_3)))) (tRaise 23 tyStr.enc (xL (cV g_Store_put_1))) tNext) (tSeq (tFor (x1 oSeqD (xL (cV g_Store_put_2))) p_Store_put_4 tb1_Store_put) (tSeq (tIf (xL (c2 (fun x y => oEq false (tyInt.enc x) (tyInt.enc y)) (c1 oLen (c2 oGetA (c1 (fun x : O_Store => .ok (x.2.1)) (cV g_Store_put_0)) (cV g_Store_put_1))) (cC (200 : Int)))) (tRaise 30 tyStr.enc (xL (cV g_Store_put_1))) tNext) (tSeq (tDo (xAppO (c2 oGetA (cV (fun γ => (g_Store_put_0 γ).2.1)) (cV g_Store_put_1)) (putKey (cV (fun γ => (g_Store_put_0 γ).2.1)) (cV g_Store_put_1) (fun (a : (List (Str × (List Fs.Data)))) γ => p_Store_put_0 ((fun (a : (List (Str × (List Fs.Data)))) (x : O_Store) => ((x.1, a, x.2.2) : O_Store)) a (g_Store_put_0 γ)) γ)) (c1 (fun a => .ok ((tyTl tyData).enc a)) (c1 oSeqD (cV g_Store_put_2))))) (tRet (xL (c2 oSub (c1 oLen (c2 oGetA (c1 (fun x : O_Store => .ok (x.2.1)) (cV g_Store_put_0)) (cV g_Store_put_1))) (cC (1 : Int))))))))))
def i_Store_put (as : HL U_Store_put) : G_Store_put := (as.1, as.2.1, as.2.2.1, ([] : (List Str)), Fs.Data.none, ())
def o_Store_put (as : HL U_Store_put) (γ : G_Store_put) : HL U_Store_put := (γ.1, as.2.1, as.2.2.1, ())
noncomputable def t_Store_put : HL U_Store_put → ER (HL U_Store_put) Int := runE B_Store_put i_Store_put o_Store_put Option.none
abbrev T_Schema_rank : List Type := [O_Schema, Str]
abbrev G_Schema_rank : Type := HL T_Schema_rank
abbrev s_Schema_rank : SL T_Schema_rank := (.cons r_Schema (.cons tyStr .nil))
abbrev U_Schema_rank : List Type := [O_Schema, Str]
abbrev al_Schema_rank : SL U_Schema_rank := (.cons r_Schema (.cons tyStr .nil))
@[simp] def g_Schema_rank_0 (γ : G_Schema_rank) : O_Schema := γ.1
@[simp] def p_Schema_rank_0 (a : O_Schema) (γ : G_Schema_rank) : G_Schema_rank := (a, γ.2)
@[simp] def g_Schema_rank_1 (γ : G_Schema_rank) : Str := γ.2.1
@[simp] def p_Schema_rank_1 (a : Str) (γ : G_Schema_rank) : G_Schema_rank := (γ.1, a, γ.2.2)
noncomputable def B_Schema_rank : G_Schema_rank → SR G_Schema_rank Int := (tSeq (tIf (xL (c2 (oInA true) (cV g_Schema_rank_1) (c1 (fun x : O_Schema => .ok (x.2.1)) (cV g_Schema_rank_0)))) (tRaise 20 tyStr.enc (xL (cV g_Schema_rank_1))) tNext) (tRet (xL (c2 (fun xs x => oIndex (tyStr.enc x) (xs.map tyStr.enc)) (c1 (fun x : O_Schema => .ok (x.1)) (cV g_Schema_rank_0)) (cV g_Schema_rank_1)))))
def i_Schema_rank (as : HL U_Schema_rank) : G_Schema_rank := (as.1, as.2.1, ())
def o_Schema_rank (as : HL U_Schema_rank) (γ : G_Schema_rank) : HL U_Schema_rank := (as.1, as.2.1, ())
noncomputable def t_Schema_rank : HL U_Schema_rank → ER (HL U_Schema_rank) Int := runE B_Schema_rank i_Schema_rank o_Schema_rank Option.none
noncomputable def c_Schema_rank : HL U_Schema_rank → PR Int := runC B_Schema_rank i_Schema_rank Option.none
abbrev T_Store_rows : List Type := [O_Store, Str]
abbrev G_Store_rows : Type := HL T_Store_rows
abbrev s_Store_rows : SL T_Store_rows := (.cons r_Store (.cons tyStr .nil))
abbrev U_Store_rows : List Type := [O_Store, Str]
abbrev al_Store_rows : SL U_Store_rows := (.cons r_Store (.cons tyStr .nil))
@[simp] def g_Store_rows_0 (γ : G_Store_rows) : O_Store := γ.1
@[simp] def p_Store_rows_0 (a : O_Store) (γ : G_Store_rows) : G_Store_rows := (a, γ.2)
@[simp] def g_Store_rows_1 (γ : G_Store_rows) : Str := γ.2.1
@[simp] def p_Store_rows_1 (a : Str) (γ : G_Store_rows) : G_Store_rows := (γ.1, a, γ.2.2)
noncomputable def B_Store_rows : G_Store_rows → SR G_Store_rows (List Fs.Data) := (tSeq (tDo (xL (cCall c_Schema_rank (cCons (c1 (fun x : O_Store => .ok (x.1)) (cV g_Store_rows_0)) (cCons (cV g_Store_rows_1) cNil))))) (tRet (xL (c2 oGetA (c1 (fun x : O_Store => .ok (x.2.1)) (cV g_Store_rows_0)) (cV g_Store_rows_1)))))
def i_Store_rows (as : HL U_Store_rows) : G_Store_rows := (as.1, as.2.1, ())
def o_Store_rows (as : HL U_Store_rows) (γ : G_Store_rows) : HL U_Store_rows := (as.1, as.2.1, ())
noncomputable def t_Store_rows : HL U_Store_rows → ER (HL U_Store_rows) (List Fs.Data) := runE B_Store_rows i_Store_rows o_Store_rows Option.none
noncomputable def c_Store_rows : HL U_Store_rows → PR (List Fs.Data) := runC B_Store_rows i_Store_rows Option.none
abbrev T_Store_size : List Type := [O_Store, (List Fs.Data)]
abbrev G_Store_size : Type := HL T_Store_size
abbrev s_Store_size : SL T_Store_size := (.cons r_Store (.cons (tyList tyData) .nil))
abbrev U_Store_size : List Type := [O_Store]
abbrev al_Store_size : SL U_Store_size := (.cons r_Store .nil)
@[simp] def g_Store_size_0 (γ : G_Store_size) : O_Store := γ.1
@[simp] def p_Store_size_0 (a : O_Store) (γ : G_Store_size) : G_Store_size := (a, γ.2)
@[simp] def g_Store_size_1 (γ : G_Store_size) : (List Fs.Data) := γ.2.1
@[simp] def p_Store_size_1 (a : (List Fs.Data)) (γ : G_Store_size) : G_Store_size := (γ.1, a, γ.2.2)
noncomputable def B_Store_size : G_Store_size → SR G_Store_size Int := (tRet (xL (c1 oSumVals (c1 (fun x : O_Store => .ok (x.2.1)) (cV g_Store_size_0)))))
def i_Store_size (as : HL U_Store_size) : G_Store_size := (as.1, ([] : (List Fs.Data)), ())
def o_Store_size (as : HL U_Store_size) (γ : G_Store_size) : HL U_Store_size := (as.1, ())
noncomputable def t_Store_size : HL U_Store_size → ER (HL U_Store_size) Int := runE B_Store_size i_Store_size o_Store_size Option.none
noncomputable def c_Store_size : HL U_Store_size → PR Int := runC B_Store_size i_Store_size Option.none
abbrev T__law_holds : List Type := [O_Store, (List (HL [Str, (List Str)])), (List (List Fs.Data)), Int, Int, (List Fs.Data), Fs.Data, Fs.Data]
abbrev G__law_holds : Type := HL T__law_holds
abbrev s__law_holds : SL T__law_holds := (.cons r_Store (.cons (tyList (tyTup (.cons tyStr (.cons (tyList tyStr) .nil)))) (.cons (tyListL (tyList tyData)) (.cons tyInt (.cons tyInt (.cons (tyList tyData) (.cons tyData (.cons tyData .nil))))))))
abbrev U__law_holds : List Type := [O_Store, (List (HL [Str, (List Str)])), (List (List Fs.Data))]
abbrev al__law_holds : SL U__law_holds := (.cons r_Store (.cons (tyList (tyTup (.cons tyStr (.cons (tyList tyStr) .nil)))) (.cons (tyListL (tyList tyData)) .nil)))
@[simp] def g__law_holds_0 (γ : G__law_holds) : O_Store := γ.1
@[simp] def p__law_holds_0 (a : O_Store) (γ : G__law_holds) : G__law_holds := (a, γ.2)
@[simp] def g__law_holds_1 (γ : G__law_holds) : (List (HL [Str, (List Str)])) := γ.2.1
@[simp] def p__law_holds_1 (a : (List (HL [Str, (List Str)]))) (γ : G__law_holds) : G__law_holds := (γ.1, a, γ.2.2)
@[simp] def g__law_holds_2 (γ : G__law_holds) : (List (List Fs.Data)) := γ.2.2.1
@[simp] def p__law_holds_2 (a : (List (List Fs.Data))) (γ : G__law_holds) : G__law_holds := (γ.1, γ.2.1, a, γ.2.2.2)
@[simp] def g__law_holds_3 (γ : G__law_holds) : Int := γ.2.2.2.1
@[simp] def p__law_holds_3 (a : Int) (γ : G__law_holds) : G__law_holds := (γ.1, γ.2.1, γ.2.2.1, a, γ.2.2.2.2)
@[simp] def g__law_holds_4 (γ : G__law_holds) : Int := γ.2.2.2.2.1
@[simp] def p__law_holds_4 (a : Int) (γ : G__law_holds) : G__law_holds := (γ.1, γ.2.1, γ.2.2.1, γ.2.2.2.1, a, γ.2.2.2.2.2)
@[simp] def g__law_holds_5 (γ : G__law_holds) : (List Fs.Data) := γ.2.2.2.2.2.1
@[simp] def p__law_holds_5 (a : (List Fs.Data)) (γ : G__law_holds) : G__law_holds := (γ.1, γ.2.1, γ.2.2.1, γ.2.2.2.1, γ.2.2.2.2.1, a, γ.2.2.2.2.2.2)
@[simp] def g__law_holds_6 (γ : G__law_holds) : Fs.Data := γ.2.2.2.2.2.2.1
@[simp] def p__law_holds_6 (a : Fs.Data) (γ : G__law_holds) : G__law_holds := (γ.1, γ.2.1, γ.2.2.1, γ.2.2.2.1, γ.2.2.2.2.1, γ.2.2.2.2.2.1, a, γ.2.2.2.2.2.2.2)
@[simp] def g__law_holds_7 (γ : G__law_holds) : Fs.Data := γ.2.2.2.2.2.2.2.1
@[simp] def p__law_holds_7 (a : Fs.Data) (γ : G__law_holds) : G__law_holds := (γ.1, γ.2.1, γ.2.2.1, γ.2.2.2.1, γ.2.2.2.2.1, γ.2.2.2.2.2.1, γ.2.2.2.2.2.2.1, a, γ.2.2.2.2.2.2.2.2)
noncomputable def tb1__law_holds : G__law_holds → SR G__law_holds Bool := (tKill (fun γ => (p__law_holds_7 Fs.Data.none γ)) (tIf (xL (cOr (cNot (c1 (fun a => oIsi "tuple" (tyData.enc a)) (cV g__law_holds_6))) (c1 (fun a => oIsi "bool" (tyData.enc a)) (cV g__law_holds_7)))) (tRet (xL (cC false))) tNext))
noncomputable def tb2__law_holds : G__law_holds → SR G__law_holds Bool := (tKill (fun γ => (p__law_holds_6 Fs.Data.none γ)) (tFor (x1 oSeqD (xL (cV g__law_holds_6))) p__law_holds_7 tb1__law_holds))
noncomputable def tb3__law_holds : G__law_holds → SR G__law_holds Bool := (tKill (fun γ => (p__law_holds_5 ([] : (List Fs.Data)) (p__law_holds_4 (0 : Int) γ))) (tSeq (tSet p__law_holds_5 (xCallN t_Store_rows (cCons (cV g__law_holds_0) (cCons (c1 (fun x : (HL [Str, (List Str)]) => .ok (x.1)) (c2 oIdx (cV g__law_holds_1) (cV g__law_holds_4))) cNil)))) (tSeq (tIf (xL (cOr (cNot (c1 (fun a => oIsi "list" ((tyList tyData).enc a)) (cV g__law_holds_5))) (c2 (fun x y => oEq true ((tyList tyData).enc x) ((tyList tyData).enc y)) (cV g__law_holds_5) (c2 oIdx (cV g__law_holds_2) (cV g__law_holds_4))))) (tRet (xL (cC false))) tNext) (tSeq (tLend g__law_holds_5 p__law_holds_5 (tFor (fun γ => .ok (g__law_holds_5 γ) γ) p__law_holds_6 tb2__law_holds)) (tSeq (tDo (xIns g__law_holds_5 p__law_holds_5 (xL (cC (0 : Int))) (xL (c1 (fun a => .ok ((tyTup (.cons tyStr .nil)).enc a)) (cCons (cC ("q0" : Str)) cNil))))) (tSet p__law_holds_3 (xL (c2 oAdd (cV g__law_holds_3) (c1 oLen (c2 oIdx (cV g__law_holds_2) (cV g__law_holds_4)))))))))))
noncomputable def B__law_holds : G__law_holds → SR G__law_holds Bool := (tSeq (tSet p__law_holds_3 (xL (cC (0 : Int)))) (tSeq (tFor (x1 oRng (xL (c1 oLen (cV g__law_holds_1)))) p__law_holds_4 tb3__law_holds) (tRet (xL (cCall c__law_is (cCons (cCall c_Store_size (cCons (cV g__law_holds_0) cNil)) (cCons (cV g__law_holds_3) cNil)))))))
def i__law_holds (as : HL U__law_holds) : G__law_holds := (as.1, as.2.1, as.2.2.1, (0 : Int), (0 : Int), ([] : (List Fs.Data)), Fs.Data.none, Fs.Data.none, ())
def o__law_holds (as : HL U__law_holds) (γ : G__law_holds) : HL U__law_holds := (as.1, as.2.1, as.2.2.1, ())
noncomputable def t__law_holds : HL U__law_holds → ER (HL U__law_holds) Bool := runE B__law_holds i__law_holds o__law_holds Option.none
noncomputable def c__law_holds : HL U__law_holds → PR Bool := runC B__law_holds i__law_holds Option.none
abbrev T__law_unknown : List Type := [O_Store, Str, Fs.Data, Int]
abbrev G__law_unknown : Type := HL T__law_unknown
abbrev s__law_unknown : SL T__law_unknown := (.cons r_Store (.cons tyStr (.cons tyData (.cons tyInt .nil))))
abbrev U__law_unknown : List Type := [O_Store, Str]
abbrev al__law_unknown : SL U__law_unknown := (.cons r_Store (.cons tyStr .nil))
@[simp] def g__law_unknown_0 (γ : G__law_unknown) : O_Store := γ.1
@[simp] def p__law_unknown_0 (a : O_Store) (γ : G__law_unknown) : G__law_unknown := (a, γ.2)
@[simp] def g__law_unknown_1 (γ : G__law_unknown) : Str := γ.2.1
@[simp] def p__law_unknown_1 (a : Str) (γ : G__law_unknown) : G__law_unknown := (γ.1, a, γ.2.2)
@[simp] def g__law_unknown_2 (γ : G__law_unknown) : Fs.Data := γ.2.2.1
@[simp] def p__law_unknown_2 (a : Fs.Data) (γ : G__law_unknown) : G__law_unknown := (γ.1, γ.2.1, a, γ.2.2.2)
@[simp] def g__law_unknown_3 (γ : G__law_unknown) : Int := γ.2.2.2.1
@[simp] def p__law_unknown_3 (a : Int) (γ : G__law_unknown) : G__law_unknown := (γ.1, γ.2.1, γ.2.2.1, a, γ.2.2.2.2)
noncomputable def B__law_unknown : G__law_unknown → SR G__law_unknown Fs.Data := (tSeq (tSet p__law_unknown_2 (xL (c1 (fun a => .ok (tyNone.enc a)) (cC ())))) (tSeq (tTryAs [20, 23, 30] 20 (tKill (fun γ => (p__law_unknown_1 ("" : Str) (p__law_unknown_0 d_O_Store γ))) (tDo (xL (cCall c_Store_rows (cCons (cV g__law_unknown_0) (cCons (cV g__law_unknown_1) cNil)))))) (tcase fun x => (tSet p__law_unknown_2 (xL (cC x))))) (tRet (xL (cV g__law_unknown_2)))))
def i__law_unknown (as : HL U__law_unknown) : G__law_unknown := (as.1, as.2.1, Fs.Data.none, (0 : Int), ())
def o__law_unknown (as : HL U__law_unknown) (γ : G__law_unknown) : HL U__law_unknown := (as.1, as.2.1, ())
noncomputable def t__law_unknown : HL U__law_unknown → ER (HL U__law_unknown) Fs.Data := runE B__law_unknown i__law_unknown o__law_unknown Option.none
noncomputable def c__law_unknown : HL U__law_unknown → PR Fs.Data := runC B__law_unknown i__law_unknown Option.none
abbrev T_Schema_names : List Type := [O_Schema]
abbrev G_Schema_names : Type := HL T_Schema_names
abbrev s_Schema_names : SL T_Schema_names := (.cons r_Schema .nil)
abbrev U_Schema_names : List Type := [O_Schema]
abbrev al_Schema_names : SL U_Schema_names := (.cons r_Schema .nil)
@[simp] def g_Schema_names_0 (γ : G_Schema_names) : O_Schema := γ.1
@[simp] def p_Schema_names_0 (a : O_Schema) (γ : G_Schema_names) : G_Schema_names := (a, γ.2)
noncomputable def B_Schema_names : G_Schema_names → SR G_Schema_names (List Str) := (tRet (xL (c1 oId (c1 (fun x : O_Schema => .ok (x.1)) (cV g_Schema_names_0)))))
def i_Schema_names (as : HL U_Schema_names) : G_Schema_names := (as.1, ())
def o_Schema_names (as : HL U_Schema_names) (γ : G_Schema_names) : HL U_Schema_names := (as.1, ())
noncomputable def t_Schema_names : HL U_Schema_names → ER (HL U_Schema_names) (List Str) := runE B_Schema_names i_Schema_names o_Schema_names Option.none
noncomputable def c_Schema_names : HL U_Schema_names → PR (List Str) := runC B_Schema_names i_Schema_names Option.none
abbrev T_law : List Type := [(List Int), (List Int), (List (HL [Str, (List Str)])), O_Schema, (List O_Store), (List (List (List Fs.Data))), Int, Int, Int, (List (Option Int)), Int, O_Store, (HL [Str, (List Str)]), Str]
abbrev G_law : Type := HL T_law
abbrev s_law : SL T_law := (.cons tyScr (.cons (tyList tyInt) (.cons (tyList (tyTup (.cons tyStr (.cons (tyList tyStr) .nil)))) (.cons r_Schema (.cons (tyListL (tyFull 2 r_Store)) (.cons (tyListL (tyListL (tyList tyData))) (.cons tyInt (.cons tyInt (.cons tyInt (.cons (tyList (tyOpt tyInt)) (.cons tyInt (.cons r_Store (.cons (tyTup (.cons tyStr (.cons (tyList tyStr) .nil))) (.cons tyStr .nil))))))))))))))
abbrev U_law : List Type := [(List Int)]
abbrev al_law : SL U_law := (.cons tyScr .nil)
@[simp] def g_law_0 (γ : G_law) : (List Int) := γ.1
@[simp] def p_law_0 (a : (List Int)) (γ : G_law) : G_law := (a, γ.2)
@[simp] def g_law_1 (γ : G_law) : (List Int) := γ.2.1
@[simp] def p_law_1 (a : (List Int)) (γ : G_law) : G_law := (γ.1, a, γ.2.2)
@[simp] def g_law_2 (γ : G_law) : (List (HL [Str, (List Str)])) := γ.2.2.1
@[simp] def p_law_2 (a : (List (HL [Str, (List Str)]))) (γ : G_law) : G_law := (γ.1, γ.2.1, a, γ.2.2.2)
@[simp] def g_law_3 (γ : G_law) : O_Schema := γ.2.2.2.1
@[simp] def p_law_3 (a : O_Schema) (γ : G_law) : G_law := (γ.1, γ.2.1, γ.2.2.1, a, γ.2.2.2.2)
@[simp] def g_law_4 (γ : G_law) : (List O_Store) := γ.2.2.2.2.1
@[simp] def p_law_4 (a : (List O_Store)) (γ : G_law) : G_law := (γ.1, γ.2.1, γ.2.2.1, γ.2.2.2.1, a, γ.2.2.2.2.2)
@[simp] def g_law_5 (γ : G_law) : (List (List (List Fs.Data))) := γ.2.2.2.2.2.1
@[simp] def p_law_5 (a : (List (List (List Fs.Data)))) (γ : G_law) : G_law := (γ.1, γ.2.1, γ.2.2.1, γ.2.2.2.1, γ.2.2.2.2.1, a, γ.2.2.2.2.2.2)
@[simp] def g_law_6 (γ : G_law) : Int := γ.2.2.2.2.2.2.1
@[simp] def p_law_6 (a : Int) (γ : G_law) : G_law := (γ.1, γ.2.1, γ.2.2.1, γ.2.2.2.1, γ.2.2.2.2.1, γ.2.2.2.2.2.1, a, γ.2.2.2.2.2.2.2)
@[simp] def g_law_7 (γ : G_law) : Int := γ.2.2.2.2.2.2.2.1
@[simp] def p_law_7 (a : Int) (γ : G_law) : G_law := (γ.1, γ.2.1, γ.2.2.1, γ.2.2.2.1, γ.2.2.2.2.1, γ.2.2.2.2.2.1, γ.2.2.2.2.2.2.1, a, γ.2.2.2.2.2.2.2.2)
@[simp] def g_law_8 (γ : G_law) : Int := γ.2.2.2.2.2.2.2.2.1
@[simp] def p_law_8 (a : Int) (γ : G_law) : G_law := (γ.1, γ.2.1, γ.2.2.1, γ.2.2.2.1, γ.2.2.2.2.1, γ.2.2.2.2.2.1, γ.2.2.2.2.2.2.1, γ.2.2.2.2.2.2.2.1, a, γ.2.2.2.2.2.2.2.2.2)
@[simp] def g_law_9 (γ : G_law) : (List (Option Int)) := γ.2.2.2.2.2.2.2.2.2.1
@[simp] def p_law_9 (a : (List (Option Int))) (γ : G_law) : G_law := (γ.1, γ.2.1, γ.2.2.1, γ.2.2.2.1, γ.2.2.2.2.1, γ.2.2.2.2.2.1, γ.2.2.2.2.2.2.1, γ.2.2.2.2.2.2.2.1, γ.2.2.2.2.2.2.2.2.1, a, γ.2.2.2.2.2.2.2.2.2.2)
@[simp] def g_law_10 (γ : G_law) : Int := γ.2.2.2.2.2.2.2.2.2.2.1
@[simp] def p_law_10 (a : Int) (γ : G_law) : G_law := (γ.1, γ.2.1, γ.2.2.1, γ.2.2.2.1, γ.2.2.2.2.1, γ.2.2.2.2.2.1, γ.2.2.2.2.2.2.1, γ.2.2.2.2.2.2.2.1, γ.2.2.2.2.2.2.2.2.1, γ.2.2.2.2.2.2.2.2.2.1, a, γ.2.2.2.2.2.2.2.2.2.2.2)
@[simp] def g_law_11 (γ : G_law) : O_Store := γ.2.2.2.2.2.2.2.2.2.2.2.1
@[simp] def p_law_11 (a : O_Store) (γ : G_law) : G_law := (γ.1, γ.2.1, γ.2.2.1, γ.2.2.2.1, γ.2.2.2.2.1, γ.2.2.2.2.2.1, γ.2.2.2.2.2.2.1, γ.2.2.2.2.2.2.2.1, γ.2.2.2.2.2.2.2.2.1, γ.2.2.2.2.2.2.2.2.2.1, γ.2.2.2.2.2.2.2.2.2.2.1, a, γ.2.2.2.2.2.2.2.2.2.2.2.2)
@[simp] def g_law_12 (γ : G_law) : (HL [Str, (List Str)]) := γ.2.2.2.2.2.2.2.2.2.2.2.2.1
@[simp] def p_law_12 (a : (HL [Str, (List Str)])) (γ : G_law) : G_law := (γ.1, γ.2.1, γ.2.2.1, γ.2.2.2.1, γ.2.2.2.2.1, γ.2.2.2.2.2.1, γ.2.2.2.2.2.2.1, γ.2.2.2.2.2.2.2.1, γ.2.2.2.2.2.2.2.2.1, γ.2.2.2.2.2.2.2.2.2.1, γ.2.2.2.2.2.2.2.2.2.2.1, γ.2.2.2.2.2.2.2.2.2.2.2.1, a, γ.2.2.2.2.2.2.2.2.2.2.2.2.2)
@[simp] def g_law_13 (γ : G_law) : Str := γ.2.2.2.2.2.2.2.2.2.2.2.2.2.1
@[simp] def p_law_13 (a : Str) (γ : G_law) : G_law := (γ.1, γ.2.1, γ.2.2.1, γ.2.2.2.1, γ.2.2.2.2.1, γ.2.2.2.2.2.1, γ.2.2.2.2.2.2.1, γ.2.2.2.2.2.2.2.1, γ.2.2.2.2.2.2.2.2.1, γ.2.2.2.2.2.2.2.2.2.1, γ.2.2.2.2.2.2.2.2.2.2.1, γ.2.2.2.2.2.2.2.2.2.2.2.1, γ.2.2.2.2.2.2.2.2.2.2.2.2.1, a, γ.2.2.2.2.2.2.2.2.2.2.2.2.2.2)
noncomputable def tb1_law : G_law → SR G_law Bool := (tKill (fun γ => (p_law_10 (0 : Int) (p_law_9 ([] : (List (Option Int))) (p_law_8 (0 : Int) (p_law_7 (0 : Int) (p_law_6 (0 : Int) γ)))))) (tSeq (tSet p_law_7 (x2 oFdv (xCallE t__law_take p_law_1 (fun as : HL [(List Int), Int] => as.1) (xaSlot g_law_1 (xaCons (xL (cC (3 : Int))) xaNil))) (xL (cC (2 : Int))))) (tSeq (tSet p_law_8 (xCallE t__law_take p_law_1 (fun as : HL [(List Int), Int] => as.1) (xaSlot g_law_1 (xaCons (xL (c1 oLen (cV g_law_2))) xaNil)))) (tSeq (tSet p_law_9 (xLc (x1 (fun a => .ok a) (xL (c1 (fun x : (HL [Str, (List Str)]) => .ok (x.2.1)) (c2 oIdx (cV g_law_2) (cV g_law_8))))) p_law_13 (xL (cC true)) (xCallE t__law_cell p_law_1 (fun as : HL [(List Int)] => as.1) (xaSlot g_law_1 xaNil)) (fun γ0 γ => (p_law_13 (g_law_13 γ0) γ)))) (tSeq (tIf (xAnd (x2 (fun x y => oEq false (tyInt.enc x) (tyInt.enc y)) (xCallE t__law_take p_law_1 (fun as : HL [(List Int), Int] => as.1) (xaSlot g_law_1 (xaCons (xL (cC (4 : Int))) xaNil))) (xL (cC (3 : Int)))) (xL (c2 (oCmp gtI) (c1 oLen (c2 oIdx (c2 oIdx (cV g_law_5) (cC (0 : Int))) (cV g_law_8))) (cC (0 : Int))))) (tSet p_law_9 (xL (c1 (fun d => ofO ((decTl (decOpt decInt)) d)) (c2 oIdx (c2 oIdx (c2 oIdx (cV g_law_5) (cC (0 : Int))) (cV g_law_8)) (cC (0 : Int)))))) tNext) (tSeq (tSet p_law_10 (xL (c1 oLen (c2 oIdx (c2 oIdx (cV g_law_5) (cV g_law_7)) (cV g_law_8))))) (tSeq (tDo (xAppO (c2 oIdx (c2 oIdx (cV g_law_5) (cV g_law_7)) (cV g_law_8)) (putIx (c2 oIdx (cV g_law_5) (cV g_law_7)) (cV g_law_8) (putIx (cV g_law_5) (cV g_law_7) p_law_5)) (c1 (fun a => .ok ((tyTl (tyOpt tyInt)).enc a)) (c1 oId (cV g_law_9))))) (tAlias g_law_4 p_law_4 g_law_11 p_law_11 (cV g_law_7) d_O_Store (tSeq (tIf (x2 (fun x y => oEq false (tyInt.enc x) (tyInt.enc y)) (xCallE t__law_take p_law_1 (fun as : HL [(List Int), Int] => as.1) (xaSlot g_law_1 (xaCons (xL (cC (2 : Int))) xaNil))) (xL (cC (1 : Int)))) (tIf (xNot (xCall c__law_is (xCons (xCallE t_Store_put p_law_11 (fun as : HL [O_Store, Str, Fs.Data] => as.1) (xaSlot g_law_11 (xaCons (xL (c1 (fun x : (HL [Str, (List Str)]) => .ok (x.1)) (c2 oIdx (cV g_law_2) (cV g_law_8)))) (xaCons (xL (c1 (fun a => .ok ((tyTl (tyOpt tyInt)).enc a)) (c1 oId (cV g_law_9)))) xaNil)))) (xCons (xL (cV g_law_10)) xNil)))) (tRet (xL (cC false))) tNext) (tIf (xNot (xCall c__law_is (xCons (xCallE t_Store_put p_law_11 (fun as : HL [O_Store, Str, Fs.Data] => as.1) (xaSlot g_law_11 (xaCons (xL (c1 (fun x : (HL [Str, (List Str)]) => .ok (x.1)) (c2 oIdx (cV g_law_2) (cV g_law_8)))) (xaSlot (fun γ => (tyList (tyOpt tyInt)).enc (g_law_9 γ)) xaNil)))) (xCons (xL (cV g_law_10)) xNil)))) (tRet (xL (cC false))) tNext)) (tSeq (tDo (xApp g_law_9 p_law_9 (xL (c1 (fun a => .ok ((fun a => some ((fun a => a) a)) a)) (cC (5 : Int)))))) (tSetIx g_law_9 p_law_9 (xL (cC (0 : Int))) (xL (c1 (fun a => .ok ((fun a => some ((fun a => a) a)) a)) (cC (6 : Int)))))))))))))))
noncomputable def tb2_law : G_law → SR G_law Bool := (tKill (fun γ => (p_law_7 (0 : Int) γ)) (tIf (xL (cNot (cCall c__law_holds (cCons (c2 oIdx (cV g_law_4) (cV g_law_7)) (cCons (cV g_law_2) (cCons (c2 oIdx (cV g_law_5) (cV g_law_7)) cNil)))))) (tRet (xL (cC false))) tNext))
noncomputable def B_law : G_law → SR G_law Bool := (tSeq (tSet p_law_1 (xCallN t__law_pool (cCons (cV g_law_0) cNil))) (tSeq (tSet p_law_2 (xCallE t__law_tables p_law_1 (fun as : HL [(List Int), Int, Int] => as.1) (xaSlot g_law_1 (xaCons (xL (cC (4 : Int))) (xaCons (xL (cC (4 : Int))) xaNil))))) (tSeq (tSet p_law_3 (xL (cCall c_Schema_xinit (cCons (cLc (cV g_law_2) p_law_12 (cC true) (cCons (c1 (fun x : (HL [Str, (List Str)]) => .ok (x.1)) (cV g_law_12)) (cCons (c1 oId (c1 (fun x : (HL [Str, (List Str)]) => .ok (x.2.1)) (cV g_law_12))) cNil))) cNil)))) (tSeq (tSet p_law_4 (xLim (xLCons (xCallN t_Store_xinit (cCons (cV g_law_3) cNil)) (xLCons (xCallN t_Store_xinit (cCons (cV g_law_3) cNil)) (xL (cLNil (α := O_Store))))))) (tSeq (tSet p_law_5 (xLim (xLCons (xLc (x1 (fun a => .ok a) (xL (cV g_law_2))) p_law_12 (xL (cC true)) (xL (cLNil (α := Fs.Data))) (fun γ0 γ => (p_law_12 (g_law_12 γ0) γ))) (xLCons (xLc (x1 (fun a => .ok a) (xL (cV g_law_2))) p_law_12 (xL (cC true)) (xL (cLNil (α := Fs.Data))) (fun γ0 γ => (p_law_12 (g_law_12 γ0) γ))) (xL (cLNil (α := (List (List Fs.Data))))))))) (tSeq (tFor (x1 oRng (xCallE t__law_take p_law_1 (fun as : HL [(List Int), Int] => as.1) (xaSlot g_law_1 (xaCons (xL (cC (21 : Int))) xaNil)))) p_law_6 tb1_law) (tSeq (tFor (x1 (fun a => .ok a) (xL (cLCons (cC (0 : Int)) (cLCons (cC (1 : Int)) (cLCons (cC (0 : Int)) cLNil))))) p_law_7 tb2_law) (tSeq (tIf (xL (cOr (c2 (fun x y => oEq true (tyData.enc x) (tyStr.enc y)) (cCall c__law_unknown (cCons (c2 oIdx (cV g_law_4) (cC (0 : Int))) (cCons (cC ("q0" : Str)) cNil))) (cC ("q0" : Str))) (c2 (fun x y => oEq true ((tyList tyStr).enc x) ((tyList tyStr).enc y)) (cCall c_Schema_names (cCons (c1 (fun x : O_Store => .ok (x.1)) (c2 oIdx (cV g_law_4) (cC (0 : Int)))) cNil)) (cLc (cV g_law_2) p_law_12 (cC true) (c1 (fun x : (HL [Str, (List Str)]) => .ok (x.1)) (cV g_law_12)))))) (tRet (xL (cC false))) tNext) (tRet (xL (cCall c__law_is (cCons (cC (200 : Int)) (cCons (cC (200 : Int)) cNil)))))))))))))
def i_law (as : HL U_law) : G_law := (as.1, ([] : (List Int)), ([] : (List (HL [Str, (List Str)]))), d_O_Schema, ([] : (List O_Store)), ([] : (List (List (List Fs.Data)))), (0 : Int), (0 : Int), (0 : Int), ([] : (List (Option Int))), (0 : Int), d_O_Store, (("" : Str), ([] : (List Str)), ()), ("" : Str), ())
def o_law (as : HL U_law) (γ : G_law) : HL U_law := (as.1, ())
noncomputable def t_law : HL U_law → ER (HL U_law) Bool := runE B_law i_law o_law Option.none
noncomputable def c_law : HL U_law → PR Bool := runC B_law i_law Option.none
end Ft
namespace Fs
open PySem PySem.Spec L2
mutual
def nb : Data → Data
  | .bool b => .int (if b then 1 else 0)
  | .list xs => .list (nbs xs)
  | .tup xs => .tup (nbs xs)
  | .none => .none
  | .int i => .int i
  | .str s => .str s
  | .dk k => .dk k
  | .dt k => .dt k
  | .lf k => .lf k
  | .ins c f => .ins c f
def nbs : List Data → List Data
  | [] => []
  | x :: r => nb x :: nbs r
end
theorem flatEq_nb : ∀ (d e : Data), flatD d = true → flatD e = true → (flatEq d e = true ↔ nb d = nb e) := by
  intro d e h k
  cases d <;> cases e <;> simp [flatD, flatEq, nb] at h k ⊢
  · rename_i a b
    cases a <;> cases b <;> simp
open Classical in
theorem oIn_flat (neg l : Bool) {x : Data} {ds : List Data} (hx : flatD x = true) (hs : ∀ d ∈ ds, flatD d = true) : oIn neg l x ds = .ok (negB neg (decide (nb x ∈ ds.map nb))) := by
  unfold oIn
  rw [if_pos (by rw [hx, Bool.true_and, List.all_eq_true]; exact hs)]
  congr 2
  rw [Bool.eq_iff_iff, List.any_eq_true, decide_eq_true_iff, List.mem_map]
  constructor
  · rintro ⟨z, hz, e⟩
    exact ⟨z, hz, (flatEq_nb z x (hs z hz) hx).mp e⟩
  · rintro ⟨z, hz, e⟩
    exact ⟨z, hz, (flatEq_nb z x (hs z hz) hx).mpr e⟩
theorem in_str (neg l : Bool) (x : Str) (xs : List Str) : oIn neg l (tyStr.enc x) (xs.map tyStr.enc) = .ok (negB neg (decide (x ∈ xs))) := by
  have e : xs.map tyStr.enc = xs.map Data.str := rfl
  rw [e]
  show oIn neg l (.str x) _ = _
  rw [oIn_flat neg l (x := .str x) rfl (fun d hd => by
    obtain ⟨y, _, rfl⟩ := List.mem_map.mp hd
    rfl)]
  congr 2
  rw [decide_eq_decide]
  simp only [List.map_map, List.mem_map, Function.comp, nb, Data.str.injEq, exists_eq_right]
abbrev Fld : Type := HL [Str, Str]
instance : DecidableEq Fld := inferInstanceAs (DecidableEq (Str × Str × Unit))
theorem eq_str (neg : Bool) (a b : Str) : oEq neg (tyStr.enc a) (tyStr.enc b) = .ok (if neg then !(a == b) else a == b) := rfl
theorem eq_int (neg : Bool) (a b : Int) : oEq neg (tyInt.enc a) (tyInt.enc b) = .ok (if neg then !(a == b) else a == b) := rfl
theorem index_str (x : Str) (xs : List Str) : oIndex (tyStr.enc x) (xs.map tyStr.enc) = match xs.findIdx? (· == x) with
  | some j => .ok (j : Nat)
  | Option.none => .bad := by
  unfold oIndex
  rw [if_pos ⟨rfl, by rw [List.all_eq_true]; intro d hd; obtain ⟨y, _, rfl⟩ := List.mem_map.mp hd; rfl⟩]
  have e : (xs.map tyStr.enc).findIdx? (fun z => flatEq z (tyStr.enc x)) = xs.findIdx? (· == x) := by
    rw [List.findIdx?_map]
    rfl
  rw [e]
  all_goals cases xs.findIdx? (· == x) <;> rfl
theorem in_strD (neg l : Bool) (x : Str) (xs : List Str) : oIn neg l (.str x) (xs.map tyStr.enc) = .ok (negB neg (decide (x ∈ xs))) := in_str neg l x xs
theorem index_strD (x : Str) (xs : List Str) : oIndex (.str x) (xs.map tyStr.enc) = match xs.findIdx? (· == x) with
  | some j => .ok (j : Nat)
  | Option.none => .bad := index_str x xs
end Fs
namespace Ft
open PySem PySem.Spec L2 Fs
theorem getA_none {α : Type} {kvs : List (Str × α)} {k : Str} : getA kvs k = Option.none ↔ k ∉ kvs.map (·.1) := by
  unfold getA
  rw [Option.map_eq_none_iff, List.find?_eq_none]
  simp only [decide_eq_true_eq, List.mem_map, not_exists, not_and]
theorem getA_cons {α : Type} (x : Str × α) (r : List (Str × α)) (k : Str) : getA (x :: r) k = if x.1 = k then some x.2 else getA r k := by
  unfold getA
  rw [List.find?_cons]
  by_cases h : x.1 = k <;> simp [h]
theorem getA_some {α : Type} {kvs : List (Str × α)} (nd : (kvs.map (·.1)).Nodup) {k : Str} {a : α} (h : (k, a) ∈ kvs) : getA kvs k = some a := by
  induction kvs with
  | nil => cases h
  | cons x r ih =>
    rw [List.map_cons, List.nodup_cons] at nd
    rw [getA_cons]
    rcases List.mem_cons.mp h with rfl | h
    · simp
    · rw [if_neg fun z => nd.1 (by rw [z]; exact List.mem_map_of_mem (f := (·.1)) h)]
      exact ih nd.2 h
theorem cut_take {α : Type} (xs : List α) (i : Nat) (h : i ≤ xs.length) : cutA xs Option.none (some (i : Int)) = xs.take i := by
  unfold cutA
  have e1 : HT.sIx xs.length xs.length (some (i : Int)) = min (i : Int).toNat xs.length := by
    unfold HT.sIx
    dsimp only
    rw [if_neg (by omega)]
  have e2 : HT.sIx xs.length 0 Option.none = 0 := rfl
  rw [e1, e2, List.drop_zero, Int.toNat_natCast, Nat.min_eq_left h, Nat.sub_zero]
theorem rngL_mem {lo : Int} {n : Nat} {x : Int} (h : x ∈ rngL lo n) : ∃ i : Nat, i < n ∧ x = lo + i := by
  unfold rngL at h
  obtain ⟨j, h1, h2⟩ := List.mem_map.mp h
  exact ⟨j, List.mem_range.mp h1, h2.symm⟩
theorem atI_get {α : Type} (xs : List α) (i : Nat) (h : i < xs.length) : L2.atI xs (i : Int) = some xs[i] := atI_nat xs i _ (List.getElem?_eq_getElem h)
theorem not_take {α : Type} {xs : List α} (nd : xs.Nodup) (i : Nat) (h : i < xs.length) : xs[i] ∉ xs.take i := fun z => by
  obtain ⟨j, hj, e⟩ := List.getElem_of_mem z
  rw [List.getElem_take] at e
  rw [List.length_take] at hj
  have := (List.getElem_inj nd).mp e
  omega
theorem forL_same {Γ ρ α : Type} {set : α → Γ → Γ} {b : Γ → SR Γ ρ} {γ : Γ} : ∀ {xs : List α}, (∀ x ∈ xs, b (set x γ) = .next γ) → forL set b xs γ = .next γ
  | [], _ => rfl
  | x :: r, h => by
    show (b (set x γ)).go (forL set b r) = _
    rw [h x (List.mem_cons_self ..)]
    exact forL_same fun y hy => h y (List.mem_cons_of_mem _ hy)
theorem putA_new {α : Type} {kvs : List (Str × α)} {k : Str} {a : α} (h : getA kvs k = Option.none) : putA kvs k a = kvs ++ [(k, a)] := by
  unfold putA
  rw [if_neg]
  rw [getA_none] at h
  intro z
  obtain ⟨p, h1, h2⟩ := List.any_eq_true.mp z
  exact h (List.mem_map.mpr ⟨p, h1, by simpa using h2⟩)
theorem cLc_ok {Γ α β : Type} {ti : Γ → PR (List α)} {set : α → Γ → Γ} {tc : Γ → PR Bool} {te : Γ → PR β} {γ : Γ} {xs : List α} {ys : List β} (h1 : ti γ = .ok xs) (h2 : lcM (fun x => tc (set x γ)) (fun x => te (set x γ)) xs = .ok ys) : cLc ti set tc te γ = .ok ys := by
  show (ti γ).bind (fun xs => (lcM (fun x => tc (set x γ)) (fun x => te (set x γ)) xs).calm) = _
  rw [h1, PR.bind_ok, h2]
  rfl
end Ft
namespace Ft
open PySem PySem.Spec L2 Fs
abbrev encC : Option Int → Fs.Data := encO tyInt.enc
theorem sh_cell (c : Option Int) (k : Nat) : Sh k (encC c) := by
  cases c with
  | none => exact sh_none k
  | some i => exact sh_int i k
def IsCells (d : Fs.Data) (cs : List (Option Int)) : Prop := cs.length ≤ lim ∧ (d = .list (cs.map encC) ∨ d = .tup (cs.map encC))
theorem IsCells.len {d : Fs.Data} {cs : List (Option Int)} (h : IsCells d cs) : oLenD d = .ok (cs.length : Int) := by
  rcases h.2 with rfl | rfl <;> simp [oLenD, seqD]
theorem IsCells.at_ {d : Fs.Data} {cs : List (Option Int)} (h : IsCells d cs) (i : Nat) (c : Option Int) (hc : cs[i]? = some c) : oIdxD d (i : Int) = .ok (encC c) := by
  have e : L2.atI (cs.map encC) (i : Int) = some (encC c) := atI_nat _ i _ (by rw [List.getElem?_map, hc]; rfl)
  rcases h.2 with rfl | rfl <;> simp [oIdxD, seqD, e, ofO]
end Ft
namespace Ft
open PySem PySem.Spec L2 Fs
abbrev Tab' : Type := HL [Str, List Str]
def sch (ts : List Tab') : O_Schema := (ts.map (·.1), ts.map (fun t => (t.1, t.2.1)), ())
structure TW (ts : List Tab') : Prop where
  nd : (ts.map (·.1)).Nodup
  len : ts.length ≤ 5
  nm : ∀ t ∈ ts, PyData.strOk t.1 = true ∧ t.1.length ≤ 12
  cs : ∀ t ∈ ts, t.2.1.Nodup ∧ 1 ≤ t.2.1.length ∧ t.2.1.length ≤ 4 ∧ ∀ c ∈ t.2.1, PyData.strOk c = true ∧ c.length ≤ 12
theorem keys_sch (ts : List Tab') : (sch ts).2.1.map (·.1) = ts.map (·.1) := by
  show (ts.map fun t => (t.1, t.2.1)).map (·.1) = _
  rw [List.map_map]
  rfl
theorem sch_snoc (ts : List Tab') (t : Tab') : sch (ts ++ [t]) = ((ts.map (·.1) ++ [t.1], ts.map (fun t => (t.1, t.2.1)) ++ [(t.1, t.2.1)], ()) : O_Schema) := by
  unfold sch
  rw [List.map_append, List.map_append]
  rfl
theorem copy_ok (ts : List Tab') : lcM (fun _ => PR.ok true) (fun x : Tab' => PR.ok ((x.1, x.2.1, ()) : Tab')) ts = .ok ts := by
  have := lcM_map (c := fun _ => PR.ok true) (f := fun x : Tab' => PR.ok ((x.1, x.2.1, ()) : Tab')) (g := fun x => x) ts (fun _ _ => rfl) fun x _ => by
    obtain ⟨a, b, ⟨⟩⟩ := x
    rfl
  rw [this, List.map_id']
end Ft
namespace Ft
open PySem PySem.Spec L2 Fs
theorem columns_spec (s : O_Schema) (t : Str) : c_Schema_columns (s, t, ()) = match getA s.2.1 t with
    | some cs => .ok cs
    | Option.none => .exc 20 [.str t] := by
  obtain ⟨ns, d, ⟨⟩⟩ := s
  cases h : getA d t with
  | none => simp -implicitDefEqProofs [c_Schema_columns, runC, B_Schema_columns, i_Schema_columns, h, negB, SR.go, PR.er, PR.bind, ER.bind, ER.st, tRaise]
  | some cs => simp -implicitDefEqProofs [c_Schema_columns, runC, B_Schema_columns, i_Schema_columns, h, negB, SR.go, PR.er, PR.bind, ER.bind, ER.st]
theorem rank_spec (s : O_Schema) (t : Str) : c_Schema_rank (s, t, ()) = match getA s.2.1 t with
    | some _ => (match s.1.findIdx? (· == t) with
      | some j => .ok (j : Nat)
      | Option.none => .bad)
    | Option.none => .exc 20 [.str t] := by
  obtain ⟨ns, d, ⟨⟩⟩ := s
  cases h : getA d t with
  | none => simp -implicitDefEqProofs [c_Schema_rank, runC, B_Schema_rank, i_Schema_rank, h, negB, SR.go, PR.er, PR.bind, ER.bind, ER.st, tRaise]
  | some cs =>
    cases hf : ns.findIdx? (· == t) with
    | none => simp -implicitDefEqProofs [c_Schema_rank, runC, B_Schema_rank, i_Schema_rank, h, negB, SR.go, PR.er, PR.bind, ER.bind, ER.st, index_strD, hf]
    | some j => simp -implicitDefEqProofs [c_Schema_rank, runC, B_Schema_rank, i_Schema_rank, h, negB, SR.go, PR.er, PR.bind, ER.bind, ER.st, index_strD, hf]
end Ft
namespace Ft
open PySem PySem.Spec L2 Fs
theorem popA_ok {α : Type} (xs : List α) (k : Int) (h : 0 ≤ k ∧ k < xs.length) : ∃ x, xs[k.toNat]? = some x ∧ popA xs k = some (x, xs.eraseIdx k.toNat) := by
  have hl : k.toNat < xs.length := by omega
  refine ⟨xs[k.toNat], List.getElem?_eq_getElem hl, ?_⟩
  unfold popA
  rw [if_pos h, List.getElem?_eq_getElem hl]
  rfl
theorem perm_erase {α : Type} : ∀ (xs : List α) (i : Nat) (x : α), xs[i]? = some x → (x :: xs.eraseIdx i).Perm xs
  | [], _, _, h => by simp at h
  | y :: ys, 0, x, h => by
    have h : y = x := by simpa using h
    rw [h]
    exact List.Perm.refl _
  | y :: ys, i + 1, x, h => by
    have h : ys[i]? = some x := by simpa using h
    rw [List.eraseIdx_cons_succ]
    exact (List.Perm.swap y x _).trans ((perm_erase ys i x h).cons y)
def mkTab (x : Str) (cs : List Str) : HL [Str, List Str] := (x, cs, ())
def tmenu : List Str := ["t", "ta", "orders", "unique", "t1", "t10", "a23456789012", "b"]
def cmenu : List Str := ["id", "i", "k", "t", "k2", "reference", "zz"]
def ColsOk (w : Nat) (cs : List Str) : Prop := 1 ≤ cs.length ∧ cs.length ≤ w ∧ cs.Nodup ∧ ∀ c ∈ cs, c ∈ cmenu
structure TabsOk (l w : Nat) (ts : List (HL [Str, List Str])) : Prop where
  lo : 1 ≤ ts.length
  hi : ts.length ≤ l
  nd : (ts.map (·.1)).Nodup
  nm : ∀ t ∈ ts, t.1 ∈ tmenu
  cs : ∀ t ∈ ts, ColsOk w t.2.1
theorem tmenu_nd : tmenu.Nodup := by decide
theorem cmenu_nd : cmenu.Nodup := by decide
end Ft
namespace Ft
open PySem PySem.Spec L2 Fs
inductive Rul where
  | nn (t c : Str)
  | un (t : Str) (cs : List Str)
  | rf (t c t2 c2 : Str)
  deriving DecidableEq
def Rul.d : Rul → Fs.Data
  | .nn t c => .tup [.str "notnull", .str t, .str c]
  | .un t cs => .tup [.str "unique", .str t, .tup (cs.map .str)]
  | .rf t c t2 c2 => .tup [.str "reference", .str t, .str c, .str t2, .str c2]
def Rul.kind : Rul → Str
  | .nn _ _ => "notnull"
  | .un _ _ => "unique"
  | .rf _ _ _ _ => "reference"
def Rul.py : Rul → PyData
  | .nn t c => .tuple [.str "notnull", .str t, .str c]
  | .un t cs => .tuple [.str "unique", .str t, .tuple (cs.map .str)]
  | .rf t c t2 c2 => .tuple [.str "reference", .str t, .str c, .str t2, .str c2]
theorem toPys_strs (cs : List Str) : toPys (cs.map .str) = some (cs.map .str) := by
  induction cs with
  | nil => rfl
  | cons c r ih =>
    show (toPy (.str c)).bind (fun y => (toPys (r.map .str)).map (y :: ·)) = _
    rw [ih]
    rfl
theorem Rul.toPy (r : Rul) : toPy r.d = some r.py := by
  cases r with
  | nn t c => rfl
  | un t cs =>
    have h := toPys_strs cs
    simp [Rul.d, Rul.py, Fs.toPy, toPys, h]
  | rf t c t2 c2 => rfl
theorem eqvAll_strs : ∀ (a b : List Str), PyData.eqvAll (a.map .str) (b.map .str) = decide (a = b)
  | [], [] => by simp [PyData.eqvAll]
  | [], _ :: _ => by simp [PyData.eqvAll]
  | _ :: _, [] => by simp [PyData.eqvAll]
  | x :: a, y :: b => by
    rw [List.map_cons, List.map_cons, PyData.eqvAll, eqvAll_strs a b, Bool.eq_iff_iff]
    simp [PyData.eqv]
theorem Rul.eqv (a b : Rul) : PyData.eqv a.py b.py = decide (a = b) := by
  rw [Bool.eq_iff_iff]
  cases a <;> cases b <;> simp [Rul.py, PyData.eqv, PyData.eqvAll, eqvAll_strs]
def Rul.names : Rul → List Str
  | .nn t c => [t, c]
  | .un t cs => t :: cs
  | .rf t c t2 c2 => [t, c, t2, c2]
theorem canLay_strs : ∀ cs : List Str, (∀ c ∈ cs, PyData.strOk c = true) → PyData.canLayAll0 (cs.map .str) = true
  | [], _ => rfl
  | c :: r, h => by
    rw [List.map_cons, PyData.canLayAll0, canLay_strs r fun x hx => h x (List.mem_cons_of_mem _ hx)]
    simp [PyData.canLay0, h c (List.mem_cons_self ..)]
theorem depth_strs : ∀ cs : List Str, PyData.depthAll (cs.map .str) = 0
  | [] => rfl
  | c :: r => by
    rw [List.map_cons, PyData.depthAll, depth_strs r]
    rfl
theorem Rul.shaped (r : Rul) (h : ∀ x ∈ r.names, PyData.strOk x = true) : SeqAt.shaped r.py = true ∧ r.py.canLay0 = true ∧ r.py.depth ≤ 2 := by
  have key : r.py.canLay0 = true ∧ r.py.depth ≤ 2 := by
    cases r with
    | nn t c =>
      have h1 := h t (by simp [Rul.names])
      have h2 := h c (by simp [Rul.names])
      exact ⟨by simp [Rul.py, PyData.canLay0, PyData.canLayAll0, h1, h2]; decide +kernel, by simp [Rul.py, PyData.depth, PyData.depthAll]⟩
    | un t cs =>
      have h1 := h t (by simp [Rul.names])
      have h2 := canLay_strs cs fun c hc => h c (by simp [Rul.names, hc])
      exact ⟨by simp [Rul.py, PyData.canLay0, PyData.canLayAll0, h1, h2]; decide +kernel, by simp [Rul.py, PyData.depth, PyData.depthAll, depth_strs]⟩
    | rf t c t2 c2 =>
      have h1 := h t (by simp [Rul.names])
      have h2 := h c (by simp [Rul.names])
      have h3 := h t2 (by simp [Rul.names])
      have h4 := h c2 (by simp [Rul.names])
      exact ⟨by simp [Rul.py, PyData.canLay0, PyData.canLayAll0, h1, h2, h3, h4]; decide +kernel, by simp [Rul.py, PyData.depth, PyData.depthAll]⟩
  exact ⟨by unfold SeqAt.shaped; rw [key.1, decide_eq_true (Nat.le_trans key.2 (by decide))]; rfl, key⟩
def RulN (r : Rul) : Prop := ∀ x ∈ r.names, PyData.strOk x = true
end Ft
namespace Ft
open PySem PySem.Spec L2 Fs
abbrev Tab : Type := HL [Str, List Str]
def RulOk (ts : List Tab) : Rul → Prop
  | .nn t c => ∃ (i : Nat) (cs : List Str), ts[i]? = some (mkTab t cs) ∧ c ∈ cs
  | .un t us => ∃ (i : Nat) (cs : List Str), ts[i]? = some (mkTab t cs) ∧ us ≠ [] ∧ us.Sublist cs
  | .rf t c t2 c2 => ∃ (i j : Nat) (cs cs2 : List Str), ts[i]? = some (mkTab t cs) ∧ ts[j]? = some (mkTab t2 cs2) ∧ j < i ∧ c ∈ cs ∧ c2 ∈ cs2
theorem tmenu_ok : ∀ x ∈ tmenu, PyData.strOk x = true := by decide +kernel
theorem cmenu_ok : ∀ x ∈ cmenu, PyData.strOk x = true := by decide +kernel
theorem tab_nm {l w : Nat} {ts : List Tab} (T : TabsOk l w ts) {i : Nat} {t : Str} {cs : List Str} (h : ts[i]? = some (mkTab t cs)) : t ∈ tmenu ∧ ColsOk w cs := ⟨T.nm _ (List.mem_of_getElem? h), T.cs _ (List.mem_of_getElem? h)⟩
theorem RulOk.n {l w : Nat} {ts : List Tab} (T : TabsOk l w ts) {r : Rul} (h : RulOk ts r) : RulN r := by
  intro x hx
  cases r with
  | nn t c =>
    obtain ⟨i, cs, h1, h2⟩ := h
    obtain ⟨k1, k2⟩ := tab_nm T h1
    simp only [Rul.names, List.mem_cons, List.not_mem_nil, or_false] at hx
    rcases hx with rfl | rfl
    · exact tmenu_ok _ k1
    · exact cmenu_ok _ (k2.2.2.2 _ h2)
  | un t us =>
    obtain ⟨i, cs, h1, h2, h3⟩ := h
    obtain ⟨k1, k2⟩ := tab_nm T h1
    simp only [Rul.names, List.mem_cons] at hx
    rcases hx with rfl | hx
    · exact tmenu_ok _ k1
    · exact cmenu_ok _ (k2.2.2.2 _ (h3.subset hx))
  | rf t c t2 c2 =>
    obtain ⟨i, j, cs, cs2, h1, h2, _, h3, h4⟩ := h
    obtain ⟨k1, k2⟩ := tab_nm T h1
    obtain ⟨k3, k4⟩ := tab_nm T h2
    simp only [Rul.names, List.mem_cons, List.not_mem_nil, or_false] at hx
    rcases hx with rfl | rfl | rfl | rfl
    · exact tmenu_ok _ k1
    · exact cmenu_ok _ (k2.2.2.2 _ h3)
    · exact tmenu_ok _ k3
    · exact cmenu_ok _ (k4.2.2.2 _ h4)
end Ft
namespace Ft
open PySem PySem.Spec L2 Fs
theorem menus_len : ∀ x ∈ tmenu ++ cmenu, x.length ≤ 12 := by decide +kernel
theorem TabsOk.tw {l w : Nat} {ts : List Tab} (T : TabsOk l w ts) (hl : l ≤ 5) (hw : w ≤ 4) : TW ts := by
  refine ⟨T.nd, Nat.le_trans T.hi hl, fun t ht => ⟨tmenu_ok _ (T.nm t ht), menus_len _ (List.mem_append_left _ (T.nm t ht))⟩, fun t ht => ?_⟩
  obtain ⟨h1, h2, h3, h4⟩ := T.cs t ht
  exact ⟨h3, h1, Nat.le_trans h2 hw, fun c hc => ⟨cmenu_ok _ (h4 c hc), menus_len _ (List.mem_append_right _ (h4 c hc))⟩⟩
theorem getA_sch {ts : List Tab} (T : TW ts) {t : Str} {cs : List Str} (ht : mkTab t cs ∈ ts) : getA (sch ts).2.1 t = some cs := getA_some (by rw [keys_sch]; exact T.nd) (List.mem_map.mpr ⟨_, ht, rfl⟩)
theorem rank_tab {ts : List Tab} (T : TW ts) {i : Nat} {t : Str} {cs : List Str} (h : ts[i]? = some (mkTab t cs)) : c_Schema_rank (sch ts, t, ()) = .ok (i : Int) := by
  rw [rank_spec, getA_sch T (List.mem_of_getElem? h)]
  obtain ⟨hi, e⟩ := List.getElem?_eq_some_iff.mp h
  have hf : (ts.map (·.1)).findIdx? (· == t) = some i := by
    rw [List.findIdx?_eq_some_iff_getElem]
    refine ⟨by rw [List.length_map]; exact hi, ?_, fun j hj => ?_⟩
    · rw [List.getElem_map, e]
      simp [mkTab]
    · rw [List.getElem_map]
      intro z
      have z := eq_of_beq z
      have nd := T.nd
      have hj' : j < (ts.map (·.1)).length := by rw [List.length_map]; omega
      have hi' : i < (ts.map (·.1)).length := by rw [List.length_map]; omega
      have : (ts.map (·.1))[j] = (ts.map (·.1))[i] := by
        rw [List.getElem_map, List.getElem_map, z, e]
        rfl
      have := (List.getElem_inj nd).mp this
      omega
  show (match (ts.map (·.1)).findIdx? (· == t) with
    | some j => PR.ok ((j : Nat) : Int)
    | Option.none => .bad) = _
  rw [hf]
theorem names_ok : ∀ x ∈ tmenu ++ cmenu, c_is_name (x, ()) = .ok true := by
  intro x hx
  simp only [tmenu, cmenu, List.cons_append, List.nil_append, List.mem_cons, List.not_mem_nil, or_false] at hx
  rcases hx with rfl | rfl | rfl | rfl | rfl | rfl | rfl | rfl | rfl | rfl | rfl | rfl | rfl | rfl | rfl <;> rfl
theorem padd_spec (ns : List Str) (kvs : List (Str × List Str)) (x : Str) (cs : List Str) (hx : x ∈ tmenu) (hk : x ∉ kvs.map (·.1)) (hc : ColsOk 4 cs) (h1 : ns.length ≤ 100) (h2 : kvs.length ≤ 100) : t_Schema_padd (((ns, kvs, ()) : O_Schema), x, cs, ()) = .ok () (((ns ++ [x], kvs ++ [(x, cs)], ()) : O_Schema), x, cs, ()) := by
  obtain ⟨c1, c2, c3, c4⟩ := hc
  have hn := names_ok x (List.mem_append_left _ hx)
  have hg := getA_none.mpr hk
  have r := rng_in (j := cs.length) (by omega)
  have l1 : ns.length < lim := show _ < 16777216 by omega
  have l2 : kvs.length < lim := show _ < 16777216 by omega
  have hl : forL p_Schema_padd_3 tb1_Schema_padd (rngL 0 cs.length) (((ns, kvs, ()) : O_Schema), x, cs, 0, ()) = .next (((ns, kvs, ()) : O_Schema), x, cs, 0, ()) := by
    refine forL_same fun k hk => ?_
    obtain ⟨i, hi, rfl⟩ := rngL_mem hk
    rw [Int.zero_add]
    have hat := atI_get cs i hi
    have hn := names_ok cs[i] (List.mem_append_right _ (c4 _ (List.getElem_mem hi)))
    have ht := not_take c3 i hi
    generalize cs[i] = u at hat hn ht
    simp -implicitDefEqProofs [tb1_Schema_padd, hat, hn, cut_take cs i (Nat.le_of_lt hi), in_str, in_strD, ht, negB, ofO, PR.er, PR.bind, ER.st, ER.bind, ER.out, SR.go]
  have g1 : (cs.length < 1) = False := eq_false (by omega)
  have g2 : (4 < cs.length) = False := eq_false (by omega)
  have z1 : ((cs.length : Int) < 1) = False := eq_false (by omega)
  have z2 : ((4 : Int) < cs.length) = False := eq_false (by omega)
  simp -implicitDefEqProofs [t_Schema_padd, runE, B_Schema_padd, i_Schema_padd, o_Schema_padd, hn, hg, g1, g2, z1, z2, r, hl, l1, l2, putA_new hg, ltI, gtI, negB, PR.er, PR.bind, ER.st, ER.bind, ER.out, SR.go]
theorem sinit_loop {l : Nat} : ∀ (r a : List Tab) (x : Str) (cs : List Str), TabsOk l 4 (a ++ r) → l ≤ 8 → forL (fun x γ => (fun x γ => (fun _ γ => γ) x.2 (p_Schema_xinit_3 x.1 γ)) x.2 (p_Schema_xinit_2 x.1 γ)) tb1_Schema_xinit r ((sch a, ((a ++ r), "", [], ())) : G_Schema_xinit) = .next (sch (a ++ r), a ++ r, "", [], ())
  | [], a, _, _, _, _ => by rw [List.append_nil]; rfl
  | t :: r, a, x, cs, T, hl => by
    have hm : t ∈ a ++ t :: r := by simp
    have hx := T.nm t hm
    have hc := T.cs t hm
    have hk : t.1 ∉ a.map (·.1) := fun z => by
      have nd := T.nd
      rw [List.map_append, List.map_cons] at nd
      exact (List.nodup_append.mp nd).2.2 _ z _ (List.mem_cons_self ..) rfl
    have hlen := T.hi
    rw [List.length_append, List.length_cons] at hlen
    obtain ⟨tn, tc, ⟨⟩⟩ := t
    have hp := padd_spec (a.map (·.1)) (a.map fun t => (t.1, t.2.1)) tn tc hx (by rw [List.map_map]; exact hk) hc (by rw [List.length_map]; omega) (by rw [List.length_map]; omega)
    have e : a ++ (tn, tc, ()) :: r = (a ++ [(tn, tc, ())]) ++ r := by simp
    have ih := sinit_loop r (a ++ [(tn, tc, ())]) x cs (by rw [← e]; exact T) hl
    rw [← e] at ih
    generalize a ++ (tn, tc, ()) :: r = w at ih
    rw [sch_snoc] at ih
    have hs : tb1_Schema_xinit ((sch a, (w, tn, tc, ())) : G_Schema_xinit) = .next (((a.map (·.1) ++ [tn], a.map (fun t => (t.1, t.2.1)) ++ [(tn, tc)], ()) : O_Schema), w, "", [], ()) := by
      unfold sch
      simp -implicitDefEqProofs [tb1_Schema_xinit, hp, PR.er, PR.bind, ER.st, ER.bind, ER.out, SR.go]
    show (tb1_Schema_xinit ((sch a, (w, tn, tc, ())) : G_Schema_xinit)).go _ = _
    rw [hs]
    exact ih
theorem sinit_spec {l : Nat} {ts : List Tab} (T : TabsOk l 4 ts) (hl : l ≤ 5) : c_Schema_xinit (ts, ()) = .ok (sch ts) := by
  have h := sinit_loop ts [] "" [] T (by omega)
  rw [List.nil_append] at h
  have h0 : sch [] = (([], [], ()) : O_Schema) := rfl
  rw [h0] at h
  have h1 := T.lo
  have h2 := T.hi
  have z1 : ((ts.length : Int) < 1) = False := eq_false (by omega)
  have z2 : ((5 : Int) < ts.length) = False := eq_false (by omega)
  have z3 : (5 < ts.length) = False := eq_false (by omega)
  have z4 : (ts.length < 1) = False := eq_false (by omega)
  have z5 : ¬ ts = [] := by
    rintro rfl
    simp at h1
  simp -implicitDefEqProofs only [p_Schema_xinit_2, p_Schema_xinit_3] at h
  simp -implicitDefEqProofs [c_Schema_xinit, runIC, d_O_Schema, B_Schema_xinit, i_Schema_xinit, z1, z2, z3, z4, z5, h, ltI, gtI, PR.er, PR.bind, ER.st, ER.bind, ER.out, SR.go]
end Ft
namespace Ft
open PySem PySem.Spec L2 Fs
theorem zip_fst {α : Type} : ∀ {ks : List Str} {vs : List α}, ks.length = vs.length → (ks.zip vs).map (·.1) = ks
  | [], [], _ => rfl
  | _ :: _, _ :: _, h => by rw [List.zip_cons_cons, List.map_cons, zip_fst (by simpa using h)]
  | [], _ :: _, h => by cases h
  | _ :: _, [], h => by cases h
theorem getA_zip {α : Type} {ks : List Str} {vs : List α} {i : Nat} {k : Str} {v : α} (nd : ks.Nodup) (hl : ks.length = vs.length) (hk : ks[i]? = some k) (hv : vs[i]? = some v) : getA (ks.zip vs) k = some v := by
  refine getA_some (by rw [zip_fst hl]; exact nd) ?_
  exact List.mem_of_getElem? (i := i) (by rw [List.getElem?_zip_eq_some]; exact ⟨hk, hv⟩)
theorem zip_set {α : Type} : ∀ {ks : List Str} {vs : List α} {i : Nat} {k : Str} {v : α}, ks[i]? = some k → (ks.zip vs).set i (k, v) = ks.zip (vs.set i v)
  | [], _, _, _, _, h => by simp at h
  | _ :: _, [], _, _, _, _ => by simp
  | a :: ks, b :: vs, 0, k, v, h => by
    have h : a = k := by simpa using h
    subst h
    rfl
  | a :: ks, b :: vs, i + 1, k, v, h => by
    show (a, b) :: (ks.zip vs).set i (k, v) = _
    rw [zip_set (by simpa using h)]
    rfl
theorem putA_zip {α : Type} {ks : List Str} {vs : List α} {i : Nat} {k : Str} {v : α} (b : α) (nd : ks.Nodup) (hl : ks.length = vs.length) (hk : ks[i]? = some k) (hv : vs[i]? = some v) : putA (ks.zip vs) k b = ks.zip (vs.set i b) := by
  rw [putA_at (j := i) (a := v) b (by rw [zip_fst hl]; exact nd) (by rw [List.getElem?_zip_eq_some]; exact ⟨hk, hv⟩), zip_set hk]
def stO (ts : List Tab') (ss : List (List Fs.Data)) : O_Store := (sch ts, (ts.map (·.1)).zip ss, ())
theorem dcE_names (s : O_Schema) (b : O_Store) : ∀ (r : List Str) (acc : List (Str × List Fs.Data)) (x : Str), (acc.map (·.1) ++ r).Nodup → ∃ x', dcE p_Store_xinit_2 (cV g_Store_xinit_2) (xL (cLNil (α := Fs.Data))) r acc ((b, s, x, ()) : G_Store_xinit) = .ok (acc ++ r.map fun n => (n, [])) ((b, s, x', ()) : G_Store_xinit)
  | [], acc, x, _ => ⟨x, by rw [List.map_nil, List.append_nil]; rfl⟩
  | n :: r, acc, x, nd => by
    have hn : n ∉ acc.map (·.1) := fun z => (List.nodup_append.mp nd).2.2 n z n (List.mem_cons_self ..) rfl
    obtain ⟨x', h⟩ := dcE_names s b r (acc ++ [(n, [])]) n (by rw [List.map_append]; simpa using nd)
    refine ⟨x', ?_⟩
    show (if n ∈ acc.map (·.1) then ER.bad else dcE p_Store_xinit_2 (cV g_Store_xinit_2) (xL (cLNil (α := Fs.Data))) r (acc ++ [(n, [])]) ((b, s, n, ()) : G_Store_xinit)) = _
    rw [if_neg hn, h, List.append_assoc]
    rfl
theorem zip_nil_map {α β : Type} (f : α → Str) (xs : List α) : (xs.map f).map (fun n => (n, ([] : List β))) = (xs.map f).zip (xs.map fun _ => []) := by
  induction xs with
  | nil => rfl
  | cons x r ih => simp only [List.map_cons, List.zip_cons_cons, ih]
theorem store_init {ts : List Tab'} (nd : (ts.map (·.1)).Nodup) : t_Store_xinit (sch ts, ()) = .ok (stO ts (ts.map fun _ => [])) (sch ts, ()) := by
  obtain ⟨x', h⟩ := dcE_names (sch ts) ((sch ts, [], ()) : O_Store) (ts.map (·.1)) [] "" (by simpa using nd)
  rw [List.nil_append, zip_nil_map] at h
  have h : dcE p_Store_xinit_2 (cV g_Store_xinit_2) (xL (cLNil (α := Fs.Data))) (sch ts).1 [] (((sch ts, [], ()) : O_Store), sch ts, "", ()) = _ := h
  unfold stO
  generalize (ts.map (·.1)).zip (ts.map fun _ => ([] : List Fs.Data)) = Z at *
  generalize sch ts = s at *
  have e : (xDc (x1 (fun a : O_Schema => .ok (a.1)) (xL (cV g_Store_xinit_1))) p_Store_xinit_2 (cV g_Store_xinit_2) (xL (cLNil (α := Fs.Data))) (fun γ0 γ => (p_Store_xinit_2 (g_Store_xinit_2 γ0) γ)) : G_Store_xinit → ER G_Store_xinit _) (((s, [], ()) : O_Store), s, "", ()) = .ok Z (((s, [], ()) : O_Store), s, "", ()) := by
    show ER.calmTo (dcE p_Store_xinit_2 (cV g_Store_xinit_2) (xL (cLNil (α := Fs.Data))) s.1 [] (((s, [], ()) : O_Store), s, "", ())) _ = _
    rw [h]
    rfl
  have eB : B_Store_xinit (d_O_Store, i_Store_xinit (s, ())) = .next ((((s, Z, ()) : O_Store), s, "", ()) : G_Store_xinit) := by
    refine Eq.trans (tSeq_ok (γ' := ((((s, [], ()) : O_Store), s, "", ()) : G_Store_xinit)) rfl) ?_
    exact (tSet_ok (γ' := ((((s, [], ()) : O_Store), s, "", ()) : G_Store_xinit)) e).trans rfl
  show runI B_Store_xinit d_O_Store i_Store_xinit o_Store_xinit (s, ()) = _
  unfold runI
  rw [eB]
  rfl
def cellB : Fs.Data → Bool
  | .none => true
  | .int _ => true
  | _ => false
def XOk : Fs.Data → Prop
  | .none => True
  | .bool _ => True
  | .int _ => True
  | .str _ => True
  | .list _ => True
  | .tup _ => True
  | _ => False
theorem is_cell_spec {x : Fs.Data} (h : XOk x) : c__is_cell (x, ()) = .ok (cellB x) := by
  cases x with
  | none => rfl
  | bool b => rfl
  | int i => rfl
  | str s => rfl
  | list l => rfl
  | tup l => rfl
  | dk l => exact h.elim
  | dt l => exact h.elim
  | lf l => exact h.elim
  | ins c l => exact h.elim
section
variable {s : O_Schema} {R : List (Str × List Fs.Data)} {t : Str} {d : Fs.Data} {cs : List Str} {row rows : List Fs.Data} {n : Nat}
theorem put_loop (st : O_Store) : ∀ (row : List Fs.Data), (∀ x ∈ row, XOk x) → (row.all cellB = true → forL p_Store_put_4 tb1_Store_put row ((st, t, d, cs, .none, ()) : G_Store_put) = .next ((st, t, d, cs, .none, ()) : G_Store_put)) ∧ (row.all cellB = false → ∃ x, forL p_Store_put_4 tb1_Store_put row ((st, t, d, cs, .none, ()) : G_Store_put) = .exc 23 [.str t] ((st, t, d, cs, x, ()) : G_Store_put))
  | [], _ => ⟨fun _ => rfl, fun h => by cases h⟩
  | x :: r, hx => by
    have e : forL p_Store_put_4 tb1_Store_put (x :: r) ((st, t, d, cs, .none, ()) : G_Store_put) = (tb1_Store_put ((st, t, d, cs, x, ()) : G_Store_put)).go (forL p_Store_put_4 tb1_Store_put r) := rfl
    have hc := is_cell_spec (hx x (List.mem_cons_self ..))
    obtain ⟨i1, i2⟩ := put_loop st r fun y hy => hx y (List.mem_cons_of_mem _ hy)
    rw [e]
    cases hb : cellB x with
    | true =>
      rw [hb] at hc
      have e2 : tb1_Store_put ((st, t, d, cs, x, ()) : G_Store_put) = .next ((st, t, d, cs, .none, ()) : G_Store_put) := by
        simp -implicitDefEqProofs [tb1_Store_put, hc, PR.er, PR.bind, ER.st, ER.bind, ER.out, SR.go]
      rw [e2]
      rw [List.all_cons, hb, Bool.true_and]
      exact ⟨i1, i2⟩
    | false =>
      rw [hb] at hc
      have e2 : tb1_Store_put ((st, t, d, cs, x, ()) : G_Store_put) = .exc 23 [.str t] ((st, t, d, cs, x, ()) : G_Store_put) := by
        simp -implicitDefEqProofs [tb1_Store_put, hc, PR.er, PR.bind, ER.st, ER.bind, ER.out, SR.go, tyStr, imm]
      rw [e2, List.all_cons, hb, Bool.false_and]
      exact ⟨fun h => (by cases h), fun _ => ⟨x, rfl⟩⟩
theorem put_ok (h : getA s.2.1 t = some cs) (hl : oLenD d = .ok (n : Int)) (q : oEq true (.int (n : Int)) (.int (cs.length : Int)) = .ok false) (hs : oSeqD d = .ok row) (hL : forL p_Store_put_4 tb1_Store_put row ((((s, R, ()) : O_Store), t, d, cs, .none, ()) : G_Store_put) = .next ((((s, R, ()) : O_Store), t, d, cs, .none, ()) : G_Store_put)) (hg : getA R t = some rows) (q2 : oEq false (.int (rows.length : Int)) (.int 200) = .ok false) (hz : rows.length < lim) {R' : List (Str × List Fs.Data)} (hp : putA R t (rows ++ [.tup row]) = R') (hg2 : getA R' t = some (rows ++ [.tup row])) : t_Store_put (((s, R, ()) : O_Store), t, d, ()) = .ok (rows.length : Int) (((s, R', ()) : O_Store), t, d, ()) := by
  have hc : c_Schema_columns (s, t, ()) = .ok cs := by rw [columns_spec, h]
  have e : (tyTl tyData).enc row = .tup row := congrArg Fs.Data.tup (List.map_id' row)
  have e2 : ((rows ++ [Fs.Data.tup row]).length : Int) - 1 = rows.length := by rw [List.length_append]; simp
  have e3 : (row.map tyData.enc) = row := List.map_id' row
  generalize hX : rows ++ [Fs.Data.tup row] = X at *
  simp -implicitDefEqProofs [t_Store_put, runE, B_Store_put, i_Store_put, o_Store_put, hc, hl, q, hs, hL, hg, q2, e, e3, xAppO, putKey, hz, hX, hp, hg2, e2, ofO, oLen, PR.er, PR.bind, ER.st, ER.bind, ER.out, SR.go]
end
end Ft
namespace Ft
open PySem PySem.Spec L2 Fs
theorem nat_eqT (m k : Nat) : oEq true (.int (m : Int)) (.int (k : Int)) = .ok (!decide (m = k)) := by
  show PR.ok (!((m : Int) == (k : Int))) = _
  by_cases h : m = k
  · subst h
    simp
  · have e : ((m : Int) == (k : Int)) = false := beq_eq_false_iff_ne.mpr (by omega)
    rw [e, decide_eq_false h]
structure StOk (ts : List Tab) (ss : List (List Fs.Data)) : Prop where
  len : ss.length = ts.length
  rows : ∀ r ∈ ss, r.length ≤ 200 ∧ ∀ d ∈ r, Sh 61 d
section
variable {ts : List Tab} (T : TW ts) {ss : List (List Fs.Data)} (S : StOk ts ss) {i : Nat} {t : Str} {cs : List Str} {rows : List Fs.Data} (ht : ts[i]? = some (mkTab t cs)) (hs : ss[i]? = some rows) {d : Fs.Data} {row : List Fs.Data} (hl : oLenD d = .ok (row.length : Int)) (hd : oSeqD d = .ok row) (hx : ∀ x ∈ row, XOk x)
include T S ht hs hl hd hx
theorem put_D (hg : (decide (row.length = cs.length) && row.all cellB) = true) (hm : rows.length < 200) : t_Store_put (stO ts ss, t, d, ()) = .ok (rows.length : Int) (stO ts (ss.set i (rows ++ [.tup row])), t, d, ()) := by
  have h := getA_sch T (List.mem_of_getElem? ht)
  have q := nat_eqT row.length cs.length
  obtain ⟨g1, g2⟩ := Bool.and_eq_true_iff.mp hg
  rw [g1] at q
  have hL := (put_loop (t := t) (d := d) (cs := cs) (stO ts ss) row hx).1 g2
  have hk : (ts.map (·.1))[i]? = some t := by rw [List.getElem?_map, ht]; rfl
  have hln : (ts.map (·.1)).length = ss.length := by rw [List.length_map, S.len]
  have hg := getA_zip T.nd hln hk hs
  have q2 : oEq false (.int (rows.length : Int)) (.int 200) = .ok false := by
    show PR.ok ((rows.length : Int) == 200) = _
    have e : ((rows.length : Int) == 200) = false := beq_eq_false_iff_ne.mpr (by omega)
    rw [e]
  have hi := (List.getElem?_eq_some_iff.mp hs).1
  have hp := putA_zip (rows ++ [Fs.Data.tup row]) T.nd hln hk hs
  have hg2 : getA ((ts.map (·.1)).zip (ss.set i (rows ++ [Fs.Data.tup row]))) t = some (rows ++ [.tup row]) := getA_zip T.nd (by rw [hln, List.length_set]) hk (List.getElem?_set_self hi)
  exact put_ok h hl q hd hL hg q2 (show _ < 16777216 by omega) hp hg2
end
theorem StOk.put {ts : List Tab} {ss : List (List Fs.Data)} (S : StOk ts ss) {i : Nat} {rows : List Fs.Data} (hs : ss[i]? = some rows) (hm : rows.length < 200) {row : List Fs.Data} (hr : Sh 61 (.tup row)) : StOk ts (ss.set i (rows ++ [.tup row])) := by
  refine ⟨by rw [List.length_set, S.len], fun r hr' => ?_⟩
  rcases List.mem_or_eq_of_mem_set hr' with h | rfl
  · exact S.rows r h
  · obtain ⟨h1, h2⟩ := S.rows rows (List.mem_of_getElem? hs)
    refine ⟨by rw [List.length_append, List.length_singleton]; omega, fun d hd => ?_⟩
    rcases List.mem_append.mp hd with h | h
    · exact h2 d h
    · rw [List.mem_singleton.mp h]; exact hr
end Ft
namespace Ft
open PySem PySem.Spec L2 Fs
abbrev Row : Type := List (Option Int)
abbrev rowD (r : Row) : Fs.Data := .tup (r.map encC)
abbrev stD (stk : List (List Row)) : List (List Fs.Data) := stk.map fun rows => rows.map rowD
theorem sh_row {r : Row} (h : r.length ≤ lim) : Sh 61 (rowD r) := sh_tup (k := 60) (fun d hd => by
  obtain ⟨c, _, rfl⟩ := List.mem_map.mp hd
  exact sh_cell c 60) (by rw [List.length_map]; exact h)
theorem cellB_enc (c : Option Int) : cellB (encC c) = true := by cases c <;> rfl
theorem XOk_enc (c : Option Int) : XOk (encC c) := by cases c <;> trivial
structure SkOk (ts : List Tab) (m : Nat) (stk : List (List Row)) : Prop where
  len : stk.length = ts.length
  wid : ∀ (i : Nat) (t : Str) (cs : List Str) (rows : List Row), ts[i]? = some (mkTab t cs) → stk[i]? = some rows → ∀ r ∈ rows, r.length = cs.length
  num : ∀ rows ∈ stk, rows.length ≤ m
section
variable {ts : List Tab} (T : TW ts) {m : Nat} {stk : List (List Row)} (S : SkOk ts m stk)
include T S
theorem SkOk.st (hm : m ≤ 200) : StOk ts (stD stk) := by
  refine ⟨by rw [List.length_map, S.len], fun r hr => ?_⟩
  obtain ⟨rows, hrows, rfl⟩ := List.mem_map.mp hr
  refine ⟨by rw [List.length_map]; exact Nat.le_trans (S.num rows hrows) hm, fun d hd => ?_⟩
  obtain ⟨r, hr, rfl⟩ := List.mem_map.mp hd
  obtain ⟨i, hi, e⟩ := List.mem_iff_getElem.mp hrows
  have hi2 : i < ts.length := by rw [← S.len]; exact hi
  have ht : ts[i]? = some (mkTab ts[i].1 ts[i].2.1) := List.getElem?_eq_getElem hi2
  have hs : stk[i]? = some rows := by rw [List.getElem?_eq_getElem hi, e]
  have w := S.wid i _ _ rows ht hs r hr
  have h4 := (T.cs _ (List.mem_of_getElem? ht)).2.2.1
  have h4 : ts[i].2.1.length ≤ 4 := h4
  exact sh_row (show r.length ≤ 16777216 by omega)
theorem SkOk.at_ {i : Nat} {rows : List Row} (hs : stk[i]? = some rows) : (stD stk)[i]? = some (rows.map rowD) := by
  rw [List.getElem?_map, hs]
  rfl
theorem SkOk.put {i : Nat} {t : Str} {cs : List Str} {rows : List Row} (ht : ts[i]? = some (mkTab t cs)) (hs : stk[i]? = some rows) {r : Row} (hr : r.length = cs.length) : SkOk ts (m + 1) (stk.set i (rows ++ [r])) := by
  refine ⟨by rw [List.length_set, S.len], fun i' t' cs' rows' ht' hs' r' hr' => ?_, fun rows' h' => ?_⟩
  · by_cases e : i = i'
    · subst e
      have hi := (List.getElem?_eq_some_iff.mp hs).1
      rw [List.getElem?_set_self hi] at hs'
      obtain rfl := Option.some.inj hs'
      rw [ht] at ht'
      have e2 := congrArg (fun x : Tab => x.2.1) (Option.some.inj ht')
      have e2 : cs = cs' := e2
      subst e2
      rcases List.mem_append.mp hr' with h | h
      · exact S.wid i t cs rows ht hs r' h
      · rw [List.mem_singleton.mp h]; exact hr
    · rw [List.getElem?_set_ne e] at hs'
      exact S.wid i' t' cs' rows' ht' hs' r' hr'
  · rcases List.mem_or_eq_of_mem_set h' with h | rfl
    · exact Nat.le_succ_of_le (S.num _ h)
    · have := S.num rows (List.mem_of_getElem? hs)
      rw [List.length_append, List.length_singleton]
      omega
theorem put_st (hm : m < 200) {i : Nat} {t : Str} {cs : List Str} {rows : List Row} (ht : ts[i]? = some (mkTab t cs)) (hs : stk[i]? = some rows) {r : Row} (hr : r.length = cs.length) {d : Fs.Data} (hd : d = .list (r.map encC) ∨ d = .tup (r.map encC)) : t_Store_put (stO ts (stD stk), t, d, ()) = .ok (rows.length : Int) (stO ts (stD (stk.set i (rows ++ [r]))), t, d, ()) := by
  have h4 : cs.length ≤ 4 := (T.cs _ (List.mem_of_getElem? ht)).2.2.1
  have hlim : r.length ≤ 16777216 := by omega
  have hX : ∀ x ∈ r.map encC, XOk x := fun x hx => by
    obtain ⟨c, _, rfl⟩ := List.mem_map.mp hx
    exact XOk_enc c
  have hg : (decide ((r.map encC).length = cs.length) && (r.map encC).all cellB) = true := by
    rw [List.length_map, decide_eq_true hr, Bool.true_and, List.all_eq_true]
    intro x hx
    obtain ⟨c, _, rfl⟩ := List.mem_map.mp hx
    exact cellB_enc c
  have hn : (rows.map rowD).length < 200 := by
    rw [List.length_map]
    exact Nat.lt_of_le_of_lt (S.num rows (List.mem_of_getElem? hs)) hm
  have hl : oLenD d = .ok ((r.map encC).length : Int) := by rcases hd with rfl | rfl <;> rfl
  have hs2 : oSeqD d = .ok (r.map encC) := by
    rcases hd with rfl | rfl
    · exact if_pos (show (r.map encC).length ≤ 16777216 by rw [List.length_map]; exact hlim)
    · exact if_pos (show (r.map encC).length ≤ 16777216 by rw [List.length_map]; exact hlim)
  have h := put_D T (S.st T (Nat.le_of_lt hm)) ht (S.at_ T hs) hl hs2 hX hg hn
  rw [List.length_map] at h
  have e : (stD stk).set i (rows.map rowD ++ [.tup (r.map encC)]) = stD (stk.set i (rows ++ [r])) := by
    show _ = (stk.set i (rows ++ [r])).map _
    rw [List.map_set, List.map_append]
    rfl
  rw [e] at h
  exact h
end
theorem SkOk.nil {ts : List Tab} : SkOk ts 0 (ts.map fun _ => []) := by
  refine ⟨by rw [List.length_map], fun i t cs rows h1 h2 r hr => ?_, fun rows h => ?_⟩
  · rw [List.getElem?_map, h1] at h2
    have h2 : ([] : List Row) = rows := Option.some.inj h2
    rw [← h2] at hr
    cases hr
  · obtain ⟨_, _, rfl⟩ := List.mem_map.mp h
    exact Nat.le_refl _
theorem stD_nil (ts : List Tab) : stD (ts.map fun _ => []) = ts.map fun _ => [] := by
  show List.map _ _ = _
  rw [List.map_map]
  rfl
end Ft
namespace Ft
open PySem PySem.Spec L2 Fs
def PO (q : List Int) : Prop := (∀ p ∈ q, 0 ≤ p) ∧ q.length ≤ 4000
theorem take_nil (k : Int) : t__law_take ([], k, ()) = .ok 0 ([], k, ()) := by
  simp [t__law_take, runE, B__law_take, i__law_take, o__law_take, oEq_int, enc_int, PR.er, PR.bind, ER.st, ER.bind, ER.out, SR.go]
theorem take_cons (p : Int) (ps : List Int) (k : Int) (hk : 0 < k) : t__law_take (p :: ps, k, ()) = .ok (p % k) (ps, k, ()) := by
  have e : ¬ ((ps.length : Int) + 1 = 0) := by omega
  simp [t__law_take, runE, B__law_take, i__law_take, o__law_take, oEq_int, enc_int, popA, modI, hk, e, ofO, PR.er, PR.bind, ER.st, ER.bind, ER.out, SR.go]
theorem take_spec (q : List Int) (h : PO q) (k : Int) (hk : 0 < k) : ∃ (n : Int) (q' : List Int), 0 ≤ n ∧ n < k ∧ PO q' ∧ t__law_take (q, k, ()) = .ok n (q', k, ()) := by
  cases q with
  | nil => exact ⟨0, [], Int.le_refl _, hk, h, take_nil k⟩
  | cons p ps => exact ⟨p % k, ps, Int.emod_nonneg _ (by omega), Int.emod_lt_of_pos _ hk, ⟨fun x hx => h.1 x (List.mem_cons_of_mem _ hx), Nat.le_trans (Nat.le_succ _) h.2⟩, take_cons p ps k hk⟩
def PB (b : Nat) (q : List Int) : Prop := (∀ p ∈ q, 0 ≤ p) ∧ q.length ≤ b
theorem PB.app {b : Nat} {q : List Int} (h : PB b q) {x : Int} (hx : 0 ≤ x) : PB (b + 1) (q ++ [x]) := ⟨fun p hp => by
  rcases List.mem_append.mp hp with hp | hp
  · exact h.1 p hp
  · rw [List.mem_singleton.mp hp]
    exact hx, by simp [h.2]⟩
theorem pool_b1 {b : Nat} (hb : b < 4000) (x t : Int) (γ : G__law_pool) (h : PB b γ.2.1) : ∃ γ', tb1__law_pool (p__law_pool_4 t γ) = .next γ' ∧ PB (b + 1) γ'.2.1 ∧ γ'.1 = γ.1 := by
  obtain ⟨ns, q, k, j, t0, v, ⟨⟩⟩ := γ
  have hl : q.length < lim := by
    have := h.2
    show q.length < 16777216
    simp only at this
    omega
  by_cases hj : j > 0
  · refine ⟨(ns, q ++ [j % 100], k, j / 100, 0, v, ()), ?_, h.app (Int.emod_nonneg _ (by omega)), rfl⟩
    simp [tb1__law_pool, gtI, hj, modI, fdvI, ofO, hl, PR.er, PR.bind, ER.st, ER.bind, ER.out, SR.go]
  · refine ⟨(ns, q, k, j / 100, 0, v, ()), ?_, ⟨h.1, Nat.le_trans h.2 (Nat.le_succ _)⟩, rfl⟩
    simp [tb1__law_pool, gtI, hj, modI, fdvI, ofO, hl, PR.er, PR.bind, ER.st, ER.bind, ER.out, SR.go]
theorem mul_lit {i j : Int} (h : -(2 ^ 64) < j ∧ j < 2 ^ 64) : mulI i j = some (i * j) := by
  unfold mulI
  rw [if_pos (.inl h)]
theorem pool_b2 {b : Nat} (hb : b < 4000) (t : Int) (γ : G__law_pool) (h : PB b γ.2.1) (hk : 0 ≤ γ.2.2.1 ∧ γ.2.2.1 < 63) (ht : 0 ≤ t) (hv : 0 ≤ γ.2.2.2.2.2.1 ∧ γ.2.2.2.2.2.1 < 2147483647) :
    ∃ γ', tb2__law_pool (p__law_pool_4 t γ) = .next γ' ∧ PB (b + 1) γ'.2.1 ∧ γ'.1 = γ.1 ∧ γ'.2.2.1 = γ.2.2.1 ∧ 0 ≤ γ'.2.2.2.2.2.1 ∧ γ'.2.2.2.2.2.1 < 2147483647 := by
  obtain ⟨ns, q, k, j, t0, v, ⟨⟩⟩ := γ
  simp only at hk hv h
  have hl : q.length < lim := by
    have := h.2
    show q.length < 16777216
    omega
  have e1 : mulI v v = some (v * v) := mul_lit (by omega)
  have e2 : mulI t 69621 = some (t * 69621) := mul_lit (by omega)
  have h1 : 0 ≤ (v * v + t * 69621 + k) % 998244353 := Int.emod_nonneg _ (by omega)
  have h2 : (v * v + t * 69621 + k) % 998244353 < 998244353 := Int.emod_lt_of_pos _ (by omega)
  refine ⟨(ns, q ++ [(v * v + t * 69621 + k) % 998244353 / 7 % 9973], k, j, 0, (v * v + t * 69621 + k) % 998244353, ()), ?_, h.app (Int.emod_nonneg _ (by omega)), rfl, rfl, h1, by show (v * v + t * 69621 + k) % 998244353 < 2147483647; omega⟩
  simp [tb2__law_pool, e1, e2, modI, fdvI, ofO, hl, PR.er, PR.bind, ER.st, ER.bind, ER.out, SR.go]
theorem pool_b3 (ns : List Int) (hns : ns.length ≤ 63) (k : Int) (hk : 0 ≤ k ∧ k < ns.length) (b : Nat) (hb : b + 60 < 4000) (γ : G__law_pool) (h : PB b γ.2.1) (hn : γ.1 = ns) : ∃ γ', tb3__law_pool (p__law_pool_2 k γ) = .next γ' ∧ PB (b + 60) γ'.2.1 ∧ γ'.1 = ns := by
  obtain ⟨ns', q, k0, j, t0, v, ⟨⟩⟩ := γ
  simp only at hn h
  subst hn
  obtain ⟨i, _, hi⟩ := atI_ok ns' k hk
  obtain ⟨a, ha⟩ : ∃ a, (if i < 0 then -i else i) = a := ⟨_, rfl⟩
  have ha0 : 0 ≤ a := by
    subst ha
    split <;> omega
  have r60 := rng_in (j := 60) (by decide)
  have r12 := rng_in (j := 12) (by decide)
  by_cases hbig : 1000000000000000000 ≤ a
  · obtain ⟨γ1, e1, h1, h2⟩ : ∃ γ', forL p__law_pool_4 tb1__law_pool (rngL 0 60) (ns', q, k, a, t0, v, ()) = .next γ' ∧ PB (b + 60) γ'.2.1 ∧ γ'.1 = ns' := by
      obtain ⟨γ', a1, a2⟩ := forL_inv (set := p__law_pool_4) (b := tb1__law_pool) (I := fun n (γ : G__law_pool) => PB n γ.2.1 ∧ γ.1 = ns') (rngL 0 60) b (ns', q, k, a, t0, v, ()) ⟨h, rfl⟩ fun n x γ hx hI => by
        have hn := (rngL_get hx).1
        obtain ⟨γ', c1, c2, c3⟩ := pool_b1 (b := b + n) (by omega) 0 x γ hI.1
        exact ⟨γ', c1, c2, c3.trans hI.2⟩
      rw [rngL_len] at a2
      exact ⟨γ', a1, a2.1, a2.2⟩
    refine ⟨p__law_pool_3 0 γ1, ?_, h1, h2⟩
    simp [tb3__law_pool, hi, geI, powI, ofO, ha, hbig, r60, e1, PR.er, PR.bind, ER.st, ER.bind, ER.out, SR.go]
  · have m1 : mulI a 48271 = some (a * 48271) := mul_lit (by omega)
    have m2 : mulI k 7919 = some (k * 7919) := mul_lit (by omega)
    obtain ⟨c, hc⟩ : ∃ c : Int, (if ltI i 0 = true then (1 : Int) else 0) = c := ⟨_, rfl⟩
    have m3 : mulI c 104729 = some (c * 104729) := mul_lit (by omega)
    obtain ⟨w, hw⟩ : ∃ w, (a * 48271 + k * 7919 + c * 104729 + 11) % 2147483647 = w := ⟨_, rfl⟩
    have w0 : 0 ≤ w ∧ w < 2147483647 := by
      subst hw
      exact ⟨Int.emod_nonneg _ (by omega), Int.emod_lt_of_pos _ (by omega)⟩
    obtain ⟨γ1, e1, h1, h2⟩ : ∃ γ', forL p__law_pool_4 tb2__law_pool (rngL 0 12) (ns', q, k, a, t0, w, ()) = .next γ' ∧ PB (b + 60) γ'.2.1 ∧ γ'.1 = ns' := by
      obtain ⟨γ', a1, a2⟩ := forL_inv (set := p__law_pool_4) (b := tb2__law_pool) (I := fun n (γ : G__law_pool) => PB n γ.2.1 ∧ γ.1 = ns' ∧ γ.2.2.1 = k ∧ 0 ≤ γ.2.2.2.2.2.1 ∧ γ.2.2.2.2.2.1 < 2147483647) (rngL 0 12) b (ns', q, k, a, t0, w, ()) ⟨h, rfl, rfl, w0.1, w0.2⟩ fun n x γ hx hI => by
        obtain ⟨hn, hx'⟩ := rngL_get hx
        obtain ⟨i1, i2, i3, i4, i5⟩ := hI
        obtain ⟨γ', c1, c2, c3, c4, c5, c6⟩ := pool_b2 (b := b + n) (by omega) x γ i1 (by omega) (by omega) ⟨i4, i5⟩
        exact ⟨γ', c1, c2, c3.trans i2, c4.trans i3, c5, c6⟩
      rw [rngL_len] at a2
      exact ⟨γ', a1, ⟨a2.1.1, Nat.le_trans a2.1.2 (by omega)⟩, a2.2.1⟩
    refine ⟨p__law_pool_5 0 (p__law_pool_2 0 γ1), ?_, h1, h2⟩
    simp [tb3__law_pool, hi, geI, powI, modI, ofO, ha, hbig, r12, m1, m2, m3, hc, hw, e1, PR.er, PR.bind, ER.st, ER.bind, ER.out, SR.go]
theorem pool_spec (ns : List Int) (h : ns.length ≤ 63) : ∃ q, PO q ∧ t__law_pool (ns, ()) = .ok q (ns, ()) := by
  obtain ⟨γ1, e1, h1, h2⟩ : ∃ γ', forL p__law_pool_2 tb3__law_pool (rngL 0 ns.length) (ns, [], 0, 0, 0, 0, ()) = .next γ' ∧ PB (63 * 60) γ'.2.1 ∧ γ'.1 = ns := by
    obtain ⟨γ', a1, a2⟩ := forL_inv (set := p__law_pool_2) (b := tb3__law_pool) (I := fun n (γ : G__law_pool) => PB (n * 60) γ.2.1 ∧ γ.1 = ns) (rngL 0 ns.length) 0 (ns, [], 0, 0, 0, 0, ()) ⟨⟨fun p hp => (List.not_mem_nil hp).elim, Nat.zero_le _⟩, rfl⟩ fun n x γ hx hI => by
      obtain ⟨hn, hx'⟩ := rngL_get hx
      obtain ⟨γ', c1, c2, c3⟩ := pool_b3 ns h x (by omega) ((0 + n) * 60) (by omega) γ hI.1 hI.2
      exact ⟨γ', c1, by rw [Nat.add_mul]; exact c2, c3⟩
    rw [rngL_len] at a2
    exact ⟨γ', a1, ⟨a2.1.1, Nat.le_trans a2.1.2 (by omega)⟩, a2.2⟩
  refine ⟨γ1.2.1, ⟨h1.1, Nat.le_trans h1.2 (by omega)⟩, ?_⟩
  have hm : (if (63 : Int) < (ns.length : Int) then 63 else (ns.length : Int)) = (ns.length : Int) := if_neg (by omega)
  have r := rng_in (j := (ns.length : Int)) (by omega)
  simp [t__law_pool, runE, B__law_pool, i__law_pool, o__law_pool, hm, r, e1, PR.er, PR.bind, ER.st, ER.bind, ER.out, SR.go]
end Ft
namespace Ft
open PySem PySem.Spec L2 Fs
theorem names_spec (q : List Int) (hq : PO q) (menu : List Str) (hm : menu.length ≤ 100) (n : Nat) (hn : n ≤ menu.length) : ∃ (xs left : List Str) (q' : List Int), PO q' ∧ xs.length = n ∧ (xs ++ left).Perm menu ∧ t__law_names (q, menu, (n : Int), ()) = .ok xs (q', menu, (n : Int), ()) := by
  obtain ⟨γ1, e1, h1, h2, h3⟩ : ∃ γ', forL p__law_names_5 tb1__law_names (rngL 0 n) (q, menu, (n : Int), menu, [], 0, ()) = .next γ' ∧ PO γ'.1 ∧ γ'.2.2.2.2.1.length = n ∧ (γ'.2.2.2.2.1 ++ γ'.2.2.2.1).Perm menu := by
    obtain ⟨γ', a1, a2⟩ := forL_inv (set := p__law_names_5) (b := tb1__law_names) (I := fun i (γ : G__law_names) => PO γ.1 ∧ γ.2.2.2.2.1.length = i ∧ (γ.2.2.2.2.1 ++ γ.2.2.2.1).Perm menu) (rngL 0 n) 0 (q, menu, (n : Int), menu, [], 0, ()) ⟨hq, rfl, List.Perm.refl _⟩ fun i x γ hx hI => by
      obtain ⟨hi, hx'⟩ := rngL_get hx
      obtain ⟨q0, m0, n0, left, acc, k0, ⟨⟩⟩ := γ
      obtain ⟨i1, i2, i3⟩ := hI
      simp only at i1 i2 i3
      have hlen := i3.length_eq
      rw [List.length_append] at hlen
      have hl : (0 : Int) < left.length := by omega
      obtain ⟨j, q1, j0, j1, hq1, et⟩ := take_spec q0 i1 left.length hl
      obtain ⟨y, hy, ey⟩ := popA_ok left j ⟨j0, j1⟩
      have ha : acc.length < lim := by
        show acc.length < 16777216
        omega
      refine ⟨(q1, m0, n0, left.eraseIdx j.toNat, acc ++ [y], 0, ()), ?_, hq1, by simp; omega, ?_⟩
      · simp [tb1__law_names, et, ey, ha, PR.er, PR.bind, ER.st, ER.bind, ER.out, SR.go]
      · refine List.Perm.trans ?_ i3
        rw [List.append_assoc]
        exact (perm_erase left j.toNat y hy).append_left acc
    rw [rngL_len, Nat.zero_add] at a2
    exact ⟨γ', a1, a2⟩
  refine ⟨γ1.2.2.2.2.1, γ1.2.2.2.1, γ1.1, h1, h2, h3, ?_⟩
  have r := rng_in (j := (n : Int)) (by omega)
  simp [t__law_names, runE, B__law_names, i__law_names, o__law_names, r, e1, PR.er, PR.bind, ER.st, ER.bind, ER.out, SR.go]
end Ft
namespace Ft
open PySem PySem.Spec L2 Fs
theorem tables_spec (q : List Int) (hq : PO q) (l w : Nat) (hl : 1 ≤ l ∧ l ≤ 8) (hw : 1 ≤ w ∧ w ≤ 7) : ∃ (ts : List (HL [Str, List Str])) (q' : List Int), PO q' ∧ TabsOk l w ts ∧ t__law_tables (q, (l : Int), (w : Int), ()) = .ok ts (q', (l : Int), (w : Int), ()) := by
  obtain ⟨j, q1, j0, j1, hq1, et⟩ := take_spec q hq l (by omega)
  obtain ⟨xs, left, q2, hq2, x1, x2, en⟩ := names_spec q1 hq1 tmenu (by decide) (1 + j.toNat) (by show _ ≤ 8; omega)
  have ej : ((1 + j.toNat : Nat) : Int) = 1 + j := by omega
  rw [ej] at en
  have hx : xs.Nodup := (List.nodup_append.mp (x2.symm.nodup tmenu_nd)).1
  have hxm : ∀ x ∈ xs, x ∈ tmenu := fun x h => x2.subset (List.mem_append_left _ h)
  obtain ⟨γ1, e1, h1, h2, h3⟩ : ∃ γ', forL p__law_tables_5 tb1__law_tables xs (q2, (l : Int), (w : Int), tmenu, [], "", [], ()) = .next γ' ∧ (PO γ'.1 ∧ γ'.2.2.1 = (w : Int)) ∧ γ'.2.2.2.2.1.map (·.1) = xs ∧ ∀ t ∈ γ'.2.2.2.2.1, ColsOk w t.2.1 := by
    obtain ⟨γ', a1, a2⟩ := forL_inv (set := p__law_tables_5) (b := tb1__law_tables) (I := fun i (γ : G__law_tables) => (PO γ.1 ∧ γ.2.2.1 = (w : Int)) ∧ γ.2.2.2.2.1.map (·.1) = xs.take i ∧ ∀ t ∈ γ.2.2.2.2.1, ColsOk w t.2.1) xs 0 (q2, (l : Int), (w : Int), tmenu, [], "", [], ()) ⟨⟨hq2, rfl⟩, by simp, fun t h => (List.not_mem_nil h).elim⟩ fun i x γ hx hI => by
      obtain ⟨q0, l0, w0, m0, acc, n0, c0, ⟨⟩⟩ := γ
      obtain ⟨⟨i1, i2⟩, i3, i4⟩ := hI
      simp only at i1 i2 i3 i4
      subst i2
      obtain ⟨j, q1, j0, j1, hq1, et⟩ := take_spec q0 i1 w (by omega)
      obtain ⟨cs, left, q3, hq3, c1, c2, en⟩ := names_spec q1 hq1 cmenu (by decide) (1 + j.toNat) (by show _ ≤ 7; omega)
      have ej : ((1 + j.toNat : Nat) : Int) = 1 + j := by omega
      rw [ej] at en
      unfold cmenu at en
      have hlen : acc.length ≤ 8 := by
        have := congrArg List.length i3
        rw [List.length_map, List.length_take] at this
        omega
      have ha : acc.length < lim := by
        show acc.length < 16777216
        omega
      refine ⟨(q3, l0, (w : Int), m0, acc.append [mkTab x cs], "", [], ()), ?_, ⟨hq3, rfl⟩, ?_, fun t ht => ?_⟩
      · simp [tb1__law_tables, et, en, ha, mkTab, PR.er, PR.bind, ER.st, ER.bind, ER.out, SR.go]
      · have hi : i < xs.length := (List.getElem?_eq_some_iff.mp hx).1
        show List.map (·.1) (acc ++ [mkTab x cs]) = _
        rw [List.map_append, i3]
        show _ ++ [x] = _
        rw [Nat.zero_add, List.take_succ, hx]
        rfl
      · have ht : t ∈ acc ++ [mkTab x cs] := ht
        rcases List.mem_append.mp ht with ht | ht
        · exact i4 t ht
        · rw [List.mem_singleton.mp ht]
          show ColsOk w cs
          exact ⟨by omega, by omega, (List.nodup_append.mp (c2.symm.nodup cmenu_nd)).1, fun c h => c2.subset (List.mem_append_left _ h)⟩
    rw [Nat.zero_add, List.take_length] at a2
    exact ⟨γ', a1, a2⟩
  refine ⟨γ1.2.2.2.2.1, γ1.1, h1.1, ⟨?_, ?_, by rw [h2]; exact hx, fun t h => hxm _ (by rw [← h2]; exact List.mem_map_of_mem h), h3⟩, ?_⟩
  · have := congrArg List.length h2
    rw [List.length_map] at this
    omega
  · have := congrArg List.length h2
    rw [List.length_map] at this
    omega
  · unfold tmenu at en e1
    simp [t__law_tables, runE, B__law_tables, i__law_tables, o__law_tables, et, en, e1, PR.er, PR.bind, ER.st, ER.bind, ER.out, SR.go]
end Ft
namespace Ft
open PySem PySem.Spec L2 Fs
section
variable {Γ σ ρ α β δ : Type} {g : Γ → σ} {p : σ → Γ → Γ} {γ γ1 γ2 γ3 : Γ} {q q' : σ} {r : ρ}
theorem callS {t : HL [σ] → ER (HL [σ]) ρ} (hg : g γ = q) (e : t (q, ()) = .ok r (q', ())) : (xCallE t p (fun as : HL [σ] => as.1) (xaSlot g xaNil) : Γ → ER Γ ρ) γ = .ok r (p q' γ) := by
  show ER.bind _ _ = _
  simp only [xaSlot, xaNil, ER.bind]
  rw [hg, e]
  rfl
theorem callS1 {t : HL [σ, α] → ER (HL [σ, α]) ρ} {tf : Γ → PR α} {a a' : α} (hg : g γ = q) (hn : tf γ = .ok a) (e : t (q, a, ()) = .ok r (q', a', ())) : (xCallE t p (fun as : HL [σ, α] => as.1) (xaSlot g (xaCons (xL tf) xaNil)) : Γ → ER Γ ρ) γ = .ok r (p q' γ) := by
  simp only [xCallE, xaSlot, xaCons, xaNil, xL, hn, PR.er, ER.bind]
  rw [hg, e]
  rfl
theorem callX2 {t : HL [σ, α, β] → ER (HL [σ, α, β]) ρ} {tf : Γ → ER Γ α} {tg : Γ → ER Γ β} {a a' : α} {b b' : β} (hn : tf γ = .ok a γ1) (hm : tg γ1 = .ok b γ2) (hg : g γ2 = q) (e : t (q, a, b, ()) = .ok r (q', a', b', ())) : (xCallE t p (fun as : HL [σ, α, β] => as.1) (xaSlot g (xaCons tf (xaCons tg xaNil))) : Γ → ER Γ ρ) γ = .ok r (p q' γ2) := by
  simp only [xCallE, xaSlot, xaCons, xaNil, hn, hm, ER.bind]
  rw [hg, e]
  rfl
end
theorem runE_ret {Us Ts : List Type} {ρ : Type} {body : HL Ts → SR (HL Ts) ρ} {f : HL Us → HL Ts} {out : HL Us → HL Ts → HL Us} {fin : Option ρ} {as as' : HL Us} {r : ρ} {γ : HL Ts} (h : body (f as) = .ret r γ) (ho : out as γ = as') : runE body f out fin as = .ok r as' := by
  unfold runE
  rw [h, ← ho]
theorem xLCons_ok {Γ α : Type} {t : Γ → ER Γ α} {tr : Γ → ER Γ (List α)} {γ γ1 γ2 : Γ} {a : α} {r : List α} (h1 : t γ = .ok a γ1) (h2 : tr γ1 = .ok r γ2) : xLCons t tr γ = .ok (a :: r) γ2 := by
  show (t γ).bind _ = _
  rw [h1]
  show (tr γ1).bind _ = _
  rw [h2]
  rfl
end Ft
namespace Ft
open PySem PySem.Spec L2 Fs
theorem xAppO_ok {Γ α : Type} {t : Γ → PR (List α)} {p : List α → Γ → Γ} {te : Γ → PR α} {γ : Γ} {xs : List α} {a : α} (h1 : t γ = .ok xs) (h2 : te γ = .ok a) (hl : xs.length < lim) : xAppO t p te γ = .ok () (p (xs ++ [a]) γ) := by
  unfold xAppO
  rw [h1, h2]
  exact if_pos hl
theorem putIx_ok {α : Type} {Ts : List Type} {t : HL Ts → PR (List α)} {ti : HL Ts → PR Int} {p : List α → HL Ts → HL Ts} {γ : HL Ts} {xs : List α} {i : Int} {j : Nat} {a : α} (h1 : t γ = .ok xs) (h2 : ti γ = .ok i) (h3 : L2.ixN xs.length i = some j) : putIx t ti p a γ = p (xs.set j a) γ := by
  unfold putIx
  rw [h1, h2]
  show (match L2.ixN xs.length i with
    | some j => p (xs.set j a) γ
    | Option.none => γ) = _
  rw [h3]
theorem ixN_nat {n j : Nat} (h : j < n) : L2.ixN n (j : Int) = some j := by
  unfold L2.ixN
  rw [if_pos (by omega), if_pos (by omega)]
  rfl
theorem x2_ok {Γ α β δ : Type} {op : α → β → PR δ} {ta : Γ → ER Γ α} {tb : Γ → ER Γ β} {γ γ1 γ2 : Γ} {a : α} {b : β} {r : δ} (h1 : ta γ = .ok a γ1) (h2 : tb γ1 = .ok b γ2) (h3 : op a b = .ok r) : x2 op ta tb γ = .ok r γ2 := by
  unfold x2
  rw [h1, ER.bind_ok, h2, ER.bind_ok, h3]
  rfl
theorem xCallN_of {Γ : Type} {Us : List Type} {ρ : Type} (t : HL Us → ER (HL Us) ρ) (ta : Γ → PR (HL Us)) (γ : Γ) (u as : HL Us) (r : ρ) (h1 : ta γ = .ok u) (h2 : t u = .ok r as) : xCallN t ta γ = .ok r γ := by
  unfold xCallN
  rw [h1]
  show ((t u).out fun _ => γ) = _
  rw [h2]
  rfl
theorem forL_cons {Γ ρ α : Type} {set : α → Γ → Γ} {b : Γ → SR Γ ρ} {x : α} {r : List α} {γ γ' : Γ} (h : b (set x γ) = .next γ') : forL set b (x :: r) γ = forL set b r γ' := by
  show (b (set x γ)).go (forL set b r) = _
  rw [h]
  rfl
end Ft
namespace Ft
open PySem PySem.Spec L2 Fs
end Ft
namespace Ft
open PySem PySem.Spec L2 Fs
theorem xCall_ok {Γ U ρ : Type} {t : U → PR ρ} {ta : Γ → ER Γ U} {γ γ' : Γ} {u : U} {r : ρ} (h1 : ta γ = .ok u γ') (h2 : t u = .ok r) : xCall t ta γ = .ok r γ' := by
  show (ta γ).bind _ = _
  rw [h1]
  show (t u).er γ' = _
  rw [h2]
  rfl
theorem xNot_ok {Γ : Type} {ta : Γ → ER Γ Bool} {γ γ' : Γ} {b : Bool} (h : ta γ = .ok b γ') : xNot ta γ = .ok (!b) γ' := by
  show (ta γ).bind _ = _
  rw [h]
  rfl
theorem xAnd_f {Γ : Type} {ta tb : Γ → ER Γ Bool} {γ γ' : Γ} (h : ta γ = .ok false γ') : xAnd ta tb γ = .ok false γ' := by
  show (ta γ).bind _ = _
  rw [h]
  rfl
theorem xAnd_t {Γ : Type} {ta tb : Γ → ER Γ Bool} {γ γ' : Γ} {r : ER Γ Bool} (h : ta γ = .ok true γ') (h2 : tb γ' = r) : xAnd ta tb γ = r := by
  show (ta γ).bind _ = _
  rw [h]
  exact h2
theorem xCons_ok {Γ α : Type} {Us : List Type} {t : Γ → ER Γ α} {tr : Γ → ER Γ (HL Us)} {γ γ1 γ2 : Γ} {a : α} {r : HL Us} (h1 : t γ = .ok a γ1) (h2 : tr γ1 = .ok r γ2) : xCons t tr γ = .ok ((a, r) : HL (α :: Us)) γ2 := by
  show (t γ).bind _ = _
  rw [h1]
  show (tr γ1).bind _ = _
  rw [h2]
  rfl
theorem is_ok (n : Int) : c__law_is (n, n, ()) = .ok true := by
  have e : oEq false (tyInt.enc n) (tyInt.enc n) = .ok true := by
    rw [eq_int]
    exact congrArg PR.ok (beq_self_eq_true n)
  show runC B__law_is i__law_is Option.none (n, n, ()) = _
  exact runC_ret (γ := ((n, n, ()) : G__law_is)) (tRet_ok (xL_ok (cAnd_t (c1_ok (a := n) rfl rfl) (cAnd_t (cNot_ok (b := false) (c1_ok (a := n) rfl rfl)) (c2_ok (a := n) (b := n) rfl rfl e)))))
theorem cell_spec (q : List Int) (h : PO q) : ∃ (c : Option Int) (q' : List Int), PO q' ∧ t__law_cell (q, ()) = .ok c (q', ()) := by
  obtain ⟨N, hp⟩ : ∃ N : Int, powI 10 24 = some N := ⟨10 ^ 24, by decide +kernel⟩
  obtain ⟨n, q1, n0, n1, h1, e1⟩ := take_spec q h 100 (by omega)
  obtain ⟨m, q2, m0, m1, h2, e2⟩ := take_spec q1 h1 8 (by omega)
  obtain ⟨i, rfl⟩ : ∃ i : Nat, m = (i : Int) := ⟨m.toNat, by omega⟩
  have hmenu : (cLCons (c1 (fun a => .ok ((fun a => some ((fun a => a) a)) a)) (cC (0 : Int))) (cLCons (c1 (fun a => .ok ((fun a => some ((fun a => a) a)) a)) (cC (1 : Int))) (cLCons (c1 (fun a => .ok ((fun _ => Option.none) a)) (cC ())) (cLCons (c1 (fun a => .ok ((fun a => some ((fun a => a) a)) a)) (cV g__law_cell_1)) (cLCons (c1 (fun a => .ok ((fun a => some ((fun a => a) a)) a)) (c2 oSub (c1 oNeg (cC (1 : Int))) (cV g__law_cell_1))) (cLCons (c1 (fun a => .ok ((fun a => some ((fun a => a) a)) a)) (c2 oAdd (c2 oPow (cC (10 : Int)) (cC (24 : Int))) (cV g__law_cell_1))) (cLCons (c1 (fun a => .ok ((fun _ => Option.none) a)) (cC ())) (cLCons (c1 (fun a => .ok ((fun a => some ((fun a => a) a)) a)) (cC (7 : Int))) cLNil))))))) : G__law_cell → PR (List (Option Int))) ((q1, n, ()) : G__law_cell) = .ok [some 0, some 1, none, some n, some (-1 - n), some (N + n), none, some 7] := by
    have h6 : (c1 (fun a => .ok ((fun a => some ((fun a => a) a)) a)) (c2 oAdd (c2 oPow (cC (10 : Int)) (cC (24 : Int))) (cV g__law_cell_1)) : G__law_cell → PR (Option Int)) ((q1, n, ()) : G__law_cell) = .ok (some (N + n)) := c1_ok (a := N + n) (c2_ok (a := N) (b := n) (c2_ok (a := (10 : Int)) (b := (24 : Int)) rfl rfl (by
      show ofO (powI 10 24) = _
      rw [hp]
      rfl)) rfl rfl) rfl
    exact cLCons_ok (a := some 0) rfl (cLCons_ok (a := some 1) rfl (cLCons_ok (a := none) rfl (cLCons_ok (a := some n) rfl (cLCons_ok (a := some (-1 - n)) rfl (cLCons_ok (a := some (N + n)) h6 rfl)))))
  generalize hM : ([some 0, some 1, none, some n, some (-1 - n), some (N + n), none, some 7] : List (Option Int)) = M at *
  have hi : i < M.length := by
    rw [← hM]
    show i < 8
    omega
  refine ⟨M[i], q2, h2, ?_⟩
  have ex : oIdx M (i : Int) = .ok M[i] := oIdx_of (atI_get _ i hi)
  generalize M[i] = c at *
  refine runE_ret (γ := ((q2, n, ()) : G__law_cell)) ?_ rfl
  refine (tSeq_ok (γ' := ((q1, n, ()) : G__law_cell)) (tSet_ok (γ' := ((q1, 0, ()) : G__law_cell)) (a := n) (callS1 (g := g__law_cell_0) (p := p__law_cell_0) (γ := ((q, 0, ()) : G__law_cell)) (tf := cC (100 : Int)) rfl rfl e1))).trans ?_
  exact tRet_ok (x2_ok (γ1 := ((q1, n, ()) : G__law_cell)) (a := M) (b := (i : Int)) (xL_ok hmenu) (callS1 (g := g__law_cell_0) (p := p__law_cell_0) (γ := ((q1, n, ()) : G__law_cell)) (tf := cC (8 : Int)) rfl rfl e2) ex)
theorem rows_t {ts : List Tab} (T : TW ts) {m : Nat} {stk : List (List Row)} (S : SkOk ts m stk) (hm : m ≤ 200) {i : Nat} {t : Str} {cs : List Str} {rows : List Row} (ht : ts[i]? = some (mkTab t cs)) (hs : stk[i]? = some rows) : t_Store_rows (stO ts (stD stk), t, ()) = .ok (rows.map rowD) (stO ts (stD stk), t, ()) := by
  have hk : (ts.map (·.1))[i]? = some t := by rw [List.getElem?_map, ht]; rfl
  have hg := getA_zip T.nd (by rw [List.length_map, (S.st T hm).len]) hk (S.at_ T hs)
  have hr := rank_tab T ht
  have e : oGetA ((ts.map (·.1)).zip (stD stk)) t = .ok (rows.map rowD) := by
    show ofO (getA _ t) = _
    rw [hg]
    rfl
  refine runE_ret (γ := ((stO ts (stD stk), t, ()) : G_Store_rows)) ?_ rfl
  have s1 : (xL (cCall c_Schema_rank (cCons (c1 (fun x : O_Store => .ok (x.1)) (cV g_Store_rows_0)) (cCons (cV g_Store_rows_1) cNil))) : G_Store_rows → ER G_Store_rows Int) ((stO ts (stD stk), t, ()) : G_Store_rows) = .ok (i : Int) ((stO ts (stD stk), t, ()) : G_Store_rows) := xL_ok (cCall_ok (u := ((sch ts, t, ()) : HL U_Schema_rank)) rfl hr)
  refine (tSeq_ok (γ' := ((stO ts (stD stk), t, ()) : G_Store_rows)) (tDo_ok s1)).trans ?_
  exact tRet_ok (xL_ok (c2_ok (a := (ts.map (·.1)).zip (stD stk)) (b := t) rfl rfl e))
end Ft
namespace Ft
open PySem PySem.Spec L2 Fs
theorem rng_ok {n : Nat} (h : n ≤ lim) : oRng (n : Int) = .ok (rngL 0 n) := by
  show (if -big ≤ (n : Int) ∧ (n : Int) ≤ lim then PR.ok (rngL 0 (n : Int).toNat) else .bad) = _
  rw [if_pos ⟨Int.le_trans rng_lo (by omega), by exact_mod_cast h⟩, Int.toNat_natCast]
section
variable {Γ ρ α β : Type}
theorem rng_succ (lo : Nat) (n : Nat) : rngL (lo : Int) (n + 1) = (lo : Int) :: rngL ((lo + 1 : Nat) : Int) n := by
  unfold rngL
  rw [List.range_succ_eq_map, List.map_cons, List.map_map]
  refine congr (congrArg List.cons (by simp)) (List.map_congr_left fun i _ => ?_)
  show (lo : Int) + ((i + 1 : Nat) : Int) = ((lo + 1 : Nat) : Int) + (i : Int)
  omega
end
end Ft
namespace Ft
open PySem PySem.Spec L2 Fs
theorem sh_rows {rows : List Row} (h : ∀ r ∈ rows, r.length ≤ lim) (hl : rows.length ≤ lim) : Sh 64 ((tyList tyData).enc (rows.map rowD)) := by
  have e : (tyList tyData).enc (rows.map rowD) = .list (rows.map rowD) := congrArg Fs.Data.list (List.map_id' _)
  rw [e]
  refine sh_list (k := 63) (fun d hd => ?_) (by rw [List.length_map]; exact hl)
  obtain ⟨r, hr, rfl⟩ := List.mem_map.mp hd
  exact sh_tup (k := 62) (fun d hd => by
    obtain ⟨c, _, rfl⟩ := List.mem_map.mp hd
    exact sh_cell c 62) (by rw [List.length_map]; exact h r hr)
theorem tLend_ok {Γ ρ α : Type} {g : Γ → α} {p : α → Γ → Γ} {t : Γ → SR Γ ρ} {γ γ' : Γ} (h : t γ = .next γ') : tLend g p t γ = .next (p (g γ) γ') := by
  unfold tLend
  rw [h]
theorem xIns_ok0 {Γ α : Type} {g : Γ → List α} {p : List α → Γ → Γ} {ti : Γ → ER Γ Int} {t : Γ → ER Γ α} {γ : Γ} {a : α} (h1 : ti γ = .ok 0 γ) (h2 : t γ = .ok a γ) (hl : (g γ).length < lim) : ∃ xs, xIns g p ti t γ = .ok () (p xs γ) := by
  refine ⟨(g γ).take (0 : Int).toNat ++ [a] ++ (g γ).drop (0 : Int).toNat, ?_⟩
  show (ti γ).bind _ = _
  rw [h1]
  show (t γ).bind _ = _
  rw [h2]
  exact if_pos ⟨hl, by omega, by decide⟩
section
variable {st : O_Store} {ts : List Tab} {sk : List (List Fs.Data)} {tot k : Int} {told : List Fs.Data}
abbrev SHo (st : O_Store) (ts : List Tab) (sk : List (List Fs.Data)) (tot k : Int) (told : List Fs.Data) (row cell : Fs.Data) : G__law_holds := (st, ts, sk, tot, k, told, row, cell, ())
theorem ho_1 {cs : List Fs.Data} {x : Option Int} : tb1__law_holds (p__law_holds_7 (encC x) (SHo st ts sk tot k told (.tup cs) .none)) = .next (SHo st ts sk tot k told (.tup cs) .none) := by
  have e : (xL (cOr (cNot (c1 (fun a => oIsi "tuple" (tyData.enc a)) (cV g__law_holds_6))) (c1 (fun a => oIsi "bool" (tyData.enc a)) (cV g__law_holds_7))) : G__law_holds → ER G__law_holds Bool) (SHo st ts sk tot k told (.tup cs) (encC x)) = .ok false (SHo st ts sk tot k told (.tup cs) (encC x)) := xL_ok (cOr_f (cNot_ok (b := true) (c1_ok (a := Fs.Data.tup cs) rfl rfl)) (c1_ok (a := encC x) rfl (by cases x <;> rfl)))
  exact tKill_ok (γ := SHo st ts sk tot k told (.tup cs) (encC x)) (γ' := SHo st ts sk tot k told (.tup cs) (encC x)) ((tIf_f e).trans rfl)
theorem ho_2 {r : Row} (hr : r.length ≤ lim) : tb2__law_holds (p__law_holds_6 (rowD r) (SHo st ts sk tot k told .none .none)) = .next (SHo st ts sk tot k told .none .none) := by
  have es : oSeqD (rowD r) = .ok (r.map encC) := by
    show (if (r.map encC).length ≤ lim then PR.ok (r.map encC) else .bad) = _
    exact if_pos (by rw [List.length_map]; exact hr)
  have e : (x1 oSeqD (xL (cV g__law_holds_6)) : G__law_holds → ER G__law_holds (List Fs.Data)) (SHo st ts sk tot k told (rowD r) .none) = .ok (r.map encC) (SHo st ts sk tot k told (rowD r) .none) := x1_ok (a := rowD r) rfl es
  have hL : forL p__law_holds_7 tb1__law_holds (r.map encC) (SHo st ts sk tot k told (rowD r) .none) = .next (SHo st ts sk tot k told (rowD r) .none) := forL_same fun d hd => by
    obtain ⟨x, _, rfl⟩ := List.mem_map.mp hd
    exact ho_1
  exact tKill_ok (γ := SHo st ts sk tot k told (rowD r) .none) (γ' := SHo st ts sk tot k told (rowD r) .none) ((tFor_ok e).trans hL)
theorem ho_3 {t : Str} {cs : List Str} {rows : List Row} (hat : oIdx ts k = .ok (mkTab t cs)) (hats : oIdx sk k = .ok (rows.map rowD)) (hr : t_Store_rows (st, t, ()) = .ok (rows.map rowD) (st, t, ())) (hw : ∀ r ∈ rows, r.length ≤ lim) (hl : (rows.map rowD).length < lim) (q1 : oEq true ((tyList tyData).enc (rows.map rowD)) ((tyList tyData).enc (rows.map rowD)) = .ok false) : tb3__law_holds (p__law_holds_4 k (SHo st ts sk tot 0 [] .none .none)) = .next (SHo st ts sk (tot + ((rows.map rowD).length : Int)) 0 [] .none .none) := by
  have s1 : (tSet p__law_holds_5 (xCallN t_Store_rows (cCons (cV g__law_holds_0) (cCons (c1 (fun x : (HL [Str, (List Str)]) => .ok (x.1)) (c2 oIdx (cV g__law_holds_1) (cV g__law_holds_4))) cNil))) : G__law_holds → SR G__law_holds Bool) (SHo st ts sk tot k [] .none .none) = .next (SHo st ts sk tot k (rows.map rowD) .none .none) := tSet_ok (γ' := SHo st ts sk tot k [] .none .none) (a := rows.map rowD) (xCallN_of t_Store_rows _ _ ((st, t, ()) : HL U_Store_rows) ((st, t, ()) : HL U_Store_rows) _ (cCons_ok (a := st) rfl (cCons_ok (a := t) (c1_ok (a := mkTab t cs) (c2_ok (a := ts) (b := k) rfl rfl hat) rfl) rfl)) hr)
  have hL : forL p__law_holds_6 tb2__law_holds (rows.map rowD) (SHo st ts sk tot k (rows.map rowD) .none .none) = .next (SHo st ts sk tot k (rows.map rowD) .none .none) := forL_same fun d hd => by
    obtain ⟨r, hr, rfl⟩ := List.mem_map.mp hd
    exact ho_2 (hw r hr)
  generalize rows.map rowD = rd at *
  have s2 : (xL (cOr (cNot (c1 (fun a => oIsi "list" ((tyList tyData).enc a)) (cV g__law_holds_5))) (c2 (fun x y => oEq true ((tyList tyData).enc x) ((tyList tyData).enc y)) (cV g__law_holds_5) (c2 oIdx (cV g__law_holds_2) (cV g__law_holds_4)))) : G__law_holds → ER G__law_holds Bool) (SHo st ts sk tot k rd .none .none) = .ok false (SHo st ts sk tot k rd .none .none) := xL_ok (cOr_f (cNot_ok (b := true) (c1_ok (a := rd) rfl rfl)) (c2_ok (a := rd) (b := rd) rfl (c2_ok (a := sk) (b := k) rfl rfl hats) q1))
  have s3 : (tLend g__law_holds_5 p__law_holds_5 (tFor (fun γ => .ok (g__law_holds_5 γ) γ) p__law_holds_6 tb2__law_holds) : G__law_holds → SR G__law_holds Bool) (SHo st ts sk tot k rd .none .none) = .next (SHo st ts sk tot k rd .none .none) := tLend_ok (γ' := SHo st ts sk tot k rd .none .none) ((tFor_ok (γ' := SHo st ts sk tot k rd .none .none) (xs := rd) rfl).trans hL)
  obtain ⟨xs, s4⟩ := xIns_ok0 (g := g__law_holds_5) (p := p__law_holds_5) (ti := xL (cC (0 : Int))) (t := xL (c1 (fun a => .ok ((tyTup (.cons tyStr .nil)).enc a)) (cCons (cC ("q0" : Str)) cNil))) (γ := SHo st ts sk tot k rd .none .none) (a := (tyTup (.cons tyStr .nil)).enc (("q0", ()) : HL [Str])) rfl rfl hl
  have s5 : (tSet p__law_holds_3 (xL (c2 oAdd (cV g__law_holds_3) (c1 oLen (c2 oIdx (cV g__law_holds_2) (cV g__law_holds_4))))) : G__law_holds → SR G__law_holds Bool) (SHo st ts sk tot k xs .none .none) = .next (SHo st ts sk (tot + (rd.length : Int)) k xs .none .none) := tSet_ok (γ' := SHo st ts sk tot k xs .none .none) (a := tot + (rd.length : Int)) (xL_ok (c2_ok (a := tot) (b := (rd.length : Int)) rfl (c1_ok (a := rd) (c2_ok (a := sk) (b := k) rfl rfl hats) rfl) rfl))
  unfold tb3__law_holds
  refine tKill_ok (γ := SHo st ts sk tot k [] .none .none) (γ' := SHo st ts sk (tot + (rd.length : Int)) k xs .none .none) ?_
  refine (tSeq_ok s1).trans ((tSeq_ok ((tIf_f s2).trans rfl)).trans ((tSeq_ok s3).trans ((tSeq_ok (tDo_ok s4)).trans s5)))
end
theorem size_spec {ts : List Tab} {ss : List (List Fs.Data)} (hl : ss.length = ts.length) (h5 : ts.length ≤ 5) : c_Store_size (stO ts ss, ()) = .ok (sumLen ss) := by
  have e1 : ((ts.map (·.1)).zip ss).map (·.2) = ss := List.map_snd_zip (by rw [List.length_map, hl]; exact Nat.le_refl _)
  have hlt : ((ts.map (·.1)).zip ss).length < lim := show ((ts.map (·.1)).zip ss).length < 16777216 by
    rw [List.length_zip, List.length_map]
    omega
  have e2 : oSumVals ((ts.map (·.1)).zip ss) = .ok (sumLen ss) := by
    unfold oSumVals
    rw [if_pos hlt, e1]
  show runC B_Store_size i_Store_size Option.none (stO ts ss, ()) = _
  exact runC_ret (γ := ((stO ts ss, [], ()) : G_Store_size)) (tRet_ok (xL_ok (c1_ok (a := (ts.map (·.1)).zip ss) rfl e2)))
section
variable {ts : List Tab} (T : TW ts) {m : Nat} {stk : List (List Row)} (S : SkOk ts m stk) (hm : m ≤ 200)
include T S hm
theorem ho_loop : ∀ (n k : Nat) (tot : Int), k + n = ts.length → ∃ tot', forL p__law_holds_4 tb3__law_holds (rngL (k : Int) n) (SHo (stO ts (stD stk)) ts (stD stk) tot 0 [] .none .none) = .next (SHo (stO ts (stD stk)) ts (stD stk) tot' 0 [] .none .none) ∧ tot' = tot + sumLen ((stD stk).drop k)
  | 0, k, tot, h => ⟨tot, rfl, by
    have : (stD stk).drop k = [] := List.drop_eq_nil_iff.mpr (by rw [List.length_map, S.len]; omega)
    rw [this]
    show tot = tot + 0
    omega⟩
  | n + 1, k, tot, h => by
    have hk : k < ts.length := by omega
    obtain ⟨t, cs, ht⟩ : ∃ t cs, ts[k]? = some (mkTab t cs) := ⟨_, _, List.getElem?_eq_getElem hk⟩
    obtain ⟨rows, hs⟩ : ∃ rows, stk[k]? = some rows := ⟨_, List.getElem?_eq_getElem (by rw [S.len]; exact hk)⟩
    have hnum := S.num rows (List.mem_of_getElem? hs)
    have hc4 : cs.length ≤ 4 := (T.cs _ (List.mem_of_getElem? ht)).2.2.1
    have hw : ∀ r ∈ rows, r.length ≤ lim := fun r hr => show _ ≤ 16777216 by rw [S.wid k t cs rows ht hs r hr]; omega
    have e1 := ho_3 (tot := tot) (oIdx_of (atI_nat ts k _ ht)) (oIdx_of (atI_nat _ k _ (S.at_ T hs))) (rows_t T S hm ht hs) hw (show _ < 16777216 by rw [List.length_map]; omega) (oEq_refl true (sh_rows hw (show _ ≤ 16777216 by omega)))
    obtain ⟨tot', e2, h2⟩ := ho_loop n (k + 1) (tot + ((rows.map rowD).length : Int)) (by omega)
    refine ⟨tot', ?_, ?_⟩
    · rw [rng_succ]
      exact (forL_cons e1).trans e2
    · have hd : (stD stk).drop k = rows.map rowD :: (stD stk).drop (k + 1) := by
        have hl : k < (stD stk).length := by rw [List.length_map, S.len]; exact hk
        have := List.drop_eq_getElem_cons hl
        rw [this]
        have e : (stD stk)[k] = rows.map rowD := by
          have h9 := S.at_ T hs
          rw [List.getElem?_eq_getElem hl] at h9
          exact Option.some.inj h9
        rw [e]
      rw [h2, hd]
      show _ = tot + (((rows.map rowD).length : Int) + sumLen ((stD stk).drop (k + 1)))
      omega
theorem holds_spec : c__law_holds (stO ts (stD stk), ts, stD stk, ()) = .ok true := by
  obtain ⟨tot, e, ht⟩ := ho_loop T S hm ts.length 0 0 (by omega)
  rw [List.drop_zero] at ht
  have hsz := size_spec (ts := ts) (ss := stD stk) (by rw [List.length_map, S.len]) T.len
  have h5 := T.len
  have ht : sumLen (stD stk) = tot := by omega
  rw [ht] at hsz
  clear ht S
  generalize stO ts (stD stk) = st at *
  generalize stD stk = sk at *
  have hf : (x1 oRng (xL (c1 oLen (cV g__law_holds_1))) : G__law_holds → ER G__law_holds (List Int)) (SHo st ts sk 0 0 [] .none .none) = .ok (rngL 0 ts.length) (SHo st ts sk 0 0 [] .none .none) := x1_ok (a := (ts.length : Int)) (xL_ok (c1_ok (a := ts) rfl rfl)) (rng_ok (show ts.length ≤ 16777216 by omega))
  show runC B__law_holds i__law_holds Option.none (st, ts, sk, ()) = _
  refine runC_ret (γ := SHo st ts sk tot 0 [] .none .none) ?_
  refine (tSeq_ok (γ' := SHo st ts sk 0 0 [] .none .none) rfl).trans ((tSeq_ok ((tFor_ok hf).trans e)).trans ?_)
  exact tRet_ok (xL_ok (cCall_ok (u := ((tot, tot, ()) : HL U__law_is)) (cCons_ok (a := tot) (cCall_ok (u := ((st, ()) : HL U_Store_size)) rfl hsz) (cCons_ok (a := tot) rfl rfl)) (is_ok tot)))
end
end Ft
namespace Ft
open PySem PySem.Spec L2 Fs
abbrev t0 : Tab := (("" : Str), ([] : List Str), ())
section
variable {Γ ρ σ α β : Type} {g : Γ → σ} {p : σ → Γ → Γ} {γ : Γ} {q q' : σ} {r : ρ}
theorem callV {t : HL [σ, α, β] → ER (HL [σ, α, β]) ρ} {ta : Γ → PR α} {gb : Γ → β} {a a' : α} {b b' : β} (hg : g γ = q) (ha : ta γ = .ok a) (hb : gb γ = b) (e : t (q, a, b, ()) = .ok r (q', a', b', ())) : (xCallE t p (fun as : HL [σ, α, β] => as.1) (xaSlot g (xaCons (xL ta) (xaSlot gb xaNil))) : Γ → ER Γ ρ) γ = .ok r (p q' γ) := by
  simp only [xCallE, xaSlot, xaCons, xaNil, xL, ha, PR.er, ER.bind]
  rw [hg, hb, e]
  rfl
end
theorem tAlias_ok {Γ ρ α : Type} {g : Γ → List α} {p : List α → Γ → Γ} {gx : Γ → α} {px : α → Γ → Γ} {ti : Γ → PR Int} {d : α} {t : Γ → SR Γ ρ} {γ γ' : Γ} {z : Int} {k : Nat} {a : α} (h1 : ti γ = .ok z) (h2 : L2.ixN (g γ).length z = some k) (h3 : (g γ)[k]? = some a) (h4 : t (px a γ) = .next γ') : tAlias g p gx px ti d t γ = .next (p ((g γ).set k (gx γ')) (px d γ')) := by
  unfold tAlias
  rw [h1]
  dsimp only
  rw [h2]
  dsimp only
  rw [h3]
  dsimp only
  rw [h4]
abbrev S16 (ns q : List Int) (ts : List Tab) (s : O_Schema) (sts : List O_Store) (sks : List (List (List Fs.Data))) (tn w pl : Int) (row : Row) (due : Int) (st : O_Store) (col : Str) : G_law := (ns, q, ts, s, sts, sks, tn, w, pl, row, due, st, t0, col, ())
abbrev B16 (ns q : List Int) (ts : List Tab) (s : O_Schema) (sts : List O_Store) (sks : List (List (List Fs.Data))) : G_law := S16 ns q ts s sts sks 0 0 0 [] 0 d_O_Store ""
theorem row_draw (ns : List Int) (ts : List Tab) (s : O_Schema) (sts : List O_Store) (sks : List (List (List Fs.Data))) (tn w pl : Int) : ∀ (cs : List Str) (q : List Int) (col : Str), PO q → ∃ (q' : List Int) (col' : Str) (r : Row), PO q' ∧ r.length = cs.length ∧ lcE p_law_13 (xL (cC true)) (xCallE t__law_cell p_law_1 (fun as : HL [(List Int)] => as.1) (xaSlot g_law_1 xaNil)) cs (S16 ns q ts s sts sks tn w pl [] 0 d_O_Store col) = .ok r (S16 ns q' ts s sts sks tn w pl [] 0 d_O_Store col')
  | [], q, col, h => ⟨q, col, [], h, rfl, rfl⟩
  | c :: cs, q, col, h => by
    obtain ⟨x, q1, h1, e1⟩ := cell_spec q h
    obtain ⟨q2, col2, r, h2, hl, e2⟩ := row_draw ns ts s sts sks tn w pl cs q1 c h1
    refine ⟨q2, col2, x :: r, h2, by rw [List.length_cons, List.length_cons, hl], ?_⟩
    exact lcE_cons (γ1 := S16 ns q ts s sts sks tn w pl [] 0 d_O_Store c) (γ2 := S16 ns q1 ts s sts sks tn w pl [] 0 d_O_Store c) rfl (callS (g := g_law_1) (p := p_law_1) (γ := S16 ns q ts s sts sks tn w pl [] 0 d_O_Store c) rfl e1) e2
noncomputable abbrev inA : G_law → SR G_law Bool := (tSeq (tIf (x2 (fun x y => oEq false (tyInt.enc x) (tyInt.enc y)) (xCallE t__law_take p_law_1 (fun as : HL [(List Int), Int] => as.1) (xaSlot g_law_1 (xaCons (xL (cC (2 : Int))) xaNil))) (xL (cC (1 : Int)))) (tIf (xNot (xCall c__law_is (xCons (xCallE t_Store_put p_law_11 (fun as : HL [O_Store, Str, Fs.Data] => as.1) (xaSlot g_law_11 (xaCons (xL (c1 (fun x : (HL [Str, (List Str)]) => .ok (x.1)) (c2 oIdx (cV g_law_2) (cV g_law_8)))) (xaCons (xL (c1 (fun a => .ok ((tyTl (tyOpt tyInt)).enc a)) (c1 oId (cV g_law_9)))) xaNil)))) (xCons (xL (cV g_law_10)) xNil)))) (tRet (xL (cC false))) tNext) (tIf (xNot (xCall c__law_is (xCons (xCallE t_Store_put p_law_11 (fun as : HL [O_Store, Str, Fs.Data] => as.1) (xaSlot g_law_11 (xaCons (xL (c1 (fun x : (HL [Str, (List Str)]) => .ok (x.1)) (c2 oIdx (cV g_law_2) (cV g_law_8)))) (xaSlot (fun γ => (tyList (tyOpt tyInt)).enc (g_law_9 γ)) xaNil)))) (xCons (xL (cV g_law_10)) xNil)))) (tRet (xL (cC false))) tNext)) (tSeq (tDo (xApp g_law_9 p_law_9 (xL (c1 (fun a => .ok ((fun a => some ((fun a => a) a)) a)) (cC (5 : Int)))))) (tSetIx g_law_9 p_law_9 (xL (cC (0 : Int))) (xL (c1 (fun a => .ok ((fun a => some ((fun a => a) a)) a)) (cC (6 : Int)))))))
section
variable {ns q q1 : List Int} {ts : List Tab} {s : O_Schema} {sts : List O_Store} {sks : List (List (List Fs.Data))} {tn w pl b : Int} {row : Row} {due : Int} {st st2 : O_Store} {t : Str} {cs : List Str}
theorem in_run (eb : t__law_take (q, 2, ()) = .ok b (q1, 2, ())) (hat : oIdx ts pl = .ok (mkTab t cs)) (hp1 : t_Store_put (st, t, .tup (row.map encC), ()) = .ok due (st2, t, .tup (row.map encC), ())) (hp2 : t_Store_put (st, t, .list (row.map encC), ()) = .ok due (st2, t, .list (row.map encC), ())) (hl : row.length < lim) : ∃ row', inA (S16 ns q ts s sts sks tn w pl row due st "") = .next (S16 ns q1 ts s sts sks tn w pl row' due st2 "") := by
  refine ⟨(row ++ [some 5]).set 0 (some 6), ?_⟩
  have hn : (c1 (fun x : (HL [Str, (List Str)]) => .ok (x.1)) (c2 oIdx (cV g_law_2) (cV g_law_8)) : G_law → PR Str) (S16 ns q1 ts s sts sks tn w pl row due st "") = .ok t := c1_ok (a := mkTab t cs) (c2_ok (a := ts) (b := pl) rfl rfl hat) rfl
  have e0 : (xCallE t__law_take p_law_1 (fun as : HL [(List Int), Int] => as.1) (xaSlot g_law_1 (xaCons (xL (cC (2 : Int))) xaNil)) : G_law → ER G_law Int) (S16 ns q ts s sts sks tn w pl row due st "") = .ok b (S16 ns q1 ts s sts sks tn w pl row due st "") := callS1 (g := g_law_1) (p := p_law_1) (γ := S16 ns q ts s sts sks tn w pl row due st "") (tf := cC (2 : Int)) rfl rfl eb
  have tl : (tSeq (tDo (xApp g_law_9 p_law_9 (xL (c1 (fun a => .ok ((fun a => some ((fun a => a) a)) a)) (cC (5 : Int)))))) (tSetIx g_law_9 p_law_9 (xL (cC (0 : Int))) (xL (c1 (fun a => .ok ((fun a => some ((fun a => a) a)) a)) (cC (6 : Int))))) : G_law → SR G_law Bool) (S16 ns q1 ts s sts sks tn w pl row due st2 "") = .next (S16 ns q1 ts s sts sks tn w pl ((row ++ [some 5]).set 0 (some 6)) due st2 "") := by
    refine (tSeq_ok (γ' := S16 ns q1 ts s sts sks tn w pl (row ++ [some 5]) due st2 "") (tDo_ok (xApp_ok (γ' := S16 ns q1 ts s sts sks tn w pl row due st2 "") (a := (some 5 : Option Int)) (xL_ok rfl) hl))).trans ?_
    have hix : L2.ixN (row ++ [some (5 : Int)]).length 0 = some 0 := ixN_nat (j := 0) (by rw [List.length_append, List.length_singleton]; omega)
    show (match L2.ixN (row ++ [some (5 : Int)]).length 0 with
      | some j => SR.next (p_law_9 ((row ++ [some 5]).set j (some 6)) (S16 ns q1 ts s sts sks tn w pl (row ++ [some 5]) due st2 ""))
      | Option.none => .bad) = _
    rw [hix]
    rfl
  have ebq : oEq false (tyInt.enc b) (tyInt.enc 1) = .ok (b == 1) := eq_int false b 1
  have hi := is_ok due
  by_cases hb : b = 1
  · rw [show (b == 1) = true from beq_iff_eq.mpr hb] at ebq
    have p1 : (xCallE t_Store_put p_law_11 (fun as : HL [O_Store, Str, Fs.Data] => as.1) (xaSlot g_law_11 (xaCons (xL (c1 (fun x : (HL [Str, (List Str)]) => .ok (x.1)) (c2 oIdx (cV g_law_2) (cV g_law_8)))) (xaCons (xL (c1 (fun a => .ok ((tyTl (tyOpt tyInt)).enc a)) (c1 oId (cV g_law_9)))) xaNil))) : G_law → ER G_law Int) (S16 ns q1 ts s sts sks tn w pl row due st "") = .ok due (S16 ns q1 ts s sts sks tn w pl row due st2 "") := callX2 (g := g_law_11) (p := p_law_11) (γ := S16 ns q1 ts s sts sks tn w pl row due st "") (γ1 := S16 ns q1 ts s sts sks tn w pl row due st "") (γ2 := S16 ns q1 ts s sts sks tn w pl row due st "") (a := t) (b := Fs.Data.tup (row.map encC)) (xL_ok hn) (xL_ok (c1_ok (a := row) (c1_ok (a := row) rfl rfl) rfl)) rfl hp1
    have p2 := xNot_ok (xCall_ok (t := c__law_is) (xCons_ok p1 (xCons_ok (t := xL (cV g_law_10)) (γ1 := S16 ns q1 ts s sts sks tn w pl row due st2 "") (a := due) rfl (tr := xNil) (γ2 := S16 ns q1 ts s sts sks tn w pl row due st2 "") (r := ()) rfl)) hi)
    refine (tSeq_ok (γ' := S16 ns q1 ts s sts sks tn w pl row due st2 "") ?_).trans tl
    exact (tIf_t (x2_ok (a := b) (b := (1 : Int)) e0 (xL_ok rfl) ebq)).trans ((tIf_f p2).trans rfl)
  · rw [show (b == 1) = false from beq_eq_false_iff_ne.mpr hb] at ebq
    have p1 : (xCallE t_Store_put p_law_11 (fun as : HL [O_Store, Str, Fs.Data] => as.1) (xaSlot g_law_11 (xaCons (xL (c1 (fun x : (HL [Str, (List Str)]) => .ok (x.1)) (c2 oIdx (cV g_law_2) (cV g_law_8)))) (xaSlot (fun γ => (tyList (tyOpt tyInt)).enc (g_law_9 γ)) xaNil))) : G_law → ER G_law Int) (S16 ns q1 ts s sts sks tn w pl row due st "") = .ok due (S16 ns q1 ts s sts sks tn w pl row due st2 "") := callV (g := g_law_11) (p := p_law_11) (γ := S16 ns q1 ts s sts sks tn w pl row due st "") (a := t) (b := Fs.Data.list (row.map encC)) rfl hn rfl hp2
    have p2 := xNot_ok (xCall_ok (t := c__law_is) (xCons_ok p1 (xCons_ok (t := xL (cV g_law_10)) (γ1 := S16 ns q1 ts s sts sks tn w pl row due st2 "") (a := due) rfl (tr := xNil) (γ2 := S16 ns q1 ts s sts sks tn w pl row due st2 "") (r := ()) rfl)) hi)
    refine (tSeq_ok (γ' := S16 ns q1 ts s sts sks tn w pl row due st2 "") ?_).trans tl
    exact (tIf_f (x2_ok (a := b) (b := (1 : Int)) e0 (xL_ok rfl) ebq)).trans ((tIf_f p2).trans rfl)
end
end Ft
namespace Ft
open PySem PySem.Spec L2 Fs
theorem dec_cell (c : Option Int) : decOpt decInt (encC c) = some c := by cases c <;> rfl
theorem dec_row (r : Row) : decAll (decOpt decInt) (r.map encC) = some r := by
  induction r with
  | nil => rfl
  | cons c r ih =>
    rw [List.map_cons]
    show ((decOpt decInt (encC c)).bind fun a => (decAll (decOpt decInt) (r.map encC)).map (a :: ·)) = _
    rw [dec_cell, ih]
    rfl
section
variable {ns q q1 q2 q3 q4 : List Int} {ts : List Tab} {s : O_Schema} {sts sts2 : List O_Store} {sks sks2 : List (List (List Fs.Data))} {n m b tn : Int} {w i : Nat} {row row0 : Row} {st st2 : O_Store} {t col : Str} {cs : List Str} {x0 x1' x2' : List (List Fs.Data)} {rd rd0 : List Fs.Data}
theorem turn_run (e1 : t__law_take (q, 3, ()) = .ok n (q1, 3, ())) (hw : oFdv n 2 = .ok (w : Int)) {N : Int} (hN : oLen ts = .ok N) (e2 : t__law_take (q1, N, ()) = .ok (i : Int) (q2, N, ())) (hat : oIdx ts (i : Int) = .ok (mkTab t cs)) (e3 : lcE p_law_13 (xL (cC true)) (xCallE t__law_cell p_law_1 (fun as : HL [(List Int)] => as.1) (xaSlot g_law_1 xaNil)) cs (S16 ns q2 ts s sts sks tn w i [] 0 d_O_Store "") = .ok row0 (S16 ns q3 ts s sts sks tn w i [] 0 d_O_Store col)) (e4 : t__law_take (q3, 4, ()) = .ok m (q4, 4, ()))
    (h0 : oIdx sks 0 = .ok x0) (h0i : oIdx x0 (i : Int) = .ok rd0) (hrow : (m = 3 ∧ 0 < rd0.length ∧ ∃ d, oIdx rd0 0 = .ok d ∧ decTl (decOpt decInt) d = some row) ∨ (¬(m = 3 ∧ 0 < rd0.length) ∧ row = row0))
    (hkw : oIdx sks (w : Int) = .ok x1') (hki : oIdx x1' (i : Int) = .ok rd) (hrl : rd.length < lim) (hix1 : L2.ixN x1'.length (i : Int) = some i) (hix2 : L2.ixN sks.length (w : Int) = some w) (hx2 : x1'.set i (rd ++ [rowD row]) = x2') (hsk : sks.set w x2' = sks2)
    (hsl : L2.ixN sts.length (w : Int) = some w) (hsw : sts[w]? = some st) (hst : sts.set w st2 = sts2) {row' : Row} {q5 : List Int} (hin : inA (S16 ns q4 ts s sts sks2 tn w i row (rd.length : Int) st "") = .next (S16 ns q5 ts s sts sks2 tn w i row' (rd.length : Int) st2 "")) :
    tb1_law (p_law_6 tn (B16 ns q ts s sts sks)) = .next (B16 ns q5 ts s sts2 sks2) := by
  have a1 : (tSet p_law_7 (x2 oFdv (xCallE t__law_take p_law_1 (fun as : HL [(List Int), Int] => as.1) (xaSlot g_law_1 (xaCons (xL (cC (3 : Int))) xaNil))) (xL (cC (2 : Int)))) : G_law → SR G_law Bool) (S16 ns q ts s sts sks tn 0 0 [] 0 d_O_Store "") = .next (S16 ns q1 ts s sts sks tn w 0 [] 0 d_O_Store "") := tSet_ok (γ' := S16 ns q1 ts s sts sks tn 0 0 [] 0 d_O_Store "") (a := (w : Int)) (x2_ok (γ1 := S16 ns q1 ts s sts sks tn 0 0 [] 0 d_O_Store "") (a := n) (b := (2 : Int)) (callS1 (g := g_law_1) (p := p_law_1) (γ := S16 ns q ts s sts sks tn 0 0 [] 0 d_O_Store "") (tf := cC (3 : Int)) rfl rfl e1) (xL_ok rfl) hw)
  have hv : (c1 oLen (cV g_law_2) : G_law → PR Int) (S16 ns q1 ts s sts sks tn w 0 [] 0 d_O_Store "") = .ok N := c1_ok (a := ts) rfl hN
  have a2 : (tSet p_law_8 (xCallE t__law_take p_law_1 (fun as : HL [(List Int), Int] => as.1) (xaSlot g_law_1 (xaCons (xL (c1 oLen (cV g_law_2))) xaNil))) : G_law → SR G_law Bool) (S16 ns q1 ts s sts sks tn w 0 [] 0 d_O_Store "") = .next (S16 ns q2 ts s sts sks tn w i [] 0 d_O_Store "") := tSet_ok (γ' := S16 ns q2 ts s sts sks tn w 0 [] 0 d_O_Store "") (a := (i : Int)) (callS1 (g := g_law_1) (p := p_law_1) (γ := S16 ns q1 ts s sts sks tn w 0 [] 0 d_O_Store "") (tf := c1 oLen (cV g_law_2)) rfl hv e2)
  have a3 : (tSet p_law_9 (xLc (x1 (fun a => .ok a) (xL (c1 (fun x : (HL [Str, (List Str)]) => .ok (x.2.1)) (c2 oIdx (cV g_law_2) (cV g_law_8))))) p_law_13 (xL (cC true)) (xCallE t__law_cell p_law_1 (fun as : HL [(List Int)] => as.1) (xaSlot g_law_1 xaNil)) (fun γ0 γ => (p_law_13 (g_law_13 γ0) γ))) : G_law → SR G_law Bool) (S16 ns q2 ts s sts sks tn w i [] 0 d_O_Store "") = .next (S16 ns q3 ts s sts sks tn w i row0 0 d_O_Store "") := by
    refine tSet_ok (γ' := S16 ns q3 ts s sts sks tn w i [] 0 d_O_Store "") (a := row0) ?_
    refine (xLc_ok (γ0 := S16 ns q2 ts s sts sks tn w i [] 0 d_O_Store "") (xs := cs) ?_ e3).trans rfl
    exact x1_ok (a := cs) (xL_ok (c1_ok (a := mkTab t cs) (c2_ok (a := ts) (b := (i : Int)) rfl rfl hat) rfl)) rfl
  have e4' : (xCallE t__law_take p_law_1 (fun as : HL [(List Int), Int] => as.1) (xaSlot g_law_1 (xaCons (xL (cC (4 : Int))) xaNil)) : G_law → ER G_law Int) (S16 ns q3 ts s sts sks tn w i row0 0 d_O_Store "") = .ok m (S16 ns q4 ts s sts sks tn w i row0 0 d_O_Store "") := callS1 (g := g_law_1) (p := p_law_1) (γ := S16 ns q3 ts s sts sks tn w i row0 0 d_O_Store "") (tf := cC (4 : Int)) rfl rfl e4
  have emq : oEq false (tyInt.enc m) (tyInt.enc 3) = .ok (m == 3) := eq_int false m 3
  have hpl : (c2 oIdx (c2 oIdx (cV g_law_5) (cC (0 : Int))) (cV g_law_8) : G_law → PR (List Fs.Data)) (S16 ns q4 ts s sts sks tn w i row0 0 d_O_Store "") = .ok rd0 := c2_ok (a := x0) (b := (i : Int)) (c2_ok (a := sks) (b := (0 : Int)) rfl rfl h0) rfl h0i
  have a4 : (tIf (xAnd (x2 (fun x y => oEq false (tyInt.enc x) (tyInt.enc y)) (xCallE t__law_take p_law_1 (fun as : HL [(List Int), Int] => as.1) (xaSlot g_law_1 (xaCons (xL (cC (4 : Int))) xaNil))) (xL (cC (3 : Int)))) (xL (c2 (oCmp gtI) (c1 oLen (c2 oIdx (c2 oIdx (cV g_law_5) (cC (0 : Int))) (cV g_law_8))) (cC (0 : Int))))) (tSet p_law_9 (xL (c1 (fun d => ofO ((decTl (decOpt decInt)) d)) (c2 oIdx (c2 oIdx (c2 oIdx (cV g_law_5) (cC (0 : Int))) (cV g_law_8)) (cC (0 : Int)))))) tNext : G_law → SR G_law Bool) (S16 ns q3 ts s sts sks tn w i row0 0 d_O_Store "") = .next (S16 ns q4 ts s sts sks tn w i row 0 d_O_Store "") := by
    have hg : ∀ o, decide (0 < rd0.length) = o → (xL (c2 (oCmp gtI) (c1 oLen (c2 oIdx (c2 oIdx (cV g_law_5) (cC (0 : Int))) (cV g_law_8))) (cC (0 : Int))) : G_law → ER G_law Bool) (S16 ns q4 ts s sts sks tn w i row0 0 d_O_Store "") = .ok o (S16 ns q4 ts s sts sks tn w i row0 0 d_O_Store "") := fun o ho => xL_ok (c2_ok (a := (rd0.length : Int)) (b := (0 : Int)) (c1_ok (a := rd0) hpl rfl) rfl (by
      show PR.ok (decide ((rd0.length : Int) > 0)) = _
      rw [← ho]
      exact congrArg PR.ok (decide_eq_decide.mpr (by omega))))
    rcases hrow with ⟨h3, h4, d, hd, hdec⟩ | ⟨h3, rfl⟩
    · rw [show (m == 3) = true from beq_iff_eq.mpr h3] at emq
      refine (tIf_t (xAnd_t (x2_ok (a := m) (b := (3 : Int)) e4' (xL_ok rfl) emq) (hg true (decide_eq_true h4)))).trans ?_
      exact tSet_ok (γ' := S16 ns q4 ts s sts sks tn w i row0 0 d_O_Store "") (a := row) (xL_ok (c1_ok (a := d) (c2_ok (a := rd0) (b := (0 : Int)) hpl rfl hd) (by
        show ofO (decTl (decOpt decInt) d) = _
        rw [hdec]
        rfl)))
    · by_cases hm3 : m = 3
      · rw [show (m == 3) = true from beq_iff_eq.mpr hm3] at emq
        exact (tIf_f (xAnd_t (x2_ok (a := m) (b := (3 : Int)) e4' (xL_ok rfl) emq) (hg false (decide_eq_false fun z => h3 ⟨hm3, z⟩)))).trans rfl
      · rw [show (m == 3) = false from beq_eq_false_iff_ne.mpr hm3] at emq
        exact (tIf_f (xAnd_f (x2_ok (a := m) (b := (3 : Int)) e4' (xL_ok rfl) emq))).trans rfl
  have hk1 : (c2 oIdx (cV g_law_5) (cV g_law_7) : G_law → PR (List (List Fs.Data))) (S16 ns q4 ts s sts sks tn w i row 0 d_O_Store "") = .ok x1' := c2_ok (a := sks) (b := (w : Int)) rfl rfl hkw
  have a5 : (tSet p_law_10 (xL (c1 oLen (c2 oIdx (c2 oIdx (cV g_law_5) (cV g_law_7)) (cV g_law_8)))) : G_law → SR G_law Bool) (S16 ns q4 ts s sts sks tn w i row 0 d_O_Store "") = .next (S16 ns q4 ts s sts sks tn w i row (rd.length : Int) d_O_Store "") := tSet_ok (γ' := S16 ns q4 ts s sts sks tn w i row 0 d_O_Store "") (a := (rd.length : Int)) (xL_ok (c1_ok (a := rd) (c2_ok (a := x1') (b := (i : Int)) hk1 rfl hki) rfl))
  have hk2 : (c2 oIdx (cV g_law_5) (cV g_law_7) : G_law → PR (List (List Fs.Data))) (S16 ns q4 ts s sts sks tn w i row (rd.length : Int) d_O_Store "") = .ok x1' := c2_ok (a := sks) (b := (w : Int)) rfl rfl hkw
  have a6 : (xAppO (c2 oIdx (c2 oIdx (cV g_law_5) (cV g_law_7)) (cV g_law_8)) (putIx (c2 oIdx (cV g_law_5) (cV g_law_7)) (cV g_law_8) (putIx (cV g_law_5) (cV g_law_7) p_law_5)) (c1 (fun a => .ok ((tyTl (tyOpt tyInt)).enc a)) (c1 oId (cV g_law_9))) : G_law → ER G_law Unit) (S16 ns q4 ts s sts sks tn w i row (rd.length : Int) d_O_Store "") = .ok () (S16 ns q4 ts s sts sks2 tn w i row (rd.length : Int) d_O_Store "") := by
    refine (xAppO_ok (t := c2 oIdx (c2 oIdx (cV g_law_5) (cV g_law_7)) (cV g_law_8)) (γ := S16 ns q4 ts s sts sks tn w i row (rd.length : Int) d_O_Store "") (xs := rd) (a := rowD row) (c2_ok (a := x1') (b := (i : Int)) hk2 rfl hki) (c1_ok (a := row) (c1_ok (a := row) rfl rfl) rfl) hrl).trans ?_
    refine congrArg (ER.ok ()) ?_
    rw [putIx_ok (xs := x1') (i := (i : Int)) (j := i) hk2 rfl hix1, hx2, putIx_ok (xs := sks) (i := (w : Int)) (j := w) rfl rfl hix2, hsk]
    rfl
  have a7 := tAlias_ok (g := g_law_4) (p := p_law_4) (gx := g_law_11) (px := p_law_11) (ti := cV g_law_7) (d := d_O_Store) (γ := S16 ns q4 ts s sts sks2 tn w i row (rd.length : Int) d_O_Store "") rfl hsl hsw hin
  have a7' : tAlias g_law_4 p_law_4 g_law_11 p_law_11 (cV g_law_7) d_O_Store inA (S16 ns q4 ts s sts sks2 tn w i row (rd.length : Int) d_O_Store "") = .next (S16 ns q5 ts s sts2 sks2 tn w i row' (rd.length : Int) d_O_Store "") := by
    rw [a7, ← hst]
    rfl
  unfold tb1_law
  refine tKill_ok (γ := S16 ns q ts s sts sks tn 0 0 [] 0 d_O_Store "") (γ' := S16 ns q5 ts s sts2 sks2 tn w i row' (rd.length : Int) d_O_Store "") ?_
  refine (tSeq_ok a1).trans ((tSeq_ok a2).trans ((tSeq_ok a3).trans ((tSeq_ok a4).trans ((tSeq_ok a5).trans ((tSeq_ok (tDo_ok a6)).trans ?_)))))
  exact a7'
end
end Ft
namespace Ft
open PySem PySem.Spec L2 Fs
abbrev stsOf (ts : List Tab) (xs : List (List (List Row))) : List O_Store := xs.map fun x => stO ts (stD x)
abbrev sksOf (xs : List (List (List Row))) : List (List (List Fs.Data)) := xs.map stD
theorem SkOk.up {ts : List Tab} {m : Nat} {stk : List (List Row)} (S : SkOk ts m stk) : SkOk ts (m + 1) stk := ⟨S.len, S.wid, fun r h => Nat.le_succ_of_le (S.num r h)⟩
section
variable {ns : List Int} {ts : List Tab} {s : O_Schema} (T : TW ts)
include T
theorem turn16 (h1 : 1 ≤ ts.length) {m : Nat} {xs : List (List (List Row))} (h2 : xs.length = 2) (S : ∀ x ∈ xs, SkOk ts m x) (hm : m < 100) (q : List Int) (hq : PO q) (k : Int) : ∃ q' xs', PO q' ∧ xs'.length = 2 ∧ (∀ x ∈ xs', SkOk ts (m + 1) x) ∧ tb1_law (p_law_6 k (B16 ns q ts s (stsOf ts xs) (sksOf xs))) = .next (B16 ns q' ts s (stsOf ts xs') (sksOf xs')) := by
  obtain ⟨n, q1, n0, n1, hq1, e1⟩ := take_spec q hq 3 (by omega)
  obtain ⟨w, hwE⟩ : ∃ w : Nat, (w : Int) = n / 2 := ⟨(n / 2).toNat, by omega⟩
  have hw2 : w < xs.length := by omega
  have hw : oFdv n 2 = .ok (w : Int) := by
    show ofO (fdvI n 2) = _
    unfold fdvI
    rw [if_pos ⟨by omega, by omega⟩, hwE]
    rfl
  obtain ⟨pl, q2, p0, p1, hq2, e2⟩ := take_spec q1 hq1 (ts.length : Int) (by omega)
  obtain ⟨i, rfl⟩ : ∃ i : Nat, pl = (i : Int) := ⟨pl.toNat, by omega⟩
  have hil : i < ts.length := by omega
  obtain ⟨t, cs, ht⟩ : ∃ t cs, ts[i]? = some (mkTab t cs) := ⟨_, _, List.getElem?_eq_getElem hil⟩
  have hc4 : cs.length ≤ 4 := (T.cs _ (List.mem_of_getElem? ht)).2.2.1
  obtain ⟨x, hx⟩ : ∃ x, xs[w]? = some x := ⟨_, List.getElem?_eq_getElem hw2⟩
  obtain ⟨y, hy⟩ : ∃ y, xs[0]? = some y := ⟨_, List.getElem?_eq_getElem (by omega)⟩
  have Sx := S x (List.mem_of_getElem? hx)
  have Sy := S y (List.mem_of_getElem? hy)
  obtain ⟨rows, hs⟩ : ∃ rows, x[i]? = some rows := ⟨_, List.getElem?_eq_getElem (by rw [Sx.len]; exact hil)⟩
  obtain ⟨rows0, hs0⟩ : ∃ rows, y[i]? = some rows := ⟨_, List.getElem?_eq_getElem (by rw [Sy.len]; exact hil)⟩
  obtain ⟨q3, col, row0, hq3, hr0, e3⟩ := row_draw ns ts s (stsOf ts xs) (sksOf xs) k (w : Int) (i : Int) cs q2 "" hq2
  obtain ⟨mm, q4, m0, m1, hq4, e4⟩ := take_spec q3 hq3 4 (by omega)
  have hrow : ∃ row : Row, row.length = cs.length ∧ ((mm = 3 ∧ 0 < (rows0.map rowD).length ∧ ∃ d, oIdx (rows0.map rowD) 0 = .ok d ∧ decTl (decOpt decInt) d = some row) ∨ (¬(mm = 3 ∧ 0 < (rows0.map rowD).length) ∧ row = row0)) := by
    by_cases h : mm = 3 ∧ 0 < (rows0.map rowD).length
    · have hl : 0 < rows0.length := by have := h.2; rwa [List.length_map] at this
      have hr : rows0[0]? = some rows0[0] := List.getElem?_eq_getElem hl
      have hw0 := Sy.wid i t cs rows0 ht hs0 rows0[0] (List.getElem_mem hl)
      refine ⟨rows0[0], hw0, .inl ⟨h.1, h.2, rowD rows0[0], oIdx_of (atI_nat _ 0 _ (by rw [List.getElem?_map, hr]; rfl)), ?_⟩⟩
      show (if (rows0[0].map encC).length ≤ lim then decAll (decOpt decInt) (rows0[0].map encC) else none) = _
      have hle : (rows0[0].map encC).length ≤ lim := show (rows0[0].map encC).length ≤ 16777216 by
        rw [List.length_map, hw0]
        omega
      rw [if_pos hle, dec_row]
    · exact ⟨row0, hr0, .inr ⟨h, rfl⟩⟩
  obtain ⟨row, hrl, hrow⟩ := hrow
  obtain ⟨b, q5, b0, b1, hq5, e5⟩ := take_spec q4 hq4 2 (by omega)
  have hp1 := put_st T Sx (show m < 200 by omega) ht hs hrl (d := .tup (row.map encC)) (.inr rfl)
  have hp2 := put_st T Sx (show m < 200 by omega) ht hs hrl (d := .list (row.map encC)) (.inl rfl)
  have hnum := Sx.num rows (List.mem_of_getElem? hs)
  have hlr : ((rows.map rowD).length : Int) = (rows.length : Int) := by rw [List.length_map]
  rw [← hlr] at hp1 hp2
  have hat : oIdx ts (i : Int) = .ok (mkTab t cs) := oIdx_of (atI_nat ts i _ ht)
  obtain ⟨row', hin⟩ := in_run (ns := ns) (s := s) (sts := stsOf ts xs) (sks := sksOf (xs.set w (x.set i (rows ++ [row])))) (tn := k) (w := (w : Int)) e5 hat hp1 hp2 (show row.length < 16777216 by omega)
  refine ⟨q5, xs.set w (x.set i (rows ++ [row])), hq5, by rw [List.length_set, h2], fun z hz => ?_, ?_⟩
  · rcases List.mem_or_eq_of_mem_set hz with h | rfl
    · exact (S z h).up
    · exact Sx.put T ht hs hrl
  · refine turn_run (sts2 := stsOf ts (xs.set w (x.set i (rows ++ [row])))) (x0 := stD y) (x1' := stD x) (x2' := stD (x.set i (rows ++ [row]))) (rd := rows.map rowD) (rd0 := rows0.map rowD) (st := stO ts (stD x)) (st2 := stO ts (stD (x.set i (rows ++ [row])))) e1 hw (N := (ts.length : Int)) rfl e2 hat e3 e4 (oIdx_of (atI_nat _ 0 _ (by rw [List.getElem?_map, hy]; rfl))) (oIdx_of (atI_nat _ i _ (Sy.at_ T hs0))) hrow (oIdx_of (atI_nat _ w _ (by rw [List.getElem?_map, hx]; rfl))) (oIdx_of (atI_nat _ i _ (Sx.at_ T hs))) (show _ < 16777216 by rw [List.length_map]; omega) (ixN_nat (by rw [List.length_map, Sx.len]; exact hil)) (ixN_nat (by rw [List.length_map]; exact hw2)) ?_ ?_ (ixN_nat (by rw [List.length_map]; exact hw2)) (by rw [List.getElem?_map, hx]; rfl) ?_ hin
    · show _ = (x.set i (rows ++ [row])).map _
      rw [List.map_set, List.map_append]
      rfl
    · show _ = (xs.set w _).map _
      rw [List.map_set]
    · show _ = (xs.set w _).map _
      rw [List.map_set]
theorem turns16 (h1 : 1 ≤ ts.length) : ∀ (ks q : List Int) (m : Nat) (xs : List (List (List Row))), PO q → xs.length = 2 → (∀ x ∈ xs, SkOk ts m x) → m + ks.length ≤ 90 → ∃ q' m' xs', PO q' ∧ m' ≤ 90 ∧ xs'.length = 2 ∧ (∀ x ∈ xs', SkOk ts m' x) ∧ forL p_law_6 tb1_law ks (B16 ns q ts s (stsOf ts xs) (sksOf xs)) = .next (B16 ns q' ts s (stsOf ts xs') (sksOf xs'))
  | [], q, m, xs, h, h2, S, hm => ⟨q, m, xs, h, by simpa using hm, h2, S, rfl⟩
  | k :: ks, q, m, xs, h, h2, S, hm => by
    rw [List.length_cons] at hm
    obtain ⟨q1, xs1, hq1, l1, S1, e1⟩ := turn16 (ns := ns) (s := s) T h1 h2 S (by omega) q h k
    obtain ⟨q2, m2, xs2, hq2, lm, l2, S2, e2⟩ := turns16 h1 ks q1 (m + 1) xs1 hq1 l1 S1 (by omega)
    exact ⟨q2, m2, xs2, hq2, lm, l2, S2, (forL_cons e1).trans e2⟩
theorem holds16 {q : List Int} {m : Nat} {xs : List (List (List Row))} (h2 : xs.length = 2) (S : ∀ x ∈ xs, SkOk ts m x) (hm : m ≤ 200) : forL p_law_7 tb2_law [0, 1, 0] (B16 ns q ts s (stsOf ts xs) (sksOf xs)) = .next (B16 ns q ts s (stsOf ts xs) (sksOf xs)) := by
  have key : ∀ w : Nat, w < 2 → tb2_law (p_law_7 (w : Int) (B16 ns q ts s (stsOf ts xs) (sksOf xs))) = .next (B16 ns q ts s (stsOf ts xs) (sksOf xs)) := fun w hw => by
    obtain ⟨x, hx⟩ : ∃ x, xs[w]? = some x := ⟨_, List.getElem?_eq_getElem (by omega)⟩
    have hh := holds_spec T (S x (List.mem_of_getElem? hx)) hm
    have h4 : oIdx (stsOf ts xs) (w : Int) = .ok (stO ts (stD x)) := oIdx_of (atI_nat _ w _ (by rw [List.getElem?_map, hx]; rfl))
    have h5 : oIdx (sksOf xs) (w : Int) = .ok (stD x) := oIdx_of (atI_nat _ w _ (by rw [List.getElem?_map, hx]; rfl))
    generalize stsOf ts xs = sts at *
    generalize sksOf xs = sks at *
    have e : (xL (cNot (cCall c__law_holds (cCons (c2 oIdx (cV g_law_4) (cV g_law_7)) (cCons (cV g_law_2) (cCons (c2 oIdx (cV g_law_5) (cV g_law_7)) cNil))))) : G_law → ER G_law Bool) (S16 ns q ts s sts sks 0 w 0 [] 0 d_O_Store "") = .ok false (S16 ns q ts s sts sks 0 w 0 [] 0 d_O_Store "") := xL_ok (cNot_ok (b := true) (cCall_ok (u := ((stO ts (stD x), ts, stD x, ()) : HL U__law_holds)) (cCons_ok (a := stO ts (stD x)) (c2_ok (a := sts) (b := (w : Int)) rfl rfl h4) (cCons_ok (a := ts) rfl (cCons_ok (a := stD x) (c2_ok (a := sks) (b := (w : Int)) rfl rfl h5) rfl))) hh))
    exact tKill_ok (γ := S16 ns q ts s sts sks 0 w 0 [] 0 d_O_Store "") (γ' := S16 ns q ts s sts sks 0 w 0 [] 0 d_O_Store "") ((tIf_f e).trans rfl)
  exact (forL_cons (key 0 (by omega))).trans ((forL_cons (key 1 (by omega))).trans ((forL_cons (key 0 (by omega))).trans rfl))
theorem stock16 (q : List Int) (sts : List O_Store) (S0 : List Tab) (o : Tab) : ∀ (r : List Tab) (x : Tab), ∃ x', lcE p_law_12 (xL (cC true)) (xL (cLNil (α := Fs.Data))) r ((ns, q, S0, s, sts, [], 0, 0, 0, [], 0, d_O_Store, x, "", ()) : G_law) = .ok (r.map fun _ => []) ((ns, q, S0, s, sts, [], 0, 0, 0, [], 0, d_O_Store, x', "", ()) : G_law)
  | [], x => ⟨x, rfl⟩
  | t :: r, x => by
    obtain ⟨x', h⟩ := stock16 q sts S0 o r t
    exact ⟨x', lcE_cons (γ1 := ((ns, q, S0, s, sts, [], 0, 0, 0, [], 0, d_O_Store, t, "", ()) : G_law)) (γ2 := ((ns, q, S0, s, sts, [], 0, 0, 0, [], 0, d_O_Store, t, "", ()) : G_law)) rfl rfl h⟩
end
theorem rank_q0 {ts : List Tab} (hn : ("q0" : Str) ∉ ts.map (·.1)) : c_Schema_rank (sch ts, "q0", ()) = .exc 20 [.str "q0"] := by
  have h : getA (sch ts).2.1 "q0" = none := getA_none.mpr (by rw [keys_sch]; exact hn)
  generalize sch ts = z at *
  simp -implicitDefEqProofs [c_Schema_rank, runC, B_Schema_rank, i_Schema_rank, h, negB, tRaise, PR.er, PR.bind, ER.st, ER.bind, ER.out, SR.go]
theorem rows_q0 {ts : List Tab} {ss : List (List Fs.Data)} (hn : ("q0" : Str) ∉ ts.map (·.1)) : c_Store_rows (stO ts ss, "q0", ()) = .exc 20 [.str "q0"] := by
  have h := rank_q0 hn
  unfold stO
  generalize sch ts = z at *
  simp -implicitDefEqProofs [c_Store_rows, runC, B_Store_rows, i_Store_rows, h, PR.er, PR.bind, ER.st, ER.bind, ER.out, SR.go]
theorem unk_q0 {ts : List Tab} {ss : List (List Fs.Data)} (hn : ("q0" : Str) ∉ ts.map (·.1)) : c__law_unknown (stO ts ss, "q0", ()) = .ok (.str "q0") := by
  have h := rows_q0 (ss := ss) hn
  generalize stO ts ss = z at *
  simp -implicitDefEqProofs [c__law_unknown, runC, B__law_unknown, i__law_unknown, h, tTryAs, tcase, PR.er, PR.bind, ER.st, ER.bind, ER.out, SR.go]
theorem xLim_ok {Γ α : Type} {t : Γ → ER Γ (List α)} {γ γ' : Γ} {xs : List α} (h : t γ = .ok xs γ') (hl : xs.length ≤ lim) : xLim t γ = .ok xs γ' := by
  show (t γ).bind _ = _
  rw [h]
  show (if xs.length ≤ lim then ER.ok xs γ' else .bad) = _
  exact if_pos hl
theorem law_all {ns q0 q1 q2 q3 : List Int} {ts : List Tab} {s : O_Schema} {st st0 : O_Store} {sts : List O_Store} {Z : List (List Fs.Data)} {sks : List (List (List Fs.Data))} {c : Int} {R : List Int} {x1' : Tab} {N : List Str}
    (ep : t__law_pool (ns, ()) = .ok q0 (ns, ())) (et : t__law_tables (q0, (4 : Int), (4 : Int), ()) = .ok ts (q1, (4 : Int), (4 : Int), ())) (es : c_Schema_xinit (ts, ()) = .ok s) (hi : t_Store_xinit (s, ()) = .ok st (s, ()))
    (hz1 : lcE p_law_12 (xL (cC true)) (xL (cLNil (α := Fs.Data))) ts ((ns, q1, ts, s, [st, st], [], 0, 0, 0, [], 0, d_O_Store, t0, "", ()) : G_law) = .ok Z ((ns, q1, ts, s, [st, st], [], 0, 0, 0, [], 0, d_O_Store, x1', "", ()) : G_law))
    (e8 : t__law_take (q1, 21, ()) = .ok c (q2, 21, ())) (hr : oRng c = .ok R) (eT : forL p_law_6 tb1_law R (B16 ns q2 ts s [st, st] [Z, Z]) = .next (B16 ns q3 ts s sts sks)) (eH : forL p_law_7 tb2_law [0, 1, 0] (B16 ns q3 ts s sts sks) = .next (B16 ns q3 ts s sts sks))
    (h0 : oIdx sts 0 = .ok st0) (hu : c__law_unknown (st0, "q0", ()) = .ok (.str "q0")) (hn : c_Schema_names (st0.1, ()) = .ok N) (hlc : lcM (fun _ : Tab => PR.ok true) (fun x : Tab => PR.ok x.1) ts = .ok N) (hq : oEq true ((tyList tyStr).enc N) ((tyList tyStr).enc N) = .ok false) : B_law (B16 ns [] [] d_O_Schema [] []) = .ret true (B16 ns q3 ts s sts sks) := by
  have p1 : (xCallN t__law_pool (cCons (cV g_law_0) cNil) : G_law → ER G_law (List Int)) (B16 ns [] [] d_O_Schema [] []) = .ok q0 (B16 ns [] [] d_O_Schema [] []) := xCallN_of t__law_pool (cCons (cV g_law_0) cNil) _ ((ns, ()) : HL U__law_pool) ((ns, ()) : HL U__law_pool) q0 rfl ep
  have p2 : (xCallE t__law_tables p_law_1 (fun as : HL [(List Int), Int, Int] => as.1) (xaSlot g_law_1 (xaCons (xL (cC (4 : Int))) (xaCons (xL (cC (4 : Int))) xaNil))) : G_law → ER G_law (List Tab)) (B16 ns q0 [] d_O_Schema [] []) = .ok ts (B16 ns q1 [] d_O_Schema [] []) := callX2 (g := g_law_1) (p := p_law_1) (γ := B16 ns q0 [] d_O_Schema [] []) (γ1 := B16 ns q0 [] d_O_Schema [] []) (γ2 := B16 ns q0 [] d_O_Schema [] []) (a := (4 : Int)) (b := (4 : Int)) (xL_ok rfl) (xL_ok rfl) rfl et
  have p3 : (xL (cCall c_Schema_xinit (cCons (cLc (cV g_law_2) p_law_12 (cC true) (cCons (c1 (fun x : (HL [Str, (List Str)]) => .ok (x.1)) (cV g_law_12)) (cCons (c1 oId (c1 (fun x : (HL [Str, (List Str)]) => .ok (x.2.1)) (cV g_law_12))) cNil))) cNil)) : G_law → ER G_law O_Schema) (B16 ns q1 ts d_O_Schema [] []) = .ok s (B16 ns q1 ts d_O_Schema [] []) := xL_ok (cCall_ok (u := ((ts, ()) : HL [List Tab])) (cCons_ok (cLc_ok (xs := ts) rfl (copy_ok ts)) rfl) es)
  have hs1 : (xCallN t_Store_xinit (cCons (cV g_law_3) cNil) : G_law → ER G_law O_Store) (B16 ns q1 ts s [] []) = .ok st (B16 ns q1 ts s [] []) := xCallN_of t_Store_xinit (cCons (cV g_law_3) cNil) _ ((s, ()) : HL U_Store_xinit) ((s, ()) : HL U_Store_xinit) st rfl hi
  have p4 : (xLim (xLCons (xCallN t_Store_xinit (cCons (cV g_law_3) cNil)) (xLCons (xCallN t_Store_xinit (cCons (cV g_law_3) cNil)) (xL (cLNil (α := O_Store))))) : G_law → ER G_law (List O_Store)) (B16 ns q1 ts s [] []) = .ok [st, st] (B16 ns q1 ts s [] []) := by
    have e := xLCons_ok hs1 (xLCons_ok hs1 (tr := xL (cLNil (α := O_Store))) (γ2 := B16 ns q1 ts s [] []) (r := ([] : List O_Store)) rfl)
    exact xLim_ok e (show (2 : Nat) ≤ 16777216 by omega)
  have hz : (xLc (x1 (fun a => .ok a) (xL (cV g_law_2))) p_law_12 (xL (cC true)) (xL (cLNil (α := Fs.Data))) (fun γ0 γ => (p_law_12 (g_law_12 γ0) γ)) : G_law → ER G_law (List (List Fs.Data))) (B16 ns q1 ts s [st, st] []) = .ok Z (B16 ns q1 ts s [st, st] []) := (xLc_ok (γ0 := B16 ns q1 ts s [st, st] []) (xs := ts) (x1_ok (a := ts) rfl rfl) hz1).trans rfl
  have p5 : (xLim (xLCons (xLc (x1 (fun a => .ok a) (xL (cV g_law_2))) p_law_12 (xL (cC true)) (xL (cLNil (α := Fs.Data))) (fun γ0 γ => (p_law_12 (g_law_12 γ0) γ))) (xLCons (xLc (x1 (fun a => .ok a) (xL (cV g_law_2))) p_law_12 (xL (cC true)) (xL (cLNil (α := Fs.Data))) (fun γ0 γ => (p_law_12 (g_law_12 γ0) γ))) (xL (cLNil (α := (List (List Fs.Data))))))) : G_law → ER G_law (List (List (List Fs.Data)))) (B16 ns q1 ts s [st, st] []) = .ok [Z, Z] (B16 ns q1 ts s [st, st] []) := by
    have e := xLCons_ok hz (xLCons_ok hz (tr := xL (cLNil (α := (List (List Fs.Data))))) (γ2 := B16 ns q1 ts s [st, st] []) (r := ([] : List (List (List Fs.Data)))) rfl)
    exact xLim_ok e (show (2 : Nat) ≤ 16777216 by omega)
  have p6 : (x1 oRng (xCallE t__law_take p_law_1 (fun as : HL [(List Int), Int] => as.1) (xaSlot g_law_1 (xaCons (xL (cC (21 : Int))) xaNil))) : G_law → ER G_law (List Int)) (B16 ns q1 ts s [st, st] [Z, Z]) = .ok R (B16 ns q2 ts s [st, st] [Z, Z]) := x1_ok (a := c) (callS1 (g := g_law_1) (p := p_law_1) (γ := B16 ns q1 ts s [st, st] [Z, Z]) (tf := cC (21 : Int)) rfl rfl e8) hr
  have p7 : (x1 (fun a => .ok a) (xL (cLCons (cC (0 : Int)) (cLCons (cC (1 : Int)) (cLCons (cC (0 : Int)) cLNil)))) : G_law → ER G_law (List Int)) (B16 ns q3 ts s sts sks) = .ok [0, 1, 0] (B16 ns q3 ts s sts sks) := x1_ok (a := ([0, 1, 0] : List Int)) (xL_ok rfl) rfl
  have hi0 : (c2 oIdx (cV g_law_4) (cC (0 : Int)) : G_law → PR O_Store) (B16 ns q3 ts s sts sks) = .ok st0 := c2_ok (a := sts) (b := (0 : Int)) rfl rfl h0
  have eq1 : oEq true (.str "q0") (.str "q0") = .ok false := by
    have e : oEq true (.str "q0") (.str "q0") = .ok (!(("q0" : Str) == "q0")) := eq_str true "q0" "q0"
    rw [beq_self_eq_true] at e
    exact e
  have p8 : (xL (cOr (c2 (fun x y => oEq true (tyData.enc x) (tyStr.enc y)) (cCall c__law_unknown (cCons (c2 oIdx (cV g_law_4) (cC (0 : Int))) (cCons (cC ("q0" : Str)) cNil))) (cC ("q0" : Str))) (c2 (fun x y => oEq true ((tyList tyStr).enc x) ((tyList tyStr).enc y)) (cCall c_Schema_names (cCons (c1 (fun x : O_Store => .ok (x.1)) (c2 oIdx (cV g_law_4) (cC (0 : Int)))) cNil)) (cLc (cV g_law_2) p_law_12 (cC true) (c1 (fun x : (HL [Str, (List Str)]) => .ok (x.1)) (cV g_law_12))))) : G_law → ER G_law Bool) (B16 ns q3 ts s sts sks) = .ok false (B16 ns q3 ts s sts sks) := xL_ok (cOr_f (c2_ok (a := Fs.Data.str "q0") (b := ("q0" : Str)) (cCall_ok (u := ((st0, "q0", ()) : HL U__law_unknown)) (cCons_ok (a := st0) hi0 (cCons_ok (a := ("q0" : Str)) rfl rfl)) hu) rfl eq1) (c2_ok (a := N) (b := N) (cCall_ok (u := ((st0.1, ()) : HL U_Schema_names)) (cCons_ok (a := st0.1) (c1_ok (a := st0) hi0 rfl) rfl) hn) (cLc_ok (xs := ts) rfl hlc) hq))
  unfold B_law
  refine (tSeq_ok (γ' := B16 ns q0 [] d_O_Schema [] []) (tSet_ok (γ' := B16 ns [] [] d_O_Schema [] []) (a := q0) p1)).trans ?_
  refine (tSeq_ok (γ' := B16 ns q1 ts d_O_Schema [] []) (tSet_ok (γ' := B16 ns q1 [] d_O_Schema [] []) (a := ts) p2)).trans ?_
  refine (tSeq_ok (γ' := B16 ns q1 ts s [] []) (tSet_ok (γ' := B16 ns q1 ts d_O_Schema [] []) (a := s) p3)).trans ?_
  refine (tSeq_ok (γ' := B16 ns q1 ts s [st, st] []) (tSet_ok (γ' := B16 ns q1 ts s [] []) (a := [st, st]) p4)).trans ?_
  refine (tSeq_ok (γ' := B16 ns q1 ts s [st, st] [Z, Z]) (tSet_ok (γ' := B16 ns q1 ts s [st, st] []) (a := [Z, Z]) p5)).trans ?_
  refine (tSeq_ok (γ' := B16 ns q3 ts s sts sks) ((tFor_ok p6).trans eT)).trans ?_
  refine (tSeq_ok (γ' := B16 ns q3 ts s sts sks) ((tFor_ok p7).trans eH)).trans ?_
  refine (tSeq_ok (γ' := B16 ns q3 ts s sts sks) ((tIf_f p8).trans rfl)).trans ?_
  exact tRet_ok (xL_ok (cCall_ok (u := ((200, 200, ()) : HL U__law_is)) rfl (is_ok 200)))
theorem law_spec (ns : List Int) (hns : ns.length ≤ 63) : c_law (ns, ()) = .ok true := by
  obtain ⟨q0, hq0, ep⟩ := pool_spec ns hns
  obtain ⟨ts, q1, hq1, TT, et⟩ := tables_spec q0 hq0 4 4 (by omega) (by omega)
  have T := TT.tw (by omega) (by omega)
  have es := sinit_spec TT (by omega)
  have hi := store_init T.nd
  have hnot : ("q0" : Str) ∉ ts.map (·.1) := fun z => by
    obtain ⟨t, ht, e⟩ := List.mem_map.mp z
    have := TT.nm t ht
    rw [e] at this
    exact absurd this (by decide +kernel)
  obtain ⟨x', hst⟩ := stock16 (ns := ns) (s := sch ts) T q1 [stO ts (ts.map fun _ => []), stO ts (ts.map fun _ => [])] ts t0 ts t0
  obtain ⟨n, q2, n0, n1, hq2, e8⟩ := take_spec q1 hq1 21 (by omega)
  obtain ⟨n, rfl⟩ : ∃ z : Nat, n = (z : Int) := ⟨n.toNat, by omega⟩
  have S0 : ∀ x ∈ [ts.map (fun _ => ([] : List Row)), ts.map fun _ => []], SkOk ts 0 x := fun x hx => by
    have : x = ts.map fun _ => [] := by simpa using hx
    rw [this]
    exact SkOk.nil
  obtain ⟨q3, m, xs, hq3, hm, h2, S, eT⟩ := turns16 (ns := ns) (s := sch ts) T TT.lo (rngL 0 n) q2 0 [ts.map (fun _ => ([] : List Row)), ts.map fun _ => []] hq2 rfl S0 (by rw [rngL_len]; omega)
  have eT : forL p_law_6 tb1_law (rngL 0 n) (B16 ns q2 ts (sch ts) [stO ts (stD (ts.map fun _ => [])), stO ts (stD (ts.map fun _ => []))] [stD (ts.map fun _ => []), stD (ts.map fun _ => [])]) = _ := eT
  rw [stD_nil] at eT
  have eH := holds16 (ns := ns) (s := sch ts) (q := q3) T h2 S (by omega)
  obtain ⟨y, hy⟩ : ∃ y, xs[0]? = some y := ⟨_, List.getElem?_eq_getElem (by omega)⟩
  have h0 : oIdx (stsOf ts xs) 0 = .ok (stO ts (stD y)) := oIdx_of (atI_nat _ 0 _ (by rw [List.getElem?_map, hy]; rfl))
  have hnm : c_Schema_names (sch ts, ()) = .ok (ts.map (·.1)) := rfl
  have hlc : lcM (fun _ : Tab => PR.ok true) (fun x : Tab => PR.ok x.1) ts = .ok (ts.map (·.1)) := lcM_map ts (fun _ _ => rfl) fun _ _ => rfl
  have h5 := T.len
  have hsh : Sh 64 ((tyList tyStr).enc (ts.map (·.1))) := sh_list (k := 63) (fun d hd => by
    obtain ⟨a, ha, rfl⟩ := List.mem_map.mp hd
    obtain ⟨t, ht, rfl⟩ := List.mem_map.mp ha
    exact sh_str 63 (T.nm t ht).1) (show _ ≤ 16777216 by rw [List.length_map, List.length_map]; omega)
  exact runC_ret (law_all ep et es hi hst e8 (rng_ok (show n ≤ 16777216 by omega)) eT eH h0 (unk_q0 hnot) hnm hlc (oEq_refl true hsh))
end Ft
namespace Ft
open PySem PySem.Spec L2 Fs Fm
theorem x__law_pool_0 : Ix tyScr s__law_pool 0 g__law_pool_0 p__law_pool_0 := .here
theorem x__law_pool_1 : Ix (tyList tyInt) s__law_pool 1 g__law_pool_1 p__law_pool_1 := (.there .here)
theorem x__law_pool_2 : Ix tyInt s__law_pool 2 g__law_pool_2 p__law_pool_2 := (.there (.there .here))
theorem x__law_pool_3 : Ix tyInt s__law_pool 3 g__law_pool_3 p__law_pool_3 := (.there (.there (.there .here)))
theorem x__law_pool_4 : Ix tyInt s__law_pool 4 g__law_pool_4 p__law_pool_4 := (.there (.there (.there (.there .here))))
theorem x__law_pool_5 : Ix tyInt s__law_pool 5 g__law_pool_5 p__law_pool_5 := (.there (.there (.there (.there (.there .here)))))
theorem rf__law_pool : RfS s__law_pool [(.bor 0), .dead, .dead, .dead, .dead, .dead] [.dead, .dead, .dead, .dead, .dead, .dead] [.dead, .dead, .dead, .dead, .dead, .dead] [(.bor 0), .dead, .dead, .dead, .dead, .dead] (.new 0) (tyList tyInt) m__law_pool B__law_pool :=
  (rs_seq (rs_setN x__law_pool_1 (rn_lst (rl_nil (rp := tyInt))) rfl) (rs_seq (rs_for (k0 := [(.bor 0), (.own 0), .dead, .dead, .dead, .dead]) (ks1 := [(.bor 0), (.own 0), .frz, .dead, .dead, .dead]) (ri_rng (RfC.toE (rf_f2 op_oMin (RfC.w (rf_f1 op_oLenR (RfV.w (rf_view (n := 0) x__law_pool_0 (k := (.bor 0)) rfl rfl))) 0) (RfC.w (rf_int 63) 0)))) (rg_name x__law_pool_2) (rs_seq (rs_set x__law_pool_3 (RfC.toE (rf_f1 op_oAbs (RfC.w (rf_2 op_oIdxR (RfV.w (rf_view (n := 0) x__law_pool_0 (k := (.bor 0)) rfl rfl)) (RfC.w (rf_var x__law_pool_2 rfl) 0)) 0))) rfl) (rs_if (RfC.toE (rt_of (rf_2 (op_oCmp geI) (RfC.w (rf_var x__law_pool_3 rfl) 0) (RfC.w (rf_2 op_oPow (RfC.w (rf_int 10) 0) (RfC.w (rf_int 18) 0)) 0)))) (rs_kill (rs_for (k0 := [(.bor 0), (.own 0), .dead, .frz, .dead, .dead]) (ks1 := [(.bor 0), (.own 0), .dead, .frz, .frz, .dead]) (ri_rng (RfC.toE (rf_int 60))) (rg_name x__law_pool_4) (rs_kill (rs_seq (rs_if (RfC.toE (rt_of (rf_2 (op_oCmp gtI) (RfC.w (rf_var x__law_pool_3 rfl) 0) (RfC.w (rf_int 0) 0)))) (rs_do (rfx_app (n := 0) x__law_pool_1 (k := (.own 0)) rfl rfl (RfC.toE (rf_2 op_oMod (RfC.w (rf_f1 op_oInt (RfC.w (rf_var x__law_pool_3 rfl) 0)) 0) (RfC.w (rf_int 100) 0)))) rfl) rs_next rfl) (rs_set x__law_pool_3 (RfC.toE (rf_2 op_oFdv (RfC.w (rf_var x__law_pool_3 rfl) 0) (RfC.w (rf_int 100) 0))) rfl)) (.cons (0 : Int) x__law_pool_4 .nil)) rfl rfl) (.cons (0 : Int) x__law_pool_3 .nil)) (rs_kill (rs_seq (rs_set x__law_pool_5 (RfC.toE (rf_2 op_oMod (RfC.w (rf_f1 op_oInt (RfC.w (rf_2 (op_oAdd false) (RfC.w (rf_2 (op_oAdd false) (RfC.w (rf_2 (op_oAdd false) (RfC.w (rf_2 (op_oMul false) (RfC.w (rf_var x__law_pool_3 rfl) 0) (RfC.w (rf_int 48271) 0)) 0) (RfC.w (rf_2 (op_oMul false) (RfC.w (rf_var x__law_pool_2 rfl) 0) (RfC.w (rf_int 7919) 0)) 0)) 0) (RfC.w (rf_2 (op_oMul false) (RfC.w (rf_f1 op_oIntB (RfC.w (rf_2 (op_oCmp ltI) (RfC.w (rf_2 op_oIdxR (RfV.w (rf_view (n := 0) x__law_pool_0 (k := (.bor 0)) rfl rfl)) (RfC.w (rf_var x__law_pool_2 rfl) 0)) 0) (RfC.w (rf_int 0) 0)) 0)) 0) (RfC.w (rf_int 104729) 0)) 0)) 0) (RfC.w (rf_int 11) 0)) 0)) 0) (RfC.w (rf_int 2147483647) 0))) rfl) (rs_for (k0 := [(.bor 0), (.own 0), .frz, .dead, .dead, .frz]) (ks1 := [(.bor 0), (.own 0), .frz, .dead, .frz, .frz]) (ri_rng (RfC.toE (rf_int 12))) (rg_name x__law_pool_4) (rs_kill (rs_seq (rs_set x__law_pool_5 (RfC.toE (rf_2 op_oMod (RfC.w (rf_f1 op_oInt (RfC.w (rf_2 (op_oAdd false) (RfC.w (rf_2 (op_oAdd false) (RfC.w (rf_2 (op_oMul false) (RfC.w (rf_var x__law_pool_5 rfl) 0) (RfC.w (rf_var x__law_pool_5 rfl) 0)) 0) (RfC.w (rf_2 (op_oMul false) (RfC.w (rf_var x__law_pool_4 rfl) 0) (RfC.w (rf_int 69621) 0)) 0)) 0) (RfC.w (rf_var x__law_pool_2 rfl) 0)) 0)) 0) (RfC.w (rf_int 998244353) 0))) rfl) (rs_do (rfx_app (n := 0) x__law_pool_1 (k := (.own 0)) rfl rfl (RfC.toE (rf_2 op_oMod (RfC.w (rf_f1 op_oInt (RfC.w (rf_2 op_oFdv (RfC.w (rf_var x__law_pool_5 rfl) 0) (RfC.w (rf_int 7) 0)) 0)) 0) (RfC.w (rf_int 9973) 0)))) rfl)) (.cons (0 : Int) x__law_pool_4 .nil)) rfl rfl)) (.cons (0 : Int) x__law_pool_2 (.cons (0 : Int) x__law_pool_5 .nil))) rfl)) rfl rfl) (rs_retO (n := 0) x__law_pool_1 rfl rfl)))
theorem in__law_pool : Ini al__law_pool s__law_pool [.bor 0] [(.bor 0), .dead, .dead, .dead, .dead, .dead] [.dead, .dead, .dead, .dead, .dead, .dead] i__law_pool o__law_pool := (.bor 0 (Ini.nil (Ts := [(List Int), Int, Int, Int, Int]) (([] : (List Int)), (0 : Int), (0 : Int), (0 : Int), (0 : Int), ())))
theorem ce__law_pool : CE al__law_pool [.bor 0] (.new 0) f__law_pool (tyList tyInt) t__law_pool := fn_E in__law_pool rfl rf__law_pool (.inl rfl)
theorem x__law_take_0 : Ix (tyList tyInt) s__law_take 0 g__law_take_0 p__law_take_0 := .here
theorem x__law_take_1 : Ix tyInt s__law_take 1 g__law_take_1 p__law_take_1 := (.there .here)
theorem rf__law_take : RfS s__law_take [(.io 0), .frz] [(.io 0), .dead] [(.io 0), .dead] [(.io 0), .frz] .frz tyInt m__law_take B__law_take :=
  (rs_seq (rs_if (RfC.toE (rt_of (rf_2 (op_oEq false eqv_imm eqv_imm) (RfC.w (rf_f1 op_oLen (RfV.w (rf_view (n := 0) x__law_take_0 (k := (.io 0)) rfl rfl))) 0) (RfC.w (rf_int 0) 0)))) (rs_ret (RfC.toE (rf_int 0)) rfl rfl) rs_next rfl) (rs_ret (rfx_2 op_oMod (rfx_f1 op_oInt (rfx_popAt (n := 0) x__law_take_0 (k := (.io 0)) rfl rfl (RfC.toE (rf_int 0)))) (RfC.toE (rf_var x__law_take_1 rfl))) rfl rfl))
theorem in__law_take : Ini al__law_take s__law_take [.io 0, .frz] [(.io 0), .frz] [(.io 0), .dead] i__law_take o__law_take := (.io 0 (.frz (Ini.nil (Ts := []) (()))))
theorem ce__law_take : CE al__law_take [.io 0, .frz] .frz f__law_take tyInt t__law_take := fn_E in__law_take rfl rf__law_take (.inl rfl)
theorem cz__law_take : CE al__law_take [.io 0, .frz] .frz (callZ f__law_take) tyInt t__law_take := ce_F ce__law_take
theorem x__law_names_0 : Ix (tyList tyInt) s__law_names 0 g__law_names_0 p__law_names_0 := .here
theorem x__law_names_1 : Ix (tyList tyStr) s__law_names 1 g__law_names_1 p__law_names_1 := (.there .here)
theorem x__law_names_2 : Ix tyInt s__law_names 2 g__law_names_2 p__law_names_2 := (.there (.there .here))
theorem x__law_names_3 : Ix (tyList tyStr) s__law_names 3 g__law_names_3 p__law_names_3 := (.there (.there (.there .here)))
theorem x__law_names_4 : Ix (tyList tyStr) s__law_names 4 g__law_names_4 p__law_names_4 := (.there (.there (.there (.there .here))))
theorem x__law_names_5 : Ix tyInt s__law_names 5 g__law_names_5 p__law_names_5 := (.there (.there (.there (.there (.there .here)))))
theorem rf__law_names : RfS s__law_names [(.io 0), .frz, .frz, .dead, .dead, .dead] [(.io 0), .dead, .dead, .dead, .dead, .dead] [(.io 0), .dead, .dead, .dead, .dead, .dead] [(.io 0), .frz, .frz, .dead, .dead, .dead] (.new 0) (tyList tyStr) m__law_names B__law_names :=
  (rs_seq (rs_setN x__law_names_3 (rn_list (RfC.w (rf_var x__law_names_1 rfl) 0)) rfl) (rs_seq (rs_setN x__law_names_4 (rn_lst (rl_nil (rp := tyStr))) rfl) (rs_seq (rs_for (k0 := [(.io 0), .dead, .frz, (.own 0), (.own 0), .dead]) (ks1 := [(.io 0), .dead, .frz, (.own 0), (.own 0), .frz]) (ri_rng (RfC.toE (rf_var x__law_names_2 rfl))) (rg_name x__law_names_5) (rs_kill (rs_do (rfx_app (n := 0) x__law_names_4 (k := (.own 0)) rfl rfl (rfx_popAt (n := 0) x__law_names_3 (k := (.own 0)) rfl rfl (rfx_callE (g := g__law_names_0) (oa := (fun as : HL [(List Int), Int] => as.1)) cz__law_take x__law_names_0 (kd := (.io 0)) rfl rfl (rx_io x__law_names_0 (kd := (.io 0)) rfl rfl (rx_arg (RfC.toE (rf_f1 op_oLen (RfV.w (rf_view (n := 0) x__law_names_3 (k := (.own 0)) rfl rfl)))) (rx_nil (fun _ => ([] : (List Int))))))))) rfl) (.cons (0 : Int) x__law_names_5 .nil)) rfl rfl) (rs_retO (n := 0) x__law_names_4 rfl rfl))))
theorem in__law_names : Ini al__law_names s__law_names [.io 0, .frz, .frz] [(.io 0), .frz, .frz, .dead, .dead, .dead] [(.io 0), .dead, .dead, .dead, .dead, .dead] i__law_names o__law_names := (.io 0 (.frz (.frz (Ini.nil (Ts := [(List Str), (List Str), Int]) (([] : (List Str)), ([] : (List Str)), (0 : Int), ())))))
theorem ce__law_names : CE al__law_names [.io 0, .frz, .frz] (.new 0) f__law_names (tyList tyStr) t__law_names := fn_E in__law_names rfl rf__law_names (.inl rfl)
theorem cz__law_names : CE al__law_names [.io 0, .frz, .frz] .frz (callZ f__law_names) (tyList tyStr) t__law_names := ce_Z canZ_list ce__law_names
theorem x__law_tables_0 : Ix (tyList tyInt) s__law_tables 0 g__law_tables_0 p__law_tables_0 := .here
theorem x__law_tables_1 : Ix tyInt s__law_tables 1 g__law_tables_1 p__law_tables_1 := (.there .here)
theorem x__law_tables_2 : Ix tyInt s__law_tables 2 g__law_tables_2 p__law_tables_2 := (.there (.there .here))
theorem x__law_tables_3 : Ix (tyList tyStr) s__law_tables 3 g__law_tables_3 p__law_tables_3 := (.there (.there (.there .here)))
theorem x__law_tables_4 : Ix (tyList (tyTup (.cons tyStr (.cons (tyList tyStr) .nil)))) s__law_tables 4 g__law_tables_4 p__law_tables_4 := (.there (.there (.there (.there .here))))
theorem x__law_tables_5 : Ix tyStr s__law_tables 5 g__law_tables_5 p__law_tables_5 := (.there (.there (.there (.there (.there .here)))))
theorem x__law_tables_6 : Ix (tyList tyStr) s__law_tables 6 g__law_tables_6 p__law_tables_6 := (.there (.there (.there (.there (.there (.there .here))))))
theorem rf__law_tables : RfS s__law_tables [(.io 0), .frz, .frz, .dead, .dead, .dead, .dead] [(.io 0), .dead, .dead, .dead, .dead, .dead, .dead] [(.io 0), .dead, .dead, .dead, .dead, .dead, .dead] [(.io 0), .frz, .frz, .dead, .dead, .dead, .dead] (.new 0) (tyList (tyTup (.cons tyStr (.cons (tyList tyStr) .nil)))) m__law_tables B__law_tables :=
  (rs_seq (rs_set x__law_tables_3 (RfC.toE (rf_lst (rl_cons (rf_str "t") (rl_cons (rf_str "ta") (rl_cons (rf_str "orders") (rl_cons (rf_str "unique") (rl_cons (rf_str "t1") (rl_cons (rf_str "t10") (rl_cons (rf_str "a23456789012") (rl_cons (rf_str "b") rl_nil)))))))))) rfl) (rs_seq (rs_setN x__law_tables_4 (rn_lst (rl_nil (rp := (tyTup (.cons tyStr (.cons (tyList tyStr) .nil)))))) rfl) (rs_seq (rs_for (k0 := [(.io 0), .frz, .frz, .frz, (.own 0), .dead, .dead]) (ks1 := [(.io 0), .frz, .frz, .frz, (.own 0), .frz, .dead]) (ri_list (rfx_callE (g := g__law_tables_0) (oa := (fun as : HL [(List Int), (List Str), Int] => as.1)) cz__law_names x__law_tables_0 (kd := (.io 0)) rfl rfl (rx_io x__law_tables_0 (kd := (.io 0)) rfl rfl (rx_arg (RfC.toE (rf_var x__law_tables_3 rfl)) (rx_arg (rfx_2 (op_oAdd false) (RfC.toE (rf_int 1)) (rfx_callE (g := g__law_tables_0) (oa := (fun as : HL [(List Int), Int] => as.1)) cz__law_take x__law_tables_0 (kd := (.io 0)) rfl rfl (rx_io x__law_tables_0 (kd := (.io 0)) rfl rfl (rx_arg (RfC.toE (rf_var x__law_tables_1 rfl)) (rx_nil (fun _ => ([] : (List Int)))))))) (rx_nil (fun _ => ([] : (List Int))))))))) (rg_name x__law_tables_5) (rs_kill (rs_seq (rs_set x__law_tables_6 (rfx_callE (g := g__law_tables_0) (oa := (fun as : HL [(List Int), (List Str), Int] => as.1)) cz__law_names x__law_tables_0 (kd := (.io 0)) rfl rfl (rx_io x__law_tables_0 (kd := (.io 0)) rfl rfl (rx_arg (RfC.toE (rf_lst (rl_cons (rf_str "id") (rl_cons (rf_str "i") (rl_cons (rf_str "k") (rl_cons (rf_str "t") (rl_cons (rf_str "k2") (rl_cons (rf_str "reference") (rl_cons (rf_str "zz") rl_nil))))))))) (rx_arg (rfx_2 (op_oAdd false) (RfC.toE (rf_int 1)) (rfx_callE (g := g__law_tables_0) (oa := (fun as : HL [(List Int), Int] => as.1)) cz__law_take x__law_tables_0 (kd := (.io 0)) rfl rfl (rx_io x__law_tables_0 (kd := (.io 0)) rfl rfl (rx_arg (RfC.toE (rf_var x__law_tables_2 rfl)) (rx_nil (fun _ => ([] : (List Int)))))))) (rx_nil (fun _ => ([] : (List Int)))))))) rfl) (rs_do (rfx_app (n := 0) x__law_tables_4 (k := (.own 0)) rfl rfl (RfC.toE (rf_tup (ra_cons (rf_var x__law_tables_5 rfl) (ra_cons (rf_var x__law_tables_6 rfl) ra_nil))))) rfl)) (.cons ("" : Str) x__law_tables_5 (.cons ([] : (List Str)) x__law_tables_6 .nil))) rfl rfl) (rs_retO (n := 0) x__law_tables_4 rfl rfl))))
theorem in__law_tables : Ini al__law_tables s__law_tables [.io 0, .frz, .frz] [(.io 0), .frz, .frz, .dead, .dead, .dead, .dead] [(.io 0), .dead, .dead, .dead, .dead, .dead, .dead] i__law_tables o__law_tables := (.io 0 (.frz (.frz (Ini.nil (Ts := [(List Str), (List (HL [Str, (List Str)])), Str, (List Str)]) (([] : (List Str)), ([] : (List (HL [Str, (List Str)]))), ("" : Str), ([] : (List Str)), ())))))
theorem ce__law_tables : CE al__law_tables [.io 0, .frz, .frz] (.new 0) f__law_tables (tyList (tyTup (.cons tyStr (.cons (tyList tyStr) .nil)))) t__law_tables := fn_E in__law_tables rfl rf__law_tables (.inl rfl)
theorem cz__law_tables : CE al__law_tables [.io 0, .frz, .frz] .frz (callZ f__law_tables) (tyList (tyTup (.cons tyStr (.cons (tyList tyStr) .nil)))) t__law_tables := ce_Z canZ_list ce__law_tables
theorem x_is_name_0 : Ix tyStr s_is_name 0 g_is_name_0 p_is_name_0 := .here
theorem x_is_name_1 : Ix tyStr s_is_name 1 g_is_name_1 p_is_name_1 := (.there .here)
theorem rf_is_name : RfS s_is_name [.frz, .dead] [.dead, .dead] [.dead, .dead] [.frz, .dead] .frz tyBool m_is_name B_is_name :=
  (rs_seq (rs_if (RfC.toE (rt_or (rt_of (rf_2 (op_oEq false eqv_imm eqv_imm) (RfC.w (rf_var x_is_name_0 rfl) 0) (RfC.w (rf_str "") 0))) (rt_or (rt_of (rf_2 (op_oCmp gtI) (RfC.w (rf_f1 op_oLenS (RfC.w (rf_var x_is_name_0 rfl) 0)) 0) (RfC.w (rf_int 12) 0))) (rt_of (rf_2 (op_oInS true) (RfC.w (rf_2 op_oIdxS (RfC.w (rf_var x_is_name_0 rfl) 0) (RfC.w (rf_int 0) 0)) 0) (RfC.w (rf_str "abcdefghijklmnopqrstuvwxyz") 0)))))) (rs_ret (RfC.toE (rf_bool false)) rfl rfl) rs_next rfl) (rs_seq (rs_for (k0 := [.frz, .dead]) (ks1 := [.frz, .frz]) (ri_str (RfC.toE (rf_var x_is_name_0 rfl))) (rg_name x_is_name_1) (rs_kill (rs_if (RfC.toE (rt_and (rt_of (rf_2 (op_oInS true) (RfC.w (rf_var x_is_name_1 rfl) 0) (RfC.w (rf_str "abcdefghijklmnopqrstuvwxyz") 0))) (rt_of (rf_2 (op_oInS true) (RfC.w (rf_var x_is_name_1 rfl) 0) (RfC.w (rf_str "0123456789") 0))))) (rs_ret (RfC.toE (rf_bool false)) rfl rfl) rs_next rfl) (.cons ("" : Str) x_is_name_1 .nil)) rfl rfl) (rs_ret (RfC.toE (rf_bool true)) rfl rfl)))
theorem in_is_name : Ini al_is_name s_is_name [.frz] [.frz, .dead] [.dead, .dead] i_is_name o_is_name := (.frz (Ini.nil (Ts := [Str]) (("" : Str), ())))
theorem ce_is_name : CE al_is_name [.frz] .frz f_is_name tyBool t_is_name := fn_E in_is_name rfl rf_is_name (.inl rfl)
theorem cz_is_name : CE al_is_name [.frz] .frz (callZ f_is_name) tyBool t_is_name := ce_F ce_is_name
theorem cp_is_name : CP al_is_name [.frz] f_is_name tyBool c_is_name := cp_of rfl cz_is_name (runC_eq B_is_name i_is_name o_is_name Option.none)
theorem x_Schema_padd_0 : Ix r_Schema s_Schema_padd 0 g_Schema_padd_0 p_Schema_padd_0 := .here
theorem x_Schema_padd_1 : Ix tyStr s_Schema_padd 1 g_Schema_padd_1 p_Schema_padd_1 := (.there .here)
theorem x_Schema_padd_2 : Ix (tyList tyStr) s_Schema_padd 2 g_Schema_padd_2 p_Schema_padd_2 := (.there (.there .here))
theorem x_Schema_padd_3 : Ix tyInt s_Schema_padd 3 g_Schema_padd_3 p_Schema_padd_3 := (.there (.there (.there .here)))
theorem rf_Schema_padd : RfS s_Schema_padd [(.io 2), .frz, .frz, .dead] [(.io 2), .dead, .dead, .dead] [(.io 2), .dead, .dead, .dead] [(.io 2), .frz, .frz, .dead] .frz tyNone m_Schema_padd B_Schema_padd :=
  (rs_seq (rs_if (RfC.toE (rt_or (rt_not (rt_of (rf_call cp_is_name rfl (rfa_frz (rf_var x_Schema_padd_1 rfl) rfa_nil)))) (rt_of (rf_2 (op_inA false) (RfC.w (rf_var x_Schema_padd_1 rfl) 0) (rf_fldV (i := 1) (rp := (tyDict (tyList tyStr))) (.there .here) (by rfl) (by decide) rfl (RfV.w (rf_view (n := 2) x_Schema_padd_0 (k := (.io 2)) rfl rfl))))))) (rs_raise (RfC.toE (rf_var x_Schema_padd_1 rfl)) rfl) rs_next rfl) (rs_seq (rs_if (RfC.toE (rt_or (rt_of (rf_2 (op_oCmp ltI) (RfC.w (rf_f1 op_oLen (RfC.w (rf_var x_Schema_padd_2 rfl) 0)) 0) (RfC.w (rf_int 1) 0))) (rt_of (rf_2 (op_oCmp gtI) (RfC.w (rf_f1 op_oLen (RfC.w (rf_var x_Schema_padd_2 rfl) 0)) 0) (RfC.w (rf_int 4) 0))))) (rs_raise (RfC.toE (rf_var x_Schema_padd_1 rfl)) rfl) rs_next rfl) (rs_seq (rs_for (k0 := [(.io 2), .frz, .frz, .dead]) (ks1 := [(.io 2), .frz, .frz, .frz]) (ri_rng (RfC.toE (rf_f1 op_oLen (RfC.w (rf_var x_Schema_padd_2 rfl) 0)))) (rg_name x_Schema_padd_3) (rs_kill (rs_if (RfC.toE (rt_or (rt_not (rt_of (rf_call cp_is_name rfl (rfa_frz (rf_2 op_oIdx (RfC.w (rf_var x_Schema_padd_2 rfl) 0) (RfC.w (rf_var x_Schema_padd_3 rfl) 0)) rfa_nil)))) (rt_of (rf_in false (rf_2 op_oIdx (RfC.w (rf_var x_Schema_padd_2 rfl) 0) (RfC.w (rf_var x_Schema_padd_3 rfl) 0)) (RfC.w (rf_slc (RfC.w (rf_var x_Schema_padd_2 rfl) 0) ro_none (ro_some (rf_var x_Schema_padd_3 rfl))) 0))))) (rs_raise (RfC.toE (rf_2 op_oIdx (RfC.w (rf_var x_Schema_padd_2 rfl) 0) (RfC.w (rf_var x_Schema_padd_3 rfl) 0))) rfl) rs_next rfl) (.cons (0 : Int) x_Schema_padd_3 .nil)) rfl rfl) (rs_seq (rs_do (rfx_appP (plc_fld (plc_slot (n := 2) x_Schema_padd_0 (k := (.io 2)) rfl rfl) .here (by rfl) (by decide) rfl) (rf_var x_Schema_padd_1 rfl)) rfl) (rs_putA (plc_fld (plc_slot (n := 2) x_Schema_padd_0 (k := (.io 2)) rfl rfl) (.there .here) (by rfl) (by decide) rfl) (rf_var x_Schema_padd_1 rfl) (rf_var x_Schema_padd_2 rfl) rfl)))))
theorem in_Schema_padd : Ini al_Schema_padd s_Schema_padd [.io 2, .frz, .frz] [(.io 2), .frz, .frz, .dead] [(.io 2), .dead, .dead, .dead] i_Schema_padd o_Schema_padd := (.io 2 (.frz (.frz (Ini.nil (Ts := [Int]) ((0 : Int), ())))))
theorem ce_Schema_padd : CE al_Schema_padd [.io 2, .frz, .frz] .frz f_Schema_padd tyNone t_Schema_padd := fn_E in_Schema_padd rfl rf_Schema_padd (.inr ⟨rfl, rfl, fun r _ => ⟨rfl, trivial⟩⟩)
theorem x_Schema_xinit_0 : Ix r_Schema s_Schema_xinit 0 g_Schema_xinit_0 p_Schema_xinit_0 := .here
theorem x_Schema_xinit_1 : Ix (tyList (tyTup (.cons tyStr (.cons (tyList tyStr) .nil)))) s_Schema_xinit 1 g_Schema_xinit_1 p_Schema_xinit_1 := (.there .here)
theorem x_Schema_xinit_2 : Ix tyStr s_Schema_xinit 2 g_Schema_xinit_2 p_Schema_xinit_2 := (.there (.there .here))
theorem x_Schema_xinit_3 : Ix (tyList tyStr) s_Schema_xinit 3 g_Schema_xinit_3 p_Schema_xinit_3 := (.there (.there (.there .here)))
theorem rf_Schema_xinit : RfS s_Schema_xinit [(.io 0), .frz, .dead, .dead] [(.io 2), .dead, .dead, .dead] [.dead, .dead, .dead, .dead] [(.io 2), .frz, .dead, .dead] .frz tyNone m_Schema_xinit B_Schema_xinit :=
  (rs_seq (rs_if (RfC.toE (rt_or (rt_of (rf_2 (op_oCmp ltI) (RfC.w (rf_f1 op_oLen (RfC.w (rf_var x_Schema_xinit_1 rfl) 0)) 0) (RfC.w (rf_int 1) 0))) (rt_of (rf_2 (op_oCmp gtI) (RfC.w (rf_f1 op_oLen (RfC.w (rf_var x_Schema_xinit_1 rfl) 0)) 0) (RfC.w (rf_int 5) 0))))) (rs_raise (RfC.toE (rf_str "tables")) rfl) rs_next rfl) (rs_seq (rs_fldN x_Schema_xinit_0 .here (k := (.io 0)) rfl rfl (by rfl) rfl (rn_lst (rl_nil (rp := tyStr))) rfl) (rs_seq (rs_fldN x_Schema_xinit_0 (.there .here) (k := (.io 1)) rfl rfl (by rfl) rfl (rn_newD (rp := (tyList tyStr))) rfl) (rs_for (k0 := [(.io 2), .frz, .dead, .dead]) (ks1 := [(.io 2), .frz, .frz, .frz]) (ri_list (RfC.toE (rf_var x_Schema_xinit_1 rfl))) (rg_tup (rgs_cons (rg_name x_Schema_xinit_2) (rgs_cons (rg_name x_Schema_xinit_3) rgs_nil))) (rs_kill (rs_do (rfx_meth (rfo_slot (n := 2) x_Schema_xinit_0 (k := (.io 2)) rfl rfl) (rfx_callF (g := g_Schema_xinit_0) (oa := (fun as : HL [O_Schema, Str, (List Str)] => as.1)) ce_Schema_padd x_Schema_xinit_0 (kd := (.io 2)) rfl rfl (rx_io x_Schema_xinit_0 (kd := (.io 2)) rfl rfl (rx_arg (RfC.toE (rf_var x_Schema_xinit_2 rfl)) (rx_arg (RfC.toE (rf_f1 op_list (RfC.w (rf_var x_Schema_xinit_3 rfl) 0))) (rx_nil (fun _ => d_O_Schema)))))) eb_call) rfl) (.cons ("" : Str) x_Schema_xinit_2 (.cons ([] : (List Str)) x_Schema_xinit_3 .nil))) rfl rfl))))
theorem in_Schema_xinit : Ini al_Schema_xinit w_Schema_xinit [.frz] [.frz, .dead, .dead] [.dead, .dead, .dead] i_Schema_xinit o_Schema_xinit := (.frz (Ini.nil (Ts := [Str, (List Str)]) (("" : Str), ([] : (List Str)), ())))
theorem ce_Schema_xinit : CE al_Schema_xinit [.frz] (.new 2) (mkFn 0 f_Schema_xinit) r_Schema t_Schema_xinit := fn_I in_Schema_xinit rfl rf_Schema_xinit rfl
theorem cz_Schema_xinit : CE al_Schema_xinit [.frz] .frz (callZ (mkFn 0 f_Schema_xinit)) r_Schema t_Schema_xinit := ce_Z (n := 2) (canF_ins (d := 8) ⟨(fun k _ => canF_list), ⟨(fun k _ => canF_dict), trivial⟩⟩) ce_Schema_xinit
theorem cp_Schema_xinit : CP al_Schema_xinit [.frz] (mkFn 0 f_Schema_xinit) r_Schema c_Schema_xinit := cp_ofI rfl cz_Schema_xinit
theorem x_Store_xinit_0 : Ix r_Store s_Store_xinit 0 g_Store_xinit_0 p_Store_xinit_0 := .here
theorem x_Store_xinit_1 : Ix r_Schema s_Store_xinit 1 g_Store_xinit_1 p_Store_xinit_1 := (.there .here)
theorem x_Store_xinit_2 : Ix tyStr s_Store_xinit 2 g_Store_xinit_2 p_Store_xinit_2 := (.there (.there .here))
theorem rf_Store_xinit : RfS s_Store_xinit [(.io 0), .frz, .dead] [(.io 2), .dead, .dead] [.dead, .dead, .dead] [(.io 2), .frz, .dead] .frz tyNone m_Store_xinit B_Store_xinit :=
  (rs_seq (rs_fldF x_Store_xinit_0 .here (k := (.io 0)) rfl rfl (by rfl) rfl (RfC.toE (rf_var x_Store_xinit_1 rfl)) rfl) (rs_fldN x_Store_xinit_0 (.there .here) (k := (.io 1)) rfl rfl (by rfl) rfl (rnx_dc (ri_own (i := 0) (rp := tyStr) .here (by rfl) (RfC.toE (rf_var x_Store_xinit_1 rfl))) (.cons x_Store_xinit_2 (.inl rfl) (by decide) .nil) (rg_name x_Store_xinit_2) rfl (tgd_name rfl) (RfC.toE rt_yes) (rf_var x_Store_xinit_2 rfl) (rn_lst (rl_nil (rp := tyData)))) rfl))
theorem in_Store_xinit : Ini al_Store_xinit w_Store_xinit [.frz] [.frz, .dead] [.dead, .dead] i_Store_xinit o_Store_xinit := (.frz (Ini.nil (Ts := [Str]) (("" : Str), ())))
theorem ce_Store_xinit : CE al_Store_xinit [.frz] (.new 2) (mkFn 2 f_Store_xinit) r_Store t_Store_xinit := fn_I in_Store_xinit rfl rf_Store_xinit rfl
theorem x__law_cell_0 : Ix (tyList tyInt) s__law_cell 0 g__law_cell_0 p__law_cell_0 := .here
theorem x__law_cell_1 : Ix tyInt s__law_cell 1 g__law_cell_1 p__law_cell_1 := (.there .here)
theorem rf__law_cell : RfS s__law_cell [(.io 0), .dead] [(.io 0), .dead] [(.io 0), .dead] [(.io 0), .dead] .frz (tyOpt tyInt) m__law_cell B__law_cell :=
  (rs_seq (rs_set x__law_cell_1 (rfx_callE (g := g__law_cell_0) (oa := (fun as : HL [(List Int), Int] => as.1)) cz__law_take x__law_cell_0 (kd := (.io 0)) rfl rfl (rx_io x__law_cell_0 (kd := (.io 0)) rfl rfl (rx_arg (RfC.toE (rf_int 100)) (rx_nil (fun _ => ([] : (List Int))))))) rfl) (rs_ret (rfx_2 op_oIdx (RfC.toE (rf_lst (rl_cons (rf_cast (Up.cast (up_some up_id)) (rf_int 0)) (rl_cons (rf_cast (Up.cast (up_some up_id)) (rf_int 1)) (rl_cons (rf_cast up_none.cast rf_none) (rl_cons (rf_cast (Up.cast (up_some up_id)) (rf_var x__law_cell_1 rfl)) (rl_cons (rf_cast (Up.cast (up_some up_id)) (rf_2 op_oSub (RfC.w (rf_1 op_oNeg (RfC.w (rf_int 1) 0)) 0) (RfC.w (rf_var x__law_cell_1 rfl) 0))) (rl_cons (rf_cast (Up.cast (up_some up_id)) (rf_2 (op_oAdd false) (RfC.w (rf_2 op_oPow (RfC.w (rf_int 10) 0) (RfC.w (rf_int 24) 0)) 0) (RfC.w (rf_var x__law_cell_1 rfl) 0))) (rl_cons (rf_cast up_none.cast rf_none) (rl_cons (rf_cast (Up.cast (up_some up_id)) (rf_int 7)) rl_nil)))))))))) (rfx_callE (g := g__law_cell_0) (oa := (fun as : HL [(List Int), Int] => as.1)) cz__law_take x__law_cell_0 (kd := (.io 0)) rfl rfl (rx_io x__law_cell_0 (kd := (.io 0)) rfl rfl (rx_arg (RfC.toE (rf_int 8)) (rx_nil (fun _ => ([] : (List Int)))))))) rfl rfl))
theorem in__law_cell : Ini al__law_cell s__law_cell [.io 0] [(.io 0), .dead] [(.io 0), .dead] i__law_cell o__law_cell := (.io 0 (Ini.nil (Ts := [Int]) ((0 : Int), ())))
theorem ce__law_cell : CE al__law_cell [.io 0] .frz f__law_cell (tyOpt tyInt) t__law_cell := fn_E in__law_cell rfl rf__law_cell (.inl rfl)
theorem cz__law_cell : CE al__law_cell [.io 0] .frz (callZ f__law_cell) (tyOpt tyInt) t__law_cell := ce_F ce__law_cell
theorem x__law_is_0 : Ix tyInt s__law_is 0 g__law_is_0 p__law_is_0 := .here
theorem x__law_is_1 : Ix tyInt s__law_is 1 g__law_is_1 p__law_is_1 := (.there .here)
theorem rf__law_is : RfS s__law_is [.frz, .frz] [.dead, .dead] [.dead, .dead] [.frz, .frz] .frz tyBool m__law_is B__law_is :=
  (rs_ret (RfC.toE (rf_and (rf_isi knd_imm (RfC.w (rf_var x__law_is_0 rfl) 0)) (rf_and (rf_not (rf_isi knd_imm (RfC.w (rf_var x__law_is_0 rfl) 0))) (rf_2 (op_oEq false eqv_imm eqv_imm) (RfC.w (rf_var x__law_is_0 rfl) 0) (RfC.w (rf_var x__law_is_1 rfl) 0))))) rfl rfl)
theorem in__law_is : Ini al__law_is s__law_is [.frz, .frz] [.frz, .frz] [.dead, .dead] i__law_is o__law_is := (.frz (.frz (Ini.nil (Ts := []) (()))))
theorem ce__law_is : CE al__law_is [.frz, .frz] .frz f__law_is tyBool t__law_is := fn_E in__law_is rfl rf__law_is (.inl rfl)
theorem cz__law_is : CE al__law_is [.frz, .frz] .frz (callZ f__law_is) tyBool t__law_is := ce_F ce__law_is
theorem cp__law_is : CP al__law_is [.frz, .frz] f__law_is tyBool c__law_is := cp_of rfl cz__law_is (runC_eq B__law_is i__law_is o__law_is Option.none)
theorem x__is_cell_0 : Ix tyData s__is_cell 0 g__is_cell_0 p__is_cell_0 := .here
theorem rf__is_cell : RfS s__is_cell [.frz] [.dead] [.dead] [.frz] .frz tyBool m__is_cell B__is_cell :=
  (rs_ret (RfC.toE (rf_or (rf_is false (rf_var x__is_cell_0 rfl)) (rf_and (rf_isi knd_imm (RfC.w (rf_var x__is_cell_0 rfl) 0)) (rf_not (rf_isi knd_imm (RfC.w (rf_var x__is_cell_0 rfl) 0)))))) rfl rfl)
theorem in__is_cell : Ini al__is_cell s__is_cell [.frz] [.frz] [.dead] i__is_cell o__is_cell := (.frz (Ini.nil (Ts := []) (())))
theorem ce__is_cell : CE al__is_cell [.frz] .frz f__is_cell tyBool t__is_cell := fn_E in__is_cell rfl rf__is_cell (.inl rfl)
theorem cz__is_cell : CE al__is_cell [.frz] .frz (callZ f__is_cell) tyBool t__is_cell := ce_F ce__is_cell
theorem cp__is_cell : CP al__is_cell [.frz] f__is_cell tyBool c__is_cell := cp_of rfl cz__is_cell (runC_eq B__is_cell i__is_cell o__is_cell Option.none)
theorem x_Schema_columns_0 : Ix r_Schema s_Schema_columns 0 g_Schema_columns_0 p_Schema_columns_0 := .here
theorem x_Schema_columns_1 : Ix tyStr s_Schema_columns 1 g_Schema_columns_1 p_Schema_columns_1 := (.there .here)
theorem rf_Schema_columns : RfS s_Schema_columns [.frz, .frz] [.dead, .dead] [.dead, .dead] [.frz, .frz] .frz (tyList tyStr) m_Schema_columns B_Schema_columns :=
  (rs_seq (rs_if (RfC.toE (rt_of (rf_2 (op_inA true) (RfC.w (rf_var x_Schema_columns_1 rfl) 0) (RfC.w (rf_fld (i := 1) (rp := (tyDict (tyList tyStr))) (.there .here) (by rfl) (rf_var x_Schema_columns_0 rfl)) 0)))) (rs_raise (RfC.toE (rf_var x_Schema_columns_1 rfl)) rfl) rs_next rfl) (rs_ret (RfC.toE (rf_f1 op_list (RfC.w (rf_2 op_getA (RfC.w (rf_fld (i := 1) (rp := (tyDict (tyList tyStr))) (.there .here) (by rfl) (rf_var x_Schema_columns_0 rfl)) 0) (RfC.w (rf_var x_Schema_columns_1 rfl) 0)) 0))) rfl rfl))
theorem in_Schema_columns : Ini al_Schema_columns s_Schema_columns [.frz, .frz] [.frz, .frz] [.dead, .dead] i_Schema_columns o_Schema_columns := (.frz (.frz (Ini.nil (Ts := []) (()))))
theorem ce_Schema_columns : CE al_Schema_columns [.frz, .frz] .frz f_Schema_columns (tyList tyStr) t_Schema_columns := fn_E in_Schema_columns rfl rf_Schema_columns (.inl rfl)
theorem cz_Schema_columns : CE al_Schema_columns [.frz, .frz] .frz (callZ f_Schema_columns) (tyList tyStr) t_Schema_columns := ce_F ce_Schema_columns
theorem cp_Schema_columns : CP al_Schema_columns [.frz, .frz] f_Schema_columns (tyList tyStr) c_Schema_columns := cp_of rfl cz_Schema_columns (runC_eq B_Schema_columns i_Schema_columns o_Schema_columns Option.none)
theorem x_Store_put_0 : Ix r_Store s_Store_put 0 g_Store_put_0 p_Store_put_0 := .here
theorem x_Store_put_1 : Ix tyStr s_Store_put 1 g_Store_put_1 p_Store_put_1 := (.there .here)
theorem x_Store_put_2 : Ix tyDV s_Store_put 2 g_Store_put_2 p_Store_put_2 := (.there (.there .here))
theorem x_Store_put_3 : Ix (tyList tyStr) s_Store_put 3 g_Store_put_3 p_Store_put_3 := (.there (.there (.there .here)))
theorem x_Store_put_4 : Ix tyData s_Store_put 4 g_Store_put_4 p_Store_put_4 := (.there (.there (.there (.there .here))))
theorem rf_Store_put : RfS s_Store_put [(.io 2), .frz, (.bor 0), .dead, .dead] [(.io 2), .dead, .dead, .dead, .dead] [(.io 2), .dead, .dead, .dead, .dead] [(.io 2), .frz, (.bor 0), .dead, .dead] .frz tyInt m_Store_put B_Store_put :=
  (rs_seq (rs_set x_Store_put_3 (RfC.toE (rf_meth (rfo_C (rf_fldW (i := 0) (rp := r_Schema) .here (by rfl) (by decide) rfl (RfV.w (rf_view (n := 2) x_Store_put_0 (k := (.io 2)) rfl rfl)))) (rf_call cp_Schema_columns rfl (rfa_frz (rf_fldW (i := 0) (rp := r_Schema) .here (by rfl) (by decide) rfl (RfV.w (rf_view (n := 2) x_Store_put_0 (k := (.io 2)) rfl rfl))) (rfa_frz (rf_var x_Store_put_1 rfl) rfa_nil))) cb_call)) rfl) (rs_seq (rs_if (RfC.toE (rt_of (rf_2 (op_oEq true eqv_imm eqv_imm) (RfC.w (rf_f1 op_lenDV (RfV.w (rf_view (n := 0) x_Store_put_2 (k := (.bor 0)) rfl rfl))) 0) (RfC.w (rf_f1 op_oLen (RfC.w (rf_var x_Store_put_3 rfl) 0)) 0)))) (rs_raise (RfC.toE (rf_var x_Store_put_1 rfl)) rfl) rs_next rfl) (rs_seq (rs_for (k0 := [(.io 2), .frz, (.bor 0), .dead, .dead]) (ks1 := [(.io 2), .frz, (.bor 0), .dead, .frz]) (ri_dv x_Store_put_2 rfl) (rg_name x_Store_put_4) (rs_kill (rs_if (RfC.toE (rt_not (rt_of (rf_call cp__is_cell rfl (rfa_frz (rf_var x_Store_put_4 rfl) rfa_nil))))) (rs_raise (RfC.toE (rf_var x_Store_put_1 rfl)) rfl) rs_next rfl) (.cons Fs.Data.none x_Store_put_4 .nil)) rfl rfl) (rs_seq (rs_if (RfC.toE (rt_of (rf_2 (op_oEq false eqv_imm eqv_imm) (RfC.w (rf_f1 op_oLen (rw_getO (rf_fldV (i := 1) (rp := (tyDictL (tyList tyData))) (.there .here) (by rfl) (by decide) rfl (RfV.w (rf_view (n := 2) x_Store_put_0 (k := (.io 2)) rfl rfl))) (rf_var x_Store_put_1 rfl))) 0) (RfC.w (rf_int 200) 0)))) (rs_raise (RfC.toE (rf_var x_Store_put_1 rfl)) rfl) rs_next rfl) (rs_seq (rs_do (rfx_appO (plo_key (Plc.o (plc_fld (plc_slot (n := 2) x_Store_put_0 (k := (.io 2)) rfl rfl) (.there .here) (by rfl) (by decide) rfl)) (rf_var x_Store_put_1 rfl)) (rf_cast up_data.cast (rf_f1 op_tupDV (RfV.w (rf_view (n := 0) x_Store_put_2 (k := (.bor 0)) rfl rfl))))) rfl) (rs_ret (RfC.toE (rf_2 op_oSub (RfC.w (rf_f1 op_oLen (rw_getO (rf_fldV (i := 1) (rp := (tyDictL (tyList tyData))) (.there .here) (by rfl) (by decide) rfl (RfV.w (rf_view (n := 2) x_Store_put_0 (k := (.io 2)) rfl rfl))) (rf_var x_Store_put_1 rfl))) 0) (RfC.w (rf_int 1) 0))) rfl rfl))))))
theorem in_Store_put : Ini al_Store_put s_Store_put [.io 2, .frz, .bor 0] [(.io 2), .frz, (.bor 0), .dead, .dead] [(.io 2), .dead, .dead, .dead, .dead] i_Store_put o_Store_put := (.io 2 (.frz (.bor 0 (Ini.nil (Ts := [(List Str), Fs.Data]) (([] : (List Str)), Fs.Data.none, ())))))
theorem ce_Store_put : CE al_Store_put [.io 2, .frz, .bor 0] .frz f_Store_put tyInt t_Store_put := fn_E in_Store_put rfl rf_Store_put (.inl rfl)
theorem x_Schema_rank_0 : Ix r_Schema s_Schema_rank 0 g_Schema_rank_0 p_Schema_rank_0 := .here
theorem x_Schema_rank_1 : Ix tyStr s_Schema_rank 1 g_Schema_rank_1 p_Schema_rank_1 := (.there .here)
theorem rf_Schema_rank : RfS s_Schema_rank [.frz, .frz] [.dead, .dead] [.dead, .dead] [.frz, .frz] .frz tyInt m_Schema_rank B_Schema_rank :=
  (rs_seq (rs_if (RfC.toE (rt_of (rf_2 (op_inA true) (RfC.w (rf_var x_Schema_rank_1 rfl) 0) (RfC.w (rf_fld (i := 1) (rp := (tyDict (tyList tyStr))) (.there .here) (by rfl) (rf_var x_Schema_rank_0 rfl)) 0)))) (rs_raise (RfC.toE (rf_var x_Schema_rank_1 rfl)) rfl) rs_next rfl) (rs_ret (RfC.toE (rf_index (RfC.w (rf_fld (i := 0) (rp := (tyList tyStr)) .here (by rfl) (rf_var x_Schema_rank_0 rfl)) 0) (rf_var x_Schema_rank_1 rfl))) rfl rfl))
theorem in_Schema_rank : Ini al_Schema_rank s_Schema_rank [.frz, .frz] [.frz, .frz] [.dead, .dead] i_Schema_rank o_Schema_rank := (.frz (.frz (Ini.nil (Ts := []) (()))))
theorem ce_Schema_rank : CE al_Schema_rank [.frz, .frz] .frz f_Schema_rank tyInt t_Schema_rank := fn_E in_Schema_rank rfl rf_Schema_rank (.inl rfl)
theorem cz_Schema_rank : CE al_Schema_rank [.frz, .frz] .frz (callZ f_Schema_rank) tyInt t_Schema_rank := ce_F ce_Schema_rank
theorem cp_Schema_rank : CP al_Schema_rank [.frz, .frz] f_Schema_rank tyInt c_Schema_rank := cp_of rfl cz_Schema_rank (runC_eq B_Schema_rank i_Schema_rank o_Schema_rank Option.none)
theorem x_Store_rows_0 : Ix r_Store s_Store_rows 0 g_Store_rows_0 p_Store_rows_0 := .here
theorem x_Store_rows_1 : Ix tyStr s_Store_rows 1 g_Store_rows_1 p_Store_rows_1 := (.there .here)
theorem rf_Store_rows : RfS s_Store_rows [(.bor 2), .frz] [.dead, .dead] [.dead, .dead] [(.bor 2), .frz] (.new 0) (tyList tyData) m_Store_rows B_Store_rows :=
  (rs_seq (rs_do (RfC.toE (rf_meth (rfo_C (rf_fldW (i := 0) (rp := r_Schema) .here (by rfl) (by decide) rfl (RfV.w (rf_view (n := 2) x_Store_rows_0 (k := (.bor 2)) rfl rfl)))) (rf_call cp_Schema_rank rfl (rfa_frz (rf_fldW (i := 0) (rp := r_Schema) .here (by rfl) (by decide) rfl (RfV.w (rf_view (n := 2) x_Store_rows_0 (k := (.bor 2)) rfl rfl))) (rfa_frz (rf_var x_Store_rows_1 rfl) rfa_nil))) cb_call)) rfl) (rs_retN (rn_list (rw_getO (rf_fldV (i := 1) (rp := (tyDictL (tyList tyData))) (.there .here) (by rfl) (by decide) rfl (RfV.w (rf_view (n := 2) x_Store_rows_0 (k := (.bor 2)) rfl rfl))) (rf_var x_Store_rows_1 rfl))) rfl rfl))
theorem in_Store_rows : Ini al_Store_rows s_Store_rows [.bor 2, .frz] [(.bor 2), .frz] [.dead, .dead] i_Store_rows o_Store_rows := (.bor 2 (.frz (Ini.nil (Ts := []) (()))))
theorem ce_Store_rows : CE al_Store_rows [.bor 2, .frz] (.new 0) f_Store_rows (tyList tyData) t_Store_rows := fn_E in_Store_rows rfl rf_Store_rows (.inl rfl)
theorem cz_Store_rows : CE al_Store_rows [.bor 2, .frz] .frz (callZ f_Store_rows) (tyList tyData) t_Store_rows := ce_Z canZ_list ce_Store_rows
theorem cp_Store_rows : CP al_Store_rows [.bor 2, .frz] f_Store_rows (tyList tyData) c_Store_rows := cp_of rfl cz_Store_rows (runC_eq B_Store_rows i_Store_rows o_Store_rows Option.none)
theorem x_Store_size_0 : Ix r_Store s_Store_size 0 g_Store_size_0 p_Store_size_0 := .here
theorem x_Store_size_1 : Ix (tyList tyData) s_Store_size 1 g_Store_size_1 p_Store_size_1 := (.there .here)
theorem rf_Store_size : RfS s_Store_size [(.bor 2), .dead] [.dead, .dead] [.dead, .dead] [(.bor 2), .dead] .frz tyInt m_Store_size B_Store_size :=
  (rs_ret (RfC.toE (rf_sumVals x_Store_size_1 (rf_fldV (i := 1) (rp := (tyDictL (tyList tyData))) (.there .here) (by rfl) (by decide) rfl (RfV.w (rf_view (n := 2) x_Store_size_0 (k := (.bor 2)) rfl rfl))))) rfl rfl)
theorem in_Store_size : Ini al_Store_size s_Store_size [.bor 2] [(.bor 2), .dead] [.dead, .dead] i_Store_size o_Store_size := (.bor 2 (Ini.nil (Ts := [(List Fs.Data)]) (([] : (List Fs.Data)), ())))
theorem ce_Store_size : CE al_Store_size [.bor 2] .frz f_Store_size tyInt t_Store_size := fn_E in_Store_size rfl rf_Store_size (.inl rfl)
theorem cz_Store_size : CE al_Store_size [.bor 2] .frz (callZ f_Store_size) tyInt t_Store_size := ce_F ce_Store_size
theorem cp_Store_size : CP al_Store_size [.bor 2] f_Store_size tyInt c_Store_size := cp_of rfl cz_Store_size (runC_eq B_Store_size i_Store_size o_Store_size Option.none)
theorem x__law_holds_0 : Ix r_Store s__law_holds 0 g__law_holds_0 p__law_holds_0 := .here
theorem x__law_holds_1 : Ix (tyList (tyTup (.cons tyStr (.cons (tyList tyStr) .nil)))) s__law_holds 1 g__law_holds_1 p__law_holds_1 := (.there .here)
theorem x__law_holds_2 : Ix (tyListL (tyList tyData)) s__law_holds 2 g__law_holds_2 p__law_holds_2 := (.there (.there .here))
theorem x__law_holds_3 : Ix tyInt s__law_holds 3 g__law_holds_3 p__law_holds_3 := (.there (.there (.there .here)))
theorem x__law_holds_4 : Ix tyInt s__law_holds 4 g__law_holds_4 p__law_holds_4 := (.there (.there (.there (.there .here))))
theorem x__law_holds_5 : Ix (tyList tyData) s__law_holds 5 g__law_holds_5 p__law_holds_5 := (.there (.there (.there (.there (.there .here)))))
theorem x__law_holds_6 : Ix tyData s__law_holds 6 g__law_holds_6 p__law_holds_6 := (.there (.there (.there (.there (.there (.there .here))))))
theorem x__law_holds_7 : Ix tyData s__law_holds 7 g__law_holds_7 p__law_holds_7 := (.there (.there (.there (.there (.there (.there (.there .here)))))))
theorem rf__law_holds : RfS s__law_holds [(.bor 2), .frz, (.bor 0), .dead, .dead, .dead, .dead, .dead] [.dead, .dead, .dead, .dead, .dead, .dead, .dead, .dead] [.dead, .dead, .dead, .dead, .dead, .dead, .dead, .dead] [(.bor 2), .frz, (.bor 0), .dead, .dead, .dead, .dead, .dead] .frz tyBool m__law_holds B__law_holds :=
  (rs_seq (rs_set x__law_holds_3 (RfC.toE (rf_int 0)) rfl) (rs_seq (rs_for (k0 := [(.bor 2), .frz, (.bor 0), .frz, .dead, .dead, .dead, .dead]) (ks1 := [(.bor 2), .frz, (.bor 0), .frz, .frz, .dead, .dead, .dead]) (ri_rng (RfC.toE (rf_f1 op_oLen (RfC.w (rf_var x__law_holds_1 rfl) 0)))) (rg_name x__law_holds_4) (rs_kill (rs_seq (rs_setN x__law_holds_5 (rn_meth (rfo_W (RfV.w (rf_view (n := 2) x__law_holds_0 (k := (.bor 2)) rfl rfl))) (rn_call ce_Store_rows rfl (rfa_vw (RfV.w (rf_view (n := 2) x__law_holds_0 (k := (.bor 2)) rfl rfl)) (rfa_frz (rf_tix (i := 0) (rp := tyStr) .here rfl (rf_2 op_oIdx (RfC.w (rf_var x__law_holds_1 rfl) 0) (RfC.w (rf_var x__law_holds_4 rfl) 0))) rfa_nil))) nb_call) rfl) (rs_seq (rs_if (RfC.toE (rt_or (rt_not (rt_of (rf_isi knd_list (RfV.w (rf_view (n := 0) x__law_holds_5 (k := (.own 0)) rfl rfl))))) (rt_of (rf_2 (op_oEq true eqv_list eqv_list) (RfV.w (rf_view (n := 0) x__law_holds_5 (k := (.own 0)) rfl rfl)) (rw_idxO (RfV.w (rf_view (n := 0) x__law_holds_2 (k := (.bor 0)) rfl rfl)) (rf_var x__law_holds_4 rfl)))))) (rs_ret (RfC.toE (rf_bool false)) rfl rfl) rs_next rfl) (rs_seq (rs_forH (n := 0) (k0 := [(.bor 2), .frz, (.bor 0), .frz, .frz, .held, .dead, .dead]) (ks1 := [(.bor 2), .frz, (.bor 0), .frz, .frz, .held, .frz, .dead]) x__law_holds_5 rfl (rg_name x__law_holds_6) (rs_kill (rs_for (k0 := [(.bor 2), .frz, (.bor 0), .frz, .frz, .held, .frz, .dead]) (ks1 := [(.bor 2), .frz, (.bor 0), .frz, .frz, .held, .frz, .frz]) (ri_dat (RfC.toE (rf_var x__law_holds_6 rfl))) (rg_name x__law_holds_7) (rs_kill (rs_if (RfC.toE (rt_or (rt_not (rt_of (rf_isi knd_imm (RfC.w (rf_var x__law_holds_6 rfl) 0)))) (rt_of (rf_isi knd_imm (RfC.w (rf_var x__law_holds_7 rfl) 0))))) (rs_ret (RfC.toE (rf_bool false)) rfl rfl) rs_next rfl) (.cons Fs.Data.none x__law_holds_7 .nil)) rfl rfl) (.cons Fs.Data.none x__law_holds_6 .nil)) rfl rfl rfl rfl rfl rfl) (rs_seq (rs_do (rfx_ins (n := 0) x__law_holds_5 (k := (.own 0)) rfl rfl (RfC.toE (rf_int 0)) (RfC.toE (rf_cast up_data.cast (rf_tup (ra_cons (rf_str "q0") ra_nil))))) rfl) (rs_set x__law_holds_3 (RfC.toE (rf_2 (op_oAdd false) (RfC.w (rf_var x__law_holds_3 rfl) 0) (RfC.w (rf_f1 op_oLen (rw_idxO (RfV.w (rf_view (n := 0) x__law_holds_2 (k := (.bor 0)) rfl rfl)) (rf_var x__law_holds_4 rfl))) 0))) rfl))))) (.cons (0 : Int) x__law_holds_4 (.cons ([] : (List Fs.Data)) x__law_holds_5 .nil))) rfl rfl) (rs_ret (RfC.toE (rf_call cp__law_is rfl (rfa_frz (rf_meth (rfo_W (RfV.w (rf_view (n := 2) x__law_holds_0 (k := (.bor 2)) rfl rfl))) (rf_call cp_Store_size rfl (rfa_vw (RfV.w (rf_view (n := 2) x__law_holds_0 (k := (.bor 2)) rfl rfl)) rfa_nil)) cb_call) (rfa_frz (rf_var x__law_holds_3 rfl) rfa_nil)))) rfl rfl)))
theorem in__law_holds : Ini al__law_holds s__law_holds [.bor 2, .frz, .bor 0] [(.bor 2), .frz, (.bor 0), .dead, .dead, .dead, .dead, .dead] [.dead, .dead, .dead, .dead, .dead, .dead, .dead, .dead] i__law_holds o__law_holds := (.bor 2 (.frz (.bor 0 (Ini.nil (Ts := [Int, Int, (List Fs.Data), Fs.Data, Fs.Data]) ((0 : Int), (0 : Int), ([] : (List Fs.Data)), Fs.Data.none, Fs.Data.none, ())))))
theorem ce__law_holds : CE al__law_holds [.bor 2, .frz, .bor 0] .frz f__law_holds tyBool t__law_holds := fn_E in__law_holds rfl rf__law_holds (.inl rfl)
theorem cz__law_holds : CE al__law_holds [.bor 2, .frz, .bor 0] .frz (callZ f__law_holds) tyBool t__law_holds := ce_F ce__law_holds
theorem cp__law_holds : CP al__law_holds [.bor 2, .frz, .bor 0] f__law_holds tyBool c__law_holds := cp_of rfl cz__law_holds (runC_eq B__law_holds i__law_holds o__law_holds Option.none)
theorem x__law_unknown_0 : Ix r_Store s__law_unknown 0 g__law_unknown_0 p__law_unknown_0 := .here
theorem x__law_unknown_1 : Ix tyStr s__law_unknown 1 g__law_unknown_1 p__law_unknown_1 := (.there .here)
theorem x__law_unknown_2 : Ix tyData s__law_unknown 2 g__law_unknown_2 p__law_unknown_2 := (.there (.there .here))
theorem rf__law_unknown : RfS s__law_unknown [(.bor 2), .frz, .dead, .dead] [.dead, .dead, .dead, .dead] [.dead, .dead, .dead, .dead] [(.bor 2), .frz, .dead, .dead] .frz tyData m__law_unknown B__law_unknown :=
  (rs_seq (rs_set x__law_unknown_2 (RfC.toE (rf_cast up_data.cast rf_none)) rfl) (rs_seq (rs_tryAs (kxb := [.dead, .dead, .dead, .dead]) (rs_kill (rs_do (RfC.toE (rf_meth (rfo_W (RfV.w (rf_view (n := 2) x__law_unknown_0 (k := (.bor 2)) rfl rfl))) (rf_call cp_Store_rows rfl (rfa_vw (RfV.w (rf_view (n := 2) x__law_unknown_0 (k := (.bor 2)) rfl rfl)) (rfa_frz (rf_var x__law_unknown_1 rfl) rfa_nil))) cb_call)) rfl) (.cons d_O_Store x__law_unknown_0 (.cons ("" : Str) x__law_unknown_1 .nil))) (rs_case (ks' := [.dead, .dead, .frz, .dead]) fun x => (rs_set x__law_unknown_2 (RfC.toE (rf_C (rp := tyData) ⟨rfl, trivial⟩)) rfl)) rfl rfl rfl rfl) (rs_ret (RfC.toE (rf_var x__law_unknown_2 rfl)) rfl rfl)))
theorem in__law_unknown : Ini al__law_unknown s__law_unknown [.bor 2, .frz] [(.bor 2), .frz, .dead, .dead] [.dead, .dead, .dead, .dead] i__law_unknown o__law_unknown := (.bor 2 (.frz (Ini.nil (Ts := [Fs.Data, Int]) (Fs.Data.none, (0 : Int), ()))))
theorem ce__law_unknown : CE al__law_unknown [.bor 2, .frz] .frz f__law_unknown tyData t__law_unknown := fn_E in__law_unknown rfl rf__law_unknown (.inl rfl)
theorem cz__law_unknown : CE al__law_unknown [.bor 2, .frz] .frz (callZ f__law_unknown) tyData t__law_unknown := ce_F ce__law_unknown
theorem cp__law_unknown : CP al__law_unknown [.bor 2, .frz] f__law_unknown tyData c__law_unknown := cp_of rfl cz__law_unknown (runC_eq B__law_unknown i__law_unknown o__law_unknown Option.none)
theorem x_Schema_names_0 : Ix r_Schema s_Schema_names 0 g_Schema_names_0 p_Schema_names_0 := .here
theorem rf_Schema_names : RfS s_Schema_names [.frz] [.dead] [.dead] [.frz] .frz (tyList tyStr) m_Schema_names B_Schema_names :=
  (rs_ret (RfC.toE (rf_f1 op_list (RfC.w (rf_fld (i := 0) (rp := (tyList tyStr)) .here (by rfl) (rf_var x_Schema_names_0 rfl)) 0))) rfl rfl)
theorem in_Schema_names : Ini al_Schema_names s_Schema_names [.frz] [.frz] [.dead] i_Schema_names o_Schema_names := (.frz (Ini.nil (Ts := []) (())))
theorem ce_Schema_names : CE al_Schema_names [.frz] .frz f_Schema_names (tyList tyStr) t_Schema_names := fn_E in_Schema_names rfl rf_Schema_names (.inl rfl)
theorem cz_Schema_names : CE al_Schema_names [.frz] .frz (callZ f_Schema_names) (tyList tyStr) t_Schema_names := ce_F ce_Schema_names
theorem cp_Schema_names : CP al_Schema_names [.frz] f_Schema_names (tyList tyStr) c_Schema_names := cp_of rfl cz_Schema_names (runC_eq B_Schema_names i_Schema_names o_Schema_names Option.none)
theorem x_law_0 : Ix tyScr s_law 0 g_law_0 p_law_0 := .here
theorem x_law_1 : Ix (tyList tyInt) s_law 1 g_law_1 p_law_1 := (.there .here)
theorem x_law_2 : Ix (tyList (tyTup (.cons tyStr (.cons (tyList tyStr) .nil)))) s_law 2 g_law_2 p_law_2 := (.there (.there .here))
theorem x_law_3 : Ix r_Schema s_law 3 g_law_3 p_law_3 := (.there (.there (.there .here)))
theorem x_law_4 : Ix (tyListL (tyFull 2 r_Store)) s_law 4 g_law_4 p_law_4 := (.there (.there (.there (.there .here))))
theorem x_law_5 : Ix (tyListL (tyListL (tyList tyData))) s_law 5 g_law_5 p_law_5 := (.there (.there (.there (.there (.there .here)))))
theorem x_law_6 : Ix tyInt s_law 6 g_law_6 p_law_6 := (.there (.there (.there (.there (.there (.there .here))))))
theorem x_law_7 : Ix tyInt s_law 7 g_law_7 p_law_7 := (.there (.there (.there (.there (.there (.there (.there .here)))))))
theorem x_law_8 : Ix tyInt s_law 8 g_law_8 p_law_8 := (.there (.there (.there (.there (.there (.there (.there (.there .here))))))))
theorem x_law_9 : Ix (tyList (tyOpt tyInt)) s_law 9 g_law_9 p_law_9 := (.there (.there (.there (.there (.there (.there (.there (.there (.there .here)))))))))
theorem x_law_10 : Ix tyInt s_law 10 g_law_10 p_law_10 := (.there (.there (.there (.there (.there (.there (.there (.there (.there (.there .here))))))))))
theorem x_law_11 : Ix r_Store s_law 11 g_law_11 p_law_11 := (.there (.there (.there (.there (.there (.there (.there (.there (.there (.there (.there .here)))))))))))
theorem x_law_12 : Ix (tyTup (.cons tyStr (.cons (tyList tyStr) .nil))) s_law 12 g_law_12 p_law_12 := (.there (.there (.there (.there (.there (.there (.there (.there (.there (.there (.there (.there .here))))))))))))
theorem x_law_13 : Ix tyStr s_law 13 g_law_13 p_law_13 := (.there (.there (.there (.there (.there (.there (.there (.there (.there (.there (.there (.there (.there .here)))))))))))))
theorem rf_law : RfS s_law [(.bor 0), .dead, .dead, .dead, .dead, .dead, .dead, .dead, .dead, .dead, .dead, .dead, .dead, .dead] [.dead, .dead, .dead, .dead, .dead, .dead, .dead, .dead, .dead, .dead, .dead, .dead, .dead, .dead] [.dead, .dead, .dead, .dead, .dead, .dead, .dead, .dead, .dead, .dead, .dead, .dead, .dead, .dead] [(.bor 0), .dead, .dead, .dead, .dead, .dead, .dead, .dead, .dead, .dead, .dead, .dead, .dead, .dead] .frz tyBool m_law B_law :=
  (rs_seq (rs_setN x_law_1 (rn_call ce__law_pool rfl (rfa_vw (RfV.w (rf_view (n := 0) x_law_0 (k := (.bor 0)) rfl rfl)) rfa_nil)) rfl) (rs_seq (rs_set x_law_2 (rfx_callE (g := g_law_1) (oa := (fun as : HL [(List Int), Int, Int] => as.1)) cz__law_tables x_law_1 (kd := (.own 0)) rfl rfl (rx_io x_law_1 (kd := (.own 0)) rfl rfl (rx_arg (RfC.toE (rf_int 4)) (rx_arg (RfC.toE (rf_int 4)) (rx_nil (fun _ => ([] : (List Int)))))))) rfl) (rs_seq (rs_set x_law_3 (RfC.toE (rf_call cp_Schema_xinit rfl (rfa_frz (rf_lc (ric_view (RfC.w (rf_var x_law_2 rfl) 0)) (.cons x_law_12 .nil) (rg_name x_law_12) rt_yes (rf_tup (ra_cons (rf_tix (i := 0) (rp := tyStr) .here rfl (rf_var x_law_12 rfl)) (ra_cons (rf_f1 op_list (RfC.w (rf_tix (i := 1) (rp := (tyList tyStr)) (.there .here) rfl (rf_var x_law_12 rfl)) 0)) ra_nil)))) rfa_nil))) rfl) (rs_seq (rs_setN x_law_4 (rn_lstO (n := 0) (rnl_cons (rn_full (n := 0) (k := 2) (rn_call ce_Store_xinit rfl (rfa_frz (rf_var x_law_3 rfl) rfa_nil))) (rnl_cons (rn_full (n := 0) (k := 2) (rn_call ce_Store_xinit rfl (rfa_frz (rf_var x_law_3 rfl) rfa_nil))) rnl_nil))) rfl) (rs_seq (rs_setN x_law_5 (rn_lstO (n := 0) (rnl_cons (rnx_lcL (n := 0) (ri_list (RfC.toE (rf_var x_law_2 rfl))) (.cons x_law_12 (.inl rfl) (by decide) .nil) (rg_name x_law_12) rfl (tgd_name rfl) (RfC.toE rt_yes) (rn_lst (rl_nil (rp := tyData)))) (rnl_cons (rnx_lcL (n := 0) (ri_list (RfC.toE (rf_var x_law_2 rfl))) (.cons x_law_12 (.inl rfl) (by decide) .nil) (rg_name x_law_12) rfl (tgd_name rfl) (RfC.toE rt_yes) (rn_lst (rl_nil (rp := tyData)))) rnl_nil))) rfl) (rs_seq (rs_for (k0 := [.dead, (.own 0), .frz, .dead, (.own 0), (.own 0), .dead, .dead, .dead, .dead, .dead, .dead, .dead, .dead]) (ks1 := [.dead, (.own 0), .frz, .dead, (.own 0), (.own 0), .frz, .dead, .dead, .dead, .dead, .dead, .dead, .dead]) (ri_rng (rfx_callE (g := g_law_1) (oa := (fun as : HL [(List Int), Int] => as.1)) cz__law_take x_law_1 (kd := (.own 0)) rfl rfl (rx_io x_law_1 (kd := (.own 0)) rfl rfl (rx_arg (RfC.toE (rf_int 21)) (rx_nil (fun _ => ([] : (List Int)))))))) (rg_name x_law_6) (rs_kill (rs_seq (rs_set x_law_7 (rfx_2 op_oFdv (rfx_callE (g := g_law_1) (oa := (fun as : HL [(List Int), Int] => as.1)) cz__law_take x_law_1 (kd := (.own 0)) rfl rfl (rx_io x_law_1 (kd := (.own 0)) rfl rfl (rx_arg (RfC.toE (rf_int 3)) (rx_nil (fun _ => ([] : (List Int))))))) (RfC.toE (rf_int 2))) rfl) (rs_seq (rs_set x_law_8 (rfx_callE (g := g_law_1) (oa := (fun as : HL [(List Int), Int] => as.1)) cz__law_take x_law_1 (kd := (.own 0)) rfl rfl (rx_io x_law_1 (kd := (.own 0)) rfl rfl (rx_arg (RfC.toE (rf_f1 op_oLen (RfC.w (rf_var x_law_2 rfl) 0))) (rx_nil (fun _ => ([] : (List Int))))))) rfl) (rs_seq (rs_setN x_law_9 (rnx_lc (ri_list (RfC.toE (rf_tix (i := 1) (rp := (tyList tyStr)) (.there .here) rfl (rf_2 op_oIdx (RfC.w (rf_var x_law_2 rfl) 0) (RfC.w (rf_var x_law_8 rfl) 0))))) (.cons x_law_13 (.inl rfl) (by decide) .nil) (rg_name x_law_13) rfl (tgd_name rfl) (RfC.toE rt_yes) (rfx_callE (g := g_law_1) (oa := (fun as : HL [(List Int)] => as.1)) cz__law_cell x_law_1 (kd := (.own 0)) rfl rfl (rx_io x_law_1 (kd := (.own 0)) rfl rfl (rx_nil (fun _ => ([] : (List Int))))))) rfl) (rs_seq (rs_if (rtx_and (rtx_of (rfx_2 (op_oEq false eqv_imm eqv_imm) (rfx_callE (g := g_law_1) (oa := (fun as : HL [(List Int), Int] => as.1)) cz__law_take x_law_1 (kd := (.own 0)) rfl rfl (rx_io x_law_1 (kd := (.own 0)) rfl rfl (rx_arg (RfC.toE (rf_int 4)) (rx_nil (fun _ => ([] : (List Int))))))) (RfC.toE (rf_int 3)))) (RfC.toE (rt_of (rf_2 (op_oCmp gtI) (RfC.w (rf_f1 op_oLen (rw_idxO (rw_idxO (RfV.w (rf_view (n := 0) x_law_5 (k := (.own 0)) rfl rfl)) (rf_int 0)) (rf_var x_law_8 rfl))) 0) (RfC.w (rf_int 0) 0))))) (rs_setN x_law_9 (rn_listT (rf_cast (dn_data (dc_tl (dc_opt dc_int))) (rf_2 op_oIdx (rw_idxO (rw_idxO (RfV.w (rf_view (n := 0) x_law_5 (k := (.own 0)) rfl rfl)) (rf_int 0)) (rf_var x_law_8 rfl)) (RfC.w (rf_int 0) 0)))) rfl) rs_next rfl) (rs_seq (rs_set x_law_10 (RfC.toE (rf_f1 op_oLen (rw_idxO (rw_idxO (RfV.w (rf_view (n := 0) x_law_5 (k := (.own 0)) rfl rfl)) (rf_var x_law_7 rfl)) (rf_var x_law_8 rfl)))) rfl) (rs_seq (rs_do (rfx_appO (plo_idx (plo_idx (Plc.o (plc_slot (n := 0) x_law_5 (k := (.own 0)) rfl rfl)) (rf_var x_law_7 rfl)) (rf_var x_law_8 rfl)) (rf_cast up_data.cast (rf_f1 op_tuple (RfV.w (rf_view (n := 0) x_law_9 (k := (.own 0)) rfl rfl))))) rfl) (rs_alias (kk := 2) (ks' := [.dead, (.own 0), .frz, .dead, .held, (.own 0), .frz, .frz, .frz, (.own 0), .frz, (.io 2), .dead, .dead]) x_law_4 x_law_11 (by decide) rfl rfl (rf_var x_law_7 rfl) rfl rfl rfl rfl rfl rfl rfl rfl (rs_seq (rs_if (rtx_of (rfx_2 (op_oEq false eqv_imm eqv_imm) (rfx_callE (g := g_law_1) (oa := (fun as : HL [(List Int), Int] => as.1)) cz__law_take x_law_1 (kd := (.own 0)) rfl rfl (rx_io x_law_1 (kd := (.own 0)) rfl rfl (rx_arg (RfC.toE (rf_int 2)) (rx_nil (fun _ => ([] : (List Int))))))) (RfC.toE (rf_int 1)))) (rs_if (rtx_not (rtx_of (rfx_call cp__law_is (rax_cons (rfx_meth (rfo_slot (n := 2) x_law_11 (k := (.io 2)) rfl rfl) (rfx_callF (g := g_law_11) (oa := (fun as : HL [O_Store, Str, Fs.Data] => as.1)) ce_Store_put x_law_11 (kd := (.io 2)) rfl rfl (rx_io x_law_11 (kd := (.io 2)) rfl rfl (rx_arg (RfC.toE (rf_tix (i := 0) (rp := tyStr) .here rfl (rf_2 op_oIdx (RfC.w (rf_var x_law_2 rfl) 0) (RfC.w (rf_var x_law_8 rfl) 0)))) (rx_argB (RfC.toE (rf_cast up_data.cast (rf_f1 op_tuple (RfV.w (rf_view (n := 0) x_law_9 (k := (.own 0)) rfl rfl))))) (rx_nil (fun _ => d_O_Store)))))) eb_call) (rax_cons (RfC.toE (rf_var x_law_10 rfl)) rax_nil))))) (rs_ret (RfC.toE (rf_bool false)) rfl rfl) rs_next rfl) (rs_if (rtx_not (rtx_of (rfx_call cp__law_is (rax_cons (rfx_meth (rfo_slot (n := 2) x_law_11 (k := (.io 2)) rfl rfl) (rfx_callF (g := g_law_11) (oa := (fun as : HL [O_Store, Str, Fs.Data] => as.1)) ce_Store_put x_law_11 (kd := (.io 2)) rfl rfl (rx_io x_law_11 (kd := (.io 2)) rfl rfl (rx_arg (RfC.toE (rf_tix (i := 0) (rp := tyStr) .here rfl (rf_2 op_oIdx (RfC.w (rf_var x_law_2 rfl) 0) (RfC.w (rf_var x_law_8 rfl) 0)))) (rx_viewL x_law_9 (kd := (.own 0)) rfl rfl (by decide) (rx_nil (fun _ => d_O_Store)))))) eb_call) (rax_cons (RfC.toE (rf_var x_law_10 rfl)) rax_nil))))) (rs_ret (RfC.toE (rf_bool false)) rfl rfl) rs_next rfl) rfl) (rs_seq (rs_do (rfx_app (n := 0) x_law_9 (k := (.own 0)) rfl rfl (RfC.toE (rf_cast (Up.cast (up_some up_id)) (rf_int 5)))) rfl) (rs_setIx (n := 0) x_law_9 (k := (.own 0)) rfl rfl (RfC.toE (rf_cast (Up.cast (up_some up_id)) (rf_int 6))) (RfC.toE (rf_int 0)) rfl)))))))))) (.cons (0 : Int) x_law_6 (.cons (0 : Int) x_law_7 (.cons (0 : Int) x_law_8 (.cons ([] : (List (Option Int))) x_law_9 (.cons (0 : Int) x_law_10 .nil)))))) rfl rfl) (rs_seq (rs_for (k0 := [.dead, .dead, .frz, .dead, (.own 0), (.own 0), .dead, .dead, .dead, .dead, .dead, .dead, .dead, .dead]) (ks1 := [.dead, .dead, .frz, .dead, (.own 0), (.own 0), .dead, .frz, .dead, .dead, .dead, .dead, .dead, .dead]) (ri_list (RfC.toE (rf_lst (rl_cons (rf_int 0) (rl_cons (rf_int 1) (rl_cons (rf_int 0) rl_nil)))))) (rg_name x_law_7) (rs_kill (rs_if (RfC.toE (rt_not (rt_of (rf_call cp__law_holds rfl (rfa_vw (rw_full (n := 0) (rw_idxO (RfV.w (rf_view (n := 0) x_law_4 (k := (.own 0)) rfl rfl)) (rf_var x_law_7 rfl))) (rfa_frz (rf_var x_law_2 rfl) (rfa_vw (rw_idxO (RfV.w (rf_view (n := 0) x_law_5 (k := (.own 0)) rfl rfl)) (rf_var x_law_7 rfl)) rfa_nil))))))) (rs_ret (RfC.toE (rf_bool false)) rfl rfl) rs_next rfl) (.cons (0 : Int) x_law_7 .nil)) rfl rfl) (rs_seq (rs_if (RfC.toE (rt_or (rt_of (rf_2 (op_oEq true eqv_imm eqv_imm) (RfC.w (rf_call cp__law_unknown rfl (rfa_vw (rw_full (n := 0) (rw_idxO (RfV.w (rf_view (n := 0) x_law_4 (k := (.own 0)) rfl rfl)) (rf_int 0))) (rfa_frz (rf_str "q0") rfa_nil))) 0) (RfC.w (rf_str "q0") 0))) (rt_of (rf_2 (op_oEq true eqv_list eqv_list) (RfC.w (rf_meth (rfo_C (rf_fldW (i := 0) (rp := r_Schema) .here (by rfl) (by decide) rfl (rw_full (n := 0) (rw_idxO (RfV.w (rf_view (n := 0) x_law_4 (k := (.own 0)) rfl rfl)) (rf_int 0))))) (rf_call cp_Schema_names rfl (rfa_frz (rf_fldW (i := 0) (rp := r_Schema) .here (by rfl) (by decide) rfl (rw_full (n := 0) (rw_idxO (RfV.w (rf_view (n := 0) x_law_4 (k := (.own 0)) rfl rfl)) (rf_int 0)))) rfa_nil)) cb_call) 0) (RfC.w (rf_lc (ric_view (RfC.w (rf_var x_law_2 rfl) 0)) (.cons x_law_12 .nil) (rg_name x_law_12) rt_yes (rf_tix (i := 0) (rp := tyStr) .here rfl (rf_var x_law_12 rfl))) 0))))) (rs_ret (RfC.toE (rf_bool false)) rfl rfl) rs_next rfl) (rs_ret (RfC.toE (rf_call cp__law_is rfl (rfa_frz (rf_int 200) (rfa_frz (rf_int 200) rfa_nil)))) rfl rfl)))))))))
theorem in_law : Ini al_law s_law [.bor 0] [(.bor 0), .dead, .dead, .dead, .dead, .dead, .dead, .dead, .dead, .dead, .dead, .dead, .dead, .dead] [.dead, .dead, .dead, .dead, .dead, .dead, .dead, .dead, .dead, .dead, .dead, .dead, .dead, .dead] i_law o_law := (.bor 0 (Ini.nil (Ts := [(List Int), (List (HL [Str, (List Str)])), O_Schema, (List O_Store), (List (List (List Fs.Data))), Int, Int, Int, (List (Option Int)), Int, O_Store, (HL [Str, (List Str)]), Str]) (([] : (List Int)), ([] : (List (HL [Str, (List Str)]))), d_O_Schema, ([] : (List O_Store)), ([] : (List (List (List Fs.Data)))), (0 : Int), (0 : Int), (0 : Int), ([] : (List (Option Int))), (0 : Int), d_O_Store, (("" : Str), ([] : (List Str)), ()), ("" : Str), ())))
theorem ce_law : CE al_law [.bor 0] .frz f_law tyBool t_law := fn_E in_law rfl rf_law (.inl rfl)
end Ft
namespace Fp
open PySem PySem.Spec L2 Fs Fm
def tops : List Stmt := PySem.Challenge.pw_sparedjoins_k16_rows_put.main.body
def topAt (i : Nat) : Stmt := tops.getD i (.Pass ⟨0, 0, 0, 0⟩)
def mAt (i j : Nat) : Stmt := (clsBody (topAt i)).getD j (.Pass ⟨0, 0, 0, 0⟩)
abbrev s__law_pool : Stmt := topAt 16
def d__law_pool : He.DefD := ⟨("_law_pool", none), "_law_pool", "_law_pool", defArgs s__law_pool, defBody s__law_pool, defScope s__law_pool, [], []⟩
abbrev s__law_take : Stmt := topAt 17
def d__law_take : He.DefD := ⟨("_law_take", none), "_law_take", "_law_take", defArgs s__law_take, defBody s__law_take, defScope s__law_take, [], []⟩
abbrev s__law_names : Stmt := topAt 18
def d__law_names : He.DefD := ⟨("_law_names", none), "_law_names", "_law_names", defArgs s__law_names, defBody s__law_names, defScope s__law_names, [], []⟩
abbrev s__law_tables : Stmt := topAt 19
def d__law_tables : He.DefD := ⟨("_law_tables", none), "_law_tables", "_law_tables", defArgs s__law_tables, defBody s__law_tables, defScope s__law_tables, [], []⟩
abbrev s_is_name : Stmt := topAt 13
def d_is_name : He.DefD := ⟨("is_name", none), "is_name", "is_name", defArgs s_is_name, defBody s_is_name, defScope s_is_name, [], []⟩
abbrev s_Schema_padd : Stmt := mAt 14 3
def d_Schema_padd : He.DefD := ⟨("Schema", some "_add"), "_add", "Schema._add", defArgs s_Schema_padd, defBody s_Schema_padd, defScope s_Schema_padd, [], []⟩
abbrev s_Schema_xinit : Stmt := mAt 14 2
def d_Schema_xinit : He.DefD := ⟨("Schema", some "__init__"), "__init__", "Schema.__init__", defArgs s_Schema_xinit, defBody s_Schema_xinit, defScope s_Schema_xinit, [], []⟩
abbrev s_Store_xinit : Stmt := mAt 8 1
def d_Store_xinit : He.DefD := ⟨("Store", some "__init__"), "__init__", "Store.__init__", defArgs s_Store_xinit, defBody s_Store_xinit, defScope s_Store_xinit, [], []⟩
abbrev s__law_cell : Stmt := topAt 20
def d__law_cell : He.DefD := ⟨("_law_cell", none), "_law_cell", "_law_cell", defArgs s__law_cell, defBody s__law_cell, defScope s__law_cell, [], []⟩
abbrev s__law_is : Stmt := topAt 21
def d__law_is : He.DefD := ⟨("_law_is", none), "_law_is", "_law_is", defArgs s__law_is, defBody s__law_is, defScope s__law_is, [], []⟩
abbrev s__is_cell : Stmt := topAt 7
def d__is_cell : He.DefD := ⟨("_is_cell", none), "_is_cell", "_is_cell", defArgs s__is_cell, defBody s__is_cell, defScope s__is_cell, [], []⟩
abbrev s_Schema_columns : Stmt := mAt 14 5
def d_Schema_columns : He.DefD := ⟨("Schema", some "columns"), "columns", "Schema.columns", defArgs s_Schema_columns, defBody s_Schema_columns, defScope s_Schema_columns, [], []⟩
abbrev s_Store_put : Stmt := mAt 8 2
def d_Store_put : He.DefD := ⟨("Store", some "put"), "put", "Store.put", defArgs s_Store_put, defBody s_Store_put, defScope s_Store_put, [], []⟩
abbrev s_Schema_rank : Stmt := mAt 14 6
def d_Schema_rank : He.DefD := ⟨("Schema", some "rank"), "rank", "Schema.rank", defArgs s_Schema_rank, defBody s_Schema_rank, defScope s_Schema_rank, [], []⟩
abbrev s_Store_rows : Stmt := mAt 8 3
def d_Store_rows : He.DefD := ⟨("Store", some "rows"), "rows", "Store.rows", defArgs s_Store_rows, defBody s_Store_rows, defScope s_Store_rows, [], []⟩
abbrev s_Store_size : Stmt := mAt 8 4
def d_Store_size : He.DefD := ⟨("Store", some "size"), "size", "Store.size", defArgs s_Store_size, defBody s_Store_size, defScope s_Store_size, [], []⟩
abbrev s__law_holds : Stmt := topAt 22
def d__law_holds : He.DefD := ⟨("_law_holds", none), "_law_holds", "_law_holds", defArgs s__law_holds, defBody s__law_holds, defScope s__law_holds, [], []⟩
abbrev s__law_unknown : Stmt := topAt 23
def d__law_unknown : He.DefD := ⟨("_law_unknown", none), "_law_unknown", "_law_unknown", defArgs s__law_unknown, defBody s__law_unknown, defScope s__law_unknown, [], []⟩
abbrev s_Schema_names : Stmt := mAt 14 4
def d_Schema_names : He.DefD := ⟨("Schema", some "names"), "names", "Schema.names", defArgs s_Schema_names, defBody s_Schema_names, defScope s_Schema_names, [], []⟩
abbrev s_law : Stmt := topAt 24
def d_law : He.DefD := ⟨("law", none), "law", "law", defArgs s_law, defBody s_law, defScope s_law, [], []⟩
abbrev s_Schema_xiter : Stmt := mAt 14 10
def d_Schema_xiter : He.DefD := ⟨("Schema", some "__iter__"), "__iter__", "Schema.__iter__", defArgs s_Schema_xiter, defBody s_Schema_xiter, defScope s_Schema_xiter, [], []⟩
def fns : List He.DefD := [d__law_pool, d__law_take, d__law_names, d__law_tables, d_is_name, d_Schema_padd, d_Schema_xinit, d_Store_xinit, d__law_cell, d__law_is, d__is_cell, d_Schema_columns, d_Store_put, d_Schema_rank, d_Store_rows, d_Store_size, d__law_holds, d__law_unknown, d_Schema_names, d_law, d_Schema_xiter]
def fas : List He.Fa := [.free "min", .free "len", .free "range", .free "abs", .free "int", .free "list", .glo "_law_take", .glo "_law_names", .int "LONGEST" 12, .str "LETTERS" "abcdefghijklmnopqrstuvwxyz", .str "DIGITS" "0123456789", .glo "is_name", .cls "Schema", .noat "Schema" "_columns", .glo "BadSchema", .glo "Schema", .noat "Schema" "_names", .meth "Schema" "_add", .cls "Store", .noat "Store" "schema", .noat "Store" "_rows", .meth "Schema" "__iter__", .free "isinstance", .free "bool", .meth "Schema" "columns", .glo "BadRow", .glo "_is_cell", .glo "Store", .glo "TooMany", .free "tuple", .meth "Schema" "rank", .free "sum", .meth "Store" "rows", .meth "Store" "size", .glo "_law_is", .glo "_law_pool", .glo "_law_tables", .mkr "Schema", .mkr "Store", .glo "_law_cell", .meth "Store" "put", .glo "_law_holds", .glo "_law_unknown", .meth "Schema" "names", .glo "law", .free "iter"]
abbrev s_BadSchema : Stmt := mAt 3 0
def d_BadSchema : SupD := ⟨("BadSchema", some "__init__"), "__init__", "BadSchema.__init__", defArgs s_BadSchema, defBody s_BadSchema, defScope s_BadSchema⟩
abbrev s_BadRow : Stmt := mAt 4 0
def d_BadRow : SupD := ⟨("BadRow", some "__init__"), "__init__", "BadRow.__init__", defArgs s_BadRow, defBody s_BadRow, defScope s_BadRow⟩
abbrev s_TooMany : Stmt := mAt 5 0
def d_TooMany : SupD := ⟨("TooMany", some "__init__"), "__init__", "TooMany.__init__", defArgs s_TooMany, defBody s_TooMany, defScope s_TooMany⟩
def sfs : List SupD := [d_BadSchema, d_BadRow, d_TooMany]
def exs (K : PySem.W.Frag) : List Bool := [supB PySem.Challenge.pw_sparedjoins_k16_rows_put K "BadSchema" "what" "BadSchema.__init__", ccB K "Schema" "COLUMNS" 4, ccB K "Schema" "TABLES" 5, supB PySem.Challenge.pw_sparedjoins_k16_rows_put K "BadRow" "table" "BadRow.__init__", ccB K "Store" "ROWS" 200, supB PySem.Challenge.pw_sparedjoins_k16_rows_put K "TooMany" "what" "TooMany.__init__", exfB K "BadSchema" "what", exmB K [20, 23, 30] 20]
def exB (K : PySem.W.Frag) : Bool := (exs K).all id
section
variable {T : Tbl}
theorem rai_BadSchema (E : Ew PySem.Challenge.pw_sparedjoins_k16_rows_put T fas fns exB sfs) : RaiOk T 20 :=
  rai_of (x := "BadSchema") (fl := "what") (slf := "self") (p := "what") (E.ca 20) (by rw [E.P]; exact ex_at E.c.more 0 rfl) (E.c.sup_ 0 (d := d_BadSchema) rfl) rfl rfl (by decide +kernel) (by decide +kernel) (by decide +kernel) (by decide +kernel) (by decide +kernel) (by decide +kernel) (by decide +kernel) (by decide +kernel) (fun _ => rfl) (by decide +kernel) (by decide +kernel) (by decide +kernel) (by rw [E.P]; decide +kernel) (fun _ _ _ _ _ _ _ us hl => match us, hl with | [_, _], _ => rfl) rfl
theorem rai_BadRow (E : Ew PySem.Challenge.pw_sparedjoins_k16_rows_put T fas fns exB sfs) : RaiOk T 23 :=
  rai_of (x := "BadRow") (fl := "table") (slf := "self") (p := "table") (E.ca 23) (by rw [E.P]; exact ex_at E.c.more 3 rfl) (E.c.sup_ 1 (d := d_BadRow) rfl) rfl rfl (by decide +kernel) (by decide +kernel) (by decide +kernel) (by decide +kernel) (by decide +kernel) (by decide +kernel) (by decide +kernel) (by decide +kernel) (fun _ => rfl) (by decide +kernel) (by decide +kernel) (by decide +kernel) (by rw [E.P]; decide +kernel) (fun _ _ _ _ _ _ _ us hl => match us, hl with | [_, _], _ => rfl) rfl
theorem rai_TooMany (E : Ew PySem.Challenge.pw_sparedjoins_k16_rows_put T fas fns exB sfs) : RaiOk T 30 :=
  rai_of (x := "TooMany") (fl := "what") (slf := "self") (p := "what") (E.ca 30) (by rw [E.P]; exact ex_at E.c.more 5 rfl) (E.c.sup_ 2 (d := d_TooMany) rfl) rfl rfl (by decide +kernel) (by decide +kernel) (by decide +kernel) (by decide +kernel) (by decide +kernel) (by decide +kernel) (by decide +kernel) (by decide +kernel) (fun _ => rfl) (by decide +kernel) (by decide +kernel) (by decide +kernel) (by rw [E.P]; decide +kernel) (fun _ _ _ _ _ _ _ us hl => match us, hl with | [_, _], _ => rfl) rfl
theorem itf_Schema (E : Ew PySem.Challenge.pw_sparedjoins_k16_rows_put T fas fns exB sfs) : ItfOk T 0 "_names" := by
  obtain ⟨fd, F⟩ := E.says.def_ 20 (d := d_Schema_xiter) rfl
  exact itf_ok (N := ["self"]) E 12 21 16 F ⟨by rfl, by rfl, by rfl, by decide +kernel, by rfl, by decide +kernel, by decide +kernel⟩ (L2.FunD.bindsN F fun _ _ _ _ _ _ us hl => match us, hl with | [_], _ => rfl) rfl rfl rfl (E.toEv.fr 45 rfl) rfl (.inl (by decide +kernel)) (by decide +kernel)
def n__law_pool : List Str := ["_law_script", "_law_pool_here", "_law_k", "_law_number", "_law_turn", "_law_value"]
def p__law_pool : List Str := ["_law_script"]
theorem sc__law_pool : FnScope n__law_pool p__law_pool (defScope s__law_pool) := ⟨by rfl, by rfl, by rfl, by decide +kernel, by rfl, by decide +kernel, by decide +kernel⟩
def k__law_pool : List (Str × NameKind) := ("_law_pool_here", .local) :: ("min", .globalImplicit) :: ("len", .globalImplicit) :: ("_law_script", .local) :: ("range", .globalImplicit) :: ("_law_k", .local) :: ("abs", .globalImplicit) :: ("_law_number", .local) :: ("_law_turn", .local) :: ("int", .globalImplicit) :: ("_law_value", .local) :: []
theorem sk__law_pool : Sk (defScope s__law_pool) k__law_pool := ⟨by decide +kernel⟩
theorem bd__law_pool {X : Cx} {W : WX} (E : Ew PySem.Challenge.pw_sparedjoins_k16_rows_put T fas fns exB sfs) (S : Sk (defScope s__law_pool) k__law_pool) (B : Bx T n__law_pool (defScope s__law_pool) 1 W X) (F : Fx X) : DSs T W X (defBody s__law_pool) m__law_pool :=
  (dss_cons (ds_set B 1 rfl (S.at_ 0 rfl) (de_lst true da_nil)) (dss_cons (ds_for B (di_range1 B (S.at_ 4 rfl) (E.fr 2 rfl) (da_cons (de_min B (S.at_ 1 rfl) (E.fr 0 rfl) (da_cons (de_len B (S.at_ 2 rfl) (E.fr 1 rfl) (da_cons (de_var B 0 rfl (S.vis 3 rfl)) da_nil)) (da_cons de_int da_nil))) da_nil)) (dg_name B 2 rfl (S.at_ 5 rfl)) (dss_cons (ds_set B 3 rfl (S.at_ 7 rfl) (de_abs B (S.at_ 6 rfl) (E.fr 3 rfl) (da_cons (de_idx B (de_var B 0 rfl (S.vis 3 rfl)) (de_var B 2 rfl (S.vis 5 rfl))) da_nil))) (dss_one (ds_if (dt_c (c_ge B) (de_var B 3 rfl (S.vis 7 rfl)) (de_pow de_int de_int)) (dss_one (ds_for B (di_range1 B (S.at_ 4 rfl) (E.fr 2 rfl) (da_cons de_int da_nil)) (dg_name B 4 rfl (S.at_ 8 rfl)) (dss_cons (ds_if (dt_c (c_gt B) (de_var B 3 rfl (S.vis 7 rfl)) de_int) (dss_one (ds_do (de_app B (de_var B 1 rfl (S.vis 0 rfl)) (da_cons (de_mod (de_intC B (S.at_ 9 rfl) (E.fr 4 rfl) (da_cons (de_var B 3 rfl (S.vis 7 rfl)) da_nil)) de_int) da_nil)))) dss_nil) (dss_one (ds_set B 3 rfl (S.at_ 7 rfl) (de_fdv (de_var B 3 rfl (S.vis 7 rfl)) de_int)))))) (dss_cons (ds_set B 5 rfl (S.at_ 10 rfl) (de_mod (de_intC B (S.at_ 9 rfl) (E.fr 4 rfl) (da_cons (de_add B false (de_add B false (de_add B false (de_mul false (de_var B 3 rfl (S.vis 7 rfl)) de_int) (de_mul false (de_var B 2 rfl (S.vis 5 rfl)) de_int)) (de_mul false (de_intC B (S.at_ 9 rfl) (E.fr 4 rfl) (da_cons (de_c (c_lt B) (de_idx B (de_var B 0 rfl (S.vis 3 rfl)) (de_var B 2 rfl (S.vis 5 rfl))) de_int) da_nil)) de_int)) de_int) da_nil)) de_int)) (dss_one (ds_for B (di_range1 B (S.at_ 4 rfl) (E.fr 2 rfl) (da_cons de_int da_nil)) (dg_name B 4 rfl (S.at_ 8 rfl)) (dss_cons (ds_set B 5 rfl (S.at_ 10 rfl) (de_mod (de_intC B (S.at_ 9 rfl) (E.fr 4 rfl) (da_cons (de_add B false (de_add B false (de_mul false (de_var B 5 rfl (S.vis 10 rfl)) (de_var B 5 rfl (S.vis 10 rfl))) (de_mul false (de_var B 4 rfl (S.vis 8 rfl)) de_int)) (de_var B 2 rfl (S.vis 5 rfl))) da_nil)) de_int)) (dss_one (ds_do (de_app B (de_var B 1 rfl (S.vis 0 rfl)) (da_cons (de_mod (de_intC B (S.at_ 9 rfl) (E.fr 4 rfl) (da_cons (de_fdv (de_var B 5 rfl (S.vis 10 rfl)) de_int) da_nil)) de_int) da_nil)))))))))))) (dss_one (ds_ret (de_var B 1 rfl (S.vis 0 rfl))))))
theorem fo__law_pool (E : Ew PySem.Challenge.pw_sparedjoins_k16_rows_put T fas fns exB sfs) {fd : FuncData} (F : FunD T.K "_law_pool" "_law_pool" (defArgs s__law_pool) (defBody s__law_pool) (defScope s__law_pool) [] [] (He.fAd T.K ("_law_pool", none)) fd) : FnOk T.P T.w T.K T.mg T.base (L2.CX T.P T.w) 2 (He.fAd T.K ("_law_pool", none)) fd p__law_pool (spM T 1 f__law_pool) :=
  fn_ok F sc__law_pool fun X W B F => bd__law_pool E sk__law_pool B F
theorem ok__law_pool (E : Ew PySem.Challenge.pw_sparedjoins_k16_rows_put T fas fns exB sfs) : FnAt T 2 (He.fAd T.K ("_law_pool", none)) p__law_pool f__law_pool := by
  obtain ⟨fd, F⟩ := E.says.def_ 0 (d := d__law_pool) rfl
  exact ⟨⟨fd, fo__law_pool E F, (FunD.bindsN F fun _ _ _ _ _ _ us hl => match us, hl with | [_], _ => rfl)⟩, F.kp⟩
def n__law_take : List Str := ["_law_pool_here", "_law_size"]
def p__law_take : List Str := ["_law_pool_here", "_law_size"]
theorem sc__law_take : FnScope n__law_take p__law_take (defScope s__law_take) := ⟨by rfl, by rfl, by rfl, by decide +kernel, by rfl, by decide +kernel, by decide +kernel⟩
def k__law_take : List (Str × NameKind) := ("len", .globalImplicit) :: ("_law_pool_here", .local) :: ("int", .globalImplicit) :: ("_law_size", .local) :: []
theorem sk__law_take : Sk (defScope s__law_take) k__law_take := ⟨by decide +kernel⟩
theorem bd__law_take {X : Cx} {W : WX} (E : Ew PySem.Challenge.pw_sparedjoins_k16_rows_put T fas fns exB sfs) (S : Sk (defScope s__law_take) k__law_take) (B : Bx T n__law_take (defScope s__law_take) 1 W X) (F : Fx X) : DSs T W X (defBody s__law_take) m__law_take :=
  (dss_cons (ds_if (dt_c (c_eq B) (de_len B (S.at_ 0 rfl) (E.fr 1 rfl) (da_cons (de_var B 0 rfl (S.vis 1 rfl)) da_nil)) de_int) (dss_one (ds_ret de_int)) dss_nil) (dss_one (ds_ret (de_mod (de_intC B (S.at_ 2 rfl) (E.fr 4 rfl) (da_cons (de_popAt B (de_var B 0 rfl (S.vis 1 rfl)) (da_cons de_int da_nil)) da_nil)) (de_var B 1 rfl (S.vis 3 rfl))))))
theorem fo__law_take (E : Ew PySem.Challenge.pw_sparedjoins_k16_rows_put T fas fns exB sfs) {fd : FuncData} (F : FunD T.K "_law_take" "_law_take" (defArgs s__law_take) (defBody s__law_take) (defScope s__law_take) [] [] (He.fAd T.K ("_law_take", none)) fd) : FnOk T.P T.w T.K T.mg T.base (L2.CX T.P T.w) 2 (He.fAd T.K ("_law_take", none)) fd p__law_take (spM T 2 f__law_take) :=
  fn_ok F sc__law_take fun X W B F => bd__law_take E sk__law_take B F
theorem ok__law_take (E : Ew PySem.Challenge.pw_sparedjoins_k16_rows_put T fas fns exB sfs) : FnAt T 2 (He.fAd T.K ("_law_take", none)) p__law_take f__law_take := by
  obtain ⟨fd, F⟩ := E.says.def_ 1 (d := d__law_take) rfl
  exact ⟨⟨fd, fo__law_take E F, (FunD.bindsN F fun _ _ _ _ _ _ us hl => match us, hl with | [_, _], _ => rfl)⟩, F.kp⟩
def n__law_names : List Str := ["_law_pool_here", "_law_menu", "_law_count", "_law_left", "_law_names_here", "_law_k"]
def p__law_names : List Str := ["_law_pool_here", "_law_menu", "_law_count"]
theorem sc__law_names : FnScope n__law_names p__law_names (defScope s__law_names) := ⟨by rfl, by rfl, by rfl, by decide +kernel, by rfl, by decide +kernel, by decide +kernel⟩
def k__law_names : List (Str × NameKind) := ("_law_menu", .local) :: ("list", .globalImplicit) :: ("_law_left", .local) :: ("_law_names_here", .local) :: ("_law_count", .local) :: ("range", .globalImplicit) :: ("_law_k", .local) :: ("_law_pool_here", .local) :: ("len", .globalImplicit) :: ("_law_take", .globalImplicit) :: []
theorem sk__law_names : Sk (defScope s__law_names) k__law_names := ⟨by decide +kernel⟩
theorem bd__law_names {X : Cx} {W : WX} (E : Ew PySem.Challenge.pw_sparedjoins_k16_rows_put T fas fns exB sfs) (S : Sk (defScope s__law_names) k__law_names) (B : Bx T n__law_names (defScope s__law_names) 2 W X) (F : Fx X) : DSs T W X (defBody s__law_names) m__law_names :=
  (dss_cons (ds_set B 3 rfl (S.at_ 2 rfl) (de_listC B true (S.at_ 1 rfl) (E.fr 5 rfl) (da_cons (de_var B 1 rfl (S.vis 0 rfl)) da_nil))) (dss_cons (ds_set B 4 rfl (S.at_ 3 rfl) (de_lst true da_nil)) (dss_cons (ds_for B (di_range1 B (S.at_ 5 rfl) (E.fr 2 rfl) (da_cons (de_var B 2 rfl (S.vis 4 rfl)) da_nil)) (dg_name B 5 rfl (S.at_ 6 rfl)) (dss_one (ds_do (de_app B (de_var B 4 rfl (S.vis 3 rfl)) (da_cons (de_popAt B (de_var B 3 rfl (S.vis 2 rfl)) (da_cons (de_callZ B (ok__law_take E) (by decide) (S.at_ 9 rfl) (E.gl 6 rfl) (da_cons (de_var B 0 rfl (S.vis 7 rfl)) (da_cons (de_len B (S.at_ 8 rfl) (E.fr 1 rfl) (da_cons (de_var B 3 rfl (S.vis 2 rfl)) da_nil)) da_nil)) rfl) da_nil)) da_nil))))) (dss_one (ds_ret (de_var B 4 rfl (S.vis 3 rfl)))))))
theorem fo__law_names (E : Ew PySem.Challenge.pw_sparedjoins_k16_rows_put T fas fns exB sfs) {fd : FuncData} (F : FunD T.K "_law_names" "_law_names" (defArgs s__law_names) (defBody s__law_names) (defScope s__law_names) [] [] (He.fAd T.K ("_law_names", none)) fd) : FnOk T.P T.w T.K T.mg T.base (L2.CX T.P T.w) 3 (He.fAd T.K ("_law_names", none)) fd p__law_names (spM T 3 f__law_names) :=
  fn_ok F sc__law_names fun X W B F => bd__law_names E sk__law_names B F
theorem ok__law_names (E : Ew PySem.Challenge.pw_sparedjoins_k16_rows_put T fas fns exB sfs) : FnAt T 3 (He.fAd T.K ("_law_names", none)) p__law_names f__law_names := by
  obtain ⟨fd, F⟩ := E.says.def_ 2 (d := d__law_names) rfl
  exact ⟨⟨fd, fo__law_names E F, (FunD.bindsN F fun _ _ _ _ _ _ us hl => match us, hl with | [_, _, _], _ => rfl)⟩, F.kp⟩
def n__law_tables : List Str := ["_law_pool_here", "_law_limit", "_law_wide", "_law_menu", "_law_tables_here", "_law_name", "_law_columns"]
def p__law_tables : List Str := ["_law_pool_here", "_law_limit", "_law_wide"]
theorem sc__law_tables : FnScope n__law_tables p__law_tables (defScope s__law_tables) := ⟨by rfl, by rfl, by rfl, by decide +kernel, by rfl, by decide +kernel, by decide +kernel⟩
def k__law_tables : List (Str × NameKind) := ("_law_menu", .local) :: ("_law_tables_here", .local) :: ("_law_pool_here", .local) :: ("_law_limit", .local) :: ("_law_take", .globalImplicit) :: ("_law_names", .globalImplicit) :: ("_law_name", .local) :: ("_law_wide", .local) :: ("_law_columns", .local) :: []
theorem sk__law_tables : Sk (defScope s__law_tables) k__law_tables := ⟨by decide +kernel⟩
theorem bd__law_tables {X : Cx} {W : WX} (E : Ew PySem.Challenge.pw_sparedjoins_k16_rows_put T fas fns exB sfs) (S : Sk (defScope s__law_tables) k__law_tables) (B : Bx T n__law_tables (defScope s__law_tables) 3 W X) (F : Fx X) : DSs T W X (defBody s__law_tables) m__law_tables :=
  (dss_cons (ds_set B 3 rfl (S.at_ 0 rfl) (de_lst false (da_cons de_str (da_cons de_str (da_cons de_str (da_cons de_str (da_cons de_str (da_cons de_str (da_cons de_str (da_cons de_str da_nil)))))))))) (dss_cons (ds_set B 4 rfl (S.at_ 1 rfl) (de_lst true da_nil)) (dss_cons (ds_for B (di_any B (de_callZ B (ok__law_names E) (by decide) (S.at_ 5 rfl) (E.gl 7 rfl) (da_cons (de_var B 0 rfl (S.vis 2 rfl)) (da_cons (de_var B 3 rfl (S.vis 0 rfl)) (da_cons (de_add B false de_int (de_callZ B (ok__law_take E) (by decide) (S.at_ 4 rfl) (E.gl 6 rfl) (da_cons (de_var B 0 rfl (S.vis 2 rfl)) (da_cons (de_var B 1 rfl (S.vis 3 rfl)) da_nil)) rfl)) da_nil))) rfl)) (dg_name B 5 rfl (S.at_ 6 rfl)) (dss_cons (ds_set B 6 rfl (S.at_ 8 rfl) (de_callZ B (ok__law_names E) (by decide) (S.at_ 5 rfl) (E.gl 7 rfl) (da_cons (de_var B 0 rfl (S.vis 2 rfl)) (da_cons (de_lst false (da_cons de_str (da_cons de_str (da_cons de_str (da_cons de_str (da_cons de_str (da_cons de_str (da_cons de_str da_nil)))))))) (da_cons (de_add B false de_int (de_callZ B (ok__law_take E) (by decide) (S.at_ 4 rfl) (E.gl 6 rfl) (da_cons (de_var B 0 rfl (S.vis 2 rfl)) (da_cons (de_var B 2 rfl (S.vis 7 rfl)) da_nil)) rfl)) da_nil))) rfl)) (dss_one (ds_do (de_app B (de_var B 4 rfl (S.vis 1 rfl)) (da_cons (de_tup (da_cons (de_var B 5 rfl (S.vis 6 rfl)) (da_cons (de_var B 6 rfl (S.vis 8 rfl)) da_nil))) da_nil)))))) (dss_one (ds_ret (de_var B 4 rfl (S.vis 1 rfl)))))))
theorem fo__law_tables (E : Ew PySem.Challenge.pw_sparedjoins_k16_rows_put T fas fns exB sfs) {fd : FuncData} (F : FunD T.K "_law_tables" "_law_tables" (defArgs s__law_tables) (defBody s__law_tables) (defScope s__law_tables) [] [] (He.fAd T.K ("_law_tables", none)) fd) : FnOk T.P T.w T.K T.mg T.base (L2.CX T.P T.w) 4 (He.fAd T.K ("_law_tables", none)) fd p__law_tables (spM T 3 f__law_tables) :=
  fn_ok F sc__law_tables fun X W B F => bd__law_tables E sk__law_tables B F
theorem ok__law_tables (E : Ew PySem.Challenge.pw_sparedjoins_k16_rows_put T fas fns exB sfs) : FnAt T 4 (He.fAd T.K ("_law_tables", none)) p__law_tables f__law_tables := by
  obtain ⟨fd, F⟩ := E.says.def_ 3 (d := d__law_tables) rfl
  exact ⟨⟨fd, fo__law_tables E F, (FunD.bindsN F fun _ _ _ _ _ _ us hl => match us, hl with | [_, _, _], _ => rfl)⟩, F.kp⟩
def n_is_name : List Str := ["word", "char"]
def p_is_name : List Str := ["word"]
theorem sc_is_name : FnScope n_is_name p_is_name (defScope s_is_name) := ⟨by rfl, by rfl, by rfl, by decide +kernel, by rfl, by decide +kernel, by decide +kernel⟩
def k_is_name : List (Str × NameKind) := ("word", .local) :: ("len", .globalImplicit) :: ("LONGEST", .globalImplicit) :: ("LETTERS", .globalImplicit) :: ("char", .local) :: ("DIGITS", .globalImplicit) :: []
theorem sk_is_name : Sk (defScope s_is_name) k_is_name := ⟨by decide +kernel⟩
theorem bd_is_name {X : Cx} {W : WX} (E : Ew PySem.Challenge.pw_sparedjoins_k16_rows_put T fas fns exB sfs) (S : Sk (defScope s_is_name) k_is_name) (B : Bx T n_is_name (defScope s_is_name) 1 W X) (F : Fx X) : DSs T W X (defBody s_is_name) m_is_name :=
  (dss_cons (ds_if (dt_w (dw_or (dt_c (c_eq B) (de_var B 0 rfl (S.vis 0 rfl)) de_str) (dw_or (dt_c (c_gt B) (de_len B (S.at_ 1 rfl) (E.fr 1 rfl) (da_cons (de_var B 0 rfl (S.vis 0 rfl)) da_nil)) (de_gi B E.toEv 8 (S.at_ 2 rfl) rfl)) (dw_or1 (dt_c (c_notIn B) (de_idx B (de_var B 0 rfl (S.vis 0 rfl)) de_int) (de_gs B E.toEv 9 (S.at_ 3 rfl) rfl)))))) (dss_one (ds_ret de_bl)) dss_nil) (dss_cons (ds_for B (di_any B (de_var B 0 rfl (S.vis 0 rfl))) (dg_name B 1 rfl (S.at_ 4 rfl)) (dss_one (ds_if (dt_w (dw_and (dt_c (c_notIn B) (de_var B 1 rfl (S.vis 4 rfl)) (de_gs B E.toEv 9 (S.at_ 3 rfl) rfl)) (dw_and1 (dt_c (c_notIn B) (de_var B 1 rfl (S.vis 4 rfl)) (de_gs B E.toEv 10 (S.at_ 5 rfl) rfl))))) (dss_one (ds_ret de_bl)) dss_nil))) (dss_one (ds_ret de_bl))))
theorem fo_is_name (E : Ew PySem.Challenge.pw_sparedjoins_k16_rows_put T fas fns exB sfs) {fd : FuncData} (F : FunD T.K "is_name" "is_name" (defArgs s_is_name) (defBody s_is_name) (defScope s_is_name) [] [] (He.fAd T.K ("is_name", none)) fd) : FnOk T.P T.w T.K T.mg T.base (L2.CX T.P T.w) 2 (He.fAd T.K ("is_name", none)) fd p_is_name (spM T 1 f_is_name) :=
  fn_ok F sc_is_name fun X W B F => bd_is_name E sk_is_name B F
theorem ok_is_name (E : Ew PySem.Challenge.pw_sparedjoins_k16_rows_put T fas fns exB sfs) : FnAt T 2 (He.fAd T.K ("is_name", none)) p_is_name f_is_name := by
  obtain ⟨fd, F⟩ := E.says.def_ 4 (d := d_is_name) rfl
  exact ⟨⟨fd, fo_is_name E F, (FunD.bindsN F fun _ _ _ _ _ _ us hl => match us, hl with | [_], _ => rfl)⟩, F.kp⟩
def n_Schema_padd : List Str := ["self", "name", "columns", "k"]
def p_Schema_padd : List Str := ["self", "name", "columns"]
theorem sc_Schema_padd : FnScope n_Schema_padd p_Schema_padd (defScope s_Schema_padd) := ⟨by rfl, by rfl, by rfl, by decide +kernel, by rfl, by decide +kernel, by decide +kernel⟩
def k_Schema_padd : List (Str × NameKind) := ("name", .local) :: ("is_name", .globalImplicit) :: ("self", .local) :: ("BadSchema", .globalImplicit) :: ("len", .globalImplicit) :: ("columns", .local) :: ("Schema", .globalImplicit) :: ("range", .globalImplicit) :: ("k", .local) :: []
theorem sk_Schema_padd : Sk (defScope s_Schema_padd) k_Schema_padd := ⟨by decide +kernel⟩
theorem bd_Schema_padd {X : Cx} {W : WX} (E : Ew PySem.Challenge.pw_sparedjoins_k16_rows_put T fas fns exB sfs) (S : Sk (defScope s_Schema_padd) k_Schema_padd) (B : Bx T n_Schema_padd (defScope s_Schema_padd) 2 W X) (F : Fx X) : DSs T W X (defBody s_Schema_padd) m_Schema_padd :=
  (dss_cons (ds_if (dt_w (dw_or (dt_not (dt_of (de_call B true (ok_is_name E) (by decide) (S.at_ 1 rfl) (E.gl 11 rfl) (da_cons (de_var B 1 rfl (S.vis 0 rfl)) da_nil) rfl))) (dw_or1 (dt_din B (de_var B 1 rfl (S.vis 0 rfl)) (de_fld B [0] (att_1 (att_ok E 12 13 rfl rfl)) (de_var B 0 rfl (S.vis 2 rfl))))))) (dss_one (ds_raise B (c := 20) (rai_BadSchema E) (by decide) (S.at_ 3 rfl) (E.cg (c := 20) 14 rfl) (de_var B 1 rfl (S.vis 0 rfl)))) dss_nil) (dss_cons (ds_if (dt_w (dw_or (dt_c (c_lt B) (de_len B (S.at_ 4 rfl) (E.fr 1 rfl) (da_cons (de_var B 2 rfl (S.vis 5 rfl)) da_nil)) de_int) (dw_or1 (dt_c (c_gt B) (de_len B (S.at_ 4 rfl) (E.fr 1 rfl) (da_cons (de_var B 2 rfl (S.vis 5 rfl)) da_nil)) (de_cc B E (c := 0) (ex_at E.c.more 1 rfl) (S.at_ 6 rfl) (E.cg (c := 0) 15 rfl)))))) (dss_one (ds_raise B (c := 20) (rai_BadSchema E) (by decide) (S.at_ 3 rfl) (E.cg (c := 20) 14 rfl) (de_var B 1 rfl (S.vis 0 rfl)))) dss_nil) (dss_cons (ds_for B (di_range1 B (S.at_ 7 rfl) (E.fr 2 rfl) (da_cons (de_len B (S.at_ 4 rfl) (E.fr 1 rfl) (da_cons (de_var B 2 rfl (S.vis 5 rfl)) da_nil)) da_nil)) (dg_name B 3 rfl (S.at_ 8 rfl)) (dss_one (ds_if (dt_w (dw_or (dt_not (dt_of (de_call B true (ok_is_name E) (by decide) (S.at_ 1 rfl) (E.gl 11 rfl) (da_cons (de_idx B (de_var B 2 rfl (S.vis 5 rfl)) (de_var B 3 rfl (S.vis 8 rfl))) da_nil) rfl))) (dw_or1 (dt_c (c_in B) (de_idx B (de_var B 2 rfl (S.vis 5 rfl)) (de_var B 3 rfl (S.vis 8 rfl))) (de_slc B false (de_var B 2 rfl (S.vis 5 rfl)) do_none (do_some (de_var B 3 rfl (S.vis 8 rfl)))))))) (dss_one (ds_raise B (c := 20) (rai_BadSchema E) (by decide) (S.at_ 3 rfl) (E.cg (c := 20) 14 rfl) (de_idx B (de_var B 2 rfl (S.vis 5 rfl)) (de_var B 3 rfl (S.vis 8 rfl))))) dss_nil))) (dss_cons (ds_do (de_app B (de_fld B [0] (att_1 (att_ok E 12 16 rfl rfl)) (de_var B 0 rfl (S.vis 2 rfl))) (da_cons (de_var B 1 rfl (S.vis 0 rfl)) da_nil))) (dss_one (ds_dput B (de_fld B [0] (att_1 (att_ok E 12 13 rfl rfl)) (de_var B 0 rfl (S.vis 2 rfl))) (de_var B 1 rfl (S.vis 0 rfl)) (de_var B 2 rfl (S.vis 5 rfl))))))))
theorem fo_Schema_padd (E : Ew PySem.Challenge.pw_sparedjoins_k16_rows_put T fas fns exB sfs) {fd : FuncData} (F : FunD T.K "_add" "Schema._add" (defArgs s_Schema_padd) (defBody s_Schema_padd) (defScope s_Schema_padd) [] [] (He.fAd T.K ("Schema", some "_add")) fd) : FnOk T.P T.w T.K T.mg T.base (L2.CX T.P T.w) 3 (He.fAd T.K ("Schema", some "_add")) fd p_Schema_padd (spM T 3 f_Schema_padd) :=
  fn_ok F sc_Schema_padd fun X W B F => bd_Schema_padd E sk_Schema_padd B F
theorem ok_Schema_padd (E : Ew PySem.Challenge.pw_sparedjoins_k16_rows_put T fas fns exB sfs) : FnAt T 3 (He.fAd T.K ("Schema", some "_add")) p_Schema_padd f_Schema_padd := by
  obtain ⟨fd, F⟩ := E.says.def_ 5 (d := d_Schema_padd) rfl
  exact ⟨⟨fd, fo_Schema_padd E F, (FunD.bindsN F fun _ _ _ _ _ _ us hl => match us, hl with | [_, _, _], _ => rfl)⟩, F.kp⟩
theorem mt_Schema_padd {k : Nat} (E : Ew PySem.Challenge.pw_sparedjoins_k16_rows_put T fas fns exB sfs) (hk : 3 ≤ k) : MthOk T k 0 "_add" 3 f_Schema_padd := mth_ok E 12 17 (ok_Schema_padd E) rfl rfl hk rfl (by decide +kernel)
def n_Schema_xinit : List Str := ["self", "tables", "name", "columns"]
def p_Schema_xinit : List Str := ["self", "tables"]
theorem sc_Schema_xinit : FnScope n_Schema_xinit p_Schema_xinit (defScope s_Schema_xinit) := ⟨by rfl, by rfl, by rfl, by decide +kernel, by rfl, by decide +kernel, by decide +kernel⟩
def k_Schema_xinit : List (Str × NameKind) := ("len", .globalImplicit) :: ("tables", .local) :: ("Schema", .globalImplicit) :: ("BadSchema", .globalImplicit) :: ("self", .local) :: ("name", .local) :: ("columns", .local) :: ("list", .globalImplicit) :: []
theorem sk_Schema_xinit : Sk (defScope s_Schema_xinit) k_Schema_xinit := ⟨by decide +kernel⟩
theorem bd_Schema_xinit {X : Cx} {W : WX} (E : Ew PySem.Challenge.pw_sparedjoins_k16_rows_put T fas fns exB sfs) (S : Sk (defScope s_Schema_xinit) k_Schema_xinit) (B : Bx T n_Schema_xinit (defScope s_Schema_xinit) 3 W X) (F : Fx X) : DSs T W X (defBody s_Schema_xinit) m_Schema_xinit :=
  (dss_cons (ds_if (dt_w (dw_or (dt_c (c_lt B) (de_len B (S.at_ 0 rfl) (E.fr 1 rfl) (da_cons (de_var B 1 rfl (S.vis 1 rfl)) da_nil)) de_int) (dw_or1 (dt_c (c_gt B) (de_len B (S.at_ 0 rfl) (E.fr 1 rfl) (da_cons (de_var B 1 rfl (S.vis 1 rfl)) da_nil)) (de_cc B E (c := 0) (ex_at E.c.more 2 rfl) (S.at_ 2 rfl) (E.cg (c := 0) 15 rfl)))))) (dss_one (ds_raise B (c := 20) (rai_BadSchema E) (by decide) (S.at_ 3 rfl) (E.cg (c := 20) 14 rfl) de_str)) dss_nil) (dss_cons (ds_fld B [0] (att_1 (att_ok E 12 16 rfl rfl)) (de_var B 0 rfl (S.vis 4 rfl)) (de_lst true da_nil)) (dss_cons (ds_fld B [0] (att_1 (att_ok E 12 13 rfl rfl)) (de_var B 0 rfl (S.vis 4 rfl)) de_newD) (dss_one (ds_for B (di_any B (de_var B 1 rfl (S.vis 1 rfl))) (dg_tup B (dgs_cons (dg_name B 2 rfl (S.at_ 5 rfl)) (dgs_cons (dg_name B 3 rfl (S.at_ 6 rfl)) dgs_nil))) (dss_one (ds_do (de_meth B [(0, false, 3, f_Schema_padd)] (mth_1 (mt_Schema_padd E (by decide))) (de_var B 0 rfl (S.vis 4 rfl)) (da_cons (de_var B 2 rfl (S.vis 5 rfl)) (da_cons (de_listC B false (S.at_ 7 rfl) (E.fr 5 rfl) (da_cons (de_var B 3 rfl (S.vis 6 rfl)) da_nil)) da_nil))))))))))
theorem fo_Schema_xinit (E : Ew PySem.Challenge.pw_sparedjoins_k16_rows_put T fas fns exB sfs) {fd : FuncData} (F : FunD T.K "__init__" "Schema.__init__" (defArgs s_Schema_xinit) (defBody s_Schema_xinit) (defScope s_Schema_xinit) [] [] (He.fAd T.K ("Schema", some "__init__")) fd) : FnOk T.P T.w T.K T.mg T.base (L2.CX T.P T.w) 4 (He.fAd T.K ("Schema", some "__init__")) fd p_Schema_xinit (spM T 2 f_Schema_xinit) :=
  fn_ok F sc_Schema_xinit fun X W B F => bd_Schema_xinit E sk_Schema_xinit B F
theorem mk_Schema {k : Nat} (E : Ew PySem.Challenge.pw_sparedjoins_k16_rows_put T fas fns exB sfs) (hk : 5 ≤ k) : MakOk T k 0 1 [] f_Schema_xinit := by
  obtain ⟨fd, F⟩ := E.says.def_ 6 (d := d_Schema_xinit) rfl
  exact mak_ok E 37 (fo_Schema_xinit E F) (FunD.bindsN F fun _ _ _ _ _ _ us hl => match us, hl with | [_, _], _ => rfl) rfl hk rfl
def n_Store_xinit : List Str := ["self", "schema", "name"]
def p_Store_xinit : List Str := ["self", "schema"]
theorem sc_Store_xinit : FnScope n_Store_xinit p_Store_xinit (defScope s_Store_xinit) := ⟨by rfl, by rfl, by rfl, by decide +kernel, by rfl, by decide +kernel, by decide +kernel⟩
def k_Store_xinit : List (Str × NameKind) := ("self", .local) :: ("schema", .local) :: []
theorem sk_Store_xinit : Sk (defScope s_Store_xinit) k_Store_xinit := ⟨by decide +kernel⟩
theorem bd_Store_xinit {X : Cx} {W : WX} (E : Ew PySem.Challenge.pw_sparedjoins_k16_rows_put T fas fns exB sfs) (S : Sk (defScope s_Store_xinit) k_Store_xinit) (B : Bx T n_Store_xinit (defScope s_Store_xinit) 1 W X) (F : Fx X) : DSs T W X (defBody s_Store_xinit) m_Store_xinit :=
  (dss_cons (ds_fld B [2] (att_1 (att_ok E 18 19 rfl rfl)) (de_var B 0 rfl (S.vis 0 rfl)) (de_var B 1 rfl (S.vis 1 rfl))) (dss_one (ds_fld B [2] (att_1 (att_ok E 18 20 rfl rfl)) (de_var B 0 rfl (S.vis 0 rfl)) (de_dc B [("name", 2)] [("name", .local)] (di_own B [(0, "_names")] (itf_1 (itf_Schema E)) (by decide) (de_var B 1 rfl (S.vis 1 rfl))) (blkOk_by (by decide +kernel)) ⟨by decide +kernel⟩ (fun _ B S => (dg_name B 2 rfl (S.at_ 0 rfl))) (fun _ B S => dts_nil) (fun _ B S => (de_var B 2 rfl (S.vis 0 rfl))) (fun _ B S => (de_lst true da_nil))))))
theorem fo_Store_xinit (E : Ew PySem.Challenge.pw_sparedjoins_k16_rows_put T fas fns exB sfs) {fd : FuncData} (F : FunD T.K "__init__" "Store.__init__" (defArgs s_Store_xinit) (defBody s_Store_xinit) (defScope s_Store_xinit) [] [] (He.fAd T.K ("Store", some "__init__")) fd) : FnOk T.P T.w T.K T.mg T.base (L2.CX T.P T.w) 2 (He.fAd T.K ("Store", some "__init__")) fd p_Store_xinit (spM T 2 f_Store_xinit) :=
  fn_ok F sc_Store_xinit fun X W B F => bd_Store_xinit E sk_Store_xinit B F
theorem mk_Store {k : Nat} (E : Ew PySem.Challenge.pw_sparedjoins_k16_rows_put T fas fns exB sfs) (hk : 3 ≤ k) : MakOk T k 2 1 [] f_Store_xinit := by
  obtain ⟨fd, F⟩ := E.says.def_ 7 (d := d_Store_xinit) rfl
  exact mak_ok E 38 (fo_Store_xinit E F) (FunD.bindsN F fun _ _ _ _ _ _ us hl => match us, hl with | [_, _], _ => rfl) rfl hk rfl
def n__law_cell : List Str := ["_law_pool_here", "_law_number"]
def p__law_cell : List Str := ["_law_pool_here"]
theorem sc__law_cell : FnScope n__law_cell p__law_cell (defScope s__law_cell) := ⟨by rfl, by rfl, by rfl, by decide +kernel, by rfl, by decide +kernel, by decide +kernel⟩
def k__law_cell : List (Str × NameKind) := ("_law_pool_here", .local) :: ("_law_take", .globalImplicit) :: ("_law_number", .local) :: []
theorem sk__law_cell : Sk (defScope s__law_cell) k__law_cell := ⟨by decide +kernel⟩
theorem bd__law_cell {X : Cx} {W : WX} (E : Ew PySem.Challenge.pw_sparedjoins_k16_rows_put T fas fns exB sfs) (S : Sk (defScope s__law_cell) k__law_cell) (B : Bx T n__law_cell (defScope s__law_cell) 2 W X) (F : Fx X) : DSs T W X (defBody s__law_cell) m__law_cell :=
  (dss_cons (ds_set B 1 rfl (S.at_ 2 rfl) (de_callZ B (ok__law_take E) (by decide) (S.at_ 1 rfl) (E.gl 6 rfl) (da_cons (de_var B 0 rfl (S.vis 0 rfl)) (da_cons de_int da_nil)) rfl)) (dss_one (ds_ret (de_idx B (de_lst false (da_cons de_int (da_cons de_int (da_cons de_non (da_cons (de_var B 1 rfl (S.vis 2 rfl)) (da_cons (de_sub (de_neg de_int) (de_var B 1 rfl (S.vis 2 rfl))) (da_cons (de_add B false (de_pow de_int de_int) (de_var B 1 rfl (S.vis 2 rfl))) (da_cons de_non (da_cons de_int da_nil))))))))) (de_callZ B (ok__law_take E) (by decide) (S.at_ 1 rfl) (E.gl 6 rfl) (da_cons (de_var B 0 rfl (S.vis 0 rfl)) (da_cons de_int da_nil)) rfl)))))
theorem fo__law_cell (E : Ew PySem.Challenge.pw_sparedjoins_k16_rows_put T fas fns exB sfs) {fd : FuncData} (F : FunD T.K "_law_cell" "_law_cell" (defArgs s__law_cell) (defBody s__law_cell) (defScope s__law_cell) [] [] (He.fAd T.K ("_law_cell", none)) fd) : FnOk T.P T.w T.K T.mg T.base (L2.CX T.P T.w) 3 (He.fAd T.K ("_law_cell", none)) fd p__law_cell (spM T 1 f__law_cell) :=
  fn_ok F sc__law_cell fun X W B F => bd__law_cell E sk__law_cell B F
theorem ok__law_cell (E : Ew PySem.Challenge.pw_sparedjoins_k16_rows_put T fas fns exB sfs) : FnAt T 3 (He.fAd T.K ("_law_cell", none)) p__law_cell f__law_cell := by
  obtain ⟨fd, F⟩ := E.says.def_ 8 (d := d__law_cell) rfl
  exact ⟨⟨fd, fo__law_cell E F, (FunD.bindsN F fun _ _ _ _ _ _ us hl => match us, hl with | [_], _ => rfl)⟩, F.kp⟩
def n__law_is : List Str := ["_law_actual", "_law_due"]
def p__law_is : List Str := ["_law_actual", "_law_due"]
theorem sc__law_is : FnScope n__law_is p__law_is (defScope s__law_is) := ⟨by rfl, by rfl, by rfl, by decide +kernel, by rfl, by decide +kernel, by decide +kernel⟩
def k__law_is : List (Str × NameKind) := ("isinstance", .globalImplicit) :: ("_law_actual", .local) :: ("int", .globalImplicit) :: ("bool", .globalImplicit) :: ("_law_due", .local) :: []
theorem sk__law_is : Sk (defScope s__law_is) k__law_is := ⟨by decide +kernel⟩
theorem bd__law_is {X : Cx} {W : WX} (E : Ew PySem.Challenge.pw_sparedjoins_k16_rows_put T fas fns exB sfs) (S : Sk (defScope s__law_is) k__law_is) (B : Bx T n__law_is (defScope s__law_is) 1 W X) (F : Fx X) : DSs T W X (defBody s__law_is) m__law_is :=
  (dss_one (ds_ret (de_and (de_isi B "int" (de_var B 0 rfl (S.vis 1 rfl)) (S.at_ 0 rfl) (E.fr 22 rfl) (S.at_ 2 rfl) (E.fr 4 rfl) PyProof.Rows.boot_int (by decide)) (de_and (de_not (de_isi B "bool" (de_var B 0 rfl (S.vis 1 rfl)) (S.at_ 0 rfl) (E.fr 22 rfl) (S.at_ 3 rfl) (E.fr 23 rfl) PyProof.Rows.boot_bool (by decide))) (de_one (de_c (c_eq B) (de_var B 0 rfl (S.vis 1 rfl)) (de_var B 1 rfl (S.vis 4 rfl))))))))
theorem fo__law_is (E : Ew PySem.Challenge.pw_sparedjoins_k16_rows_put T fas fns exB sfs) {fd : FuncData} (F : FunD T.K "_law_is" "_law_is" (defArgs s__law_is) (defBody s__law_is) (defScope s__law_is) [] [] (He.fAd T.K ("_law_is", none)) fd) : FnOk T.P T.w T.K T.mg T.base (L2.CX T.P T.w) 2 (He.fAd T.K ("_law_is", none)) fd p__law_is (spM T 2 f__law_is) :=
  fn_ok F sc__law_is fun X W B F => bd__law_is E sk__law_is B F
theorem ok__law_is (E : Ew PySem.Challenge.pw_sparedjoins_k16_rows_put T fas fns exB sfs) : FnAt T 2 (He.fAd T.K ("_law_is", none)) p__law_is f__law_is := by
  obtain ⟨fd, F⟩ := E.says.def_ 9 (d := d__law_is) rfl
  exact ⟨⟨fd, fo__law_is E F, (FunD.bindsN F fun _ _ _ _ _ _ us hl => match us, hl with | [_, _], _ => rfl)⟩, F.kp⟩
def n__is_cell : List Str := ["cell"]
def p__is_cell : List Str := ["cell"]
theorem sc__is_cell : FnScope n__is_cell p__is_cell (defScope s__is_cell) := ⟨by rfl, by rfl, by rfl, by decide +kernel, by rfl, by decide +kernel, by decide +kernel⟩
def k__is_cell : List (Str × NameKind) := ("cell", .local) :: ("isinstance", .globalImplicit) :: ("int", .globalImplicit) :: ("bool", .globalImplicit) :: []
theorem sk__is_cell : Sk (defScope s__is_cell) k__is_cell := ⟨by decide +kernel⟩
theorem bd__is_cell {X : Cx} {W : WX} (E : Ew PySem.Challenge.pw_sparedjoins_k16_rows_put T fas fns exB sfs) (S : Sk (defScope s__is_cell) k__is_cell) (B : Bx T n__is_cell (defScope s__is_cell) 1 W X) (F : Fx X) : DSs T W X (defBody s__is_cell) m__is_cell :=
  (dss_one (ds_ret (de_or (de_c (c_is B) (de_var B 0 rfl (S.vis 0 rfl)) de_non) (de_one (de_and (de_isi B "int" (de_var B 0 rfl (S.vis 0 rfl)) (S.at_ 1 rfl) (E.fr 22 rfl) (S.at_ 2 rfl) (E.fr 4 rfl) PyProof.Rows.boot_int (by decide)) (de_one (de_not (de_isi B "bool" (de_var B 0 rfl (S.vis 0 rfl)) (S.at_ 1 rfl) (E.fr 22 rfl) (S.at_ 3 rfl) (E.fr 23 rfl) PyProof.Rows.boot_bool (by decide)))))))))
theorem fo__is_cell (E : Ew PySem.Challenge.pw_sparedjoins_k16_rows_put T fas fns exB sfs) {fd : FuncData} (F : FunD T.K "_is_cell" "_is_cell" (defArgs s__is_cell) (defBody s__is_cell) (defScope s__is_cell) [] [] (He.fAd T.K ("_is_cell", none)) fd) : FnOk T.P T.w T.K T.mg T.base (L2.CX T.P T.w) 2 (He.fAd T.K ("_is_cell", none)) fd p__is_cell (spM T 1 f__is_cell) :=
  fn_ok F sc__is_cell fun X W B F => bd__is_cell E sk__is_cell B F
theorem ok__is_cell (E : Ew PySem.Challenge.pw_sparedjoins_k16_rows_put T fas fns exB sfs) : FnAt T 2 (He.fAd T.K ("_is_cell", none)) p__is_cell f__is_cell := by
  obtain ⟨fd, F⟩ := E.says.def_ 10 (d := d__is_cell) rfl
  exact ⟨⟨fd, fo__is_cell E F, (FunD.bindsN F fun _ _ _ _ _ _ us hl => match us, hl with | [_], _ => rfl)⟩, F.kp⟩
def n_Schema_columns : List Str := ["self", "table"]
def p_Schema_columns : List Str := ["self", "table"]
theorem sc_Schema_columns : FnScope n_Schema_columns p_Schema_columns (defScope s_Schema_columns) := ⟨by rfl, by rfl, by rfl, by decide +kernel, by rfl, by decide +kernel, by decide +kernel⟩
def k_Schema_columns : List (Str × NameKind) := ("table", .local) :: ("self", .local) :: ("BadSchema", .globalImplicit) :: ("list", .globalImplicit) :: []
theorem sk_Schema_columns : Sk (defScope s_Schema_columns) k_Schema_columns := ⟨by decide +kernel⟩
theorem bd_Schema_columns {X : Cx} {W : WX} (E : Ew PySem.Challenge.pw_sparedjoins_k16_rows_put T fas fns exB sfs) (S : Sk (defScope s_Schema_columns) k_Schema_columns) (B : Bx T n_Schema_columns (defScope s_Schema_columns) 2 W X) (F : Fx X) : DSs T W X (defBody s_Schema_columns) m_Schema_columns :=
  (dss_cons (ds_if (dt_dnotin B (de_var B 1 rfl (S.vis 0 rfl)) (de_fld B [0] (att_1 (att_ok E 12 13 rfl rfl)) (de_var B 0 rfl (S.vis 1 rfl)))) (dss_one (ds_raise B (c := 20) (rai_BadSchema E) (by decide) (S.at_ 2 rfl) (E.cg (c := 20) 14 rfl) (de_var B 1 rfl (S.vis 0 rfl)))) dss_nil) (dss_one (ds_ret (de_listC B false (S.at_ 3 rfl) (E.fr 5 rfl) (da_cons (de_dget B (de_fld B [0] (att_1 (att_ok E 12 13 rfl rfl)) (de_var B 0 rfl (S.vis 1 rfl))) (de_var B 1 rfl (S.vis 0 rfl))) da_nil)))))
theorem fo_Schema_columns (E : Ew PySem.Challenge.pw_sparedjoins_k16_rows_put T fas fns exB sfs) {fd : FuncData} (F : FunD T.K "columns" "Schema.columns" (defArgs s_Schema_columns) (defBody s_Schema_columns) (defScope s_Schema_columns) [] [] (He.fAd T.K ("Schema", some "columns")) fd) : FnOk T.P T.w T.K T.mg T.base (L2.CX T.P T.w) 3 (He.fAd T.K ("Schema", some "columns")) fd p_Schema_columns (spM T 2 f_Schema_columns) :=
  fn_ok F sc_Schema_columns fun X W B F => bd_Schema_columns E sk_Schema_columns B F
theorem ok_Schema_columns (E : Ew PySem.Challenge.pw_sparedjoins_k16_rows_put T fas fns exB sfs) : FnAt T 3 (He.fAd T.K ("Schema", some "columns")) p_Schema_columns f_Schema_columns := by
  obtain ⟨fd, F⟩ := E.says.def_ 11 (d := d_Schema_columns) rfl
  exact ⟨⟨fd, fo_Schema_columns E F, (FunD.bindsN F fun _ _ _ _ _ _ us hl => match us, hl with | [_, _], _ => rfl)⟩, F.kp⟩
theorem mt_Schema_columns {k : Nat} (E : Ew PySem.Challenge.pw_sparedjoins_k16_rows_put T fas fns exB sfs) (hk : 3 ≤ k) : MthOk T k 0 "columns" 2 f_Schema_columns := mth_ok E 12 24 (ok_Schema_columns E) rfl rfl hk rfl (by decide +kernel)
def n_Store_put : List Str := ["self", "table", "row", "columns", "cell"]
def p_Store_put : List Str := ["self", "table", "row"]
theorem sc_Store_put : FnScope n_Store_put p_Store_put (defScope s_Store_put) := ⟨by rfl, by rfl, by rfl, by decide +kernel, by rfl, by decide +kernel, by decide +kernel⟩
def k_Store_put : List (Str × NameKind) := ("self", .local) :: ("table", .local) :: ("columns", .local) :: ("len", .globalImplicit) :: ("row", .local) :: ("BadRow", .globalImplicit) :: ("cell", .local) :: ("_is_cell", .globalImplicit) :: ("Store", .globalImplicit) :: ("TooMany", .globalImplicit) :: ("tuple", .globalImplicit) :: []
theorem sk_Store_put : Sk (defScope s_Store_put) k_Store_put := ⟨by decide +kernel⟩
theorem bd_Store_put {X : Cx} {W : WX} (E : Ew PySem.Challenge.pw_sparedjoins_k16_rows_put T fas fns exB sfs) (S : Sk (defScope s_Store_put) k_Store_put) (B : Bx T n_Store_put (defScope s_Store_put) 3 W X) (F : Fx X) : DSs T W X (defBody s_Store_put) m_Store_put :=
  (dss_cons (ds_set B 3 rfl (S.at_ 2 rfl) (de_meth B [(0, true, 2, f_Schema_columns)] (mth_1 (mt_Schema_columns E (by decide))) (de_fld B [2] (att_1 (att_ok E 18 19 rfl rfl)) (de_var B 0 rfl (S.vis 0 rfl))) (da_cons (de_var B 1 rfl (S.vis 1 rfl)) da_nil))) (dss_cons (ds_if (dt_c (c_ne B) (de_len B (S.at_ 3 rfl) (E.fr 1 rfl) (da_cons (de_var B 2 rfl (S.vis 4 rfl)) da_nil)) (de_len B (S.at_ 3 rfl) (E.fr 1 rfl) (da_cons (de_var B 3 rfl (S.vis 2 rfl)) da_nil))) (dss_one (ds_raise B (c := 23) (rai_BadRow E) (by decide) (S.at_ 5 rfl) (E.cg (c := 23) 25 rfl) (de_var B 1 rfl (S.vis 1 rfl)))) dss_nil) (dss_cons (ds_for B (di_any B (de_var B 2 rfl (S.vis 4 rfl))) (dg_name B 4 rfl (S.at_ 6 rfl)) (dss_one (ds_if (dt_not (dt_of (de_call B true (ok__is_cell E) (by decide) (S.at_ 7 rfl) (E.gl 26 rfl) (da_cons (de_var B 4 rfl (S.vis 6 rfl)) da_nil) rfl))) (dss_one (ds_raise B (c := 23) (rai_BadRow E) (by decide) (S.at_ 5 rfl) (E.cg (c := 23) 25 rfl) (de_var B 1 rfl (S.vis 1 rfl)))) dss_nil))) (dss_cons (ds_if (dt_c (c_eq B) (de_len B (S.at_ 3 rfl) (E.fr 1 rfl) (da_cons (de_dget B (de_fld B [2] (att_1 (att_ok E 18 20 rfl rfl)) (de_var B 0 rfl (S.vis 0 rfl))) (de_var B 1 rfl (S.vis 1 rfl))) da_nil)) (de_cc B E (c := 2) (ex_at E.c.more 4 rfl) (S.at_ 8 rfl) (E.cg (c := 2) 27 rfl))) (dss_one (ds_raise B (c := 30) (rai_TooMany E) (by decide) (S.at_ 9 rfl) (E.cg (c := 30) 28 rfl) (de_var B 1 rfl (S.vis 1 rfl)))) dss_nil) (dss_cons (ds_do (de_app B (de_dget B (de_fld B [2] (att_1 (att_ok E 18 20 rfl rfl)) (de_var B 0 rfl (S.vis 0 rfl))) (de_var B 1 rfl (S.vis 1 rfl))) (da_cons (de_tupleC B (S.at_ 10 rfl) (E.fr 29 rfl) (da_cons (de_var B 2 rfl (S.vis 4 rfl)) da_nil)) da_nil))) (dss_one (ds_ret (de_sub (de_len B (S.at_ 3 rfl) (E.fr 1 rfl) (da_cons (de_dget B (de_fld B [2] (att_1 (att_ok E 18 20 rfl rfl)) (de_var B 0 rfl (S.vis 0 rfl))) (de_var B 1 rfl (S.vis 1 rfl))) da_nil)) de_int))))))))
theorem fo_Store_put (E : Ew PySem.Challenge.pw_sparedjoins_k16_rows_put T fas fns exB sfs) {fd : FuncData} (F : FunD T.K "put" "Store.put" (defArgs s_Store_put) (defBody s_Store_put) (defScope s_Store_put) [] [] (He.fAd T.K ("Store", some "put")) fd) : FnOk T.P T.w T.K T.mg T.base (L2.CX T.P T.w) 4 (He.fAd T.K ("Store", some "put")) fd p_Store_put (spM T 3 f_Store_put) :=
  fn_ok F sc_Store_put fun X W B F => bd_Store_put E sk_Store_put B F
theorem ok_Store_put (E : Ew PySem.Challenge.pw_sparedjoins_k16_rows_put T fas fns exB sfs) : FnAt T 4 (He.fAd T.K ("Store", some "put")) p_Store_put f_Store_put := by
  obtain ⟨fd, F⟩ := E.says.def_ 12 (d := d_Store_put) rfl
  exact ⟨⟨fd, fo_Store_put E F, (FunD.bindsN F fun _ _ _ _ _ _ us hl => match us, hl with | [_, _, _], _ => rfl)⟩, F.kp⟩
theorem mt_Store_put {k : Nat} (E : Ew PySem.Challenge.pw_sparedjoins_k16_rows_put T fas fns exB sfs) (hk : 4 ≤ k) : MthOk T k 2 "put" 3 f_Store_put := mth_ok E 18 40 (ok_Store_put E) rfl rfl hk rfl (by decide +kernel)
def n_Schema_rank : List Str := ["self", "table"]
def p_Schema_rank : List Str := ["self", "table"]
theorem sc_Schema_rank : FnScope n_Schema_rank p_Schema_rank (defScope s_Schema_rank) := ⟨by rfl, by rfl, by rfl, by decide +kernel, by rfl, by decide +kernel, by decide +kernel⟩
def k_Schema_rank : List (Str × NameKind) := ("table", .local) :: ("self", .local) :: ("BadSchema", .globalImplicit) :: []
theorem sk_Schema_rank : Sk (defScope s_Schema_rank) k_Schema_rank := ⟨by decide +kernel⟩
theorem bd_Schema_rank {X : Cx} {W : WX} (E : Ew PySem.Challenge.pw_sparedjoins_k16_rows_put T fas fns exB sfs) (S : Sk (defScope s_Schema_rank) k_Schema_rank) (B : Bx T n_Schema_rank (defScope s_Schema_rank) 2 W X) (F : Fx X) : DSs T W X (defBody s_Schema_rank) m_Schema_rank :=
  (dss_cons (ds_if (dt_dnotin B (de_var B 1 rfl (S.vis 0 rfl)) (de_fld B [0] (att_1 (att_ok E 12 13 rfl rfl)) (de_var B 0 rfl (S.vis 1 rfl)))) (dss_one (ds_raise B (c := 20) (rai_BadSchema E) (by decide) (S.at_ 2 rfl) (E.cg (c := 20) 14 rfl) (de_var B 1 rfl (S.vis 0 rfl)))) dss_nil) (dss_one (ds_ret (de_index B (de_fld B [0] (att_1 (att_ok E 12 16 rfl rfl)) (de_var B 0 rfl (S.vis 1 rfl))) (da_cons (de_var B 1 rfl (S.vis 0 rfl)) da_nil)))))
theorem fo_Schema_rank (E : Ew PySem.Challenge.pw_sparedjoins_k16_rows_put T fas fns exB sfs) {fd : FuncData} (F : FunD T.K "rank" "Schema.rank" (defArgs s_Schema_rank) (defBody s_Schema_rank) (defScope s_Schema_rank) [] [] (He.fAd T.K ("Schema", some "rank")) fd) : FnOk T.P T.w T.K T.mg T.base (L2.CX T.P T.w) 3 (He.fAd T.K ("Schema", some "rank")) fd p_Schema_rank (spM T 2 f_Schema_rank) :=
  fn_ok F sc_Schema_rank fun X W B F => bd_Schema_rank E sk_Schema_rank B F
theorem ok_Schema_rank (E : Ew PySem.Challenge.pw_sparedjoins_k16_rows_put T fas fns exB sfs) : FnAt T 3 (He.fAd T.K ("Schema", some "rank")) p_Schema_rank f_Schema_rank := by
  obtain ⟨fd, F⟩ := E.says.def_ 13 (d := d_Schema_rank) rfl
  exact ⟨⟨fd, fo_Schema_rank E F, (FunD.bindsN F fun _ _ _ _ _ _ us hl => match us, hl with | [_, _], _ => rfl)⟩, F.kp⟩
theorem mt_Schema_rank {k : Nat} (E : Ew PySem.Challenge.pw_sparedjoins_k16_rows_put T fas fns exB sfs) (hk : 3 ≤ k) : MthOk T k 0 "rank" 2 f_Schema_rank := mth_ok E 12 30 (ok_Schema_rank E) rfl rfl hk rfl (by decide +kernel)
def n_Store_rows : List Str := ["self", "table"]
def p_Store_rows : List Str := ["self", "table"]
theorem sc_Store_rows : FnScope n_Store_rows p_Store_rows (defScope s_Store_rows) := ⟨by rfl, by rfl, by rfl, by decide +kernel, by rfl, by decide +kernel, by decide +kernel⟩
def k_Store_rows : List (Str × NameKind) := ("self", .local) :: ("table", .local) :: ("list", .globalImplicit) :: []
theorem sk_Store_rows : Sk (defScope s_Store_rows) k_Store_rows := ⟨by decide +kernel⟩
theorem bd_Store_rows {X : Cx} {W : WX} (E : Ew PySem.Challenge.pw_sparedjoins_k16_rows_put T fas fns exB sfs) (S : Sk (defScope s_Store_rows) k_Store_rows) (B : Bx T n_Store_rows (defScope s_Store_rows) 3 W X) (F : Fx X) : DSs T W X (defBody s_Store_rows) m_Store_rows :=
  (dss_cons (ds_do (de_meth B [(0, true, 2, f_Schema_rank)] (mth_1 (mt_Schema_rank E (by decide))) (de_fld B [2] (att_1 (att_ok E 18 19 rfl rfl)) (de_var B 0 rfl (S.vis 0 rfl))) (da_cons (de_var B 1 rfl (S.vis 1 rfl)) da_nil))) (dss_one (ds_ret (de_listC B true (S.at_ 2 rfl) (E.fr 5 rfl) (da_cons (de_dget B (de_fld B [2] (att_1 (att_ok E 18 20 rfl rfl)) (de_var B 0 rfl (S.vis 0 rfl))) (de_var B 1 rfl (S.vis 1 rfl))) da_nil)))))
theorem fo_Store_rows (E : Ew PySem.Challenge.pw_sparedjoins_k16_rows_put T fas fns exB sfs) {fd : FuncData} (F : FunD T.K "rows" "Store.rows" (defArgs s_Store_rows) (defBody s_Store_rows) (defScope s_Store_rows) [] [] (He.fAd T.K ("Store", some "rows")) fd) : FnOk T.P T.w T.K T.mg T.base (L2.CX T.P T.w) 4 (He.fAd T.K ("Store", some "rows")) fd p_Store_rows (spM T 2 f_Store_rows) :=
  fn_ok F sc_Store_rows fun X W B F => bd_Store_rows E sk_Store_rows B F
theorem ok_Store_rows (E : Ew PySem.Challenge.pw_sparedjoins_k16_rows_put T fas fns exB sfs) : FnAt T 4 (He.fAd T.K ("Store", some "rows")) p_Store_rows f_Store_rows := by
  obtain ⟨fd, F⟩ := E.says.def_ 14 (d := d_Store_rows) rfl
  exact ⟨⟨fd, fo_Store_rows E F, (FunD.bindsN F fun _ _ _ _ _ _ us hl => match us, hl with | [_, _], _ => rfl)⟩, F.kp⟩
theorem mt_Store_rows {k : Nat} (E : Ew PySem.Challenge.pw_sparedjoins_k16_rows_put T fas fns exB sfs) (hk : 4 ≤ k) : MthOk T k 2 "rows" 2 f_Store_rows := mth_ok E 18 32 (ok_Store_rows E) rfl rfl hk rfl (by decide +kernel)
def n_Store_size : List Str := ["self", "rows"]
def p_Store_size : List Str := ["self"]
theorem sc_Store_size : FnScope n_Store_size p_Store_size (defScope s_Store_size) := ⟨by rfl, by rfl, by rfl, by decide +kernel, by rfl, by decide +kernel, by decide +kernel⟩
def k_Store_size : List (Str × NameKind) := ("sum", .globalImplicit) :: ("self", .local) :: []
theorem sk_Store_size : Sk (defScope s_Store_size) k_Store_size := ⟨by decide +kernel⟩
theorem bd_Store_size {X : Cx} {W : WX} (E : Ew PySem.Challenge.pw_sparedjoins_k16_rows_put T fas fns exB sfs) (S : Sk (defScope s_Store_size) k_Store_size) (B : Bx T n_Store_size (defScope s_Store_size) 1 W X) (F : Fx X) : DSs T W X (defBody s_Store_size) m_Store_size :=
  (dss_one (ds_ret (de_sumV B 0 1 2 [("rows", 1)] (S.at_ 0 rfl) (E.fr 31 rfl) (E.fr 1 rfl) (att_ok E 18 20 rfl rfl) rfl (S.vis 1 rfl) (blkOk_by (by decide +kernel)) ⟨by decide +kernel⟩ rfl)))
theorem fo_Store_size (E : Ew PySem.Challenge.pw_sparedjoins_k16_rows_put T fas fns exB sfs) {fd : FuncData} (F : FunD T.K "size" "Store.size" (defArgs s_Store_size) (defBody s_Store_size) (defScope s_Store_size) [] [] (He.fAd T.K ("Store", some "size")) fd) : FnOk T.P T.w T.K T.mg T.base (L2.CX T.P T.w) 2 (He.fAd T.K ("Store", some "size")) fd p_Store_size (spM T 1 f_Store_size) :=
  fn_ok F sc_Store_size fun X W B F => bd_Store_size E sk_Store_size B F
theorem ok_Store_size (E : Ew PySem.Challenge.pw_sparedjoins_k16_rows_put T fas fns exB sfs) : FnAt T 2 (He.fAd T.K ("Store", some "size")) p_Store_size f_Store_size := by
  obtain ⟨fd, F⟩ := E.says.def_ 15 (d := d_Store_size) rfl
  exact ⟨⟨fd, fo_Store_size E F, (FunD.bindsN F fun _ _ _ _ _ _ us hl => match us, hl with | [_], _ => rfl)⟩, F.kp⟩
theorem mt_Store_size {k : Nat} (E : Ew PySem.Challenge.pw_sparedjoins_k16_rows_put T fas fns exB sfs) (hk : 2 ≤ k) : MthOk T k 2 "size" 1 f_Store_size := mth_ok E 18 33 (ok_Store_size E) rfl rfl hk rfl (by decide +kernel)
def n__law_holds : List Str := ["_law_store", "_law_tables_here", "_law_stock", "_law_total", "_law_k", "_law_told", "_law_row", "_law_cell_here"]
def p__law_holds : List Str := ["_law_store", "_law_tables_here", "_law_stock"]
theorem sc__law_holds : FnScope n__law_holds p__law_holds (defScope s__law_holds) := ⟨by rfl, by rfl, by rfl, by decide +kernel, by rfl, by decide +kernel, by decide +kernel⟩
def k__law_holds : List (Str × NameKind) := ("_law_total", .local) :: ("len", .globalImplicit) :: ("_law_tables_here", .local) :: ("range", .globalImplicit) :: ("_law_k", .local) :: ("_law_store", .local) :: ("_law_told", .local) :: ("isinstance", .globalImplicit) :: ("list", .globalImplicit) :: ("_law_stock", .local) :: ("_law_row", .local) :: ("_law_cell_here", .local) :: ("tuple", .globalImplicit) :: ("bool", .globalImplicit) :: ("_law_is", .globalImplicit) :: []
theorem sk__law_holds : Sk (defScope s__law_holds) k__law_holds := ⟨by decide +kernel⟩
theorem bd__law_holds {X : Cx} {W : WX} (E : Ew PySem.Challenge.pw_sparedjoins_k16_rows_put T fas fns exB sfs) (S : Sk (defScope s__law_holds) k__law_holds) (B : Bx T n__law_holds (defScope s__law_holds) 4 W X) (F : Fx X) : DSs T W X (defBody s__law_holds) m__law_holds :=
  (dss_cons (ds_set B 3 rfl (S.at_ 0 rfl) de_int) (dss_cons (ds_for B (di_range1 B (S.at_ 3 rfl) (E.fr 2 rfl) (da_cons (de_len B (S.at_ 1 rfl) (E.fr 1 rfl) (da_cons (de_var B 1 rfl (S.vis 2 rfl)) da_nil)) da_nil)) (dg_name B 4 rfl (S.at_ 4 rfl)) (dss_cons (ds_set B 5 rfl (S.at_ 6 rfl) (de_meth B [(2, false, 2, f_Store_rows)] (mth_1 (mt_Store_rows E (by decide))) (de_var B 0 rfl (S.vis 5 rfl)) (da_cons (de_idx B (de_idx B (de_var B 1 rfl (S.vis 2 rfl)) (de_var B 4 rfl (S.vis 4 rfl))) de_int) da_nil))) (dss_cons (ds_if (dt_w (dw_or (dt_not (dt_of (de_isi B "list" (de_var B 5 rfl (S.vis 6 rfl)) (S.at_ 7 rfl) (E.fr 22 rfl) (S.at_ 8 rfl) (E.fr 5 rfl) PyProof.Rows.boot_list (by decide)))) (dw_or1 (dt_c (c_ne B) (de_var B 5 rfl (S.vis 6 rfl)) (de_idx B (de_var B 2 rfl (S.vis 9 rfl)) (de_var B 4 rfl (S.vis 4 rfl))))))) (dss_one (ds_ret de_bl)) dss_nil) (dss_cons (ds_for B (di_any B (de_var B 5 rfl (S.vis 6 rfl))) (dg_name B 6 rfl (S.at_ 10 rfl)) (dss_one (ds_for B (di_any B (de_var B 6 rfl (S.vis 10 rfl))) (dg_name B 7 rfl (S.at_ 11 rfl)) (dss_one (ds_if (dt_w (dw_or (dt_not (dt_of (de_isi B "tuple" (de_var B 6 rfl (S.vis 10 rfl)) (S.at_ 7 rfl) (E.fr 22 rfl) (S.at_ 12 rfl) (E.fr 29 rfl) PyProof.Rows.boot_tuple (by decide)))) (dw_or1 (dt_of (de_isi B "bool" (de_var B 7 rfl (S.vis 11 rfl)) (S.at_ 7 rfl) (E.fr 22 rfl) (S.at_ 13 rfl) (E.fr 23 rfl) PyProof.Rows.boot_bool (by decide)))))) (dss_one (ds_ret de_bl)) dss_nil))))) (dss_cons (ds_do (de_ins B (de_var B 5 rfl (S.vis 6 rfl)) (da_cons de_int (da_cons (de_tup (da_cons de_str da_nil)) da_nil)))) (dss_one (ds_set B 3 rfl (S.at_ 0 rfl) (de_add B false (de_var B 3 rfl (S.vis 0 rfl)) (de_len B (S.at_ 1 rfl) (E.fr 1 rfl) (da_cons (de_idx B (de_var B 2 rfl (S.vis 9 rfl)) (de_var B 4 rfl (S.vis 4 rfl))) da_nil)))))))))) (dss_one (ds_ret (de_call B true (ok__law_is E) (by decide) (S.at_ 14 rfl) (E.gl 34 rfl) (da_cons (de_meth0 B [(2, true, 1, f_Store_size)] (mth_1 (mt_Store_size E (by decide))) (de_var B 0 rfl (S.vis 5 rfl))) (da_cons (de_var B 3 rfl (S.vis 0 rfl)) da_nil)) rfl)))))
theorem fo__law_holds (E : Ew PySem.Challenge.pw_sparedjoins_k16_rows_put T fas fns exB sfs) {fd : FuncData} (F : FunD T.K "_law_holds" "_law_holds" (defArgs s__law_holds) (defBody s__law_holds) (defScope s__law_holds) [] [] (He.fAd T.K ("_law_holds", none)) fd) : FnOk T.P T.w T.K T.mg T.base (L2.CX T.P T.w) 5 (He.fAd T.K ("_law_holds", none)) fd p__law_holds (spM T 3 f__law_holds) :=
  fn_ok F sc__law_holds fun X W B F => bd__law_holds E sk__law_holds B F
theorem ok__law_holds (E : Ew PySem.Challenge.pw_sparedjoins_k16_rows_put T fas fns exB sfs) : FnAt T 5 (He.fAd T.K ("_law_holds", none)) p__law_holds f__law_holds := by
  obtain ⟨fd, F⟩ := E.says.def_ 16 (d := d__law_holds) rfl
  exact ⟨⟨fd, fo__law_holds E F, (FunD.bindsN F fun _ _ _ _ _ _ us hl => match us, hl with | [_, _, _], _ => rfl)⟩, F.kp⟩
def n__law_unknown : List Str := ["_law_store", "_law_name", "_law_what", "e"]
def p__law_unknown : List Str := ["_law_store", "_law_name"]
theorem sc__law_unknown : FnScope n__law_unknown p__law_unknown (defScope s__law_unknown) := ⟨by rfl, by rfl, by rfl, by decide +kernel, by rfl, by decide +kernel, by decide +kernel⟩
def k__law_unknown : List (Str × NameKind) := ("_law_what", .local) :: ("_law_store", .local) :: ("_law_name", .local) :: ("e", .local) :: ("BadSchema", .globalImplicit) :: []
theorem sk__law_unknown : Sk (defScope s__law_unknown) k__law_unknown := ⟨by decide +kernel⟩
theorem bd__law_unknown {X : Cx} {W : WX} (E : Ew PySem.Challenge.pw_sparedjoins_k16_rows_put T fas fns exB sfs) (S : Sk (defScope s__law_unknown) k__law_unknown) (B : Bx T n__law_unknown (defScope s__law_unknown) 4 W X) (F : Fx X) : DSs T W X (defBody s__law_unknown) m__law_unknown :=
  (dss_cons (ds_set B 2 rfl (S.at_ 0 rfl) de_non) (dss_cons (ds_try_as B F 3 (ch := 20) rfl (S.at_ 3 rfl) (S.at_ 4 rfl) (E.cg (c := 20) 14 rfl) (exm_ok E (ex_at E.c.more 7 rfl)) (fun _ _ B F => (dss_one (ds_do (de_meth B [(2, true, 2, f_Store_rows)] (mth_1 (mt_Store_rows E (by decide))) (de_var B 0 rfl (S.vis 1 rfl)) (da_cons (de_var B 1 rfl (S.vis 2 rfl)) da_nil))))) (fun h Y hi hc hcl B => hss_p fun x hp => (hss_one (hs_set B 2 (by rw [hi]; decide) rfl (.inl (S.at_ 0 rfl)) (he_fld B (by rw [hc]; exact exf_ok (c := 20) E (ex_at E.c.more 6 rfl)) (by rw [hi]; rfl) (S.vis 3 rfl) (by rw [hc]; rfl) (j := 0) (by rw [hp]; rfl)))))) (dss_one (ds_ret (de_var B 2 rfl (S.vis 0 rfl))))))
theorem fo__law_unknown (E : Ew PySem.Challenge.pw_sparedjoins_k16_rows_put T fas fns exB sfs) {fd : FuncData} (F : FunD T.K "_law_unknown" "_law_unknown" (defArgs s__law_unknown) (defBody s__law_unknown) (defScope s__law_unknown) [] [] (He.fAd T.K ("_law_unknown", none)) fd) : FnOk T.P T.w T.K T.mg T.base (L2.CX T.P T.w) 5 (He.fAd T.K ("_law_unknown", none)) fd p__law_unknown (spM T 2 f__law_unknown) :=
  fn_ok F sc__law_unknown fun X W B F => bd__law_unknown E sk__law_unknown B F
theorem ok__law_unknown (E : Ew PySem.Challenge.pw_sparedjoins_k16_rows_put T fas fns exB sfs) : FnAt T 5 (He.fAd T.K ("_law_unknown", none)) p__law_unknown f__law_unknown := by
  obtain ⟨fd, F⟩ := E.says.def_ 17 (d := d__law_unknown) rfl
  exact ⟨⟨fd, fo__law_unknown E F, (FunD.bindsN F fun _ _ _ _ _ _ us hl => match us, hl with | [_, _], _ => rfl)⟩, F.kp⟩
def n_Schema_names : List Str := ["self"]
def p_Schema_names : List Str := ["self"]
theorem sc_Schema_names : FnScope n_Schema_names p_Schema_names (defScope s_Schema_names) := ⟨by rfl, by rfl, by rfl, by decide +kernel, by rfl, by decide +kernel, by decide +kernel⟩
def k_Schema_names : List (Str × NameKind) := ("list", .globalImplicit) :: ("self", .local) :: []
theorem sk_Schema_names : Sk (defScope s_Schema_names) k_Schema_names := ⟨by decide +kernel⟩
theorem bd_Schema_names {X : Cx} {W : WX} (E : Ew PySem.Challenge.pw_sparedjoins_k16_rows_put T fas fns exB sfs) (S : Sk (defScope s_Schema_names) k_Schema_names) (B : Bx T n_Schema_names (defScope s_Schema_names) 1 W X) (F : Fx X) : DSs T W X (defBody s_Schema_names) m_Schema_names :=
  (dss_one (ds_ret (de_listC B false (S.at_ 0 rfl) (E.fr 5 rfl) (da_cons (de_fld B [0] (att_1 (att_ok E 12 16 rfl rfl)) (de_var B 0 rfl (S.vis 1 rfl))) da_nil))))
theorem fo_Schema_names (E : Ew PySem.Challenge.pw_sparedjoins_k16_rows_put T fas fns exB sfs) {fd : FuncData} (F : FunD T.K "names" "Schema.names" (defArgs s_Schema_names) (defBody s_Schema_names) (defScope s_Schema_names) [] [] (He.fAd T.K ("Schema", some "names")) fd) : FnOk T.P T.w T.K T.mg T.base (L2.CX T.P T.w) 2 (He.fAd T.K ("Schema", some "names")) fd p_Schema_names (spM T 1 f_Schema_names) :=
  fn_ok F sc_Schema_names fun X W B F => bd_Schema_names E sk_Schema_names B F
theorem ok_Schema_names (E : Ew PySem.Challenge.pw_sparedjoins_k16_rows_put T fas fns exB sfs) : FnAt T 2 (He.fAd T.K ("Schema", some "names")) p_Schema_names f_Schema_names := by
  obtain ⟨fd, F⟩ := E.says.def_ 18 (d := d_Schema_names) rfl
  exact ⟨⟨fd, fo_Schema_names E F, (FunD.bindsN F fun _ _ _ _ _ _ us hl => match us, hl with | [_], _ => rfl)⟩, F.kp⟩
theorem mt_Schema_names {k : Nat} (E : Ew PySem.Challenge.pw_sparedjoins_k16_rows_put T fas fns exB sfs) (hk : 2 ≤ k) : MthOk T k 0 "names" 1 f_Schema_names := mth_ok E 12 43 (ok_Schema_names E) rfl rfl hk rfl (by decide +kernel)
def n_law : List Str := ["_law_script", "_law_pool_here", "_law_tables_here", "_law_schema", "_law_stores", "_law_stocks", "_law_turn", "_law_which", "_law_place", "_law_row", "_law_due", "_law_store", "_law_one", "_law_column"]
def p_law : List Str := ["_law_script"]
theorem sc_law : FnScope n_law p_law (defScope s_law) := ⟨by rfl, by rfl, by rfl, by decide +kernel, by rfl, by decide +kernel, by decide +kernel⟩
def k_law : List (Str × NameKind) := ("_law_script", .local) :: ("_law_pool", .globalImplicit) :: ("_law_pool_here", .cell) :: ("_law_tables", .globalImplicit) :: ("_law_tables_here", .local) :: ("Schema", .globalImplicit) :: ("_law_schema", .local) :: ("Store", .globalImplicit) :: ("_law_stores", .local) :: ("_law_stocks", .local) :: ("_law_take", .globalImplicit) :: ("range", .globalImplicit) :: ("_law_turn", .local) :: ("_law_which", .local) :: ("len", .globalImplicit) :: ("_law_place", .local) :: ("_law_row", .local) :: ("list", .globalImplicit) :: ("_law_due", .local) :: ("tuple", .globalImplicit) :: ("_law_store", .local) :: ("_law_is", .globalImplicit) :: ("_law_holds", .globalImplicit) :: ("_law_unknown", .globalImplicit) :: []
theorem sk_law : Sk (defScope s_law) k_law := ⟨by decide +kernel⟩
theorem bd_law {X : Cx} {W : WX} (E : Ew PySem.Challenge.pw_sparedjoins_k16_rows_put T fas fns exB sfs) (S : Sk (defScope s_law) k_law) (B : Bx T n_law (defScope s_law) 5 W X) (F : Fx X) : DSs T W X (defBody s_law) m_law :=
  (dss_cons (ds_setC B F 1 rfl (S.at_ 2 rfl) (de_call B false (ok__law_pool E) (by decide) (S.at_ 1 rfl) (E.gl 35 rfl) (da_cons (de_var B 0 rfl (S.vis 0 rfl)) da_nil) rfl)) (dss_cons (ds_set B 2 rfl (S.at_ 4 rfl) (de_callZ B (ok__law_tables E) (by decide) (S.at_ 3 rfl) (E.gl 36 rfl) (da_cons (de_var B 1 rfl (S.visC 2 rfl)) (da_cons de_int (da_cons de_int da_nil))) rfl)) (dss_cons (ds_set B 3 rfl (S.at_ 6 rfl) (de_make B true (c := 0) (mk_Schema E (by decide)) (mkr_kp E 37 rfl) (S.at_ 5 rfl) (E.cg (c := 0) 15 rfl) (da_cons (de_lc B false [("_law_one", 12)] [("_law_one", .local), ("list", .globalImplicit)] (di_any B (de_var B 2 rfl (S.vis 4 rfl))) (blkOk_by (by decide +kernel)) ⟨by decide +kernel⟩ (fun _ B S => (dg_name B 12 rfl (S.at_ 0 rfl))) (fun _ B S => dts_nil) (fun _ B S => (de_tup (da_cons (de_idx B (de_var B 12 rfl (S.vis 0 rfl)) de_int) (da_cons (de_listC B false (S.at_ 1 rfl) (E.fr 5 rfl) (da_cons (de_idx B (de_var B 12 rfl (S.vis 0 rfl)) de_int) da_nil)) da_nil))))) da_nil))) (dss_cons (ds_set B 4 rfl (S.at_ 8 rfl) (de_lst true (da_cons (de_make B false (c := 2) (mk_Store E (by decide)) (mkr_kp E 38 rfl) (S.at_ 7 rfl) (E.cg (c := 2) 27 rfl) (da_cons (de_var B 3 rfl (S.vis 6 rfl)) da_nil)) (da_cons (de_make B false (c := 2) (mk_Store E (by decide)) (mkr_kp E 38 rfl) (S.at_ 7 rfl) (E.cg (c := 2) 27 rfl) (da_cons (de_var B 3 rfl (S.vis 6 rfl)) da_nil)) da_nil)))) (dss_cons (ds_set B 5 rfl (S.at_ 9 rfl) (de_lst true (da_cons (de_lcN B [("_law_one", 12)] [("_law_one", .local)] (di_any B (de_var B 2 rfl (S.vis 4 rfl))) (blkOk_by (by decide +kernel)) ⟨by decide +kernel⟩ (fun _ B S => (dg_name B 12 rfl (S.at_ 0 rfl))) (fun _ B S => dts_nil) (fun _ B S => (de_lst true da_nil))) (da_cons (de_lcN B [("_law_one", 12)] [("_law_one", .local)] (di_any B (de_var B 2 rfl (S.vis 4 rfl))) (blkOk_by (by decide +kernel)) ⟨by decide +kernel⟩ (fun _ B S => (dg_name B 12 rfl (S.at_ 0 rfl))) (fun _ B S => dts_nil) (fun _ B S => (de_lst true da_nil))) da_nil)))) (dss_cons (ds_for B (di_range1 B (S.at_ 11 rfl) (E.fr 2 rfl) (da_cons (de_callZ B (ok__law_take E) (by decide) (S.at_ 10 rfl) (E.gl 6 rfl) (da_cons (de_var B 1 rfl (S.visC 2 rfl)) (da_cons de_int da_nil)) rfl) da_nil)) (dg_name B 6 rfl (S.at_ 12 rfl)) (dss_cons (ds_set B 7 rfl (S.at_ 13 rfl) (de_fdv (de_callZ B (ok__law_take E) (by decide) (S.at_ 10 rfl) (E.gl 6 rfl) (da_cons (de_var B 1 rfl (S.visC 2 rfl)) (da_cons de_int da_nil)) rfl) de_int)) (dss_cons (ds_set B 8 rfl (S.at_ 15 rfl) (de_callZ B (ok__law_take E) (by decide) (S.at_ 10 rfl) (E.gl 6 rfl) (da_cons (de_var B 1 rfl (S.visC 2 rfl)) (da_cons (de_len B (S.at_ 14 rfl) (E.fr 1 rfl) (da_cons (de_var B 2 rfl (S.vis 4 rfl)) da_nil)) da_nil)) rfl)) (dss_cons (ds_setLcN B [("_law_column", 13)] [("_law_column", .local), ("_law_pool_here", .cell), ("_law_cell", .globalImplicit)] 9 rfl (S.at_ 16 rfl) (di_any B (de_idx B (de_idx B (de_var B 2 rfl (S.vis 4 rfl)) (de_var B 8 rfl (S.vis 15 rfl))) de_int)) (blkOk_by (by decide +kernel)) ⟨by decide +kernel⟩ (fun _ B S => (dg_name B 13 rfl (S.at_ 0 rfl))) (fun _ B S => dts_nil) (fun _ B S => (de_callZ B (ok__law_cell E) (by decide) (S.at_ 2 rfl) (E.gl 39 rfl) (da_cons (de_var B 1 rfl (S.visC 1 rfl)) da_nil) rfl)) (swaps_yes B (by rfl) (S.at_ 16 rfl) (by rfl) (by decide +kernel))) (dss_cons (ds_if (dt_w (dw_and (dt_c (c_eq B) (de_callZ B (ok__law_take E) (by decide) (S.at_ 10 rfl) (E.gl 6 rfl) (da_cons (de_var B 1 rfl (S.visC 2 rfl)) (da_cons de_int da_nil)) rfl) de_int) (dw_and1 (dt_c (c_gt B) (de_len B (S.at_ 14 rfl) (E.fr 1 rfl) (da_cons (de_idx B (de_idx B (de_var B 5 rfl (S.vis 9 rfl)) de_int) (de_var B 8 rfl (S.vis 15 rfl))) da_nil)) de_int)))) (dss_one (ds_set B 9 rfl (S.at_ 16 rfl) (de_listC B true (S.at_ 17 rfl) (E.fr 5 rfl) (da_cons (de_idx B (de_idx B (de_idx B (de_var B 5 rfl (S.vis 9 rfl)) de_int) (de_var B 8 rfl (S.vis 15 rfl))) de_int) da_nil)))) dss_nil) (dss_cons (ds_set B 10 rfl (S.at_ 18 rfl) (de_len B (S.at_ 14 rfl) (E.fr 1 rfl) (da_cons (de_idx B (de_idx B (de_var B 5 rfl (S.vis 9 rfl)) (de_var B 7 rfl (S.vis 13 rfl))) (de_var B 8 rfl (S.vis 15 rfl))) da_nil))) (dss_cons (ds_do (de_app B (de_idx B (de_idx B (de_var B 5 rfl (S.vis 9 rfl)) (de_var B 7 rfl (S.vis 13 rfl))) (de_var B 8 rfl (S.vis 15 rfl))) (da_cons (de_tupleC B (S.at_ 19 rfl) (E.fr 29 rfl) (da_cons (de_var B 9 rfl (S.vis 16 rfl)) da_nil)) da_nil))) (dss_cons (ds_set B 11 rfl (S.at_ 20 rfl) (de_idx B (de_var B 4 rfl (S.vis 8 rfl)) (de_var B 7 rfl (S.vis 13 rfl)))) (dss_cons (ds_if (dt_c (c_eq B) (de_callZ B (ok__law_take E) (by decide) (S.at_ 10 rfl) (E.gl 6 rfl) (da_cons (de_var B 1 rfl (S.visC 2 rfl)) (da_cons de_int da_nil)) rfl) de_int) (dss_one (ds_if (dt_not (dt_of (de_call B true (ok__law_is E) (by decide) (S.at_ 21 rfl) (E.gl 34 rfl) (da_cons (de_meth B [(2, false, 3, f_Store_put)] (mth_1 (mt_Store_put E (by decide))) (de_var B 11 rfl (S.vis 20 rfl)) (da_cons (de_idx B (de_idx B (de_var B 2 rfl (S.vis 4 rfl)) (de_var B 8 rfl (S.vis 15 rfl))) de_int) (da_cons (de_tupleC B (S.at_ 19 rfl) (E.fr 29 rfl) (da_cons (de_var B 9 rfl (S.vis 16 rfl)) da_nil)) da_nil))) (da_cons (de_var B 10 rfl (S.vis 18 rfl)) da_nil)) rfl))) (dss_one (ds_ret de_bl)) dss_nil)) (dss_one (ds_if (dt_not (dt_of (de_call B true (ok__law_is E) (by decide) (S.at_ 21 rfl) (E.gl 34 rfl) (da_cons (de_meth B [(2, false, 3, f_Store_put)] (mth_1 (mt_Store_put E (by decide))) (de_var B 11 rfl (S.vis 20 rfl)) (da_cons (de_idx B (de_idx B (de_var B 2 rfl (S.vis 4 rfl)) (de_var B 8 rfl (S.vis 15 rfl))) de_int) (da_cons (de_var B 9 rfl (S.vis 16 rfl)) da_nil))) (da_cons (de_var B 10 rfl (S.vis 18 rfl)) da_nil)) rfl))) (dss_one (ds_ret de_bl)) dss_nil))) (dss_cons (ds_do (de_app B (de_var B 9 rfl (S.vis 16 rfl)) (da_cons de_int da_nil))) (dss_one (ds_setIx (de_var B 9 rfl (S.vis 16 rfl)) de_int de_int)))))))))))) (dss_cons (ds_for B (di_any B (de_lst false (da_cons de_int (da_cons de_int (da_cons de_int da_nil))))) (dg_name B 7 rfl (S.at_ 13 rfl)) (dss_one (ds_if (dt_not (dt_of (de_call B true (ok__law_holds E) (by decide) (S.at_ 22 rfl) (E.gl 41 rfl) (da_cons (de_idx B (de_var B 4 rfl (S.vis 8 rfl)) (de_var B 7 rfl (S.vis 13 rfl))) (da_cons (de_var B 2 rfl (S.vis 4 rfl)) (da_cons (de_idx B (de_var B 5 rfl (S.vis 9 rfl)) (de_var B 7 rfl (S.vis 13 rfl))) da_nil))) rfl))) (dss_one (ds_ret de_bl)) dss_nil))) (dss_cons (ds_if (dt_w (dw_or (dt_c (c_ne B) (de_call B true (ok__law_unknown E) (by decide) (S.at_ 23 rfl) (E.gl 42 rfl) (da_cons (de_idx B (de_var B 4 rfl (S.vis 8 rfl)) de_int) (da_cons de_str da_nil)) rfl) de_str) (dw_or1 (dt_c (c_ne B) (de_meth0 B [(0, true, 1, f_Schema_names)] (mth_1 (mt_Schema_names E (by decide))) (de_fld B [2] (att_1 (att_ok E 18 19 rfl rfl)) (de_idx B (de_var B 4 rfl (S.vis 8 rfl)) de_int))) (de_lc B false [("_law_one", 12)] [("_law_one", .local)] (di_any B (de_var B 2 rfl (S.vis 4 rfl))) (blkOk_by (by decide +kernel)) ⟨by decide +kernel⟩ (fun _ B S => (dg_name B 12 rfl (S.at_ 0 rfl))) (fun _ B S => dts_nil) (fun _ B S => (de_idx B (de_var B 12 rfl (S.vis 0 rfl)) de_int))))))) (dss_one (ds_ret de_bl)) dss_nil) (dss_one (ds_ret (de_call B true (ok__law_is E) (by decide) (S.at_ 21 rfl) (E.gl 34 rfl) (da_cons (de_cc B E (c := 2) (ex_at E.c.more 4 rfl) (S.at_ 7 rfl) (E.cg (c := 2) 27 rfl)) (da_cons de_int da_nil)) rfl)))))))))))
theorem fo_law (E : Ew PySem.Challenge.pw_sparedjoins_k16_rows_put T fas fns exB sfs) {fd : FuncData} (F : FunD T.K "law" "law" (defArgs s_law) (defBody s_law) (defScope s_law) [] [] (He.fAd T.K ("law", none)) fd) : FnOk T.P T.w T.K T.mg T.base (L2.CX T.P T.w) 6 (He.fAd T.K ("law", none)) fd p_law (spM T 1 f_law) :=
  fn_ok F sc_law fun X W B F => bd_law E sk_law B F
end
abbrev R : PySem.W.OpenRow := PySem.W.OpenLaw.row PySem.Challenge.rw_sparedjoins_k16_rows_put
abbrev hk : PySem.W.Hook := hookC 5 fas fns exB sfs
def ob (s : PySem.W.SharedT) : AlC := obsC 5 fas fns exB sfs (HandSHeadRun.getT s)
theorem ob_eq (s : PySem.W.SharedT) : ob s = hk.obs s.abs := obsC_eq (HandSHeadRun.getT_eq s)
def loose : List Str := "_wall" :: "SparedError" :: "BadSchema" :: "BadRow" :: "TooMany" :: "_is_cell" :: "Store" :: "LETTERS" :: "DIGITS" :: "LONGEST" :: "is_name" :: "Schema" :: "_law_pool" :: "_law_take" :: "_law_names" :: "_law_tables" :: "_law_cell" :: "_law_is" :: "_law_holds" :: "_law_unknown" :: []
theorem run (w : World) : HandSHeadRun.RunEq R (PySem.W.view R.prog [24]) hk ob 20000 loose w := by
  intro os
  kernel_rfl
end Fp
open PySem PySem.W PySem.Calls PyProof.Rows in
theorem PySem.Challenge.cw_sparedjoins_k16_rows_put_of (hf : ∀ ns : List Int, ns.length ≤ 63 → Ft.c_law (ns, ()) = .ok true) : PySem.Challenge.rw_sparedjoins_k16_rows_put.Holds := by
  w_on; o_law
  refine HandSHeadRun.head_any (r := Fp.R) (q := view Fp.R.prog [24]) (H := Fp.hk) (ob := Fp.ob) (M := 20000) (loose := Fp.loose) (d := HandSHeadRun.topDef Fp.R.prog 24) (kwd := []) Fp.ob_eq
    (by kernel_rfl) (fun s => by kernel_rfl) Fp.run (by kernel_rfl) (by kernel_rfl) (by kernel_rfl) (by rfl) (by first | assumption | decide +kernel) (by decide +kernel) ⟨rfl, rfl, rfl, rfl, rfl, by decide +kernel⟩ ?hw ?hc
  case hw => w_witness2
  case hc =>
    refine Fs.walk_fc (l := PySem.Challenge.rw_sparedjoins_k16_rows_put) (n := 63) (k := 6) (x := "_law_script") (f := Fm.f_law) (fa := Fp.fas) (fn := Fp.fns) (ex := Fp.exB) (sf := Fp.sfs) rfl (by decide) (by kernel_rfl) ⟨rfl, by decide, by decide⟩ ?hY ?hF fun ns hl => Fs.law_end Ft.ce_law hl (hf ns hl)
    · intro w h z
      exact z
    · intro K c
      obtain ⟨fd, F⟩ := c.d.def_ 19 (d := Fp.d_law) rfl
      have b := L2.FunD.bindsA (ps := Fp.p_law) F fun _ _ _ _ _ _ us hl => match us, hl with | [_], _ => rfl
      refine ⟨fd, He.fAd K ("law", none), fun s v => b s [v] rfl, fun T e1 e2 E => ?_⟩
      subst e2
      refine ⟨?_, Fp.fo_law E F⟩
      have e : (HandSHeadRun.topDef Fp.R.prog 24).name = ("law" : PySem.Str) := by kernel_rfl
      rw [e]
      exact E.toEv.gl 44 rfl
theorem PySem.Challenge.cw_sparedjoins_k16_rows_put_holds : PySem.Challenge.rw_sparedjoins_k16_rows_put.Holds := by
  exact PySem.Challenge.cw_sparedjoins_k16_rows_put_of fun ns h => Ft.law_spec ns h
