import PyProof.Rows.All
import Wide.All
import OpenK.AllK
import Wide.FinOn
import HandS.ForMost
import HandS.ForExc
import HandS.TupAny
import HandS.TupMul
import HandS.IsInst
import HandS.Deep
import HandS.Flow
import HandS.Style
import HandS.Lambda
import HandS.EndTab
import HandS.TupLe
import HandS.RaiseMore
import PyProof.RowDictHeap
import HandS.Star
import HandS.Defaults
import HandS.TryOnly
import HandS.Small
import HandS.Codes
import HandS.Dict
import HandS.EndBits
import HandS.SortInts
import HandS.More
import HandS.MakeKwOnly
import HandS.SetFor
import HandS.Strs
import HandS.Conv
import HandS.Zip
import HandS.Zip0
import HandS.Text
import HandS.ExcInit
import HandS.ExcIs
import HandS.ExcField
import HandS.ExcValue
import KE.KTryMore
import HandS.WordsExc
import KE.KExcIs
import KE.GoesMore
import KE.GoesEnum
import KE.KStar
import HandS.Property
import HandS.ClsMeth
import HandS.SlotsOwn
import PyProof.InstNe
import KE.KCallOwn
import HandS.FStr
import PySem.Challenge.RW_shadeguards_k72_heaps_and_registers_writ
set_option Elab.async false
set_option linter.all false
set_option maxRecDepth 100000
set_option maxHeartbeats 40000000
/-! A small pure reading of Python texts, over the hand layer: values are data, the state is a list of slots and a list of shared objects. -/
namespace Ev
open PySem PySem.Spec PyProof.Rows L2
/-- a wish that is not looked into by itself -/
structure Cl (p : Prop) : Prop where
  go : p

/-! ### data, objects, state, results -/
/-- data may be an instance that never changes any more, or an exception: dicts whose first keys are None -/
def fieldsD (fs : List (Str × PyData)) : List (PyData × PyData) := fs.map fun p => (.str p.1, p.2)
def insD (c : Str) (fs : List (Str × PyData)) : PyData := .dict ((.none, .str c) :: fieldsD fs)
/-- a class as data -/
def clsD (c : Str) : PyData := .dict [(.none, .bool true), (.none, .str c)]
def exnD (c : Str) (fs : List (Str × PyData)) : PyData := .dict ((.none, .int 0) :: (.none, .str c) :: fieldsD fs)
/-- what changes: a list, a dict, an instance -/
inductive Ob where
  | lst (xs : List PyData)
  | dic (es : List (PyData × PyData))
  | ins (c : Str) (fs : List (Str × PyData))
/-- such a thing as data -/
def dOf : Ob → PyData
  | .lst xs => .list xs
  | .dic es => .dict es
  | .ins c fs => insD c fs
/-- a thunk: the function, the code object of its lambda and that object's name, what is known of what it captured -/
structure Thk where
  f : Nat
  c : Nat
  q : Str
  P : L2.Hp → List Addr → Prop
  mono : ∀ F F' ro ro', (∀ b o, F b = some o → F' b = some o) → (∃ t, ro' = ro ++ t) → P F ro → P F' ro'
/-- what a slot holds: data that never changes; an object that this slot alone holds; a shared object -/
inductive SV where
  | d (x : PyData)
  | ob (o : Ob)
  | cell (n : Nat)
  | thk (t : Thk)
abbrev SV.own (xs : List PyData) : SV := .ob (.lst xs)
/-- what an expression gives -/
inductive EV where
  | d (x : PyData)
  | new (o : Ob)
  | pk (i : Nat) (o : Ob)
  | cell (n : Nat)
abbrev EV.fresh (xs : List PyData) : EV := .new (.lst xs)
abbrev EV.peek (i : Nat) (xs : List PyData) : EV := .pk i (.lst xs)
structure Mem where
  sl : List (Option SV)
  cs : List Ob
/-- an exception: its class by name, its fields -/
structure Exn where
  cls : Str
  fs : List (Str × PyData)
inductive Res (α : Type) where
  | ok (a : α) (m : Mem)
  | thr (x : Exn) (m : Mem)
  | bad
abbrev Pg (α : Type) := Mem → Res α
def Res.wp {α : Type} (r : Res α) (Q : α → Mem → Prop) (E : Exn → Mem → Prop) : Prop :=
  match r with
  | .ok a m => Q a m
  | .thr x m => E x m
  | .bad => False
def Pg.bind {α β : Type} (f : Pg α) (g : α → Pg β) : Pg β := fun m =>
  match f m with
  | .ok a m' => g a m'
  | .thr x m' => .thr x m'
  | .bad => .bad
def Pg.ret {α : Type} (a : α) : Pg α := fun m => .ok a m
def Pg.stuck {α : Type} : Pg α := fun _ => .bad
theorem wp_bind {α β : Type} {f : Pg α} {g : α → Pg β} {m : Mem} {Q : β → Mem → Prop} {E : Exn → Mem → Prop} (h : (Pg.bind f g m).wp Q E) : (f m).wp (fun a m' => (g a m').wp Q E) E := by
  unfold Pg.bind at h
  cases e : f m with
  | ok a m' => rw [e] at h; exact h
  | thr x m' => rw [e] at h; exact h
  | bad => rw [e] at h; exact h
theorem Res.wp.imp {α : Type} {r : Res α} {Q Q' : α → Mem → Prop} {E E' : Exn → Mem → Prop} (h : r.wp Q E) (hQ : ∀ a m, Q a m → Q' a m) (hE : ∀ a m, E a m → E' a m) : r.wp Q' E' := by
  cases r with
  | ok a m => exact hQ a m h
  | thr x m => exact hE x m h
  | bad => exact h
def optP {α : Type} : Option α → Pg α
  | some a => .ret a
  | none => .stuck
/-- nothing may be raised here -/
def noThr {α : Type} (f : Pg α) : Pg α := fun m =>
  match f m with
  | .ok a m' => .ok a m'
  | .thr _ _ => .bad
  | .bad => .bad
theorem noThr_wp {α : Type} {f : Pg α} {m : Mem} {Q : α → Mem → Prop} {E : Exn → Mem → Prop} (h : (noThr f m).wp Q E) : (f m).wp Q fun _ _ => False := by
  unfold noThr at h
  cases e : f m with
  | ok a m' => rw [e] at h; exact h
  | thr x m' => rw [e] at h; exact h
  | bad => rw [e] at h; exact h
end Ev

namespace Ev
open PySem PySem.Spec PyProof.Rows L2

def keyD : Key → PyData
  | .inl i => .int i
  | .inr s => .str s

theorem sqt_mono {K : PySem.W.Frag} {F F' : Hp} (e : Same F F') {a : Addr} {xs : List V} (h : SqT K F a xs) : SqT K F' a xs := by
  rcases h with (h | ⟨o, h⟩) | h
  · exact Or.inl (Or.inl (e _ _ h))
  · exact Or.inl (Or.inr ⟨o, e _ _ h⟩)
  · exact Or.inr h

/-- a list that is to be read, told by its very object -/
def LQ (K : PySem.W.Frag) (H : Hp) (a : Addr) (xs : List V) : Prop :=
  Rd H a (.lst xs) ∨ ∃ (its : List Value) (n : Nat), K.lookup a = some { cls := .type "list", data := .seq its.toArray n } ∧ its.length ≤ sizeLine ∧ Vals xs its
theorem LQ.of {K : PySem.W.Frag} {H : Hp} {a : Addr} {xs : List V} (h : H a = some (.lst xs)) : LQ K H a xs := .inl (.inl h)
theorem LQ.mono {K : PySem.W.Frag} {F F' : Hp} (e : Same F F') {a : Addr} {xs : List V} (h : LQ K F a xs) : LQ K F' a xs := by
  rcases h with (h | ⟨o, h⟩) | h
  · exact Or.inl (Or.inl (e _ _ h))
  · exact Or.inl (Or.inr ⟨o, e _ _ h⟩)
  · exact Or.inr h
theorem LQ.sq {K : PySem.W.Frag} {H : Hp} {a : Addr} {xs : List V} (h : LQ K H a xs) : SqL K H a xs := by
  rcases h with h | ⟨its, n, h1, h2, h3⟩
  · exact Or.inl h
  · exact Or.inr ⟨_, its.toArray, n, h1, rfl, rfl, rfl, by simpa using h2, by simpa using h3⟩
theorem LQ.at {X : Cx} {pins : List (Addr × Obj)} {sg : L2.St} {H : Hp} {s : Shared} {a : Addr} {xs : List V} (h : LQ X.K H a xs) (I : L2.Inv X pins sg H s) :
    xs.length ≤ sizeLine ∧ ∃ (its : List Value) (n : Nat), Vals xs its ∧ xs.length = its.length ∧ s.heap.get? a = some { cls := .type "list", data := .seq its.toArray n } := by
  rcases h with h | ⟨its, n, h1, h2, h3⟩
  · obtain ⟨z, its, n, r, e⟩ := h.ok I.hok
    exact ⟨z, its, n, r, r.length, e⟩
  · exact ⟨by rw [h3.length]; exact h2, its, n, h3, h3.length, I.kIn a _ h1⟩

/-- the class that the module names c -/
def ClsN (K : PySem.W.Frag) (c : Str) (C : Addr) : Prop := PySem.W.nsIn K mainGlobals c = some (some (.ref C))
theorem ClsN.one {K : PySem.W.Frag} {c : Str} {C D : Addr} (h : ClsN K c C) (g : ClsN K c D) : C = D := by
  unfold ClsN at h g
  rw [h] at g
  cases g
  rfl
/-- an exception's object: its class, its own dict -/
def excO (a : Addr) (cls : Value) (d : Option Addr) : HO := .ext fun h => ∃ oe vs, h.get? a = some oe ∧ Zc cls d oe ∧ oe.data = .fields vs
mutual
/-- a value reads as data, by what never changes -/
inductive R (K : PySem.W.Frag) (F : Hp) : PyData → V → Prop
  | non : R K F .none .non
  | bl (b : Bool) : R K F (.bool b) (.bl b)
  | int (i : Int) : R K F (.int i) (.int i)
  | str (x : Str) : R K F (.str x) (.str x)
  | lst {a : Addr} {vs : List V} {ds : List PyData} : LQ K F a vs → RA K F ds vs → R K F (.list ds) (.ref a)
  | tup {a : Addr} {vs : List V} {ds : List PyData} : SqT K F a vs → RA K F ds vs → R K F (.tuple ds) (.ref a)
  | dic {a : Addr} {kvs : List (Key × V)} {es : List (PyData × PyData)} : F a = some (.dK kvs) → RK K F es kvs → R K F (.dict es) (.ref a)
  | ins {a dx C : Addr} {c : Str} {fs : List (PyData × PyData)} {vs : List (Str × V)} : ClsN K c C → F a = some (.ins C dx vs) → F dx = some (.own a) → RF K F fs vs → R K F (.dict ((.none, .str c) :: fs)) (.ref a)
  | cls {C : Addr} {c : Str} : ClsN K c C → R K F (.dict ((.none, .bool true) :: (.none, .str c) :: [])) (.ref C)
  | exn0 {a C : Addr} {c : Str} : ClsN K c C → F a = some (excO a (.ref C) none) → R K F (.dict ((.none, .int 0) :: (.none, .str c) :: [])) (.ref a)
  | exn {a d C : Addr} {c : Str} {fs : List (PyData × PyData)} {vs : List (Str × V)} : ClsN K c C → F a = some (excO a (.ref C) (some d)) → F d = some (.xd vs) → RF K F fs vs → R K F (.dict ((.none, .int 0) :: (.none, .str c) :: fs)) (.ref a)
inductive RA (K : PySem.W.Frag) (F : Hp) : List PyData → List V → Prop
  | nil : RA K F [] []
  | cons {d : PyData} {ds : List PyData} {v : V} {vs : List V} : R K F d v → RA K F ds vs → RA K F (d :: ds) (v :: vs)
inductive RK (K : PySem.W.Frag) (F : Hp) : List (PyData × PyData) → List (Key × V) → Prop
  | nil : RK K F [] []
  | cons {k : Key} {d : PyData} {es : List (PyData × PyData)} {v : V} {kvs : List (Key × V)} : R K F d v → RK K F es kvs → RK K F ((keyD k, d) :: es) ((k, v) :: kvs)
inductive RF (K : PySem.W.Frag) (F : Hp) : List (PyData × PyData) → List (Str × V) → Prop
  | nil : RF K F [] []
  | cons {k : Str} {d : PyData} {es : List (PyData × PyData)} {v : V} {kvs : List (Str × V)} : R K F d v → RF K F es kvs → RF K F ((.str k, d) :: es) ((k, v) :: kvs)
end

section
variable {K : PySem.W.Frag} {F F' H : Hp}
mutual
theorem R.mono (e : Same F F') : ∀ {d : PyData} {v : V}, R K F d v → R K F' d v
  | _, _, .non => .non
  | _, _, .bl b => .bl b
  | _, _, .int i => .int i
  | _, _, .str x => .str x
  | _, _, .lst h a => .lst (h.mono e) (RA.mono e a)
  | _, _, .tup h a => .tup (sqt_mono e h) (RA.mono e a)
  | _, _, .dic h a => .dic (e _ _ h) (RK.mono e a)
  | _, _, .ins n h1 h2 a => .ins n (e _ _ h1) (e _ _ h2) (RF.mono e a)
  | _, _, .cls n => .cls n
  | _, _, .exn0 n h1 => .exn0 n (e _ _ h1)
  | _, _, .exn n h1 h2 a => .exn n (e _ _ h1) (e _ _ h2) (RF.mono e a)
theorem RA.mono (e : Same F F') : ∀ {ds : List PyData} {vs : List V}, RA K F ds vs → RA K F' ds vs
  | _, _, .nil => .nil
  | _, _, .cons h a => .cons (R.mono e h) (RA.mono e a)
theorem RK.mono (e : Same F F') : ∀ {es : List (PyData × PyData)} {kvs : List (Key × V)}, RK K F es kvs → RK K F' es kvs
  | _, _, .nil => .nil
  | _, _, .cons h a => .cons (R.mono e h) (RK.mono e a)
theorem RF.mono (e : Same F F') : ∀ {es : List (PyData × PyData)} {kvs : List (Str × V)}, RF K F es kvs → RF K F' es kvs
  | _, _, .nil => .nil
  | _, _, .cons h a => .cons (R.mono e h) (RF.mono e a)
end
theorem RA.len : ∀ {ds : List PyData} {vs : List V}, RA K F ds vs → ds.length = vs.length
  | _, _, .nil => rfl
  | _, _, .cons _ a => congrArg (· + 1) (RA.len a)
theorem RA.app : ∀ {ds es : List PyData} {vs ws : List V}, RA K F ds vs → RA K F es ws → RA K F (ds ++ es) (vs ++ ws)
  | _, _, _, _, .nil, b => b
  | _, _, _, _, .cons h a, b => .cons h (RA.app a b)
theorem RA.take : ∀ {ds : List PyData} {vs : List V} (n : Nat), RA K F ds vs → RA K F (ds.take n) (vs.take n)
  | _, _, 0, _ => by rw [List.take_zero, List.take_zero]; exact .nil
  | _, _, n + 1, .nil => by rw [List.take_nil, List.take_nil]; exact .nil
  | _, _, n + 1, .cons h a => .cons h (RA.take n a)
theorem RA.drop : ∀ {ds : List PyData} {vs : List V} (n : Nat), RA K F ds vs → RA K F (ds.drop n) (vs.drop n)
  | _, _, 0, a => a
  | _, _, n + 1, .nil => by rw [List.drop_nil, List.drop_nil]; exact .nil
  | _, _, n + 1, .cons h a => RA.drop n a
theorem RA.get : ∀ {ds : List PyData} {vs : List V} {i : Nat} {d : PyData}, RA K F ds vs → ds[i]? = some d → ∃ v, vs[i]? = some v ∧ R K F d v
  | _, _, _, _, .nil, e => by simp at e
  | _, _, 0, _, .cons h _, e => by
    simp at e
    subst e
    exact ⟨_, rfl, h⟩
  | _, _, i + 1, d, .cons _ a, e => by
    obtain ⟨v, h1, h2⟩ := RA.get (i := i) (d := d) a (by simpa using e)
    exact ⟨v, by simpa using h1, h2⟩
theorem RA.set : ∀ {ds : List PyData} {vs : List V} (i : Nat) {d : PyData} {v : V}, RA K F ds vs → R K F d v → RA K F (ds.set i d) (vs.set i v)
  | _, _, _, _, _, .nil, _ => .nil
  | _, _, 0, _, _, .cons _ a, h => .cons h a
  | _, _, i + 1, _, _, .cons h' a, h => .cons h' (RA.set i a h)
theorem RA.rep {ds : List PyData} {vs : List V} (a : RA K F ds vs) : ∀ n : Nat, RA K F (List.replicate n ds).flatten (List.replicate n vs).flatten
  | 0 => .nil
  | n + 1 => by
    rw [List.replicate_succ, List.replicate_succ, List.flatten_cons, List.flatten_cons]
    exact a.app (RA.rep a n)
theorem RA.rev {ds : List PyData} {vs : List V} (a : RA K F ds vs) : RA K F ds.reverse vs.reverse := by
  induction ds generalizing vs with
  | nil => cases a; exact .nil
  | cons d ds ih =>
    cases a with
    | cons h b =>
      rw [List.reverse_cons, List.reverse_cons]
      exact (ih b).app (.cons h .nil)
theorem RA.one {d : PyData} {v : V} (h : R K F d v) : RA K F [d] [v] := .cons h .nil
theorem RA.ints : ∀ ns : List Int, RA K F (ns.map PyData.int) (ns.map V.int)
  | [] => .nil
  | n :: ns => .cons (.int n) (RA.ints ns)

/-! data that == knows, by the hand layer -/
mutual
theorem R.dp (e : Same F H) : ∀ {d : PyData} {v : V}, R K F d v → d.canLay0 = true → Dp K H v d
  | _, _, .non, _ => .non
  | _, _, .bl b, _ => .bl b
  | _, _, .int i, _ => .int i
  | _, _, .str x, _ => .str x
  | _, _, .lst h a, c => .lst (h.mono e).sq (RA.dp e a (by simpa [PyData.canLay0] using c))
  | _, _, .tup h a, c => .tup (sqt_mono e h) (RA.dp e a (by simpa [PyData.canLay0] using c))
  | _, _, .dic h a, c => by simp [PyData.canLay0] at c
  | _, _, .ins _ _ _ _, c => by simp [PyData.canLay0] at c
  | _, _, .cls _, c => by simp [PyData.canLay0] at c
  | _, _, .exn0 _ _, c => by simp [PyData.canLay0] at c
  | _, _, .exn _ _ _ _, c => by simp [PyData.canLay0] at c
theorem RA.dp (e : Same F H) : ∀ {ds : List PyData} {vs : List V}, RA K F ds vs → PyData.canLayAll0 ds = true → DpAll K H vs ds
  | _, _, .nil, _ => .nil
  | _, _, .cons h a, c => by
    simp only [PyData.canLayAll0, Bool.and_eq_true] at c
    exact .cons (R.dp e h c.1) (RA.dp e a c.2)
end
/-! fields by name -/
theorem RF.get : ∀ {fs : List (Str × PyData)} {vs : List (Str × V)}, RF K F (fieldsD fs) vs → ∀ (x : Str), (∀ d, fs.lookup x = some d → ∃ v, vs.lookup x = some v ∧ R K F d v) ∧ (fs.lookup x = none → vs.lookup x = none)
  | [], _, .nil, x => ⟨fun d h => by simp at h, fun _ => rfl⟩
  | (k, d) :: fs, _, .cons h t, x => by
    obtain ⟨h1, h2⟩ := RF.get (fs := fs) t x
    rw [List.lookup_cons, List.lookup_cons]
    cases e : x == k with
    | true => exact ⟨fun d' z => by cases z; exact ⟨_, rfl, h⟩, fun z => by cases z⟩
    | false => exact ⟨h1, h2⟩
theorem RF.len : ∀ {fs : List (PyData × PyData)} {vs : List (Str × V)}, RF K F fs vs → fs.length = vs.length
  | _, _, .nil => rfl
  | _, _, .cons _ a => congrArg (· + 1) (RF.len a)
theorem RK.len : ∀ {fs : List (PyData × PyData)} {vs : List (Key × V)}, RK K F fs vs → fs.length = vs.length
  | _, _, .nil => rfl
  | _, _, .cons _ a => congrArg (· + 1) (RK.len a)
/-- the keys of a dict -/
def keyB : PyData → Bool
  | .int _ => true
  | .str _ => true
  | _ => false
def plainK (es : List (PyData × PyData)) : Bool := es.all fun p => keyB p.1
theorem RK.plain : ∀ {es : List (PyData × PyData)} {kvs : List (Key × V)}, RK K F es kvs → plainK es = true
  | _, _, .nil => rfl
  | _, _, .cons (k := k) _ a => by
    have := RK.plain a
    unfold plainK at this ⊢
    rw [List.all_cons, this]
    cases k <;> rfl
theorem R.dict {es : List (PyData × PyData)} {v : V} (h : R K F (.dict es) v) (p : plainK es = true) : ∃ a kvs, v = .ref a ∧ F a = some (.dK kvs) ∧ RK K F es kvs := by
  cases h with
  | dic h1 h2 => exact ⟨_, _, rfl, h1, h2⟩
  | ins _ _ _ _ => simp [plainK, keyB] at p
  | cls _ => simp [plainK, keyB] at p
  | exn0 _ _ => simp [plainK, keyB] at p
  | exn _ _ _ _ => simp [plainK, keyB] at p
/-! an object as it stands in the heap H, Z: what may not be its own -/
def OH (K : PySem.W.Frag) (F H : Hp) (Z : Addr → Prop) (a : Addr) : Ob → Prop
  | .lst xs => ∃ vs, H a = some (.lst vs) ∧ RA K F xs vs
  | .dic es => ∃ kvs, H a = some (.dK kvs) ∧ RK K F es kvs
  | .ins c fs => ∃ C dx vs, H a = some (.ins C dx vs) ∧ H dx = some (.own a) ∧ ¬ Z dx ∧ ClsN K c C ∧ RF K F (fieldsD fs) vs
theorem OH.live {Z : Addr → Prop} {a : Addr} {o : Ob} (h : OH K F H Z a o) : ∃ u, H a = some u := by
  cases o with
  | lst xs => obtain ⟨vs, h, _⟩ := h; exact ⟨_, h⟩
  | dic xs => obtain ⟨vs, h, _⟩ := h; exact ⟨_, h⟩
  | ins c fs => obtain ⟨C, dx, vs, h, _⟩ := h; exact ⟨_, h⟩
theorem OH.noOwn {Z : Addr → Prop} {a b : Addr} {o : Ob} (h : OH K F H Z a o) : H a ≠ some (.own b) := by
  cases o with
  | lst xs => obtain ⟨vs, h, _⟩ := h; rw [h]; simp
  | dic xs => obtain ⟨vs, h, _⟩ := h; rw [h]; simp
  | ins c fs => obtain ⟨C, dx, vs, h, _⟩ := h; rw [h]; simp
/-- what stands at a, and its own dict, stand on -/
theorem OH.keep {H' : Hp} {Z Z' : Addr → Prop} {a : Addr} {o : Ob} (h : OH K F H Z a o) (e : Same F F') (ha : ∀ u, H a = some u → H' a = some u) (hd : ∀ d, H d = some (.own a) → H' d = some (.own a)) (hz : ∀ d, H d = some (.own a) → Z' d → Z d) : OH K F' H' Z' a o := by
  cases o with
  | lst xs => obtain ⟨vs, h1, h2⟩ := h; exact ⟨vs, ha _ h1, h2.mono e⟩
  | dic xs => obtain ⟨vs, h1, h2⟩ := h; exact ⟨vs, ha _ h1, h2.mono e⟩
  | ins c fs => obtain ⟨C, dx, vs, h1, h2, h3, h4, h5⟩ := h; exact ⟨C, dx, vs, ha _ h1, hd _ h2, fun z => h3 (hz _ h2 z), h4, h5.mono e⟩
/-- as data, by the heap as it is -/
theorem OH.now {Z : Addr → Prop} {a : Addr} {o : Ob} (h : OH K F H Z a o) (e : Same F H) : R K H (dOf o) (.ref a) := by
  cases o with
  | lst xs => obtain ⟨vs, h1, h2⟩ := h; exact .lst (.of h1) (h2.mono e)
  | dic xs => obtain ⟨vs, h1, h2⟩ := h; exact .dic h1 (h2.mono e)
  | ins c fs => obtain ⟨C, dx, vs, h1, h2, h3, h4, h5⟩ := h; exact .ins h4 h1 h2 (h5.mono e)
/-- frozen: what stands there never changes any more -/
theorem OH.froze {Z : Addr → Prop} {a : Addr} {o : Ob} (h : OH K F H Z a o) (e : Same F F') (ha : ∀ u, H a = some u → F' a = some u) (hd : ∀ d, H d = some (.own a) → F' d = some (.own a)) : R K F' (dOf o) (.ref a) := by
  cases o with
  | lst xs => obtain ⟨vs, h1, h2⟩ := h; exact .lst (.of (ha _ h1)) (h2.mono e)
  | dic xs => obtain ⟨vs, h1, h2⟩ := h; exact .dic (ha _ h1) (h2.mono e)
  | ins c fs => obtain ⟨C, dx, vs, h1, h2, h3, h4, h5⟩ := h; exact .ins h4 (ha _ h1) (hd _ h2) (h5.mono e)
end
end Ev

namespace Ev
open PySem PySem.Spec PyProof.Rows L2

theorem OH.ntbl {K : PySem.W.Frag} {F H : Hp} {Z : Addr → Prop} {a : Addr} {o : Ob} (h : OH K F H Z a o) {u : HO} (e : H a = some u) : ∀ ps, u ≠ .tbl ps := fun ps z => by
  subst z
  cases o with
  | lst xs => obtain ⟨vs, h1, _⟩ := h; rw [e] at h1; cases h1
  | dic xs => obtain ⟨vs, h1, _⟩ := h; rw [e] at h1; cases h1
  | ins c fs => obtain ⟨C, dx, vs, h1, _⟩ := h; rw [e] at h1; cases h1
/-- a table of code objects, or something told of an object for good -/
def Hard : HO → Prop
  | .tbl _ => True
  | .ext _ => True
  | _ => False
theorem OH.soft {K : PySem.W.Frag} {F H : Hp} {Z : Addr → Prop} {a : Addr} {o : Ob} (h : OH K F H Z a o) : ∃ u, H a = some u ∧ ¬ Hard u := by
  cases o with
  | lst xs => obtain ⟨vs, h1, _⟩ := h; exact ⟨_, h1, fun z => z⟩
  | dic xs => obtain ⟨vs, h1, _⟩ := h; exact ⟨_, h1, fun z => z⟩
  | ins c fs => obtain ⟨C, dx, vs, h1, _⟩ := h; exact ⟨_, h1, fun z => z⟩
/-! ### worlds: what never changes, the shared lists' places, the pure state, the slots, the heap -/
/-- what is known of the tables of code objects, and stays known -/
structure HInv where
  P : Hp → Prop
  st : ∀ H H' : Hp, P H → (∀ b o, H b = some o → Hard o → H' b = some o) → P H'
def HInv.and (A B : HInv) : HInv := ⟨fun H => A.P H ∧ B.P H, fun H H' h e => ⟨A.st H H' h.1 e, B.st H H' h.2 e⟩⟩
/-- the same of code objects alone, whatever is written into the tables -/
structure CInv where
  P : Hp → Prop
  st : ∀ H H' : Hp, P H → (∀ b p, H b = some (.ext p) → H' b = some (.ext p)) → P H'
def CInv.toH (T : CInv) : HInv := ⟨T.P, fun H H' h e => T.st H H' h fun b p q => e b _ q trivial⟩
def CInv.and (A B : CInv) : CInv := ⟨fun H => A.P H ∧ B.P H, fun H H' h e => ⟨A.st H H' h.1 e, B.st H H' h.2 e⟩⟩
def T0 : CInv := ⟨fun _ => True, fun _ _ _ _ => trivial⟩
theorem HInv.go (T : HInv) {H H' : Hp} (h : T.P H) (e : ∀ b o, H b = some o → H' b = some o) : T.P H' := T.st H H' h fun b o q _ => e b o q
/-- something else is put in another's place -/
theorem HInv.up (T : HInv) {H : Hp} {a : Addr} {o u : HO} (h : T.P H) (e : H a = some o) (n : ¬ Hard o) : T.P (upd H a u) := T.st H _ h fun b v q k => by
  by_cases z : b = a
  · subst z
    rw [e] at q
    cases q
    exact absurd k n
  · rw [upd_ne z]
    exact q
theorem HInv.us (T : HInv) {H : Hp} {a : Addr} {u : HO} (h : T.P H) (e : ∃ o, H a = some o ∧ ¬ Hard o) : T.P (upd H a u) := by
  obtain ⟨o, e1, e2⟩ := e
  exact T.up h e1 e2
structure Wd where
  F : Hp
  ro : List Addr
  m : Mem
  sg : L2.St
  H : Hp
  Z : Addr → Prop
  T : CInv
def Own (w : Wd) (a : Addr) : Prop := ∃ (i : Nat) (o : Ob), w.m.sl[i]? = some (some (SV.ob o)) ∧ w.sg[i]? = some (some (V.ref a))
def RS (K : PySem.W.Frag) (w : Wd) : SV → V → Prop
  | .d x, v => R K w.F x v
  | .ob o, v => ∃ a, v = .ref a ∧ OH K w.F w.H w.Z a o ∧ w.F a = none ∧ a ∉ w.ro ∧ ¬ w.Z a
  | .cell n, v => ∃ a, v = .ref a ∧ w.ro[n]? = some a
  | .thk t, v => v = .ref t.f ∧ t.P w.F w.ro ∧ ∀ H, w.T.P H → H t.c = some (LamX.CodeO t.c t.q)
/-- the defs of a law in which a lambda may stand, and their tables -/
def lamNames : List Str := ["law"]
def lamQ (x : Str) : Str := x ++ ".<locals>." ++ "<lambda>"
def tabL (K : PySem.W.Frag) : List (Addr × Str) := lamNames.filterMap fun x => (PySem.W.tabIn K x).map fun p => (p.2, lamQ x)
def TOf (K : PySem.W.Frag) : HInv := ⟨fun H => LamX.Tabs (tabL K) H, fun H H' h e p hp => by
  obtain ⟨ps, h1, h2, h3⟩ := h p hp
  refine ⟨ps, e _ _ h1 trivial, h2, fun pos cv hc => ?_⟩
  obtain ⟨c, e1, e2⟩ := h3 pos cv hc
  exact ⟨c, e1, e _ _ e2 trivial⟩⟩
def TK (K : PySem.W.Frag) (w : Wd) : HInv := w.T.toH.and (TOf K)
/-- the tables are as told, and none of them is frozen -/
def TB (K : PySem.W.Frag) (w : Wd) : Prop := (TK K w).P w.H ∧ (∀ b ps, w.F b ≠ some (.tbl ps)) ∧ ∀ b ps, w.H b = some (.tbl ps) → ∃ q, (b, q) ∈ tabL K
theorem tbl_upd {K : PySem.W.Frag} {H : Hp} {a : Addr} {u : HO} (h : ∀ b ps, H b = some (.tbl ps) → ∃ q, (b, q) ∈ tabL K) (n : ∀ ps, u ≠ .tbl ps) : ∀ b ps, upd H a u b = some (.tbl ps) → ∃ q, (b, q) ∈ tabL K := fun b ps e => by
  by_cases z : b = a
  · subst z
    rw [upd_same] at e
    exact absurd (Option.some.inj e) (n ps)
  · rw [upd_ne z] at e
    exact h b ps e
theorem thk_up {t : Thk} {F F' : Hp} {ro ro' : List Addr} (h : t.P F ro) (s : Same F F') (p : ∃ u, ro' = ro ++ u := by exact ⟨[], (List.append_nil _).symm⟩) : t.P F' ro' := t.mono F F' ro ro' (fun b o e => s b o e) p h
structure Rep (K : PySem.W.Frag) (w : Wd) : Prop where
  sub : Same w.F w.H
  le : w.m.sl.length ≤ w.sg.length
  sl : ∀ (i : Nat) (v : SV), w.m.sl[i]? = some (some v) → ∃ x, w.sg[i]? = some (some x) ∧ RS K w v x
  cs : ∀ (n : Nat) (o : Ob), w.m.cs[n]? = some o → ∃ a, w.ro[n]? = some a ∧ OH K w.F w.H (fun _ => False) a o
  ln : w.m.cs.length = w.ro.length
  rf : ∀ a, a ∈ w.ro → w.F a = none
  nd : w.ro.Nodup
  ow : ∀ (i j : Nat) (xs ys : Ob) (x : V), w.m.sl[i]? = some (some (SV.ob xs)) → w.m.sl[j]? = some (some (SV.ob ys)) → w.sg[i]? = some (some x) → w.sg[j]? = some (some x) → i = j
  zl : ∀ a, w.Z a → w.H a ≠ none
  oo : ∀ d a, w.H d = some (.own a) → ∃ C vs, w.H a = some (.ins C d vs)
  tb : TB K w
theorem Rep.roLive {K : PySem.W.Frag} {w : Wd} (r : Rep K w) {a : Addr} (h : a ∈ w.ro) : w.H a ≠ none := by
  obtain ⟨n, hn⟩ := List.mem_iff_getElem?.mp h
  have hl : n < w.m.cs.length := by
    rw [r.ln]
    exact (List.getElem?_eq_some_iff.mp hn).1
  obtain ⟨b, h1, h2⟩ := r.cs n _ (List.getElem?_eq_getElem hl)
  rw [hn] at h1
  cases h1
  obtain ⟨u, hu⟩ := h2.live
  rw [hu]
  simp
theorem Rep.ownAt {K : PySem.W.Frag} {w : Wd} (r : Rep K w) {a : Addr} (h : Own w a) : w.H a ≠ none ∧ w.F a = none ∧ a ∉ w.ro ∧ ¬ w.Z a := by
  obtain ⟨i, xs, h1, h2⟩ := h
  obtain ⟨x, h3, b, h4, h5, h6, h7, h8⟩ := r.sl i _ h1
  rw [h2] at h3
  cases h3
  cases h4
  obtain ⟨u, hu⟩ := h5.live
  exact ⟨by rw [hu]; simp, h6, h7, h8⟩
/-- nobody's own dict is shared or owned -/
theorem Rep.noOwnDict {K : PySem.W.Frag} {w : Wd} (r : Rep K w) {a d : Addr} (h : w.H d = some (.own a)) : d ∉ w.ro ∧ ¬ Own w d := by
  refine ⟨fun hm => ?_, fun ⟨i, xs, h1, h2⟩ => ?_⟩
  · obtain ⟨n, hn⟩ := List.mem_iff_getElem?.mp hm
    have hl : n < w.m.cs.length := by
      rw [r.ln]
      exact (List.getElem?_eq_some_iff.mp hn).1
    obtain ⟨b, h1, h2⟩ := r.cs n _ (List.getElem?_eq_getElem hl)
    rw [hn] at h1
    cases h1
    exact h2.noOwn h
  · obtain ⟨x, h3, b, h4, h5, _⟩ := r.sl i _ h1
    rw [h2] at h3
    cases h3
    cases h4
    exact h5.noOwn h

/-- one world follows another: by an expression (nothing that is held changes but the shared lists) -/
structure FolE (w w' : Wd) : Prop where
  z : w'.Z = w.Z
  t : w'.T = w.T
  ext : Same w.F w'.F
  pre : ∃ t, w'.ro = w.ro ++ t
  frm : ∀ a o, w.H a = some o → a ∉ w.ro → (∀ ps, o ≠ .tbl ps) → w'.H a = some o
  new : ∀ a, a ∈ w'.ro → a ∈ w.ro ∨ w.H a = none
  liv : ∀ a, w.H a ≠ none → w'.H a ≠ none
  grow : ∀ a, w'.F a ≠ none → w.F a ≠ none ∨ ¬ w.Z a
  own : ∀ a, Own w' a → Own w a
/-- by a statement: the lists that slots hold may change too; Z: what stood at the def's entry -/
structure FolS (w w' : Wd) : Prop where
  z : w'.Z = w.Z
  t : w'.T = w.T
  ext : Same w.F w'.F
  pre : ∃ t, w'.ro = w.ro ++ t
  frm : ∀ a o, w.H a = some o → a ∉ w.ro → w.Z a → (∀ ps, o ≠ .tbl ps) → w'.H a = some o
  new : ∀ a, a ∈ w'.ro → a ∈ w.ro ∨ ¬ w.Z a
  liv : ∀ a, w.H a ≠ none → w'.H a ≠ none
  grow : ∀ a, w'.F a ≠ none → w.F a ≠ none ∨ ¬ w.Z a
theorem FolE.s {K : PySem.W.Frag} {w w' : Wd} (r : Rep K w) (f : FolE w w') : FolS w w' := ⟨f.z, f.t, f.ext, f.pre, fun a o h n _ k => f.frm a o h n k, fun a h => (f.new a h).imp id fun q z => r.zl a z q, f.liv, f.grow⟩
theorem FolE.refl (w : Wd) : FolE w w := ⟨rfl, rfl, Same.refl _, ⟨[], (List.append_nil _).symm⟩, fun _ _ h _ _ => h, fun _ h => .inl h, fun _ h => h, fun _ h => .inl h, fun _ h => h⟩
theorem FolS.refl (w : Wd) : FolS w w := ⟨rfl, rfl, Same.refl _, ⟨[], (List.append_nil _).symm⟩, fun _ _ h _ _ _ => h, fun _ h => .inl h, fun _ h => h, fun _ h => .inl h⟩
theorem some_ne {α : Type} {o : Option α} {a : α} (h : o = some a) : o ≠ none := by
  rw [h]
  simp
theorem FolE.trans {w w1 w2 : Wd} (f : FolE w w1) (g : FolE w1 w2) : FolE w w2 := by
  have nr : ∀ a, w.H a ≠ none → a ∉ w.ro → a ∉ w1.ro := fun a h n q => (f.new a q).elim n h
  refine ⟨g.z.trans f.z, g.t.trans f.t, f.ext.trans g.ext, ?_, fun a o h n k => g.frm a o (f.frm a o h n k) (nr a (some_ne h) n) k, fun a h => ?_, fun a h => g.liv a (f.liv a h), fun a h => ?_, fun a h => f.own a (g.own a h)⟩
  · obtain ⟨t, e⟩ := f.pre
    obtain ⟨u, e2⟩ := g.pre
    exact ⟨t ++ u, by rw [e2, e, List.append_assoc]⟩
  · rcases g.new a h with q | q
    · exact f.new a q
    · exact .inr (Classical.byContradiction fun z => f.liv a z q)
  · rcases g.grow a h with q | q
    · exact f.grow a q
    · rw [f.z] at q
      exact .inr q
theorem FolS.trans {w w1 w2 : Wd} (f : FolS w w1) (g : FolS w1 w2) : FolS w w2 := by
  refine ⟨g.z.trans f.z, g.t.trans f.t, f.ext.trans g.ext, ?_, fun a o h n z k => g.frm a o (f.frm a o h n z k) (fun q => (f.new a q).elim n fun k => k z) (by rw [f.z]; exact z) k, fun a h => ?_, fun a h => g.liv a (f.liv a h), fun a h => ?_⟩
  · obtain ⟨t, e⟩ := f.pre
    obtain ⟨u, e2⟩ := g.pre
    exact ⟨t ++ u, by rw [e2, e, List.append_assoc]⟩
  · rcases g.new a h with q | q
    · exact f.new a q
    · rw [f.z] at q
      exact .inr q
  · rcases g.grow a h with q | q
    · exact f.grow a q
    · rw [f.z] at q
      exact .inr q
theorem FolE.at {w w' : Wd} (f : FolE w w') {n : Nat} {a : Addr} (h : w.ro[n]? = some a) : w'.ro[n]? = some a := by
  obtain ⟨t, e⟩ := f.pre
  rw [e, List.getElem?_append_left (List.getElem?_eq_some_iff.mp h).1]
  exact h
theorem FolS.at {w w' : Wd} (f : FolS w w') {n : Nat} {a : Addr} (h : w.ro[n]? = some a) : w'.ro[n]? = some a := by
  obtain ⟨t, e⟩ := f.pre
  rw [e, List.getElem?_append_left (List.getElem?_eq_some_iff.mp h).1]
  exact h

/-! ### results -/
def RE (K : PySem.W.Frag) (w : Wd) : EV → V → Prop
  | .d x, v => R K w.F x v
  | .new o, v => ∃ a, v = .ref a ∧ OH K w.F w.H w.Z a o ∧ w.F a = none ∧ a ∉ w.ro ∧ ¬ w.Z a ∧ ¬ Own w a
  | .pk i o, v => w.m.sl[i]? = some (some (SV.ob o)) ∧ w.sg[i]? = some (some v)
  | .cell n, v => ∃ a, v = .ref a ∧ w.ro[n]? = some a
/-- what an operator looks at -/
inductive OV where
  | d (x : PyData)
  | cell (n : Nat)
def opnd : EV → OV
  | .d x => .d x
  | .new o => .d (dOf o)
  | .pk _ o => .d (dOf o)
  | .cell n => .cell n
def RO (K : PySem.W.Frag) (w : Wd) : OV → V → Prop
  | .d x, v => R K w.F x v ∨ ∃ a o, x = dOf o ∧ v = .ref a ∧ OH K w.F w.H (fun _ => False) a o ∧ a ∉ w.ro
  | .cell n, v => ∃ a, v = .ref a ∧ w.ro[n]? = some a
theorem OH.any {K : PySem.W.Frag} {F H : Hp} {Z : Addr → Prop} {a : Addr} {o : Ob} (h : OH K F H Z a o) : OH K F H (fun _ => False) a o := h.keep (Same.refl _) (fun _ z => z) (fun _ z => z) fun _ _ z => z.elim
theorem RE.ro {K : PySem.W.Frag} {w : Wd} (r : Rep K w) : ∀ {v : EV} {x : V}, RE K w v x → RO K w (opnd v) x
  | .d _, _, h => .inl h
  | .new o, _, ⟨a, e, h, _, n, _, _⟩ => .inr ⟨a, o, rfl, e, h.any, n⟩
  | .pk i o, _, ⟨h1, h2⟩ => by
    obtain ⟨x, h3, a, e, h, _, n, _⟩ := r.sl i _ h1
    rw [h2] at h3
    cases h3
    exact .inr ⟨a, o, rfl, e, h.any, n⟩
  | .cell _, _, h => h
theorem RO.fol {K : PySem.W.Frag} {w w' : Wd} (r : Rep K w) (f : FolE w w') : ∀ {v : OV} {x : V}, RO K w v x → RO K w' v x
  | .d _, _, .inl h => .inl (h.mono f.ext)
  | .d _, _, .inr ⟨a, o, e1, e2, h, n⟩ => .inr ⟨a, o, e1, e2, h.keep f.ext (fun u z => f.frm _ _ z n (h.ntbl z)) (fun d z => f.frm _ _ z (r.noOwnDict z).1 (by intro _ q; cases q)) (fun _ _ z => z), fun q => (f.new a q).elim n (by obtain ⟨u, hu⟩ := h.live; exact some_ne hu)⟩
  | .cell _, _, ⟨a, e, h⟩ => ⟨a, e, f.at h⟩
/-- what an operand is just now -/
def lk : OV → Mem → Option PyData
  | .d x, _ => some x
  | .cell n, m => m.cs[n]?.map dOf
def look {α : Type} (o : OV) (k : PyData → Pg α) : Pg α := fun m => match lk o m with
  | some x => k x m
  | none => .bad
def RN (K : PySem.W.Frag) (w : Wd) (x : PyData) (v : V) : Prop := R K w.F x v ∨ ∃ a o, x = dOf o ∧ v = .ref a ∧ OH K w.F w.H (fun _ => False) a o
theorem RO.rn {K : PySem.W.Frag} {w : Wd} (r : Rep K w) : ∀ {o : OV} {v : V} {x : PyData}, RO K w o v → lk o w.m = some x → RN K w x v
  | .d y, v, x, h, e => by
    cases e
    rcases h with h | ⟨a, o, e1, e2, h, _⟩
    · exact .inl h
    · exact .inr ⟨a, o, e1, e2, h⟩
  | .cell n, v, x, ⟨a, e1, e2⟩, e => by
    have e : w.m.cs[n]?.map dOf = some x := e
    cases ec : w.m.cs[n]? with
    | none =>
      rw [ec] at e
      cases e
    | some o =>
      rw [ec] at e
      cases e
      obtain ⟨b, h1, h2⟩ := r.cs n o ec
      rw [e2] at h1
      cases h1
      exact .inr ⟨a, o, rfl, e1, h2⟩
theorem look_ok {α : Type} {o : OV} {k : PyData → Pg α} {m : Mem} {P : α → Mem → Prop} {E : Exn → Mem → Prop} (h : (look o k m).wp P E) : ∃ x, lk o m = some x ∧ (k x m).wp P E := by
  unfold look at h
  cases e : lk o m with
  | none =>
    rw [e] at h
    exact h.elim
  | some x =>
    rw [e] at h
    exact ⟨x, rfl, h⟩
theorem fieldsD_inj : ∀ {fs gs : List (Str × PyData)}, fieldsD fs = fieldsD gs → fs = gs
  | [], [], _ => rfl
  | [], _ :: _, h => by simp [fieldsD] at h
  | _ :: _, [], h => by simp [fieldsD] at h
  | (k, d) :: fs, (k', d') :: gs, h => by
    simp only [fieldsD, List.map_cons, List.cons.injEq, Prod.mk.injEq, PyData.str.injEq] at h
    obtain ⟨⟨e1, e2⟩, h⟩ := h
    rw [e1, e2, fieldsD_inj h]
section
variable {K : PySem.W.Frag} {w : Wd} {v : V}
theorem RN.non (h : RN K w .none v) : v = .non := by
  rcases h with h | ⟨_, o, e, _⟩
  · cases h; rfl
  · cases o <;> cases e
theorem RN.bl {b : Bool} (h : RN K w (.bool b) v) : v = .bl b := by
  rcases h with h | ⟨_, o, e, _⟩
  · cases h; rfl
  · cases o <;> cases e
theorem RN.int {i : Int} (h : RN K w (.int i) v) : v = .int i := by
  rcases h with h | ⟨_, o, e, _⟩
  · cases h; rfl
  · cases o <;> cases e
theorem RN.str {i : Str} (h : RN K w (.str i) v) : v = .str i := by
  rcases h with h | ⟨_, o, e, _⟩
  · cases h; rfl
  · cases o <;> cases e
theorem RN.tup {xs : List PyData} (h : RN K w (.tuple xs) v) : ∃ a vs, v = .ref a ∧ SqT K w.F a vs ∧ RA K w.F xs vs := by
  rcases h with h | ⟨_, o, e, _⟩
  · cases h with
    | tup h a => exact ⟨_, _, rfl, h, a⟩
  · cases o <;> cases e
theorem RN.lst {xs : List PyData} (s : Same w.F w.H) (h : RN K w (.list xs) v) : ∃ a vs, v = .ref a ∧ LQ K w.H a vs ∧ RA K w.F xs vs := by
  rcases h with h | ⟨a, o, e, ev, h⟩
  · cases h with
    | lst h a => exact ⟨_, _, rfl, h.mono s, a⟩
  · cases o with
    | lst ys =>
      cases e
      obtain ⟨vs, h1, h2⟩ := h
      exact ⟨a, vs, ev, .of h1, h2⟩
    | dic es => cases e
    | ins c fs => cases e
theorem RN.dic {es : List (PyData × PyData)} (s : Same w.F w.H) (h : RN K w (.dict es) v) (p : plainK es = true) : ∃ a kvs, v = .ref a ∧ w.H a = some (.dK kvs) ∧ RK K w.F es kvs := by
  rcases h with h | ⟨a, o, e, ev, h⟩
  · obtain ⟨a, kvs, e, h1, h2⟩ := h.dict p
    exact ⟨a, kvs, e, s _ _ h1, h2⟩
  · cases o with
    | lst ys => cases e
    | dic es =>
      cases e
      obtain ⟨vs, h1, h2⟩ := h
      exact ⟨a, vs, ev, h1, h2⟩
    | ins c fs =>
      cases e
      simp [plainK, keyB] at p
theorem RN.ins {c : Str} {fs : List (Str × PyData)} (s : Same w.F w.H) (h : RN K w (insD c fs) v) : ∃ a C dx vs, v = .ref a ∧ ClsN K c C ∧ w.H a = some (.ins C dx vs) ∧ RF K w.F (fieldsD fs) vs := by
  rcases h with h | ⟨a, o, e, ev, h⟩
  · unfold insD at h
    cases h with
    | dic h1 h2 =>
      have := h2.plain
      simp [plainK, keyB] at this
    | ins n h1 h2 h3 => exact ⟨_, _, _, _, rfl, n, s _ _ h1, h3⟩
  · cases o with
    | lst ys => cases e
    | dic es =>
      obtain ⟨vs, h1, h2⟩ := h
      have e : insD c fs = .dict es := e
      unfold insD at e
      cases e
      have := h2.plain
      simp [plainK, keyB] at this
    | ins c' fs' =>
      have e : insD c fs = insD c' fs' := e
      unfold insD at e
      simp only [PyData.dict.injEq, List.cons.injEq, Prod.mk.injEq, PyData.str.injEq, true_and] at e
      obtain ⟨e1, e2⟩ := e
      have e2 := fieldsD_inj e2
      subst e1 e2
      obtain ⟨C, dx, vs, h1, h2, h3, h4, h5⟩ := h
      exact ⟨a, C, dx, vs, ev, h4, h1, h5⟩
/-- by the heap as it stands -/
theorem RN.now (s : Same w.F w.H) {x : PyData} (h : RN K w x v) : R K w.H x v := by
  rcases h with h | ⟨a, o, e, ev, h⟩
  · exact h.mono s
  · subst e ev
    exact h.now s
end

/-! ### what is to be shown of a piece of text -/
/-- what is wanted of an exception that leaves: its class and fields, the world there -/
abbrev XBt := Exn → Wd → Prop
def XW (K : PySem.W.Frag) (B : XBt) (w : Wd) : Exn → Mem → Prop := fun x m' => ∀ w' : Wd, w'.m = m' → FolS w w' → Rep K w' → B x w'
theorem XW.fol {K : PySem.W.Frag} {B : XBt} {w w1 : Wd} (f : FolS w w1) {x : Exn} {m : Mem} (h : XW K B w x m) : XW K B w1 x m := fun w' e g r => h w' e (f.trans g) r
def WE (X : Cx) (e : Expr) : TE := fun sg H Q => Cl (∀ (pins : List (Addr × Obj)) (s : Shared), L2.Inv X pins sg H s → wpAny (model X.prog X.w) X.A (eval e X.env) (EP X pins sg Q) X.xe s)
def WT (X : Cx) (e : Expr) : TT := fun sg H Q => Cl (∀ (pins : List (Addr × Obj)) (s : Shared), L2.Inv X pins sg H s → wpAny (model X.prog X.w) X.A (isTrue e X.env (eval e X.env)) (TP X pins sg Q) X.xe s)
def WA (X : Cx) (es : List Expr) : TA := fun sg H Q => Cl (∀ (pos : Pos) (pins : List (Addr × Obj)) (s : Shared), L2.Inv X pins sg H s → wpAny (model X.prog X.w) X.A (spliced (backTo pos (starEach es X.env))) (AP X pins sg Q) X.xe s)
def WS (X : Cx) (st : Stmt) : TS := fun D sg H => Cl (∀ (pins : List (Addr × Obj)) (s : Shared), L2.Inv X pins sg H s → wpAny (model X.prog X.w) X.A (exec st X.env) (SP X pins D) X.xe s)
def WB (X : Cx) (sts : List Stmt) : TS := fun D sg H => Cl (∀ (pins : List (Addr × Obj)) (s : Shared), L2.Inv X pins sg H s → wpAny (model X.prog X.w) X.A (execs sts X.env) (SP X pins D) X.xe s)
theorem pe_w {X : Cx} {e : Expr} : PE X e (WE X e) := ⟨fun pins s _ _ _ I h => h.go pins s I⟩
theorem pt_w {X : Cx} {e : Expr} : PT X e (WT X e) := ⟨fun pins s _ _ _ I h => h.go pins s I⟩
theorem pa_w {X : Cx} {es : List Expr} : PA X es (WA X es) := ⟨fun pos pins s _ _ _ I h => h.go pos pins s I⟩
theorem ps_w {X : Cx} {st : Stmt} : PS X st (WS X st) := ⟨fun pins s _ _ _ I h => h.go pins s I⟩
theorem pb_w {X : Cx} {sts : List Stmt} : PSs X sts (WB X sts) := ⟨fun pins s _ _ _ I h => h.go pins s I⟩
theorem we_of {X : Cx} {e : Expr} {t : TE} (h : PE X e t) {sg : L2.St} {H : Hp} {Q : VK} (q : t sg H Q) : WE X e sg H Q := ⟨fun pins s I => h.run pins s sg H Q I q⟩
theorem wt_of {X : Cx} {e : Expr} {t : TT} (h : PT X e t) {sg : L2.St} {H : Hp} {Q : Bool → Hp → Prop} (q : t sg H Q) : WT X e sg H Q := ⟨fun pins s I => h.run pins s sg H Q I q⟩
theorem wa_of {X : Cx} {es : List Expr} {t : TA} (h : PA X es t) {sg : L2.St} {H : Hp} {Q : List V → Hp → Prop} (q : t sg H Q) : WA X es sg H Q := ⟨fun pos pins s I => h.run pos pins s sg H Q I q⟩
theorem ws_of {X : Cx} {st : Stmt} {t : TS} (h : PS X st t) {D : Ends} {sg : L2.St} {H : Hp} (q : t D sg H) : WS X st D sg H := ⟨fun pins s I => h.run pins s sg H D I q⟩
theorem wb_of {X : Cx} {sts : List Stmt} {t : TS} (h : PSs X sts t) {D : Ends} {sg : L2.St} {H : Hp} (q : t D sg H) : WB X sts D sg H := ⟨fun pins s I => h.run pins s sg H D I q⟩

def PostE (K : PySem.W.Frag) (w : Wd) (Q : VK) : EV → Mem → Prop := fun v m' => ∀ (w' : Wd) (x : V), w'.m = m' → w'.sg = w.sg → FolE w w' → Rep K w' → RE K w' v x → Q x w'.H
def PostO (K : PySem.W.Frag) (w : Wd) (Q : VK) : OV → Mem → Prop := fun v m' => ∀ (w' : Wd) (x : V), w'.m = m' → w'.sg = w.sg → FolE w w' → Rep K w' → RO K w' v x → Q x w'.H
def PostT (K : PySem.W.Frag) (w : Wd) (Q : Bool → Hp → Prop) : Bool → Mem → Prop := fun b m' => ∀ (w' : Wd), w'.m = m' → w'.sg = w.sg → FolE w w' → Rep K w' → Q b w'.H
/-- an expression -/
def Snd (X : Cx) (B : XBt) (e : Expr) (f : Pg EV) : Prop := ∀ (w : Wd) (Q : VK), Rep X.K w → (f w.m).wp (PostE X.K w Q) (XW X.K B w) → WE X e w.sg w.H Q
/-- a test -/
def SndT (X : Cx) (B : XBt) (e : Expr) (f : Pg Bool) : Prop := ∀ (w : Wd) (Q : Bool → Hp → Prop), Rep X.K w → (f w.m).wp (PostT X.K w Q) (XW X.K B w) → WT X e w.sg w.H Q
/-- arguments that are looked at -/
def PostOs (K : PySem.W.Frag) (w : Wd) (Q : List V → Hp → Prop) : List OV → Mem → Prop := fun vs m' => ∀ (w' : Wd) (xs : List V), w'.m = m' → w'.sg = w.sg → FolE w w' → Rep K w' → Paired (RO K w') vs xs → Q xs w'.H
def SndO (X : Cx) (B : XBt) (es : List Expr) (f : Pg (List OV)) : Prop := ∀ (w : Wd) (Q : List V → Hp → Prop), Rep X.K w → (f w.m).wp (PostOs X.K w Q) (XW X.K B w) → WA X es w.sg w.H Q
/-- arguments that are handed on: data, or a shared list -/
inductive AV where
  | d (x : PyData)
  | cell (n : Nat)
def RV (K : PySem.W.Frag) (w : Wd) : AV → V → Prop
  | .d x, v => R K w.F x v
  | .cell n, v => ∃ a, v = .ref a ∧ w.ro[n]? = some a
theorem RV.fol {K : PySem.W.Frag} {w w' : Wd} (f : FolE w w') : ∀ {v : AV} {x : V}, RV K w v x → RV K w' v x
  | .d _, _, h => R.mono f.ext h
  | .cell _, _, ⟨a, e, h⟩ => ⟨a, e, f.at h⟩
def PostA (K : PySem.W.Frag) (w : Wd) (Q : List V → Hp → Prop) : List AV → Mem → Prop := fun vs m' => ∀ (w' : Wd) (xs : List V), w'.m = m' → w'.sg = w.sg → FolE w w' → Rep K w' → Paired (RV K w') vs xs → Q xs w'.H
def SndA (X : Cx) (B : XBt) (es : List Expr) (f : Pg (List AV)) : Prop := ∀ (w : Wd) (Q : List V → Hp → Prop), Rep X.K w → (f w.m).wp (PostA X.K w Q) (XW X.K B w) → WA X es w.sg w.H Q
/-- statements -/
inductive Fl where
  | next
  | brk
  | cont
  | ret (v : EV)
def PostS (K : PySem.W.Frag) (w : Wd) (D : Ends) : Fl → Mem → Prop := fun f m' => ∀ (w' : Wd), w'.m = m' → FolS w w' → Rep K w' → match f with
  | .next => D.nx w'.sg w'.H
  | .brk => D.bk w'.sg w'.H
  | .cont => D.ct w'.sg w'.H
  | .ret v => ∀ x, RE K w' v x → D.rt x w'.H
def SndS (X : Cx) (B : XBt) (st : Stmt) (f : Pg Fl) : Prop := ∀ (w : Wd) (D : Ends), Rep X.K w → (f w.m).wp (PostS X.K w D) (XW X.K B w) → WS X st D w.sg w.H
def SndB (X : Cx) (B : XBt) (sts : List Stmt) (f : Pg Fl) : Prop := ∀ (w : Wd) (D : Ends), Rep X.K w → (f w.m).wp (PostS X.K w D) (XW X.K B w) → WB X sts D w.sg w.H

/-! ### one thing after another -/
theorem post_o {K : PySem.W.Frag} {w : Wd} {Q : VK} {v : EV} {m : Mem} (h : PostO K w Q (opnd v) m) : PostE K w Q v m := fun w' x e1 e2 f r q => h w' x e1 e2 f r (q.ro r)
/-- the first operand, then what follows -/
theorem snd_then {X : Cx} {B : XBt} {e : Expr} {f : Pg EV} {α : Type} {g : EV → Pg α} {P : α → Mem → Prop} {w : Wd} {Q : VK} (h : Snd X B e f) (r : Rep X.K w) (hw : (Pg.bind f g w.m).wp P (XW X.K B w))
    (next : ∀ (v : EV) (w' : Wd) (x : V), w'.sg = w.sg → FolE w w' → Rep X.K w' → RE X.K w' v x → (g v w'.m).wp P (XW X.K B w') → Q x w'.H) : WE X e w.sg w.H Q := by
  refine h w Q r ((wp_bind hw).imp (fun v m' q w' x e1 e2 f r' re => ?_) fun _ _ q => q)
  subst e1
  exact next v w' x e2 f r' re (q.imp (fun _ _ z => z) fun _ _ z => z.fol (f.s r))
theorem sndT_then {X : Cx} {B : XBt} {e : Expr} {f : Pg Bool} {α : Type} {g : Bool → Pg α} {P : α → Mem → Prop} {w : Wd} {Q : Bool → Hp → Prop} (h : SndT X B e f) (r : Rep X.K w) (hw : (Pg.bind f g w.m).wp P (XW X.K B w))
    (next : ∀ (v : Bool) (w' : Wd), w'.sg = w.sg → FolE w w' → Rep X.K w' → (g v w'.m).wp P (XW X.K B w') → Q v w'.H) : WT X e w.sg w.H Q := by
  refine h w Q r ((wp_bind hw).imp (fun v m' q w' e1 e2 f r' => ?_) fun _ _ q => q)
  subst e1
  exact next v w' e2 f r' (q.imp (fun _ _ z => z) fun _ _ z => z.fol (f.s r))
theorem sndO_then {X : Cx} {B : XBt} {es : List Expr} {f : Pg (List OV)} {α : Type} {g : List OV → Pg α} {P : α → Mem → Prop} {w : Wd} {Q : List V → Hp → Prop} (h : SndO X B es f) (r : Rep X.K w) (hw : (Pg.bind f g w.m).wp P (XW X.K B w))
    (next : ∀ (v : List OV) (w' : Wd) (xs : List V), w'.sg = w.sg → FolE w w' → Rep X.K w' → Paired (RO X.K w') v xs → (g v w'.m).wp P (XW X.K B w') → Q xs w'.H) : WA X es w.sg w.H Q := by
  refine h w Q r ((wp_bind hw).imp (fun v m' q w' x e1 e2 f r' re => ?_) fun _ _ q => q)
  subst e1
  exact next v w' x e2 f r' re (q.imp (fun _ _ z => z) fun _ _ z => z.fol (f.s r))
theorem sndA_then {X : Cx} {B : XBt} {es : List Expr} {f : Pg (List AV)} {α : Type} {g : List AV → Pg α} {P : α → Mem → Prop} {w : Wd} {Q : List V → Hp → Prop} (h : SndA X B es f) (r : Rep X.K w) (hw : (Pg.bind f g w.m).wp P (XW X.K B w))
    (next : ∀ (v : List AV) (w' : Wd) (xs : List V), w'.sg = w.sg → FolE w w' → Rep X.K w' → Paired (RV X.K w') v xs → (g v w'.m).wp P (XW X.K B w') → Q xs w'.H) : WA X es w.sg w.H Q := by
  refine h w Q r ((wp_bind hw).imp (fun v m' q w' x e1 e2 f r' re => ?_) fun _ _ q => q)
  subst e1
  exact next v w' x e2 f r' re (q.imp (fun _ _ z => z) fun _ _ z => z.fol (f.s r))
end Ev

namespace Ev
open PySem PySem.Spec PyProof.Rows L2

/-! ### steps between worlds -/
theorem OH.lay {K : PySem.W.Frag} {F H : Hp} {Z : Addr → Prop} {a p : Addr} {o : Ob} {u : HO} (h : OH K F H Z a o) (hp : H p = none) : OH K F (upd H p u) Z a o :=
  h.keep (Same.refl _) (fun u z => by rw [upd_ne (ne_of_none z hp)]; exact z) (fun d z => by rw [upd_ne (ne_of_none z hp)]; exact z) fun _ _ z => z
/-- a new thing is laid, not yet held by anybody -/
theorem lay {K : PySem.W.Frag} {w : Wd} (r : Rep K w) {p : Addr} (hp : w.H p = none) (o : HO) (hno : ∀ a, o ≠ .own a := by intro _ z; first | cases z | (unfold excO at z; cases z)) (hnt : ∀ ps, o ≠ .tbl ps := by intro _ z; first | cases z | (unfold excO at z; cases z)) : Rep K { w with H := upd w.H p o } ∧ FolE w { w with H := upd w.H p o } := by
  have up : ∀ {a : Addr} {u : HO}, w.H a = some u → upd w.H p o a = some u := fun {a u} h => by
    rw [upd_ne (ne_of_none h hp)]
    exact h
  have liv : ∀ a, w.H a ≠ none → upd w.H p o a ≠ none := fun a h => by
    cases e : w.H a with
    | none => exact absurd e h
    | some u =>
      rw [up e]
      simp
  refine ⟨⟨fun a u h => up (r.sub a u h), r.le, fun i v h => ?_, fun n xs h => ?_, r.ln, r.rf, r.nd, r.ow, fun a h => liv a (r.zl a h), fun d a h => ?_, ⟨(TK _ w).go r.tb.1 fun _ _ e => up e, r.tb.2.1, tbl_upd r.tb.2.2 hnt⟩⟩, ⟨rfl, rfl, Same.refl _, ⟨[], (List.append_nil _).symm⟩, fun a u h _ _ => up h, fun a h => .inl h, liv, fun a h => .inl h, fun a h => h⟩⟩
  · obtain ⟨x, h1, h2⟩ := r.sl i v h
    refine ⟨x, h1, ?_⟩
    cases v with
    | d y => exact h2
    | ob ys =>
      obtain ⟨a, e, h, q⟩ := h2
      exact ⟨a, e, h.lay hp, q⟩
    | cell n => exact h2
    | thk t => exact h2
  · obtain ⟨a, h1, h2⟩ := r.cs n xs h
    exact ⟨a, h1, h2.lay hp⟩
  · have h : upd w.H p o d = some (.own a) := h
    by_cases q : d = p
    · rw [q, upd_same] at h
      exact absurd (Option.some.inj h) (hno a)
    · rw [upd_ne q] at h
      obtain ⟨C, vs, e⟩ := r.oo d a h
      exact ⟨C, vs, up e⟩
theorem same_upd {F H : Hp} {a : Addr} {u : HO} (s : Same F H) (h : H a = some u) : Same F (upd F a u) ∧ Same (upd F a u) H := by
  refine ⟨fun b v e => ?_, fun b v e => ?_⟩
  · by_cases q : b = a
    · subst q
      have := s _ _ e
      rw [h] at this
      rw [upd_same]
      exact this
    · rw [upd_ne q]
      exact e
  · by_cases q : b = a
    · subst q
      rw [upd_same] at e
      rw [h]
      exact e
    · rw [upd_ne q] at e
      exact s _ _ e
/-- frozen: a wider part never changes -/
theorem OH.frozen {K : PySem.W.Frag} {F H : Hp} {Z : Addr → Prop} {a : Addr} {o : Ob} (s : Same F H) (h : OH K F H Z a o) (hz : ¬ Z a) :
    ∃ F' : Hp, Same F F' ∧ Same F' H ∧ R K F' (dOf o) (.ref a) ∧ (∀ b, F' b ≠ none → F b ≠ none ∨ ¬ Z b) ∧ (∀ b, F b = none → b ≠ a → (∀ c, H b ≠ some (.own c)) → F' b = none) ∧ ∀ b ps, F' b = some (.tbl ps) → F b = some (.tbl ps) := by
  have one : ∀ {u : HO}, H a = some u → (∀ b, upd F a u b ≠ none → F b ≠ none ∨ ¬ Z b) ∧ ∀ b, F b = none → b ≠ a → upd F a u b = none := fun {u} hu => by
    refine ⟨fun b e => ?_, fun b e n => ?_⟩
    · by_cases q : b = a
      · subst q
        exact .inr hz
      · rw [upd_ne q] at e
        exact .inl e
    · rw [upd_ne n]
      exact e
  have nt : ∀ {G : Hp} {p : Addr} {v : HO} {b : Addr} {ps : Array Value}, (∀ qs, v ≠ .tbl qs) → upd G p v b = some (.tbl ps) → G b = some (.tbl ps) := fun {G p v b ps} hv e => by
    by_cases z : b = p
    · subst z
      rw [upd_same] at e
      exact absurd (Option.some.inj e) (hv ps)
    · rw [upd_ne z] at e
      exact e
  cases o with
  | lst xs =>
    obtain ⟨vs, h1, h2⟩ := h
    obtain ⟨s1, s2⟩ := same_upd s h1
    exact ⟨_, s1, s2, .lst (.of upd_same) (h2.mono s1), (one h1).1, fun b e n _ => (one h1).2 b e n, fun b ps e => nt (by intro _ z; cases z) e⟩
  | dic xs =>
    obtain ⟨vs, h1, h2⟩ := h
    obtain ⟨s1, s2⟩ := same_upd s h1
    exact ⟨_, s1, s2, .dic upd_same (h2.mono s1), (one h1).1, fun b e n _ => (one h1).2 b e n, fun b ps e => nt (by intro _ z; cases z) e⟩
  | ins c fs =>
    obtain ⟨C, dx, vs, h1, h2, h3, h4, h5⟩ := h
    obtain ⟨s1, s2⟩ := same_upd s h1
    obtain ⟨s3, s4⟩ := same_upd s2 h2
    have ne : a ≠ dx := fun z => by rw [z, h2] at h1; cases h1
    refine ⟨_, fun b u e => s3 _ _ (s1 _ _ e), s4, .ins h4 (s3 _ _ upd_same) upd_same (h5.mono fun b u e => s3 _ _ (s1 _ _ e)), fun b e => ?_, fun b e n q => ?_, fun b ps e => nt (by intro _ z; cases z) (nt (by intro _ z; cases z) e)⟩
    · by_cases q : b = dx
      · rw [q]
        exact .inr h3
      · rw [upd_ne q] at e
        exact (one h1).1 b e
    · rw [upd_ne (fun z => q a (by rw [z]; exact h2))]
      exact (one h1).2 b e n
theorem fix {K : PySem.W.Frag} {w : Wd} (r : Rep K w) {p : Addr} {o : Ob} (h : OH K w.F w.H w.Z p o) (hf : w.F p = none) (hr : p ∉ w.ro) (hz : ¬ w.Z p) (ho : ¬ Own w p) :
    ∃ F', Rep K { w with F := F' } ∧ FolE w { w with F := F' } ∧ R K F' (dOf o) (.ref p) := by
  obtain ⟨F', s1, s2, rd, g1, g2, g3⟩ := h.frozen r.sub hz
  refine ⟨F', ⟨s2, r.le, fun i v h => ?_, fun n xs h => ?_, r.ln, fun a e => ?_, r.nd, r.ow, r.zl, r.oo, ⟨r.tb.1, fun b ps e => r.tb.2.1 b ps (g3 b ps e), r.tb.2.2⟩⟩, ⟨rfl, rfl, s1, ⟨[], (List.append_nil _).symm⟩, fun a u h _ _ => h, fun a h => .inl h, fun a h => h, g1, fun a h => h⟩, rd⟩
  · obtain ⟨x, h1, h2⟩ := r.sl i v h
    refine ⟨x, h1, ?_⟩
    cases v with
    | d y => exact R.mono s1 h2
    | ob ys =>
      obtain ⟨a, e, h3, h5, h6, h7⟩ := h2
      refine ⟨a, e, h3.keep s1 (fun _ z => z) (fun _ z => z) (fun _ _ z => z), ?_, h6, h7⟩
      subst e
      have oa : Own w a := ⟨i, ys, h, h1⟩
      exact g2 a h5 (fun q => ho (q ▸ oa)) fun c z => (r.noOwnDict z).2 oa
    | cell n => exact h2
    | thk t => exact ⟨h2.1, thk_up h2.2.1 s1, h2.2.2⟩
  · obtain ⟨a, h1, h2⟩ := r.cs n xs h
    exact ⟨a, h1, h2.keep s1 (fun _ z => z) (fun _ z => z) (fun _ _ z => z)⟩
  · exact g2 a (r.rf a e) (fun q => hr (q ▸ e)) fun c z => (r.noOwnDict z).1 e
theorem own_lay {w : Wd} {p : Addr} {o : HO} {a : Addr} (h : Own { w with H := upd w.H p o } a) : Own w a := h
theorem Rep.noF {K : PySem.W.Frag} {w : Wd} (r : Rep K w) {p : Addr} (hp : w.H p = none) : w.F p = none := by
  cases e : w.F p with
  | none => rfl
  | some u =>
    have := r.sub p u e
    rw [hp] at this
    cases this
/-- a new unchanging thing, that is no own dict -/
theorem layFix {K : PySem.W.Frag} {w : Wd} (r : Rep K w) {p : Addr} (hp : w.H p = none) (o : HO) (hno : ∀ a, o ≠ .own a := by intro _ z; first | cases z | (unfold excO at z; cases z)) (hnt : ∀ ps, o ≠ .tbl ps := by intro _ z; first | cases z | (unfold excO at z; cases z)) : Rep K { w with F := upd w.F p o, H := upd w.H p o } ∧ FolE w { w with F := upd w.F p o, H := upd w.H p o } := by
  obtain ⟨r1, f1⟩ := lay r hp o hno hnt
  have no : ¬ Own w p := fun h => (r.ownAt h).1 hp
  have nf := r.noF hp
  have sm : Same w.F (upd w.F p o) := fun a u e => by
    rw [upd_ne (ne_of_none e nf)]
    exact e
  refine ⟨⟨fun a u e => ?_, r1.le, fun i v h => ?_, fun n xs h => ?_, r1.ln, fun a e => ?_, r1.nd, r1.ow, r1.zl, r1.oo, ⟨r1.tb.1, fun b ps e => ?_, r1.tb.2.2⟩⟩, ⟨rfl, rfl, sm, f1.pre, f1.frm, f1.new, f1.liv, fun a e => ?_, f1.own⟩⟩
  · have e : upd w.F p o a = some u := e
    show upd w.H p o a = some u
    by_cases q : a = p
    · subst q
      rw [upd_same] at e ⊢
      exact e
    · rw [upd_ne q] at e ⊢
      exact r.sub a u e
  · obtain ⟨x, h1, h2⟩ := r1.sl i v h
    refine ⟨x, h1, ?_⟩
    cases v with
    | d y => exact R.mono sm h2
    | ob ys =>
      obtain ⟨a, e, h3, h5, h6⟩ := h2
      refine ⟨a, e, h3.keep sm (fun _ z => z) (fun _ z => z) (fun _ _ z => z), ?_, h6⟩
      show upd w.F p o a = none
      rw [upd_ne (fun q => no (by subst e q; exact ⟨i, ys, h, h1⟩))]
      exact h5
    | cell n => exact h2
    | thk t => exact ⟨h2.1, thk_up h2.2.1 sm, h2.2.2⟩
  · obtain ⟨a, h1, h2⟩ := r1.cs n xs h
    exact ⟨a, h1, h2.keep sm (fun _ z => z) (fun _ z => z) (fun _ _ z => z)⟩
  · show upd w.F p o a = none
    rw [upd_ne (fun q : a = p => r.roLive (by rw [← q]; exact e) hp)]
    exact r.rf a e
  · have e : upd w.F p o b = some (.tbl ps) := e
    by_cases q : b = p
    · subst q
      rw [upd_same] at e
      exact hnt ps (Option.some.inj e)
    · rw [upd_ne q] at e
      exact r.tb.2.1 b ps e
  · have e : upd w.F p o a ≠ none := e
    by_cases q : a = p
    · subst q
      exact .inr fun z => r.zl _ z hp
    · rw [upd_ne q] at e
      exact .inl e
theorem lay_new {K : PySem.W.Frag} {w : Wd} (r : Rep K w) {p : Addr} (hp : w.H p = none) {u : HO} {o : Ob} (h : OH K w.F (upd w.H p u) w.Z p o) : RE K { w with H := upd w.H p u } (.new o) (.ref p) :=
  ⟨p, rfl, h, r.noF hp, fun h => r.roLive h hp, fun h => r.zl p h hp, fun h => (r.ownAt h).1 hp⟩
theorem lay_fresh {K : PySem.W.Frag} {w : Wd} (r : Rep K w) {p : Addr} (hp : w.H p = none) {xs : List PyData} {vs : List V} (h : RA K w.F xs vs) : RE K { w with H := upd w.H p (.lst vs) } (.fresh xs) (.ref p) := lay_new r hp ⟨vs, upd_same, h⟩
theorem lay_dic {K : PySem.W.Frag} {w : Wd} (r : Rep K w) {p : Addr} (hp : w.H p = none) {xs : List (PyData × PyData)} {vs : List (Key × V)} (h : RK K w.F xs vs) : RE K { w with H := upd w.H p (.dK vs) } (.new (.dic xs)) (.ref p) := lay_new r hp ⟨vs, upd_same, h⟩
theorem layFix_tup {K : PySem.W.Frag} {w : Wd} (r : Rep K w) {p : Addr} (hp : w.H p = none) {xs : List PyData} {vs : List V} (h : RA K w.F xs vs) : RE K { w with F := upd w.F p (.tup vs), H := upd w.H p (.tup vs) } (.d (.tuple xs)) (.ref p) := by
  have f := (layFix r hp (.tup vs)).2
  exact R.tup (.inl (.inl upd_same)) (h.mono f.ext)

/-! ### what is handed on -/
def freezeM (m : Mem) (i : Nat) (x : PyData) : Mem := { m with sl := m.sl.set i (some (.d x)) }
def toA : EV → Pg AV
  | .d x => .ret (.d x)
  | .new o => .ret (.d (dOf o))
  | .pk i o => fun m => .ok (.d (dOf o)) (freezeM m i (dOf o))
  | .cell n => .ret (.cell n)
theorem set_get {α : Type} {l : List α} {i j : Nat} {x y : α} (h : (l.set i x)[j]? = some y) : (j = i ∧ y = x) ∨ (j ≠ i ∧ l[j]? = some y) := by
  by_cases e : i = j
  · subst e
    refine .inl ⟨rfl, ?_⟩
    by_cases q : i < l.length
    · rw [List.getElem?_set_self q] at h
      exact (Option.some.inj h).symm
    · rw [List.getElem?_eq_none (by rw [List.length_set]; omega)] at h
      cases h
  · rw [List.getElem?_set_ne e] at h
    exact .inr ⟨fun q => e q.symm, h⟩
theorem freeze_ok {K : PySem.W.Frag} {w : Wd} (r : Rep K w) {i : Nat} {o : Ob} {x : V} (h1 : w.m.sl[i]? = some (some (SV.ob o))) (h2 : w.sg[i]? = some (some x)) :
    ∃ w' : Wd, w'.m = freezeM w.m i (dOf o) ∧ w'.sg = w.sg ∧ w'.H = w.H ∧ FolE w w' ∧ Rep K w' ∧ R K w'.F (dOf o) x := by
  obtain ⟨y, h3, a, e, hO, hF, hro, hz⟩ := r.sl i _ h1
  rw [h2] at h3
  cases h3
  subst e
  obtain ⟨F', s1, s2, rd, g1, g2, g3⟩ := hO.frozen r.sub hz
  have sl' : ∀ (j : Nat) (v : SV), (freezeM w.m i (dOf o)).sl[j]? = some (some v) → (j = i ∧ v = .d (dOf o)) ∨ (j ≠ i ∧ w.m.sl[j]? = some (some v)) := fun j v h => by
    rcases set_get (show (w.m.sl.set i (some (.d (dOf o))))[j]? = some (some v) from h) with ⟨q1, q2⟩ | q
    · exact .inl ⟨q1, Option.some.inj q2⟩
    · exact .inr q
  refine ⟨{ w with F := F', m := freezeM w.m i (dOf o) }, rfl, rfl, rfl, ⟨rfl, rfl, s1, ⟨[], (List.append_nil _).symm⟩, fun b u h _ _ => h, fun b h => .inl h, fun b h => h, g1, fun b ⟨j, ys, q1, q2⟩ => ?_⟩,
    ⟨s2, ?_, fun j v h => ?_, fun n ys h => ?_, r.ln, fun b hb => ?_, r.nd, fun j k ys zs v p1 p2 p3 p4 => ?_, r.zl, r.oo, ⟨r.tb.1, fun b ps e => r.tb.2.1 b ps (g3 b ps e), r.tb.2.2⟩⟩, rd⟩
  · rcases sl' j _ q1 with ⟨_, q⟩ | ⟨_, q⟩
    · cases q
    · exact ⟨j, ys, q, q2⟩
  · show (w.m.sl.set i _).length ≤ _
    rw [List.length_set]
    exact r.le
  · rcases sl' j v h with ⟨q1, q2⟩ | ⟨q1, q2⟩
    · subst q1 q2
      exact ⟨.ref a, h2, rd⟩
    · obtain ⟨y, p1, p2⟩ := r.sl j v q2
      refine ⟨y, p1, ?_⟩
      cases v with
      | d z => exact R.mono s1 p2
      | ob zs =>
        obtain ⟨b, e, k1, k3, k4⟩ := p2
        refine ⟨b, e, k1.keep s1 (fun _ z => z) (fun _ z => z) (fun _ _ z => z), ?_, k4⟩
        subst e
        exact g2 b k3 (fun z => q1 (r.ow j i _ _ _ q2 h1 p1 (by rw [z]; exact h2))) fun c z => (r.noOwnDict z).2 ⟨j, zs, q2, p1⟩
      | cell n => exact p2
      | thk t => exact ⟨p2.1, thk_up p2.2.1 s1, p2.2.2⟩
  · obtain ⟨b, k1, k2⟩ := r.cs n ys h
    exact ⟨b, k1, k2.keep s1 (fun _ z => z) (fun _ z => z) (fun _ _ z => z)⟩
  · exact g2 b (r.rf b hb) (fun z => hro (z ▸ hb)) fun c z => (r.noOwnDict z).1 hb
  · rcases sl' j _ p1 with ⟨_, q⟩ | ⟨_, q⟩
    · cases q
    · rcases sl' k _ p2 with ⟨_, q'⟩ | ⟨_, q'⟩
      · cases q'
      · exact r.ow j k _ _ _ q q' p3 p4
theorem toA_ok {K : PySem.W.Frag} {w : Wd} (r : Rep K w) : ∀ {v : EV} {x : V}, RE K w v x → ∃ (a : AV) (w' : Wd), toA v w.m = .ok a w'.m ∧ w'.sg = w.sg ∧ w'.H = w.H ∧ FolE w w' ∧ Rep K w' ∧ RV K w' a x
  | .d y, x, h => ⟨.d y, w, rfl, rfl, rfl, FolE.refl w, r, h⟩
  | .cell n, x, h => ⟨.cell n, w, rfl, rfl, rfl, FolE.refl w, r, h⟩
  | .new o, x, ⟨a, e, h1, h3, h4, h5, h6⟩ => by
    obtain ⟨F', r1, f1, rd⟩ := fix r h1 h3 h4 h5 h6
    subst e
    exact ⟨.d (dOf o), { w with F := F' }, rfl, rfl, rfl, f1, r1, rd⟩
  | .pk i o, x, ⟨h1, h2⟩ => by
    obtain ⟨w', e1, e2, e3, f, r', h⟩ := freeze_ok r h1 h2
    exact ⟨.d (dOf o), w', by rw [e1]; rfl, e2, e3, f, r', h⟩
/-- data alone -/
def needD : AV → Pg PyData
  | .d x => .ret x
  | .cell _ => .stuck

/-! ### arguments and displays -/
section
variable {X : Cx} {B : XBt} {e : Expr} {es : List Expr} {f : Pg EV} {pos : Pos}
def evNil {α : Type} : Pg (List α) := .ret []
def evConsA (f : Pg EV) (g : Pg (List AV)) : Pg (List AV) := .bind f fun v => .bind (toA v) fun a => .bind g fun r => .ret (a :: r)
def evConsO (f : Pg EV) (g : Pg (List OV)) : Pg (List OV) := .bind f fun v => .bind g fun r => .ret (opnd v :: r)
theorem sndA_nil : SndA X B [] evNil := fun w Q r h => wa_of pa_nil (h w [] rfl rfl (FolE.refl w) r .nil)
theorem sndO_nil : SndO X B [] evNil := fun w Q r h => wa_of pa_nil (h w [] rfl rfl (FolE.refl w) r .nil)
theorem rvs_fol {K : PySem.W.Frag} {w w' : Wd} (f : FolE w w') : ∀ {vs : List AV} {xs : List V}, Paired (RV K w) vs xs → Paired (RV K w') vs xs
  | _, _, .nil => .nil
  | _, _, .cons h t => .cons (h.fol f) (rvs_fol f t)
theorem ros_fol {K : PySem.W.Frag} {w w' : Wd} (r : Rep K w) (f : FolE w w') : ∀ {vs : List OV} {xs : List V}, Paired (RO K w) vs xs → Paired (RO K w') vs xs
  | _, _, .nil => .nil
  | _, _, .cons h t => .cons (h.fol r f) (ros_fol r f t)
theorem sndA_cons {g : Pg (List AV)} (h1 : Snd X B e f) (h2 : SndA X B es g) (hs : starEach (e :: es) X.env = (false, eval e X.env) :: starEach es X.env := by rfl) : SndA X B (e :: es) (evConsA f g) := by
  intro w Q r h
  refine wa_of (pa_cons pe_w pa_w hs) ?_
  refine snd_then h1 r h fun v w1 x e1 f1 r1 re h' => ?_
  obtain ⟨a, w2, ea, e2, e3, f2, r2, rv⟩ := toA_ok r1 re
  have h'' := wp_bind h'
  rw [ea] at h''
  rw [← e1, ← e2, ← e3]
  have h3 : (Pg.bind g (fun r => Pg.ret (a :: r)) w2.m).wp (PostA X.K w Q) (XW X.K B w2) := Res.wp.imp h'' (fun _ _ q => q) fun _ _ q => q.fol (f2.s r1)
  refine sndA_then h2 r2 h3 fun vs w3 xs e4 f3 r3 rvs q => ?_
  exact q w3 (x :: xs) rfl (e4.trans (e2.trans e1)) (f1.trans (f2.trans f3)) r3 (.cons (rv.fol f3) rvs)
theorem sndO_cons {g : Pg (List OV)} (h1 : Snd X B e f) (h2 : SndO X B es g) (hs : starEach (e :: es) X.env = (false, eval e X.env) :: starEach es X.env := by rfl) : SndO X B (e :: es) (evConsO f g) := by
  intro w Q r h
  refine wa_of (pa_cons pe_w pa_w hs) ?_
  refine snd_then h1 r h fun v w1 x e1 f1 r1 re h' => ?_
  rw [← e1]
  refine sndO_then h2 r1 h' fun vs w3 xs e4 f3 r3 rvs q => ?_
  exact q w3 (x :: xs) rfl (e4.trans e1) (f1.trans f3) r3 (.cons ((re.ro r1).fol r1 f3) rvs)
def dataOf : List AV → Option (List PyData)
  | [] => some []
  | .d x :: r => match dataOf r with
    | some xs => some (x :: xs)
    | none => none
  | .cell _ :: _ => none
theorem dataOf_ok {K : PySem.W.Frag} {w : Wd} : ∀ {vs : List AV} {xs : List V} {ds : List PyData}, Paired (RV K w) vs xs → dataOf vs = some ds → RA K w.F ds xs
  | [], _, _, .nil, e => by
    cases e
    exact .nil
  | .d x :: r, _, ds, .cons h t, e => by
    unfold dataOf at e
    cases q : dataOf r with
    | none =>
      rw [q] at e
      cases e
    | some zs =>
      rw [q] at e
      cases e
      exact .cons h (dataOf_ok t q)
  | .cell _ :: _, _, _, .cons _ _, e => by cases e
def lenOk (xs : List PyData) : Bool := decide (xs.length ≤ 16777216)
theorem lenOk_le {K : PySem.W.Frag} {F : Hp} {xs : List PyData} {vs : List V} (h : lenOk xs = true) (a : RA K F xs vs) : vs.length ≤ sizeLine := by
  rw [← a.len, sizeLine_eq]
  exact of_decide_eq_true h
def mkTup (vs : List AV) : Option EV := match dataOf vs with
  | some xs => if lenOk xs then some (.d (.tuple xs)) else none
  | none => none
def mkLst (vs : List AV) : Option EV := match dataOf vs with
  | some xs => if lenOk xs then some (.fresh xs) else none
  | none => none
def evTup (g : Pg (List AV)) : Pg EV := .bind g fun vs => optP (mkTup vs)
def evLst (g : Pg (List AV)) : Pg EV := .bind g fun vs => optP (mkLst vs)
theorem wp_opt {α : Type} {o : Option α} {m : Mem} {P : α → Mem → Prop} {E : Exn → Mem → Prop} (h : (optP o m).wp P E) : ∃ a, o = some a ∧ P a m := by
  cases o with
  | none => exact h.elim
  | some a => exact ⟨a, rfl, h⟩
theorem snd_tup {g : Pg (List AV)} {k : Nat} (h : SndA X B es g) : Snd X B (.Tuple es k pos) (evTup g) := by
  intro w Q r hw
  refine we_of (pe_tup pa_w) ?_
  refine sndA_then h r hw fun vs w1 xs e1 f1 r1 rv q => ?_
  obtain ⟨v, ev, q⟩ := wp_opt q
  unfold mkTup at ev
  cases ed : dataOf vs with
  | none =>
    rw [ed] at ev
    cases ev
  | some ds =>
    rw [ed] at ev
    dsimp only at ev
    split at ev
    · rename_i hl
      cases ev
      have ra := dataOf_ok rv ed
      refine ⟨lenOk_le hl ra, fun p hp => ?_⟩
      obtain ⟨r2, f2⟩ := layFix r1 hp (.tup xs)
      exact q { w1 with F := upd w1.F p (.tup xs), H := upd w1.H p (.tup xs) } _ rfl e1 (f1.trans f2) r2 (layFix_tup r1 hp ra)
    · cases ev
theorem snd_lst {g : Pg (List AV)} (h : SndA X B es g) : Snd X B (.List es pos) (evLst g) := by
  intro w Q r hw
  refine we_of (pe_lst pa_w) ?_
  refine sndA_then h r hw fun vs w1 xs e1 f1 r1 rv q => ?_
  obtain ⟨v, ev, q⟩ := wp_opt q
  unfold mkLst at ev
  cases ed : dataOf vs with
  | none =>
    rw [ed] at ev
    cases ev
  | some ds =>
    rw [ed] at ev
    dsimp only at ev
    split at ev
    · rename_i hl
      cases ev
      have ra := dataOf_ok rv ed
      refine ⟨lenOk_le hl ra, fun p hp => ?_⟩
      obtain ⟨r2, f2⟩ := lay r1 hp (.lst xs)
      exact q { w1 with H := upd w1.H p (.lst xs) } _ rfl e1 (f1.trans f2) r2 (lay_fresh r1 hp ra)
    · cases ev

/-! ### names and constants -/
def evC (d : PyData) : Pg EV := .ret (.d d)
theorem snd_none {j} : Snd X B (.Constant .none j pos) (evC .none) := fun w Q r h => we_of pe_non (h w .non rfl rfl (FolE.refl w) r .non)
theorem snd_bool {b j} : Snd X B (.Constant (.bool b) j pos) (evC (.bool b)) := fun w Q r h => we_of pe_bl (h w (.bl b) rfl rfl (FolE.refl w) r (.bl b))
theorem snd_int {i j} : Snd X B (.Constant (.int i) j pos) (evC (.int i)) := fun w Q r h => we_of pe_int (h w (.int i) rfl rfl (FolE.refl w) r (.int i))
theorem snd_str {x j} : Snd X B (.Constant (.str x) j pos) (evC (.str x)) := fun w Q r h => we_of pe_str (h w (.str x) rfl rfl (FolE.refl w) r (.str x))
def slotE (i : Nat) : Option (Option SV) → Option EV
  | some (some (.d x)) => some (.d x)
  | some (some (.ob o)) => some (.pk i o)
  | some (some (.cell n)) => some (.cell n)
  | _ => none
def evVar (i : Nat) : Pg EV := fun m => optP (slotE i m.sl[i]?) m
theorem snd_var {x : Str} (i : Nat) (hN : X.N[i]? = some x) (hv : Vis X.env.scope x) (hd : (x == ("__debug__" : Str)) = false := by decide) (hcd : (x == ("__classdict__" : Str)) = false := by decide) : Snd X B (.Name x pos) (evVar i) := by
  intro w Q r h
  refine we_of (pe_var hN hv hd hcd) ?_
  obtain ⟨v, ev, q⟩ := wp_opt (show (optP (slotE i w.m.sl[i]?) w.m).wp _ _ from h)
  cases es : w.m.sl[i]? with
  | none =>
    rw [es] at ev
    cases ev
  | some o =>
    cases o with
    | none =>
      rw [es] at ev
      cases ev
    | some sv =>
      obtain ⟨x, h1, h2⟩ := r.sl i sv es
      refine ⟨x, h1, q w x rfl rfl (FolE.refl w) r ?_⟩
      rw [es] at ev
      cases sv with
      | d y =>
        cases ev
        exact h2
      | ob ys =>
        cases ev
        exact ⟨es, h1⟩
      | cell n =>
        cases ev
        exact h2
      | thk t => cases ev
/-- a name of the module that holds data -/
def GC (X : Cx) (x : Str) (d : PyData) : Prop := ∃ (v : V) (u : Value), X.mg x = some u ∧ RelV v u ∧ ∀ F : Hp, R X.K F d v
theorem snd_glob {x : Str} {d : PyData} (hg : Gl X x) (h : GC X x d) (hd : (x == ("__debug__" : Str)) = false := by decide) : Snd X B (.Name x pos) (evC d) := by
  obtain ⟨v, u, hm, rv, hr⟩ := h
  intro w Q r h
  exact we_of (pe_glob hg hm rv hd) (h w v rfl rfl (FolE.refl w) r (hr w.F))
end
end Ev

namespace Ev
open PySem PySem.Spec PyProof.Rows L2

/-! ### operators -/
def anyR (X : Cx) (f : Value → Value → Sem Value) : R2 := fun x y H Q => ∃ r, OpR X f r ∧ r x y H Q
theorem op_any {X : Cx} {f : Value → Value → Sem Value} : OpR X f (anyR X f) := by
  intro pins s sg H x y v u Q I rx ry h
  obtain ⟨r, ho, q⟩ := h
  exact ho pins s sg H x y v u Q I rx ry q

theorem rep_one (t : Addr) (items : Array Value) (n : Nat) (dd : Option Addr) (sl : Array (Option Value)) (x : Int) (u : Tok) (c0 : (decide (x < -(2 ^ 63)) || decide (x ≥ 2 ^ 63)) = false) (c1 : (items.isEmpty || x == 1) = true) :
    Meets (Builtin.«tuple.__mul__» ⟨[.ref t, .int x u], []⟩) (fun _ R s => s.heap.get? t = some { cls := .type "tuple", dict := dd, data := .seq items n, slots := sl } ∧ R (.ok (.ret (Value.ref t))) s) :=
  .of_wp fun prog w A R s h => by
    obtain ⟨hp, g, d, tk, os⟩ := s
    obtain ⟨hl, h⟩ := h
    have f1 := AutoSeq1.idx_int
    wp_walk using wpAny_loadPart' hl
    repeat (first
      | (refine wpAny_ite_false (decide_eq_false (by rw [c0]; exact Bool.false_ne_true)) ?_; wp_walk using wpAny_loadPart' hl)
      | (refine wpAny_ite_true (decide_eq_true c1) ?_; wp_walk using wpAny_loadPart' hl))
    exact ⟨_, rfl, h⟩
theorem rep_none (t : Addr) (items : Array Value) (n : Nat) (dd : Option Addr) (sl : Array (Option Value)) (x : Int) (u : Tok) (c0 : (decide (x < -(2 ^ 63)) || decide (x ≥ 2 ^ 63)) = false) (c1 : (items.isEmpty || x == 1) = false) (c2 : (decide (x ≤ 0) || items.isEmpty) = true) :
    Meets (Builtin.«tuple.__mul__» ⟨[.ref t, .int x u], []⟩) (fun _ R s => s.heap.get? t = some { cls := .type "tuple", dict := dd, data := .seq items n, slots := sl } ∧
      R (.ok (.ret (Value.ref s.heap.objs.size))) { s with heap := s.heap.push { cls := Value.type "tuple", data := Data.seq #[] }, toks := s.toks }) :=
  .of_wp fun prog w A R s h => by
    obtain ⟨hp, g, d, tk, os⟩ := s
    obtain ⟨hl, h⟩ := h
    have f1 := AutoSeq1.idx_int
    wp_walk using wpAny_loadPart' hl
    repeat (first
      | (refine wpAny_ite_false (decide_eq_false (by rw [c0]; exact Bool.false_ne_true)) ?_; wp_walk using wpAny_loadPart' hl)
      | (refine wpAny_ite_false (decide_eq_false (by rw [c1]; exact Bool.false_ne_true)) ?_; wp_walk using wpAny_loadPart' hl)
      | (refine wpAny_ite_true (decide_eq_true c2) ?_; wp_walk using wpAny_loadPart' hl))
    exact ⟨_, rfl, h⟩
/-- t * k, any k that is small -/
def rTimes (K : PySem.W.Frag) : R2 := fun x y H Q => ∃ l k xs, x = .ref l ∧ y = .int k ∧ SqT K H l xs ∧ k ≤ 1000 ∧ -1000 ≤ k ∧ xs.length ≤ 1000 ∧
  ((xs = [] ∨ k = 1) → Q (.ref l) H) ∧ (¬ (xs = [] ∨ k = 1) → ∀ p, H p = none → Q (.ref p) (upd H p (.tup (List.replicate k.toNat xs).flatten)))
theorem op_times {X : Cx} : OpR X (binaryOp .Mult) (rTimes X.K) := by
  intro pins s sg H x y v u Q I rx ry h
  obtain ⟨l, k, xs, rfl, rfl, hT, h1, h0, hz, q1, q2⟩ := h
  by_cases big : xs ≠ [] ∧ 2 ≤ k
  · exact op_repT pins s sg H _ _ v u Q I rx ry ⟨l, k, xs, rfl, rfl, hT, big.1, big.2, h1, hz, q2 (fun z => z.elim big.1 fun e => by omega)⟩
  · cases rx
    obtain ⟨t, rfl⟩ := ry
    obtain ⟨its, r, ⟨⟨cls, dd, data, sl⟩, ho, hc, n, hd⟩, hs⟩ := I.tuple hT
    simp only at hc hd
    subst hc hd
    have c0 : (decide (k < -(2 ^ 63)) || decide (k ≥ 2 ^ 63)) = false := by
      rw [decide_eq_false (by omega), decide_eq_false (by omega)] <;> rfl
    by_cases one : xs = [] ∨ k = 1
    · have c1 : (its.toArray.isEmpty || k == 1) = true := by
        rcases one with e | e
        · subst e
          cases r
          rfl
        · subst e
          simp
      refine wpAny_binaryOp_repeat_ref (T := "tuple") (U := "int") (by decide) ⟨_, ho, rfl⟩ (fun s' => typeIs_int s' k t) noFill_tuple_mul F.fills_int_mul F.slot_int_rmul repeat_tuple F.slot_int_index.lookup
        (call_meets F.slot_int_rmul (typeIs_int s k t) F.entry_int_rmul (F.args_int_rmul_2 _ _) (int_rmul_tuple k t l its.toArray n dd sl)
          ⟨ho, rfl, ⟨_, ho, rfl⟩, call_meets F.slot_tuple_mul ⟨_, ho, rfl⟩ F.entry_tuple_mul (F.args_tuple_mul_2 _ _) (rep_one l its.toArray n dd sl k t c0 c1) ⟨ho, ?_⟩⟩)
      exact ⟨.ref l, H, I, rfl, q1 one⟩
    · have hne : xs ≠ [] := fun e => one (.inl e)
      have hk : k ≤ 0 := by
        have : ¬ (2 ≤ k) := fun z => big ⟨hne, z⟩
        have : k ≠ 1 := fun e => one (.inr e)
        omega
      have hi : its.toArray.isEmpty = false := by
        cases r with
        | nil => exact absurd rfl hne
        | cons a b => rfl
      have c1 : (its.toArray.isEmpty || k == 1) = false := by
        rw [hi, Bool.false_or]
        exact beq_eq_false_iff_ne.mpr (by omega)
      have c2 : (decide (k ≤ 0) || its.toArray.isEmpty) = true := by
        rw [decide_eq_true hk]
        rfl
      refine wpAny_binaryOp_repeat_ref (T := "tuple") (U := "int") (by decide) ⟨_, ho, rfl⟩ (fun s' => typeIs_int s' k t) noFill_tuple_mul F.fills_int_mul F.slot_int_rmul repeat_tuple F.slot_int_index.lookup
        (call_meets F.slot_int_rmul (typeIs_int s k t) F.entry_int_rmul (F.args_int_rmul_2 _ _) (int_rmul_tuple k t l its.toArray n dd sl)
          ⟨ho, rfl, ⟨_, ho, rfl⟩, call_meets F.slot_tuple_mul ⟨_, ho, rfl⟩ F.entry_tuple_mul (F.args_tuple_mul_2 _ _) (rep_none l its.toArray n dd sl k t c0 c1 c2) ⟨ho, ?_⟩⟩)
      have q := q2 one s.heap.objs.size (I.hok.fresh (Nat.le_refl _))
      have e0 : k.toNat = 0 := by omega
      rw [e0] at q
      refine ⟨.ref s.heap.objs.size, _, I.laid (t' := s.toks) (o := .tup []) (fun b ob q => Heap.get?_push_of_some _ q) (Nat.le_refl _) ?_, rfl, q⟩
      exact ⟨Nat.zero_le _, [], .nil, IsTup.new _ _⟩

/-- xs + ys, xs * k, lists that are read -/
def rCatL (K : PySem.W.Frag) : R2 := fun x y H Q => ∃ l b xs zs, x = .ref l ∧ y = .ref b ∧ LQ K H l xs ∧ LQ K H b zs ∧ xs.length + zs.length ≤ sizeLine ∧ ∀ p, H p = none → Q (.ref p) (upd H p (.lst (xs ++ zs)))
theorem op_catL {X : Cx} : OpR X (binaryOp .Add) (rCatL X.K) := by
  rintro pins s sg H x y v u Q I rx ry ⟨l, b, xs, zs, rfl, rfl, h1, h2, hz, q⟩
  cases rx
  cases ry
  obtain ⟨_, its, n, ra, la, ea⟩ := h1.at I
  obtain ⟨_, its', n', rb, lb, eb⟩ := h2.at I
  refine PySem.P.add_list ea eb ?_ (by simp only [List.size_toArray]; omega)
  rw [show its.toArray ++ its'.toArray = (its ++ its').toArray by simp]
  exact ⟨.ref _, _, I.lnew (t' := s.toks) (ra.append rb) (by simp only [List.length_append]; omega), rfl, q _ I.fresh⟩
def rRepL (K : PySem.W.Frag) : R2 := fun x y H Q => ∃ l k xs, x = .ref l ∧ y = .int k ∧ LQ K H l xs ∧ -1000 ≤ k ∧ k ≤ 1000 ∧ xs.length ≤ 1000 ∧ ∀ p, H p = none → Q (.ref p) (upd H p (.lst (List.replicate k.toNat xs).flatten))
theorem rep_arr (its : List Value) (k : Nat) : List.foldl (fun x1 x2 => x1 ++ x2) #[] (List.replicate (if its.toArray.isEmpty = true then 0 else k) its.toArray) = (List.replicate k its).flatten.toArray := by
  cases its with
  | nil =>
    rw [if_pos (by rfl), size_rep]
    simp
  | cons a r => rw [if_neg (by simp), size_rep]
theorem op_repL {X : Cx} : OpR X (binaryOp .Mult) (rRepL X.K) := by
  rintro pins s sg H x y v u Q I rx ry ⟨l, k, xs, rfl, rfl, h1, k0, k1, hz, q⟩
  cases rx
  obtain ⟨t, rfl⟩ := ry
  obtain ⟨_, its, n, ra, la, ea⟩ := h1.at I
  have ls := sizeLine_eq
  have big : its.length * k.toNat ≤ 1000 * 1000 := Nat.mul_le_mul (by omega) (by omega)
  have sz : its.toArray.size * k.toNat ≤ 1000000 := by simpa using big
  have c1 : ¬ its.toArray.size * k.toNat > (2 ^ 63 - 1) / 8 := by omega
  have c2 : ¬ (!Builtin.List.listFitsIndex k) = true := by
    rw [fitsIndex_both (by omega) (by omega)]
    simp
  have c3 : ¬ Builtin.List.listTooLong (its.toArray.size * k.toNat) = true := by
    rw [notLongL (by omega)]
    simp
  refine wpAny_binaryOp_repeat_ref (T := "list") (U := "int") (by decide) ⟨_, ea, rfl⟩ (fun s' => typeIs_int s' k t) noFill_list_mul F.fills_int_mul F.slot_int_rmul repeat_list F.slot_int_index.lookup
    (call_meets F.slot_int_rmul (typeIs_int s k t) F.entry_int_rmul (F.args_int_rmul_2 _ _) (int___rmul___int_list k t l its.toArray n)
      ⟨ea, rfl, ⟨_, ea, rfl⟩, call_meets F.slot_list_mul ⟨_, ea, rfl⟩ F.entry_list_mul (F.args_list_mul_2 _ _) (AutoListH.list___mul___list_int_3 l its.toArray n k t c2 c1 c3) ⟨ea, ?_⟩⟩)
  rw [rep_arr]
  exact ⟨.ref _, _, I.lnew (t' := s.toks) (ra.rep k.toNat) (by rw [PyProof.Rows.lm_len_rep_flat, Nat.mul_comm, la]; omega), rfl, q _ I.fresh⟩
def mulOk (i j : Int) : Bool := (decide (-(2 ^ 64) < i) && decide (i < 2 ^ 64)) || (decide (-(2 ^ 64) < j) && decide (j < 2 ^ 64))
theorem mulOk_c {i j : Int} (h : mulOk i j = true) : CMul i j := by
  unfold mulOk at h
  simp only [Bool.or_eq_true, Bool.and_eq_true, decide_eq_true_eq] at h
  exact h
def powOk (i j : Int) : Bool := decide (0 ≤ j) && decide (j ≤ 1000000) && decide (i.natAbs < 2 ^ 64)
theorem powOk_c {i j : Int} (h : powOk i j = true) : CPow i j := by
  unfold powOk at h
  simp only [Bool.and_eq_true, decide_eq_true_eq] at h
  exact ⟨h.1.1, h.1.2, h.2⟩
def timesOk (xs : List PyData) (k : Int) : Bool := decide (k ≤ 1000) && decide (-1000 ≤ k) && decide (xs.length ≤ 1000)
/-- a op b, by values -/
def binS (op : Operator) (x y : PyData) : Option EV :=
  match op with
  | .Add => match x, y with
    | .int i, .int j => some (.d (.int (i + j)))
    | .str a, .str b => if a.length + b.length ≤ 16777216 then some (.d (.str (a ++ b))) else none
    | .tuple xs, .tuple ys => if xs.length + ys.length ≤ 16777216 then some (.d (.tuple (xs ++ ys))) else none
    | .list xs, .list ys => if xs.length + ys.length ≤ 16777216 then some (.fresh (xs ++ ys)) else none
    | _, _ => none
  | .Sub => match x, y with
    | .int i, .int j => some (.d (.int (i - j)))
    | _, _ => none
  | .Mult => match x, y with
    | .int i, .int j => if mulOk i j then some (.d (.int (i * j))) else none
    | .tuple xs, .int k => if timesOk xs k then some (.d (.tuple (List.replicate k.toNat xs).flatten)) else none
    | .list xs, .int k => if timesOk xs k then some (.fresh (List.replicate k.toNat xs).flatten) else none
    | _, _ => none
  | .FloorDiv => match x, y with
    | .int i, .int j => if decide (0 < j) && decide (j < 1073741824) then some (.d (.int (i / j))) else none
    | _, _ => none
  | .Mod => match x, y with
    | .int i, .int j => if 0 < j then some (.d (.int (i % j))) else none
    | _, _ => none
  | .Pow => match x, y with
    | .int i, .int j => if powOk i j then some (.d (.int (i ^ j.toNat))) else none
    | _, _ => none
  | _ => none
def Keep (K : PySem.W.Frag) (w : Wd) (v : EV) (Q : VK) : Prop := ∀ (w' : Wd) (x : V), w'.m = w.m → w'.sg = w.sg → FolE w w' → Rep K w' → RE K w' v x → Q x w'.H
theorem Keep.here {K : PySem.W.Frag} {w : Wd} {v : EV} {Q : VK} (k : Keep K w v Q) (r : Rep K w) {x : V} (h : RE K w v x) : Q x w.H := k w x rfl rfl (FolE.refl w) r h
theorem Keep.tup {K : PySem.W.Frag} {w : Wd} {xs : List PyData} {Q : VK} (k : Keep K w (.d (.tuple xs)) Q) (r : Rep K w) {vs : List V} (a : RA K w.F xs vs) {p : Addr} (hp : w.H p = none) : Q (.ref p) (upd w.H p (.tup vs)) := by
  obtain ⟨r2, f2⟩ := layFix r hp (.tup vs)
  exact k { w with F := upd w.F p (.tup vs), H := upd w.H p (.tup vs) } _ rfl rfl f2 r2 (layFix_tup r hp a)
theorem Keep.lst {K : PySem.W.Frag} {w : Wd} {xs : List PyData} {Q : VK} (k : Keep K w (.fresh xs) Q) (r : Rep K w) {vs : List V} (a : RA K w.F xs vs) {p : Addr} (hp : w.H p = none) : Q (.ref p) (upd w.H p (.lst vs)) := by
  obtain ⟨r2, f2⟩ := lay r hp (.lst vs)
  exact k { w with H := upd w.H p (.lst vs) } _ rfl rfl f2 r2 (lay_fresh r hp a)
theorem flat_len {α : Type} (n : Nat) (xs : List α) : (List.replicate n xs).flatten.length = n * xs.length := by
  induction n with
  | zero => simp
  | succ n ih => rw [List.replicate_succ, List.flatten_cons, List.length_append, ih, Nat.succ_mul, Nat.add_comm]
theorem RA.nil_of {K : PySem.W.Frag} {F : Hp} {vs : List V} (a : RA K F [] vs) : vs = [] := by
  cases a
  rfl
theorem RA.of_nil {K : PySem.W.Frag} {F : Hp} {ds : List PyData} (a : RA K F ds []) : ds = [] := by
  cases a
  rfl
theorem bin_ok {X : Cx} {op : Operator} {x y : PyData} {v : EV} {w : Wd} {a b : V} {Q : VK} (r : Rep X.K w) (ha : RN X.K w x a) (hb : RN X.K w y b) (e : binS op x y = some v) (k : Keep X.K w v Q) : anyR X (binaryOp op) a b w.H Q := by
  have s := r.sub
  cases op <;> try (cases e; done)
  · -- Add
    cases x <;> try (cases e; done)
    · cases y <;> try (cases e; done)
      cases e
      rw [ha.int, hb.int]
      exact ⟨_, op_add, _, _, rfl, rfl, k.here r (.int _)⟩
    · cases y <;> try (cases e; done)
      unfold binS at e
      dsimp only at e
      split at e
      · rename_i hl
        cases e
        rw [ha.str, hb.str]
        exact ⟨_, op_add_str, _, _, rfl, rfl, by rw [sizeLine_eq]; exact hl, k.here r (.str _)⟩
      · cases e
    · cases y <;> try (cases e; done)
      unfold binS at e
      dsimp only at e
      split at e
      · rename_i hl
        cases e
        obtain ⟨l, vs, rfl, h1, a1⟩ := ha.lst s
        obtain ⟨l', vs', rfl, h2, a2⟩ := hb.lst s
        refine ⟨_, op_catL, l, l', vs, vs', rfl, rfl, h1, h2, by rw [← a1.len, ← a2.len, sizeLine_eq]; exact hl, fun p hp => k.lst r (a1.app a2) hp⟩
      · cases e
    · cases y <;> try (cases e; done)
      unfold binS at e
      dsimp only at e
      split at e
      · rename_i xs ys hl
        cases e
        obtain ⟨l, vs, rfl, h1, a1⟩ := ha.tup
        obtain ⟨l', vs', rfl, h2, a2⟩ := hb.tup
        refine ⟨_, op_catA, l, l', vs, vs', rfl, rfl, sqt_mono s h1, sqt_mono s h2, by rw [← a1.len, ← a2.len, sizeLine_eq]; exact hl, fun z => ?_, fun _ z => ?_, fun _ _ p hp => k.tup r (a1.app a2) hp⟩
        · subst z
          have := a1.of_nil
          subst this
          exact k.here r (.tup h2 a2)
        · subst z
          have := a2.of_nil
          subst this
          rw [List.append_nil] at k
          exact k.here r (.tup h1 a1)
      · cases e
  · -- Sub
    cases x <;> try (cases e; done)
    cases y <;> try (cases e; done)
    cases e
    rw [ha.int, hb.int]
    exact ⟨_, op_sub, _, _, rfl, rfl, k.here r (.int _)⟩
  · -- Mult
    cases x <;> try (cases e; done)
    · cases y <;> try (cases e; done)
      unfold binS at e
      dsimp only at e
      split at e
      · rename_i hl
        cases e
        rw [ha.int, hb.int]
        exact ⟨_, op_mul, _, _, rfl, rfl, mulOk_c hl, k.here r (.int _)⟩
      · cases e
    · cases y <;> try (cases e; done)
      unfold binS at e
      dsimp only at e
      split at e
      · rename_i xs kk hl
        unfold timesOk at hl
        simp only [Bool.and_eq_true, decide_eq_true_eq] at hl
        cases e
        obtain ⟨l, vs, rfl, h1, a1⟩ := ha.lst s
        rw [hb.int]
        exact ⟨_, op_repL, l, kk, vs, rfl, rfl, h1, hl.1.2, hl.1.1, by rw [← a1.len]; exact hl.2, fun p hp => k.lst r (a1.rep _) hp⟩
      · cases e
    · cases y <;> try (cases e; done)
      unfold binS at e
      dsimp only at e
      split at e
      · rename_i xs kk hl
        unfold timesOk at hl
        simp only [Bool.and_eq_true, decide_eq_true_eq] at hl
        cases e
        obtain ⟨l, vs, rfl, h1, a1⟩ := ha.tup
        rw [hb.int]
        refine ⟨_, op_times, l, kk, vs, rfl, rfl, sqt_mono s h1, hl.1.1, hl.1.2, by rw [← a1.len]; exact hl.2, fun z => ?_, fun _ p hp => k.tup r (a1.rep _) hp⟩
        rcases z with z | z
        · subst z
          have := a1.of_nil
          subst this
          have e0 : (List.replicate kk.toNat ([] : List PyData)).flatten = [] := List.eq_nil_of_length_eq_zero (by rw [flat_len]; rfl)
          rw [e0] at k
          exact k.here r (.tup h1 .nil)
        · subst z
          have e0 : (List.replicate (1 : Int).toNat xs).flatten = xs := by simp
          rw [e0] at k
          exact k.here r (.tup h1 a1)
      · cases e
  · -- Mod
    cases x <;> try (cases e; done)
    cases y <;> try (cases e; done)
    unfold binS at e
    dsimp only at e
    split at e
    · rename_i hl
      cases e
      rw [ha.int, hb.int]
      exact ⟨_, op_mod, _, _, rfl, rfl, hl, k.here r (.int _)⟩
    · cases e
  · -- Pow
    cases x <;> try (cases e; done)
    cases y <;> try (cases e; done)
    unfold binS at e
    dsimp only at e
    split at e
    · rename_i hl
      cases e
      rw [ha.int, hb.int]
      exact ⟨_, op_pow, _, _, rfl, rfl, powOk_c hl, k.here r (.int _)⟩
    · cases e
  · -- FloorDiv
    cases x <;> try (cases e; done)
    cases y <;> try (cases e; done)
    unfold binS at e
    dsimp only at e
    split at e
    · rename_i hl
      simp only [Bool.and_eq_true, decide_eq_true_eq] at hl
      cases e
      rw [ha.int, hb.int]
      exact ⟨_, op_fdiv, _, _, rfl, rfl, hl, k.here r (.int _)⟩
    · cases e
end Ev

namespace Ev
open PySem PySem.Spec PyProof.Rows L2

/-! ### where one stands -/
/-- the object of sys.modules is a dict -/
def SM (base : Heap) : Prop := ∃ o es ep, base.get? sysModules = some o ∧ o.data = .dict es ep
/-- how an exception lies: its class, its own dict -/
def ExAt (K : PySem.W.Frag) (w : Wd) (x : Exn) (cls : Value) (d : Option Addr) : Prop := ∃ C, ClsN K x.cls C ∧ cls = .ref C ∧ ((x.fs = [] ∧ d = none) ∨ ∃ dd vs, d = some dd ∧ w.F dd = some (.xd vs) ∧ RF K w.F (fieldsD x.fs) vs)
def WXB (K : PySem.W.Frag) (B : XBt) : WX := fun cls d sg H => ∃ (x : Exn) (w' : Wd), Rep K w' ∧ w'.sg = sg ∧ w'.H = H ∧ ExAt K w' x cls d ∧ B x w'
/-- nothing is raised -/
abbrev B0 : XBt := fun _ _ => False
structure Ctx (X : Cx) (B : XBt) : Prop where
  calm : X.calm = true
  gd : X.A.guards = some []
  rm : Room 0 X.A
  nd : X.N.Nodup
  sm : SM X.base
  tk : Takes X (WXB X.K B)
theorem takes_b0 {X : Cx} : Takes X (WXB X.K B0) := fun u s' ⟨_, _, _, _, _, _, _, _, _, _, _, _, _, _, _, _, _, _, _, _, _, _, h⟩ => h.elim

section
variable {X : Cx} {B : XBt} {a b c e : Expr} {fa fb fc : Pg EV} {pos : Pos}

def two (g : PyData → PyData → Pg EV) (o1 o2 : OV) : Pg EV := look o1 fun x => look o2 fun y => g x y
def evBin (op : Operator) (fa fb : Pg EV) : Pg EV := .bind fa fun v => .bind fb fun u => two (fun x y => optP (binS op x y)) (opnd v) (opnd u)
theorem two_ok {g : PyData → PyData → Pg EV} {o1 o2 : OV} {m : Mem} {P : EV → Mem → Prop} {E : Exn → Mem → Prop} (h : (two g o1 o2 m).wp P E) : ∃ x y, lk o1 m = some x ∧ lk o2 m = some y ∧ (g x y m).wp P E := by
  obtain ⟨x, e1, h⟩ := look_ok h
  obtain ⟨y, e2, h⟩ := look_ok h
  exact ⟨x, y, e1, e2, h⟩
theorem PostE.keep {K : PySem.W.Frag} {w w1 : Wd} {Q : VK} {v : EV} (q : PostE K w Q v w1.m) (e1 : w1.sg = w.sg) (f1 : FolE w w1) : Keep K w1 v Q := fun w' x em es f r re => q w' x em (es.trans e1) (f1.trans f) r re
theorem snd_bin {op : Operator} (ha : Snd X B a fa) (hb : Snd X B b fb) : Snd X B (.BinOp a op b pos) (evBin op fa fb) := by
  intro w Q r h
  refine we_of (pe_op op_any pe_w pe_w) ?_
  refine snd_then ha r h fun v w1 x e1 f1 r1 re h1 => ?_
  rw [← e1]
  refine snd_then hb r1 h1 fun u w2 y e2 f2 r2 re2 h2 => ?_
  obtain ⟨d1, d2, q1, q2, h3⟩ := two_ok h2
  obtain ⟨z, ez, q⟩ := wp_opt h3
  have o1 := ((re.ro r1).fol r1 f2).rn r2 q1
  have o2 := (re2.ro r2).rn r2 q2
  exact bin_ok r2 o1 o2 ez (PostE.keep q (e2.trans e1) (f1.trans f2))

/-! dicts by keys -/
def keyEq : PyData → PyData → Bool
  | .int i, .int j => decide (i = j)
  | .str a, .str b => decide (a = b)
  | _, _ => false
def dGet (es : List (PyData × PyData)) (k : PyData) : Option PyData := (es.find? fun p => keyEq p.1 k).map (·.2)
def dPut (es : List (PyData × PyData)) (k v : PyData) : List (PyData × PyData) := if es.any (fun p => keyEq p.1 k) then es.map (fun p => if keyEq p.1 k then (p.1, v) else p) else es ++ [(k, v)]
theorem keyD_of {k : PyData} (h : keyB k = true) : ∃ kk, k = keyD kk := by
  cases k with
  | int i => exact ⟨.inl i, rfl⟩
  | str x => exact ⟨.inr x, rfl⟩
  | _ => cases h
theorem keyD_eq (a b : Key) : keyEq (keyD a) (keyD b) = decide (a = b) := by
  cases a <;> cases b <;> simp [keyD, keyEq]
theorem RK.val {K : PySem.W.Frag} {F : Hp} : ∀ {es : List (PyData × PyData)} {kvs : List (Key × V)}, RK K F es kvs → ∀ (kk : Key), (∀ d, dGet es (keyD kk) = some d → ∃ v, valV kvs kk = some v ∧ R K F d v) ∧ (dGet es (keyD kk) = none → valV kvs kk = none)
  | _, _, .nil, kk => ⟨fun d h => by simp [dGet] at h, fun _ => rfl⟩
  | _, _, .cons (k := k) (d := d0) (es := es) (v := v0) (kvs := kvs) h t, kk => by
    obtain ⟨h1, h2⟩ := RK.val t kk
    by_cases e : k = kk
    · have e1 : dGet ((keyD k, d0) :: es) (keyD kk) = some d0 := by simp [dGet, keyD_eq, e]
      have e2 : valV ((k, v0) :: kvs) kk = some v0 := valV_pos (p := (k, v0)) e
      rw [e1, e2]
      exact ⟨fun d z => by cases z; exact ⟨_, rfl, h⟩, fun z => by cases z⟩
    · have e1 : dGet ((keyD k, d0) :: es) (keyD kk) = dGet es (keyD kk) := by simp [dGet, keyD_eq, e]
      have e2 : valV ((k, v0) :: kvs) kk = valV kvs kk := by simp [valV, e]
      rw [e1, e2]
      exact ⟨h1, h2⟩
theorem RK.app {K : PySem.W.Frag} {F : Hp} : ∀ {es fs : List (PyData × PyData)} {kvs lvs : List (Key × V)}, RK K F es kvs → RK K F fs lvs → RK K F (es ++ fs) (kvs ++ lvs)
  | _, _, _, _, .nil, b => b
  | _, _, _, _, .cons h a, b => .cons h (RK.app a b)
theorem RK.any {K : PySem.W.Frag} {F : Hp} : ∀ {es : List (PyData × PyData)} {kvs : List (Key × V)}, RK K F es kvs → ∀ (kk : Key), es.any (fun p => keyEq p.1 (keyD kk)) = kvs.any fun p => decide (p.1 = kk)
  | _, _, .nil, kk => rfl
  | _, _, .cons (k := k) _ t, kk => by
    rw [List.any_cons, List.any_cons, RK.any t kk, keyD_eq]
theorem RK.rep {K : PySem.W.Frag} {F : Hp} {d : PyData} {v : V} (hd : R K F d v) : ∀ {es : List (PyData × PyData)} {kvs : List (Key × V)}, RK K F es kvs → ∀ (kk : Key), RK K F (es.map fun p => if keyEq p.1 (keyD kk) then (p.1, d) else p) (kvs.map fun p => if p.1 = kk then (p.1, v) else p)
  | _, _, .nil, kk => .nil
  | _, _, .cons (k := k) h t, kk => by
    rw [List.map_cons, List.map_cons]
    by_cases e : k = kk
    · simp only [keyD_eq, e, decide_true, if_true]
      exact .cons hd (RK.rep hd t kk)
    · simp only [keyD_eq, e, decide_false, if_false]
      exact .cons h (RK.rep hd t kk)
theorem RK.put {K : PySem.W.Frag} {F : Hp} {es : List (PyData × PyData)} {kvs : List (Key × V)} {d : PyData} {v : V} (h : RK K F es kvs) (hd : R K F d v) (kk : Key) : RK K F (dPut es (keyD kk) d) (putK kvs kk v) := by
  unfold dPut putK
  rw [h.any kk]
  by_cases e : (kvs.any fun p => decide (p.1 = kk)) = true
  · rw [if_pos e, if_pos e]
    exact h.rep hd kk
  · rw [if_neg e, if_neg e]
    exact h.app (.cons hd .nil)
theorem keyD_kV {K : PySem.W.Frag} {w : Wd} {kk : Key} {v : V} (h : RN K w (keyD kk) v) : v = kV kk := by
  cases kk with
  | inl i => exact RN.int h
  | inr x => exact RN.str h

/-! ### comparisons -/
def intsOf : List PyData → Option (List Int)
  | [] => some []
  | .int i :: r => (intsOf r).map (i :: ·)
  | _ => none
theorem intsOf_eq : ∀ {xs : List PyData} {ns : List Int}, intsOf xs = some ns → xs = ns.map .int
  | [], ns, e => by cases e; rfl
  | .int i :: r, ns, e => by
    unfold intsOf at e
    cases q : intsOf r with
    | none =>
      rw [q] at e
      cases e
    | some ms =>
      rw [q] at e
      cases e
      rw [intsOf_eq q]
      rfl
  | .none :: _, _, e => by cases e
  | .bool _ :: _, _, e => by cases e
  | .str _ :: _, _, e => by cases e
  | .list _ :: _, _, e => by cases e
  | .tuple _ :: _, _, e => by cases e
  | .dict _ :: _, _, e => by cases e
@[simp] theorem intsOf_map : ∀ ns : List Int, intsOf (ns.map .int) = some ns
  | [] => rfl
  | n :: ns => by
    rw [List.map_cons]
    unfold intsOf
    rw [intsOf_map ns]
    rfl
theorem RA.intsV {K : PySem.W.Frag} {F : Hp} : ∀ {ns : List Int} {vs : List V}, RA K F (ns.map .int) vs → vs = ns.map V.int
  | [], _, .nil => rfl
  | n :: ns, _, .cons h t => by
    cases h
    rw [RA.intsV t]
    rfl
/-- one row of ints ahead of another -/
def ltL : List Int → List Int → Bool
  | [], [] => false
  | [], _ :: _ => true
  | _ :: _, [] => false
  | x :: xs, y :: ys => if x = y then ltL xs ys else decide (x < y)
theorem ltL_at {ns ms : List Int} : ∀ (k i : Nat), i + k = min ns.length ms.length → Ob.lexAt (fun j => decide (ns.getD j 0 = ms.getD j 0)) (fun j => decide (ns.getD j 0 < ms.getD j 0)) (decide (ns.length < ms.length)) i k = ltL (ns.drop i) (ms.drop i)
  | 0, i, h => by
    rw [Ob.lexAt_zero]
    have h1 : i ≤ ns.length := by omega
    have h2 : i ≤ ms.length := by omega
    by_cases q : ns.length < ms.length
    · have e1 : ns.drop i = [] := List.drop_eq_nil_of_le (by omega)
      have e2 : ms.drop i = ms[i] :: ms.drop (i + 1) := List.drop_eq_getElem_cons (by omega)
      rw [e1, e2, decide_eq_true q]
      rfl
    · have e2 : ms.drop i = [] := List.drop_eq_nil_of_le (by omega)
      rw [e2, decide_eq_false q]
      cases ns.drop i <;> rfl
  | k + 1, i, h => by
    have h1 : i < ns.length := by omega
    have h2 : i < ms.length := by omega
    rw [Ob.lexAt_succ, ltL_at k (i + 1) (by omega), List.drop_eq_getElem_cons h1, List.drop_eq_getElem_cons h2]
    have g1 : ns.getD i 0 = ns[i] := by simp [h1]
    have g2 : ms.getD i 0 = ms[i] := by simp [h2]
    rw [g1, g2]
    show _ = if ns[i] = ms[i] then ltL (ns.drop (i + 1)) (ms.drop (i + 1)) else decide (ns[i] < ms[i])
    by_cases q : ns[i] = ms[i]
    · rw [if_pos (decide_eq_true q), if_pos q]
    · rw [if_neg (by simpa using q), if_neg q]
def rLtT (K : PySem.W.Frag) : R2 := fun x y H Q => ∃ (a b : Addr) (ns ms : List Int), x = .ref a ∧ y = .ref b ∧ SqT K H a (ns.map V.int) ∧ SqT K H b (ms.map V.int) ∧ Q (.bl (ltL ns ms)) H
theorem op_ltT {X : Cx} (hu : X.A.units < cLine) : OpR X (compareOp .Lt) (rLtT X.K) := by
  intro pins s σ H x y v u Q I rx ry h
  obtain ⟨a, b, ns, ms, rfl, rfl, ha, hb, q⟩ := h
  cases rx
  cases ry
  obtain ⟨its, r1, p1, _⟩ := I.tuple ha
  obtain ⟨its2, r2, p2, _⟩ := I.tuple hb
  have i1 : IntsAre its ns := Vals.ints r1
  have i2 : IntsAre its2 ms := Vals.ints r2
  have e1 : its.toArray.size = ns.length := by rw [List.size_toArray]; exact i1.length
  have e2 : its2.toArray.size = ms.length := by rw [List.size_toArray]; exact i2.length
  have at1 : ∀ j (h1 : j < its.toArray.size), ∃ t, its.toArray[j] = .int (ns.getD j 0) t := fun j h1 => PyProof.Rows.IntsAre.int_at i1 _ _ (by simp at h1; simp [h1])
  have at2 : ∀ j (h1 : j < its2.toArray.size), ∃ t, its2.toArray[j] = .int (ms.getD j 0) t := fun j h1 => PyProof.Rows.IntsAre.int_at i2 _ _ (by simp at h1; simp [h1])
  have R := Ob.RcOp.tuples_lt (A := X.A) (s := s) (e := fun j => decide (ns.getD j 0 = ms.getD j 0)) (r := fun j => decide (ns.getD j 0 < ms.getD j 0)) p1 p2 hu (fun j h1 h2 => by
    obtain ⟨t, et⟩ := at1 j h1
    obtain ⟨t', et'⟩ := at2 j h2
    rw [et, et']
    have z : (ns.getD j 0 == ms.getD j 0) = decide (ns.getD j 0 = ms.getD j 0) := by
      by_cases q : ns.getD j 0 = ms.getD j 0
      · rw [decide_eq_true q]; exact beq_iff_eq.mpr q
      · rw [decide_eq_false q]; exact beq_eq_false_iff_ne.mpr q
    rw [← z]
    exact SeqAt.EqAt.int_int _ _ _ _) (fun j h1 h2 _ => by
    obtain ⟨t, et⟩ := at1 j h1
    obtain ⟨t', et'⟩ := at2 j h2
    rw [et, et']
    exact Ob.RcOp.lt_int _ _ _ _)
  rw [e1, e2, ltL_at _ 0 (by omega)] at R
  have z : wpAny (model X.prog X.w) X.A (compareOp .Lt (.ref a) (.ref b)) (EP X pins σ Q) X.xe s := R X.prog X.w X.xe (EP X pins σ Q) ⟨.bl _, H, I, rfl, q⟩
  exact z
def flatD : PyData → Bool
  | .none => true
  | .bool _ => true
  | .int _ => true
  | .str _ => true
  | _ => false
theorem flat_R {K : PySem.W.Frag} {F : Hp} {x : PyData} {v : V} (h : R K F x v) (f : flatD x = true) : flatV v = true := by
  cases h <;> first | rfl | simp [flatD] at f
theorem flat_RN {K : PySem.W.Frag} {w : Wd} {x : PyData} {v : V} (h : RN K w x v) (f : flatD x = true) : R K w.F x v := by
  rcases h with h | ⟨_, o, e, _⟩
  · exact h
  · subst e
    cases o <;> simp [dOf, insD, flatD] at f
theorem flat_eq {K : PySem.W.Frag} {F F' : Hp} {x y : PyData} {v u : V} (h : R K F x v) (g : R K F' y u) (f : flatD x = true) (f' : flatD y = true) : eqV v u = PyData.eqv x y := by
  cases h <;> first | (simp [flatD] at f; done) | skip
  all_goals (cases g <;> first | (simp [flatD] at f'; done) | simp [eqV, PyData.eqv])
theorem flat_any {K : PySem.W.Frag} {F F' : Hp} {x : PyData} {v : V} (h : R K F' x v) (f : flatD x = true) : ∀ {ys : List PyData} {vs : List V}, RA K F ys vs → ys.all flatD = true → vs.all flatV = true ∧ inV v vs = ys.any fun z => PyData.eqv z x
  | [], _, .nil, _ => ⟨rfl, rfl⟩
  | y :: ys, _, .cons g t, e => by
    rw [List.all_cons, Bool.and_eq_true] at e
    obtain ⟨h1, h2⟩ := flat_any h f t e.2
    unfold inV at h2 ⊢
    exact ⟨by rw [List.all_cons, flat_R g e.1, h1]; rfl, by rw [List.any_cons, List.any_cons, h2, flat_eq g h e.1 f]⟩
def inQ (x : PyData) (ys : List PyData) : Option Bool := if (flatD x && ys.all flatD) || (SeqAt.shaped x && PyData.canLayAll0 ys) then some (ys.any fun z => PyData.eqv z x) else none
/-- == where the lengths tell -/
def rEqZ (K : PySem.W.Frag) : R2 := fun x y H Q => ∃ (a b : Addr) (xs ys : List V) (k : Bool), x = .ref a ∧ y = .ref b ∧ ((SqT K H a xs ∧ SqT K H b [] ∧ k = xs.isEmpty) ∨ (SqL K H a xs ∧ SqL K H b ys ∧ xs.length ≠ ys.length ∧ k = false)) ∧ Q (.bl k) H
def rNeZ (K : PySem.W.Frag) : R2 := fun x y H Q => ∃ (a b : Addr) (xs ys : List V) (k : Bool), x = .ref a ∧ y = .ref b ∧ ((SqT K H a xs ∧ SqT K H b [] ∧ k = xs.isEmpty) ∨ (SqL K H a xs ∧ SqL K H b ys ∧ xs.length ≠ ys.length ∧ k = false)) ∧ Q (.bl (!k)) H
theorem op_eqZ {X : Cx} (hu : X.A.units < cLine) : OpR X (compareOp .Eq) (rEqZ X.K) := by
  intro pins s σ H x y v u Q I rx ry h
  obtain ⟨a, b, xs, ys, k, rfl, rfl, h, q⟩ := h
  cases rx
  cases ry
  rcases h with ⟨ha, hb, rfl⟩ | ⟨ha, hb, hl, rfl⟩
  · obtain ⟨its, r1, p1, _⟩ := I.tuple ha
    obtain ⟨its2, r2, p2, _⟩ := I.tuple hb
    cases r2
    have R := SeqAt.RcAt.tuples (A := X.A) (s := s) (e := fun _ => true) p1 p2 hu (fun j h1 h2 => absurd h2 (by simp))
    have e : ((List.range (min its.toArray.size ([] : List Value).toArray.size)).all (fun _ => true) && its.toArray.size == ([] : List Value).toArray.size) = xs.isEmpty := by
      cases r1 <;> simp
    rw [e] at R
    have z : wpAny (model X.prog X.w) X.A (compareOp .Eq (.ref a) (.ref b)) (EP X pins σ Q) X.xe s := R X.prog X.w X.xe (EP X pins σ Q) ⟨.bl _, H, I, rfl, q⟩
    exact z
  · obtain ⟨its, r1, p1, _⟩ := I.list ha
    obtain ⟨its2, r2, p2, _⟩ := I.list hb
    have R := SeqAt.RcAt.lists_lengths (A := X.A) (s := s) p1.isList p2.isList (by
      have h1 := r1.length
      have h2 := r2.length
      simp
      omega) hu
    have z : wpAny (model X.prog X.w) X.A (compareOp .Eq (.ref a) (.ref b)) (EP X pins σ Q) X.xe s := R X.prog X.w X.xe (EP X pins σ Q) ⟨.bl _, H, I, rfl, q⟩
    exact z
theorem op_neZ {X : Cx} (hu : X.A.units < cLine) : OpR X (compareOp .NotEq) (rNeZ X.K) := by
  intro pins s σ H x y v u Q I rx ry h
  obtain ⟨a, b, xs, ys, k, rfl, rfl, h, q⟩ := h
  cases rx
  cases ry
  rcases h with ⟨ha, hb, rfl⟩ | ⟨ha, hb, hl, rfl⟩
  · obtain ⟨its, r1, p1, _⟩ := I.tuple ha
    obtain ⟨its2, r2, p2, _⟩ := I.tuple hb
    cases r2
    have R := SeqAt.RcNeAt.tuples (A := X.A) (s := s) (e := fun _ => true) p1 p2 hu (fun j h1 h2 => absurd h2 (by simp))
    have e : ((List.range (min its.toArray.size ([] : List Value).toArray.size)).all (fun _ => true) && its.toArray.size == ([] : List Value).toArray.size) = xs.isEmpty := by
      cases r1 <;> simp
    rw [e] at R
    have z : wpAny (model X.prog X.w) X.A (compareOp .NotEq (.ref a) (.ref b)) (EP X pins σ Q) X.xe s := R X.prog X.w X.xe (EP X pins σ Q) ⟨.bl _, H, I, rfl, q⟩
    exact z
  · obtain ⟨its, r1, p1, _⟩ := I.list ha
    obtain ⟨its2, r2, p2, _⟩ := I.list hb
    have R := SeqAt.RcNeAt.lists_lengths (A := X.A) (s := s) p1.isList p2.isList (by
      have h1 := r1.length
      have h2 := r2.length
      simp
      omega) hu
    have z : wpAny (model X.prog X.w) X.A (compareOp .NotEq (.ref a) (.ref b)) (EP X pins σ Q) X.xe s := R X.prog X.w X.xe (EP X pins σ Q) ⟨.bl _, H, I, rfl, q⟩
    exact z
/-- == of data, where it is known -/
def eqQ (x y : PyData) : Option Bool :=
  match x, y with
  | .list xs, .list ys => if xs.length ≠ ys.length then some false else if SeqAt.shaped (.list xs) && SeqAt.shaped (.list ys) then some (PyData.eqv (.list xs) (.list ys)) else none
  | .tuple xs, .tuple [] => some xs.isEmpty
  | x, y => if SeqAt.shaped x && SeqAt.shaped y then some (PyData.eqv x y) else none
def isNoneD : PyData → Bool
  | .none => true
  | _ => false
def cmpS (op : CmpOp) (x y : PyData) : Option Bool :=
  match op with
  | .Eq => match x, y with
    | .str a, .str b => some (decide (a = b))
    | x, y => eqQ x y
  | .NotEq => match x, y with
    | .str a, .str b => some (!decide (a = b))
    | x, y => (eqQ x y).map (!·)
  | .Lt => match x, y with
    | .int i, .int j => some (decide (i < j))
    | .tuple xs, .tuple ys => match intsOf xs, intsOf ys with
      | some ns, some ms => some (ltL ns ms)
      | _, _ => none
    | _, _ => none
  | .LtE => match x, y with
    | .int i, .int j => some (decide (i ≤ j))
    | _, _ => none
  | .Gt => match x, y with
    | .int i, .int j => some (decide (j < i))
    | _, _ => none
  | .GtE => match x, y with
    | .int i, .int j => some (decide (j ≤ i))
    | _, _ => none
  | .Is => match y with
    | .none => some (isNoneD x)
    | .bool j => match x with
      | .bool i => some (decide (i = j))
      | _ => none
    | _ => none
  | .IsNot => match y with
    | .none => some (!isNoneD x)
    | .bool j => match x with
      | .bool i => some (!decide (i = j))
      | _ => none
    | _ => none
  | .In => match y with
    | .tuple ys => inQ x ys
    | .list ys => inQ x ys
    | .str t => match x with
      | .str s => some (!(Builtin.Str.occurrences t s 0 t.length 1).isEmpty)
      | _ => none
    | .dict es => if plainK es && keyB x then some (dGet es x).isSome else none
    | _ => none
  | .NotIn => match y with
    | .tuple ys => (inQ x ys).map (!·)
    | .list ys => (inQ x ys).map (!·)
    | .str t => match x with
      | .str s => some (!(!(Builtin.Str.occurrences t s 0 t.length 1).isEmpty))
      | _ => none
    | .dict es => if plainK es && keyB x then some (!(dGet es x).isSome) else none
    | _ => none
theorem non_iff {K : PySem.W.Frag} {w : Wd} {x : PyData} {v : V} (h : RN K w x v) : isNoneD x = decide (v = .non) := by
  rcases h with h | ⟨_, o, rfl, rfl, _⟩
  · cases h <;> simp [isNoneD]
  · cases o <;> simp [isNoneD, dOf, insD]
theorem RN.dp {K : PySem.W.Frag} {w : Wd} (s : Same w.F w.H) {x : PyData} {v : V} (h : RN K w x v) (c : x.canLay0 = true) : Dp K w.H v x := (h.now s).dp (Same.refl _) c
theorem in_room {A : Around} {xs : List PyData} {d : PyData} (h : SeqAt.shaped d = true) (hu : A.units + 65 < cLine) : A.units + 1 + min (PyData.depthAll xs) d.depth < cLine := by
  have := SeqAt.depth_of_shaped h
  have : min (PyData.depthAll xs) d.depth ≤ d.depth := Nat.min_le_right _ _
  omega
def rInT (K : PySem.W.Frag) (neg : Bool) : R2 := fun x y H Q => ∃ d ds, Dp K H x d ∧ (Dp K H y (.tuple ds) ∨ Dp K H y (.list ds)) ∧ SeqAt.shaped d = true ∧ PyData.canLayAll0 ds = true ∧ Q (.bl (if neg then !ds.any fun z => PyData.eqv z d else ds.any fun z => PyData.eqv z d)) H
theorem op_inT (hu : X.A.units + 65 < cLine) : OpR X (compareOp .In) (rInT X.K false) := by
  intro pins s sg H x y v u Q I rx ry h
  obtain ⟨d, ds, hd, he, sd, se, q⟩ := h
  obtain ⟨as, r1⟩ := Dp.reads I d x v hd rx
  rcases he with he | he
  · obtain ⟨bs, r2⟩ := Dp.reads I (.tuple ds) y u he ry
    exact SeqAt.in_tuple_reads r2 r1 se (SeqAt.canLay_of_shaped sd) (in_room sd hu) ⟨.bl _, H, I, rfl, q⟩
  · obtain ⟨bs, r2⟩ := Dp.reads I (.list ds) y u he ry
    exact SeqAt.in_list_reads r2 r1 se (SeqAt.canLay_of_shaped sd) (in_room sd hu) ⟨.bl _, H, I, rfl, q⟩
theorem op_notInT (hu : X.A.units + 65 < cLine) : OpR X (compareOp .NotIn) (rInT X.K true) := by
  intro pins s sg H x y v u Q I rx ry h
  obtain ⟨d, ds, hd, he, sd, se, q⟩ := h
  obtain ⟨as, r1⟩ := Dp.reads I d x v hd rx
  rcases he with he | he
  · obtain ⟨bs, r2⟩ := Dp.reads I (.tuple ds) y u he ry
    exact SeqAt.notIn_tuple_reads r2 r1 se (SeqAt.canLay_of_shaped sd) (in_room sd hu) ⟨.bl _, H, I, rfl, q⟩
  · obtain ⟨bs, r2⟩ := Dp.reads I (.list ds) y u he ry
    exact SeqAt.notIn_list_reads r2 r1 se (SeqAt.canLay_of_shaped sd) (in_room sd hu) ⟨.bl _, H, I, rfl, q⟩
def rInK (neg : Bool) : R2 := fun x y H Q => ∃ a kvs k, x = kV k ∧ y = .ref a ∧ H a = some (.dK kvs) ∧ Q (.bl (if neg then !(valV kvs k).isSome else (valV kvs k).isSome)) H
theorem op_inK (hu : X.A.units + 1 < cLine) : OpR X (compareOp .In) (rInK false) := by
  intro pins s sg H x y v u Q I rx ry ⟨a, kvs, k, ex, ey, h, q⟩
  subst ex ey
  obtain rfl : u = Value.ref a := ry
  exact d_in hu I (DGet.k h) rx fun s' I' => ⟨.bl _, H, I', rfl, q⟩
theorem op_notInK (hu : X.A.units + 1 < cLine) : OpR X (compareOp .NotIn) (rInK true) := by
  intro pins s sg H x y v u Q I rx ry ⟨a, kvs, k, ex, ey, h, q⟩
  subst ex ey
  obtain rfl : u = Value.ref a := ry
  exact d_notIn hu I (DGet.k h) rx fun s' I' => ⟨.bl _, H, I', rfl, q⟩
theorem RK.isSome {K : PySem.W.Frag} {F : Hp} {es : List (PyData × PyData)} {kvs : List (Key × V)} (h : RK K F es kvs) (kk : Key) : (dGet es (keyD kk)).isSome = (valV kvs kk).isSome := by
  obtain ⟨h1, h2⟩ := h.val kk
  cases e : dGet es (keyD kk) with
  | none => rw [h2 e] <;> rfl
  | some d =>
    obtain ⟨v, e2, _⟩ := h1 d e
    rw [e2] <;> rfl
theorem Ctx.u1 (C : Ctx X B) : X.A.units + 1 < cLine := by have := C.rm.un; omega
theorem Ctx.u64 (C : Ctx X B) : X.A.units + 64 < cLine := by have := C.rm.un; omega
theorem Ctx.u65 (C : Ctx X B) : X.A.units + 65 < cLine := by have := C.rm.un; omega
theorem eqQ_ok {x y : PyData} {k : Bool} {w : Wd} {u v : V} {T : Bool → Prop} {G : Prop} (C : Ctx X B) (r : Rep X.K w) (ha : RN X.K w x u) (hb : RN X.K w y v) (e : eqQ x y = some k)
    (h1 : ∀ d e, Dp X.K w.H u d → Dp X.K w.H v e → SeqAt.shaped d = true → SeqAt.shaped e = true → T (PyData.eqv d e) → G)
    (h2 : (∃ (a b : Addr) (xs ys : List V) (k : Bool), u = .ref a ∧ v = .ref b ∧ ((SqT X.K w.H a xs ∧ SqT X.K w.H b [] ∧ k = xs.isEmpty) ∨ (SqL X.K w.H a xs ∧ SqL X.K w.H b ys ∧ xs.length ≠ ys.length ∧ k = false)) ∧ T k) → G) (q : T k) : G := by
  have s := r.sub
  have shp : ∀ {d : PyData}, SeqAt.shaped d = true → d.canLay0 = true := fun h => SeqAt.canLay_of_shaped h
  unfold eqQ at e
  split at e
  · rename_i xs ys
    obtain ⟨a, vs, rfl, g1, g2⟩ := ha.lst s
    obtain ⟨b, ws, rfl, g3, g4⟩ := hb.lst s
    split at e
    · rename_i hl
      cases e
      exact h2 ⟨a, b, vs, ws, false, rfl, rfl, .inr ⟨g1.sq, g3.sq, by rw [← g2.len, ← g4.len]; exact hl, rfl⟩, q⟩
    · split at e
      · rename_i hs
        simp only [Bool.and_eq_true] at hs
        cases e
        exact h1 _ _ (ha.dp s (shp hs.1)) (hb.dp s (shp hs.2)) hs.1 hs.2 q
      · cases e
  · rename_i xs
    cases e
    obtain ⟨a, vs, rfl, g1, g2⟩ := ha.tup
    obtain ⟨b, ws, rfl, g3, g4⟩ := hb.tup
    cases g4
    refine h2 ⟨a, b, vs, [], _, rfl, rfl, .inl ⟨sqt_mono s g1, sqt_mono s g3, rfl⟩, ?_⟩
    cases g2 <;> exact q
  · split at e
    · rename_i hs
      simp only [Bool.and_eq_true] at hs
      cases e
      exact h1 _ _ (ha.dp s (shp hs.1)) (hb.dp s (shp hs.2)) hs.1 hs.2 q
    · cases e
theorem cmp_ok {op : CmpOp} {x y : PyData} {k : Bool} {w : Wd} {u v : V} {Q : VK} (C : Ctx X B) (r : Rep X.K w) (ha : RN X.K w x u) (hb : RN X.K w y v) (e : cmpS op x y = some k) (q : Q (.bl k) w.H) : anyR X (compareOp op) u v w.H Q := by
  have s := r.sub
  have shp : ∀ {d : PyData}, SeqAt.shaped d = true → d.canLay0 = true := fun h => SeqAt.canLay_of_shaped h
  cases op
  · -- Eq
    unfold cmpS at e
    dsimp only at e
    split at e
    · rename_i a b
      cases e
      rw [ha.str, hb.str]
      exact ⟨_, op_eq, rfl, by rw [show decide (V.str a = V.str b) = decide (a = b) from by simp]; exact q⟩
    · exact eqQ_ok C r ha hb e (fun d e h1 h2 h3 h4 q => ⟨_, op_eqD C.u64, d, e, h1, h2, h3, h4, q⟩) (fun h => ⟨_, op_eqZ (by have := C.u64; omega), h⟩) q
  · unfold cmpS at e
    dsimp only at e
    split at e
    · rename_i a b
      cases e
      rw [ha.str, hb.str]
      exact ⟨_, op_ne, rfl, by rw [show decide (V.str a = V.str b) = decide (a = b) from by simp]; exact q⟩
    · cases e1 : eqQ x y with
      | none =>
        rw [e1] at e
        cases e
      | some k0 =>
        rw [e1] at e
        cases e
        exact eqQ_ok C r ha hb e1 (fun d e h1 h2 h3 h4 q => ⟨_, op_neD C.u64, d, e, h1, h2, h3, h4, q⟩) (fun h => ⟨_, op_neZ (by have := C.u64; omega), h⟩) q
  · cases x <;> try (cases e; done)
    all_goals (cases y <;> try (cases e; done))
    · cases e
      rw [ha.int, hb.int]
      exact ⟨_, op_lt, _, _, rfl, rfl, q⟩
    · rename_i xs ys
      have e : (match intsOf xs, intsOf ys with
        | some ns, some ms => some (ltL ns ms)
        | _, _ => none) = some k := e
      split at e
      · rename_i ns ms e1 e2
        cases e
        obtain ⟨a, vs, rfl, h1, h2⟩ := ha.tup
        obtain ⟨b, us, rfl, h3, h4⟩ := hb.tup
        rw [intsOf_eq e1] at h2
        rw [intsOf_eq e2] at h4
        have q1 := h2.intsV
        have q2 := h4.intsV
        subst q1 q2
        exact ⟨_, op_ltT (by have := C.rm.un; omega), a, b, ns, ms, rfl, rfl, sqt_mono s h1, sqt_mono s h3, q⟩
      · cases e
  · cases x <;> try (cases e; done)
    cases y <;> try (cases e; done)
    cases e
    rw [ha.int, hb.int]
    exact ⟨_, op_le, _, _, rfl, rfl, q⟩
  · cases x <;> try (cases e; done)
    cases y <;> try (cases e; done)
    cases e
    rw [ha.int, hb.int]
    exact ⟨_, op_gt, _, _, rfl, rfl, q⟩
  · cases x <;> try (cases e; done)
    cases y <;> try (cases e; done)
    cases e
    rw [ha.int, hb.int]
    exact ⟨_, op_ge, _, _, rfl, rfl, q⟩
  · -- Is
    cases y <;> try (cases e; done)
    · cases e
      rw [non_iff ha] at q
      rw [hb.non]
      exact ⟨_, op_isN, rfl, q⟩
    · cases x <;> try (cases e; done)
      cases e
      rw [ha.bl, hb.bl]
      exact ⟨_, op_isBl, _, _, rfl, rfl, q⟩
  · cases y <;> try (cases e; done)
    · cases e
      rw [non_iff ha] at q
      rw [hb.non]
      exact ⟨_, op_notN, rfl, q⟩
    · cases x <;> try (cases e; done)
      cases e
      rw [ha.bl, hb.bl]
      exact ⟨_, op_notBl, _, _, rfl, rfl, q⟩
  · -- In
    cases y <;> try (cases e; done)
    · cases x <;> try (cases e; done)
      cases e
      rw [ha.str, hb.str]
      exact ⟨_, op_in_str, _, _, rfl, rfl, q⟩
    · rename_i ys
      have e : inQ x ys = some k := e
      unfold inQ at e
      split at e
      · rename_i hc
        cases e
        by_cases hf : (flatD x && ys.all flatD) = true
        · simp only [Bool.and_eq_true] at hf
          obtain ⟨a, vs, rfl, h1, h2⟩ := hb.lst s
          obtain ⟨g1, g2⟩ := flat_any (flat_RN ha hf.1) hf.1 h2 hf.2
          exact ⟨_, op_in_seq, a, vs, rfl, .inl h1.sq, flat_R (flat_RN ha hf.1) hf.1, g1, by rw [g2]; exact q⟩
        · have hs : SeqAt.shaped x = true ∧ PyData.canLayAll0 ys = true := by
            rw [Bool.not_eq_true] at hf
            rw [hf, Bool.false_or, Bool.and_eq_true] at hc
            exact hc
          exact ⟨_, op_inT C.u65, x, _, ha.dp s (shp hs.1), .inr (hb.dp s (by simpa [PyData.canLay0] using hs.2)), hs.1, hs.2, q⟩
      · cases e
    · rename_i ys
      have e : inQ x ys = some k := e
      unfold inQ at e
      split at e
      · rename_i hc
        cases e
        by_cases hf : (flatD x && ys.all flatD) = true
        · simp only [Bool.and_eq_true] at hf
          obtain ⟨a, vs, rfl, h1, h2⟩ := hb.tup
          obtain ⟨g1, g2⟩ := flat_any (flat_RN ha hf.1) hf.1 h2 hf.2
          exact ⟨_, op_in_seq, a, vs, rfl, .inr (sqt_mono s h1), flat_R (flat_RN ha hf.1) hf.1, g1, by rw [g2]; exact q⟩
        · have hs : SeqAt.shaped x = true ∧ PyData.canLayAll0 ys = true := by
            rw [Bool.not_eq_true] at hf
            rw [hf, Bool.false_or, Bool.and_eq_true] at hc
            exact hc
          exact ⟨_, op_inT C.u65, x, _, ha.dp s (shp hs.1), .inl (hb.dp s (by simpa [PyData.canLay0] using hs.2)), hs.1, hs.2, q⟩
      · cases e
    · unfold cmpS at e
      dsimp only at e
      split at e
      · rename_i hs
        simp only [Bool.and_eq_true] at hs
        cases e
        obtain ⟨kk, rfl⟩ := keyD_of hs.2
        obtain ⟨a, kvs, rfl, hH, rk⟩ := hb.dic s hs.1
        rw [rk.isSome kk] at q
        exact ⟨_, op_inK C.u1, a, kvs, kk, keyD_kV ha, rfl, hH, q⟩
      · cases e
  · cases y <;> try (cases e; done)
    · cases x <;> try (cases e; done)
      cases e
      rw [ha.str, hb.str]
      exact ⟨_, op_notin_str, _, _, rfl, rfl, q⟩
    · rename_i ys
      have e : (inQ x ys).map (!·) = some k := e
      unfold inQ at e
      split at e
      · rename_i hc
        cases e
        by_cases hf : (flatD x && ys.all flatD) = true
        · simp only [Bool.and_eq_true] at hf
          obtain ⟨a, vs, rfl, h1, h2⟩ := hb.lst s
          obtain ⟨g1, g2⟩ := flat_any (flat_RN ha hf.1) hf.1 h2 hf.2
          exact ⟨_, op_notIn_seq, a, vs, rfl, .inl h1.sq, flat_R (flat_RN ha hf.1) hf.1, g1, by rw [g2]; exact q⟩
        · have hs : SeqAt.shaped x = true ∧ PyData.canLayAll0 ys = true := by
            rw [Bool.not_eq_true] at hf
            rw [hf, Bool.false_or, Bool.and_eq_true] at hc
            exact hc
          exact ⟨_, op_notInT C.u65, x, _, ha.dp s (shp hs.1), .inr (hb.dp s (by simpa [PyData.canLay0] using hs.2)), hs.1, hs.2, q⟩
      · cases e
    · rename_i ys
      have e : (inQ x ys).map (!·) = some k := e
      unfold inQ at e
      split at e
      · rename_i hc
        cases e
        by_cases hf : (flatD x && ys.all flatD) = true
        · simp only [Bool.and_eq_true] at hf
          obtain ⟨a, vs, rfl, h1, h2⟩ := hb.tup
          obtain ⟨g1, g2⟩ := flat_any (flat_RN ha hf.1) hf.1 h2 hf.2
          exact ⟨_, op_notIn_seq, a, vs, rfl, .inr (sqt_mono s h1), flat_R (flat_RN ha hf.1) hf.1, g1, by rw [g2]; exact q⟩
        · have hs : SeqAt.shaped x = true ∧ PyData.canLayAll0 ys = true := by
            rw [Bool.not_eq_true] at hf
            rw [hf, Bool.false_or, Bool.and_eq_true] at hc
            exact hc
          exact ⟨_, op_notInT C.u65, x, _, ha.dp s (shp hs.1), .inl (hb.dp s (by simpa [PyData.canLay0] using hs.2)), hs.1, hs.2, q⟩
      · cases e
    · unfold cmpS at e
      dsimp only at e
      split at e
      · rename_i hs
        simp only [Bool.and_eq_true] at hs
        cases e
        obtain ⟨kk, rfl⟩ := keyD_of hs.2
        obtain ⟨a, kvs, rfl, hH, rk⟩ := hb.dic s hs.1
        rw [rk.isSome kk] at q
        exact ⟨_, op_notInK C.u1, a, kvs, kk, keyD_kV ha, rfl, hH, q⟩
      · cases e
def twoB (g : PyData → PyData → Option Bool) (o1 o2 : OV) : Pg Bool := look o1 fun x => look o2 fun y => optP (g x y)
theorem twoB_ok {g : PyData → PyData → Option Bool} {o1 o2 : OV} {m : Mem} {P : Bool → Mem → Prop} {E : Exn → Mem → Prop} (h : (twoB g o1 o2 m).wp P E) : ∃ x y k, lk o1 m = some x ∧ lk o2 m = some y ∧ g x y = some k ∧ P k m := by
  obtain ⟨x, e1, h⟩ := look_ok h
  obtain ⟨y, e2, h⟩ := look_ok h
  obtain ⟨k, e3, h⟩ := wp_opt h
  exact ⟨x, y, k, e1, e2, e3, h⟩
def evCmpT (op : CmpOp) (fa fb : Pg EV) : Pg Bool := .bind fa fun v => .bind fb fun u => twoB (cmpS op) (opnd v) (opnd u)
def asV (f : Pg Bool) : Pg EV := .bind f fun k => .ret (.d (.bool k))
theorem sndT_cmp {op : CmpOp} (C : Ctx X B) (ha : Snd X B a fa) (hb : Snd X B b fb) (hm : behindInMarks op b = false := by rfl) : SndT X B (.Compare a [op] [b] pos) (evCmpT op fa fb) := by
  intro w Q r h
  refine wt_of (pt_cmpR op_any pe_w pe_w hm) ?_
  refine snd_then ha r h fun v w1 x e1 f1 r1 re h1 => ?_
  rw [← e1]
  refine snd_then hb r1 h1 fun u w2 y e2 f2 r2 re2 h2 => ?_
  obtain ⟨d1, d2, k, q1, q2, ez, q⟩ := twoB_ok h2
  have o1 := ((re.ro r1).fol r1 f2).rn r2 q1
  have o2 := (re2.ro r2).rn r2 q2
  exact cmp_ok C r2 o1 o2 ez ⟨k, rfl, q w2 rfl (e2.trans e1) (f1.trans f2) r2⟩
theorem snd_cmp {op : CmpOp} (C : Ctx X B) (ha : Snd X B a fa) (hb : Snd X B b fb) (hm : behindInMarks op b = false := by rfl) : Snd X B (.Compare a [op] [b] pos) (asV (evCmpT op fa fb)) := by
  intro w Q r h
  refine we_of (pe_cmpR op_any pe_w pe_w hm) ?_
  have h := wp_bind h
  refine snd_then ha r h fun v w1 x e1 f1 r1 re h1 => ?_
  rw [← e1]
  refine snd_then hb r1 h1 fun u w2 y e2 f2 r2 re2 h2 => ?_
  obtain ⟨d1, d2, k, q1, q2, ez, q⟩ := twoB_ok h2
  have o1 := ((re.ro r1).fol r1 f2).rn r2 q1
  have o2 := (re2.ro r2).rn r2 q2
  exact cmp_ok C r2 o1 o2 ez (q w2 (.bl k) rfl (e2.trans e1) (f1.trans f2) r2 (.bl k))
/-- a op1 b op2 c -/
def evChainT (op op' : CmpOp) (fa fb fc : Pg EV) : Pg Bool := .bind fa fun v => .bind fb fun u => .bind (twoB (cmpS op) (opnd v) (opnd u)) fun k => if k then .bind fc fun z => twoB (cmpS op') (opnd u) (opnd z) else .ret false
theorem sndT_chain {op op' : CmpOp} (C : Ctx X B) (ha : Snd X B a fa) (hb : Snd X B b fb) (hc : Snd X B c fc) (hm : lastMarks [op, op'] [b, c] = false := by with_unfolding_all rfl) : SndT X B (.Compare a [op, op'] [b, c] pos) (evChainT op op' fa fb fc) := by
  intro w Q r h
  refine wt_of (pt_chain op_any op_any pe_w pe_w pe_w hm) ?_
  refine snd_then ha r h fun v w1 x e1 f1 r1 re h1 => ?_
  rw [← e1]
  refine snd_then hb r1 h1 fun u w2 y e2 f2 r2 re2 h2 => ?_
  obtain ⟨d1, d2, k, q1, q2, ez, q⟩ := twoB_ok (wp_bind h2)
  have o1 := ((re.ro r1).fol r1 f2).rn r2 q1
  have o2' := re2.ro r2
  have o2 := o2'.rn r2 q2
  refine cmp_ok C r2 o1 o2 ez ⟨k, rfl, ?_⟩
  cases k with
  | false => exact ⟨false, rfl, q w2 rfl (e2.trans e1) (f1.trans f2) r2⟩
  | true =>
    rw [← e2]
    refine iteT ?_
    have q' : (Pg.bind fc (fun z => twoB (cmpS op') (opnd u) (opnd z)) w2.m).wp (PostT X.K w Q) (XW X.K B w2) := q
    refine snd_then hc r2 q' fun z w3 y3 e3 f3 r3 re3 h3 => ?_
    obtain ⟨d1', d2', k', q1', q2', ez', q''⟩ := twoB_ok h3
    have p1 := (o2'.fol r2 f3).rn r3 q1'
    have p2 := (re3.ro r3).rn r3 q2'
    exact cmp_ok C r3 p1 p2 ez' ⟨k', rfl, q'' w3 rfl (e3.trans (e2.trans e1)) (f1.trans (f2.trans f3)) r3⟩
theorem snd_chain {op op' : CmpOp} (C : Ctx X B) (ha : Snd X B a fa) (hb : Snd X B b fb) (hc : Snd X B c fc) (hm : lastMarks [op, op'] [b, c] = false := by with_unfolding_all rfl) : Snd X B (.Compare a [op, op'] [b, c] pos) (asV (evChainT op op' fa fb fc)) := by
  intro w Q r h
  refine we_of (pe_chain op_any op_any pe_w pe_w pe_w hm) ?_
  have h := wp_bind h
  refine snd_then ha r h fun v w1 x e1 f1 r1 re h1 => ?_
  rw [← e1]
  refine snd_then hb r1 h1 fun u w2 y e2 f2 r2 re2 h2 => ?_
  obtain ⟨d1, d2, k, q1, q2, ez, q⟩ := twoB_ok (wp_bind h2)
  have o1 := ((re.ro r1).fol r1 f2).rn r2 q1
  have o2' := re2.ro r2
  have o2 := o2'.rn r2 q2
  refine cmp_ok C r2 o1 o2 ez ⟨k, rfl, ?_⟩
  cases k with
  | false => exact q w2 (.bl false) rfl (e2.trans e1) (f1.trans f2) r2 (.bl false)
  | true =>
    rw [← e2]
    refine iteT ?_
    have q' : (Pg.bind fc (fun z => twoB (cmpS op') (opnd u) (opnd z)) w2.m).wp (fun k m' => (Pg.ret (EV.d (.bool k)) m').wp (PostE X.K w Q) (XW X.K B w)) (XW X.K B w2) := q
    refine snd_then hc r2 q' fun z w3 y3 e3 f3 r3 re3 h3 => ?_
    obtain ⟨d1', d2', k', q1', q2', ez', q''⟩ := twoB_ok h3
    have p1 := (o2'.fol r2 f3).rn r3 q1'
    have p2 := (re3.ro r3).rn r3 q2'
    exact cmp_ok C r3 p1 p2 ez' (q'' w3 (.bl k') rfl (e3.trans (e2.trans e1)) (f1.trans (f2.trans f3)) r3 (.bl k'))

/-! ### truth -/
def truD : PyData → Option Bool
  | .none => some false
  | .bool b => some b
  | .int i => some (i != 0)
  | .str s => if s.length ≤ 16777216 then some ((s.length : Int) != 0) else none
  | .list xs => some (!xs.isEmpty)
  | .tuple xs => some (!xs.isEmpty)
  | .dict es => if plainK es then some (!es.isEmpty) else none
def truO (o : OV) : Pg Bool := look o fun x => optP (truD x)
theorem RK.emp {K : PySem.W.Frag} {F : Hp} {es : List (PyData × PyData)} {kvs : List (Key × V)} (h : RK K F es kvs) : es.isEmpty = kvs.isEmpty := by
  cases h <;> rfl
theorem RA.emp {K : PySem.W.Frag} {F : Hp} {es : List PyData} {kvs : List V} (h : RA K F es kvs) : es.isEmpty = kvs.isEmpty := by
  cases h <;> rfl
theorem tru_of {o : OV} {w : Wd} {v : V} {P : Bool → Mem → Prop} {E : Exn → Mem → Prop} (r : Rep X.K w) (h : RO X.K w o v) (hw : (truO o w.m).wp P E) : ∃ k, TruV X.K v w.H k ∧ P k w.m := by
  have s := r.sub
  obtain ⟨x, ex, hw⟩ := look_ok hw
  have h := h.rn r ex
  obtain ⟨k, ek, q⟩ := wp_opt hw
  refine ⟨k, ?_, q⟩
  cases x with
  | none =>
    cases ek
    rw [h.non]
    exact rfl
  | bool b =>
    cases ek
    rw [h.bl]
    exact rfl
  | int i =>
    cases ek
    rw [h.int]
    exact rfl
  | str t =>
    unfold truD at ek
    dsimp only at ek
    split at ek
    · rename_i hl
      cases ek
      rw [h.str]
      exact ⟨by rw [sizeLine_eq]; exact hl, rfl⟩
    · cases ek
  | list xs =>
    cases ek
    obtain ⟨a, vs, rfl, h1, h2⟩ := h.lst s
    exact .inl ⟨vs, h1.sq, by rw [h2.emp]⟩
  | tuple xs =>
    cases ek
    obtain ⟨a, vs, rfl, h1, h2⟩ := h.tup
    exact .inr (.inl ⟨vs, sqt_mono s h1, by rw [h2.emp]⟩)
  | dict es =>
    unfold truD at ek
    dsimp only at ek
    split at ek
    · rename_i hp
      cases ek
      obtain ⟨a, kvs, rfl, h1, h2⟩ := h.dic s hp
      exact .inr (.inr ⟨kvs, h1, by rw [h2.emp]⟩)
    · cases ek
def evTru (f : Pg EV) : Pg Bool := .bind f fun v => truO (opnd v)
theorem sndT_val (h : Snd X B e fa) (he : ∀ whole, isTrue e X.env whole = (do let v ← whole; standAt e.pos; holding [v] (truthy v)) := by intro _; rfl) : SndT X B e (evTru fa) := by
  intro w Q r hw
  refine wt_of (pt_truth pe_w he) ?_
  refine snd_then h r hw fun v w1 x e1 f1 r1 re h1 => ?_
  obtain ⟨k, hk, q⟩ := tru_of r1 (re.ro r1) h1
  exact ⟨k, hk, q w1 rfl e1 f1 r1⟩
variable {rest : List Expr} {ta tb tc : Pg Bool}
def evNotT (t : Pg Bool) : Pg Bool := .bind t fun k => .ret (!k)
def evAndT (t u : Pg Bool) : Pg Bool := .bind t fun k => if k then u else .ret false
def evOrT (t u : Pg Bool) : Pg Bool := .bind t fun k => if k then .ret true else u
theorem sndT_not (h : SndT X B a ta) : SndT X B (.UnaryOp .Not a pos) (evNotT ta) := by
  intro w Q r hw
  refine wt_of (pt_not pt_w) ?_
  refine sndT_then h r hw fun k w1 e1 f1 r1 q => ?_
  exact q w1 rfl e1 f1 r1
/-- a chain of and, or: its tail stands as a BoolOp of its own -/
def WW (X : Cx) (e : Expr) : TT := fun sg H Q => Cl (∀ (whole : Sem Value) (pins : List (Addr × Obj)) (s : Shared), L2.Inv X pins sg H s → wpAny (model X.prog X.w) X.A (isTrue e X.env whole) (TP X pins sg Q) X.xe s)
theorem pw_w : PW X e (WW X e) := ⟨fun wh pins s _ _ _ I h => h.go wh pins s I⟩
def SndW (X : Cx) (B : XBt) (e : Expr) (f : Pg Bool) : Prop := ∀ (w : Wd) (Q : Bool → Hp → Prop), Rep X.K w → (f w.m).wp (PostT X.K w Q) (XW X.K B w) → WW X e w.sg w.H Q
theorem sndW_and1 (h : SndT X B a ta) : SndW X B (.BoolOp .And [a] pos) ta := fun w Q r hw => ⟨fun wh pins s I => (pw_and1 (pt_w (e := a))).run wh pins s _ _ Q I (h w Q r hw)⟩
theorem sndW_or1 (h : SndT X B a ta) : SndW X B (.BoolOp .Or [a] pos) ta := fun w Q r hw => ⟨fun wh pins s I => (pw_or1 (pt_w (e := a))).run wh pins s _ _ Q I (h w Q r hw)⟩
theorem sndW_and (h : SndT X B a ta) (h' : SndW X B (.BoolOp .And (b :: rest) pos) tb) : SndW X B (.BoolOp .And (a :: b :: rest) pos) (evAndT ta tb) := by
  intro w Q r hw
  refine ⟨fun wh pins s I => ?_⟩
  refine (pw_and (pt_w (e := a)) pw_w).run wh pins s _ _ Q I ?_
  refine sndT_then h r hw fun k w1 e1 f1 r1 q => ?_
  cases k with
  | false => exact q w1 rfl e1 f1 r1
  | true =>
    rw [← e1]
    refine iteT (h' w1 Q r1 (q.imp (fun _ _ z w2 em es f r2 => z w2 em (es.trans e1) (f1.trans f) r2) fun _ _ z => z))
theorem sndW_or (h : SndT X B a ta) (h' : SndW X B (.BoolOp .Or (b :: rest) pos) tb) : SndW X B (.BoolOp .Or (a :: b :: rest) pos) (evOrT ta tb) := by
  intro w Q r hw
  refine ⟨fun wh pins s I => ?_⟩
  refine (pw_or (pt_w (e := a)) pw_w).run wh pins s _ _ Q I ?_
  refine sndT_then h r hw fun k w1 e1 f1 r1 q => ?_
  cases k with
  | true => exact q w1 rfl e1 f1 r1
  | false =>
    rw [← e1]
    refine iteF (h' w1 Q r1 (q.imp (fun _ _ z w2 em es f r2 => z w2 em (es.trans e1) (f1.trans f) r2) fun _ _ z => z))
theorem SndW.t (h : SndW X B e ta) : SndT X B e ta := fun w Q r hw => ⟨fun pins s I => (h w Q r hw).go _ pins s I⟩
/-- and, or, not as values -/
def evNot (f : Pg EV) : Pg EV := .bind f fun v => .bind (truO (opnd v)) fun k => .ret (.d (.bool (!k)))
def evAnd (f g : Pg EV) : Pg EV := .bind f fun v => .bind (truO (opnd v)) fun k => if k then g else .ret v
def evOr (f g : Pg EV) : Pg EV := .bind f fun v => .bind (truO (opnd v)) fun k => if k then .ret v else g
theorem snd_not (h : Snd X B a fa) : Snd X B (.UnaryOp .Not a pos) (evNot fa) := by
  intro w Q r hw
  refine we_of (pe_notT pe_w) ?_
  refine snd_then h r hw fun v w1 x e1 f1 r1 re h1 => ?_
  obtain ⟨k, hk, q⟩ := tru_of r1 (re.ro r1) (wp_bind h1)
  exact ⟨k, hk, q w1 (.bl (!k)) rfl e1 f1 r1 (.bl _)⟩
theorem snd_one {op} (h : Snd X B a fa) : Snd X B (.BoolOp op [a] pos) fa := fun w Q r hw => we_of (pe_one pe_w) (h w Q r hw)
theorem snd_and (h : Snd X B a fa) (h' : Snd X B (.BoolOp .And (b :: rest) pos) fb) : Snd X B (.BoolOp .And (a :: b :: rest) pos) (evAnd fa fb) := by
  intro w Q r hw
  refine we_of (pe_andT pe_w pe_w) ?_
  refine snd_then h r hw fun v w1 x e1 f1 r1 re h1 => ?_
  obtain ⟨k, hk, q⟩ := tru_of r1 (re.ro r1) (wp_bind h1)
  refine ⟨k, hk, ?_⟩
  cases k with
  | false => exact q w1 x rfl e1 f1 r1 re
  | true =>
    rw [← e1]
    exact iteT (h' w1 Q r1 (q.imp (fun _ _ z w2 y em es f r2 => z w2 y em (es.trans e1) (f1.trans f) r2) fun _ _ z => z))
theorem snd_or (h : Snd X B a fa) (h' : Snd X B (.BoolOp .Or (b :: rest) pos) fb) : Snd X B (.BoolOp .Or (a :: b :: rest) pos) (evOr fa fb) := by
  intro w Q r hw
  refine we_of (pe_orT pe_w pe_w) ?_
  refine snd_then h r hw fun v w1 x e1 f1 r1 re h1 => ?_
  obtain ⟨k, hk, q⟩ := tru_of r1 (re.ro r1) (wp_bind h1)
  refine ⟨k, hk, ?_⟩
  cases k with
  | true => exact q w1 x rfl e1 f1 r1 re
  | false =>
    rw [← e1]
    exact iteF (h' w1 Q r1 (q.imp (fun _ _ z w2 y em es f r2 => z w2 y em (es.trans e1) (f1.trans f) r2) fun _ _ z => z))
def evIf (t : Pg Bool) (f g : Pg EV) : Pg EV := .bind t fun k => if k then f else g
theorem snd_ifExp (hc : SndT X B c tc) (ha : Snd X B a fa) (hb : Snd X B b fb) : Snd X B (.IfExp c a b pos) (evIf tc fa fb) := by
  intro w Q r hw
  refine we_of (pe_ifExp pt_w pe_w pe_w) ?_
  refine sndT_then hc r hw fun k w1 e1 f1 r1 q => ?_
  rw [← e1]
  cases k with
  | true => exact iteT (ha w1 Q r1 (q.imp (fun _ _ z w2 y em es f r2 => z w2 y em (es.trans e1) (f1.trans f) r2) fun _ _ z => z))
  | false => exact iteF (hb w1 Q r1 (q.imp (fun _ _ z w2 y em es f r2 => z w2 y em (es.trans e1) (f1.trans f) r2) fun _ _ z => z))
end
end Ev

namespace Ev
open PySem PySem.Spec PyProof.Rows L2

/-! ### built-ins by name -/
section
variable {X : Cx} {B : XBt} {e : Expr} {es : List Expr} {pos p : Pos}
def BOk (X : Cx) (f : Value) (g : List PyData → Option EV) : Prop := ∀ (w : Wd) (ds : List PyData) (xs : List V) (v : EV) (Q : VK), Rep X.K w → Paired (RN X.K w) ds xs → g ds = some v → Keep X.K w v Q → ∃ r, CallR X f r ∧ r xs w.H Q
def dats : List OV → Mem → Option (List PyData)
  | [], _ => some []
  | o :: r, m => match lk o m, dats r m with
    | some x, some xs => some (x :: xs)
    | _, _ => none
theorem dats_ok {K : PySem.W.Frag} {w : Wd} (rp : Rep K w) : ∀ {os : List OV} {xs : List V} {ds : List PyData}, Paired (RO K w) os xs → dats os w.m = some ds → Paired (RN K w) ds xs
  | [], _, _, .nil, e => by
    cases e
    exact .nil
  | o :: r, _, ds, .cons h t, e => by
    unfold dats at e
    split at e
    · rename_i x xs q1 q2
      cases e
      exact .cons (h.rn rp q1) (dats_ok rp t q2)
    · cases e
def evBlt (g : List PyData → Option EV) (fo : Pg (List OV)) : Pg EV := .bind fo fun os => fun m => match dats os m with
  | some ds => optP (g ds) m
  | none => .bad
theorem anyC {X : Cx} {f : Value} : CallR X f (fun xs H Q => ∃ r, CallR X f r ∧ r xs H Q) := by
  intro pins s sg H xs us Q I rv h
  obtain ⟨r, hc, q⟩ := h
  exact hc pins s sg H xs us Q I rv q
theorem blt_end {f : Value} {g : List PyData → Option EV} {fo : Pg (List OV)} (hb : BOk X f g) (ha : SndO X B (e :: es) fo) {w : Wd} {Q : VK} (r : Rep X.K w) (hw : (evBlt g fo w.m).wp (PostE X.K w Q) (XW X.K B w)) :
    WA X (e :: es) w.sg w.H fun xs H => ∃ r, CallR X f r ∧ r xs H Q := by
  refine sndO_then ha r hw fun os w1 xs e1 f1 r1 ro h1 => ?_
  have h1 : (match dats os w1.m with
    | some ds => optP (g ds) w1.m
    | none => .bad : Res EV).wp _ _ := h1
  cases ed : dats os w1.m with
  | none =>
    rw [ed] at h1
    exact h1.elim
  | some ds =>
    rw [ed] at h1
    obtain ⟨v, ev, q⟩ := wp_opt h1
    exact hb w1 ds xs v Q r1 (dats_ok r1 ro ed) ev (PostE.keep q e1 f1)
theorem snd_blt {id : String} {x : Str} {g : List PyData → Option EV} {fo : Pg (List OV)} (hb : BOk X (.builtin id) g) (hg : Gl X x) (hm : X.mg x = none) (hv : bootBuiltins x = some (.builtin id)) (ha : SndO X B (e :: es) fo)
    (hn : x ≠ "__name__" := by decide) (hdb : (x == ("__debug__" : Str)) = false := by decide) (he : starEach (e :: es) X.env = (false, eval e X.env) :: starEach es X.env := by rfl) (hpl : (backTo pos (starEach es X.env)).any (·.1) = false := by rfl) :
    Snd X B (.Call (.Name x p) (e :: es) [] pos) (evBlt g fo) := fun w Q r hw => we_of (pe_callB anyC hg hm hv pa_w hn hdb he hpl) (blt_end hb ha r hw)
theorem snd_blty {id : String} {x : Str} {g : List PyData → Option EV} {fo : Pg (List OV)} (hb : BOk X (.type id) g) (hg : Gl X x) (hm : X.mg x = none) (hv : bootBuiltins x = some (.type id)) (ha : SndO X B (e :: es) fo)
    (hn : x ≠ "__name__" := by decide) (hdb : (x == ("__debug__" : Str)) = false := by decide) (he : starEach (e :: es) X.env = (false, eval e X.env) :: starEach es X.env := by rfl) (hpl : (backTo pos (starEach es X.env)).any (·.1) = false := by rfl) :
    Snd X B (.Call (.Name x p) (e :: es) [] pos) (evBlt g fo) := fun w Q r hw => we_of (pe_callTy anyC hg hm hv pa_w hn hdb he hpl) (blt_end hb ha r hw)

/-! ### len -/
def gLen : List PyData → Option EV
  | [.str s] => if s.length ≤ 16777216 then some (.d (.int s.length)) else none
  | [.list xs] => some (.d (.int xs.length))
  | [.tuple xs] => some (.d (.int xs.length))
  | [.dict es] => if plainK es then some (.d (.int es.length)) else none
  | _ => none
theorem ok_len : BOk X (.builtin "len") gLen := by
  intro w ds xs v Q r h e k
  cases h with
  | nil => cases e
  | @cons d x ds xs h t =>
    cases t with
    | cons _ _ => cases d <;> cases e
    | nil =>
      cases d <;> try (cases e; done)
      · rename_i z
        by_cases hz : z.length ≤ 16777216
        · rw [show gLen [.str z] = some (.d (.int z.length)) from if_pos hz] at e
          cases e
          rw [h.str]
          exact ⟨_, call_len, _, _, rfl, ⟨by rw [sizeLine_eq]; exact hz, rfl⟩, k.here r (.int _)⟩
        · rw [show gLen [.str z] = none from if_neg hz] at e
          cases e
      · cases e
        obtain ⟨a, vs, rfl, h1, h2⟩ := h.lst r.sub
        exact ⟨_, call_len, _, _, rfl, .inl ⟨vs, h1.sq, h2.len⟩, k.here r (.int _)⟩
      · cases e
        obtain ⟨a, vs, rfl, h1, h2⟩ := h.tup
        exact ⟨_, call_len, _, _, rfl, .inr ⟨vs, sqt_mono r.sub h1, h2.len⟩, k.here r (.int _)⟩
      · rename_i es
        have e : (if plainK es then some (EV.d (.int es.length)) else none) = some v := e
        split at e
        · rename_i hp
          cases e
          obtain ⟨a, kvs, rfl, h1, h2⟩ := h.dic r.sub hp
          exact ⟨_, call_lenD, a, kvs, rfl, h1, by rw [← h2.len]; exact k.here r (.int _)⟩
        · cases e

/-! ### repr -/
mutual
/-- data without instances -/
def plainD : PyData → Bool
  | .none => true
  | .bool _ => true
  | .int _ => true
  | .str _ => true
  | .list xs => plainDs xs
  | .tuple xs => plainDs xs
  | .dict es => plainDk es
def plainDs : List PyData → Bool
  | [] => true
  | x :: xs => plainD x && plainDs xs
def plainDk : List (PyData × PyData) → Bool
  | [] => true
  | (k, x) :: xs => keyB k && (plainD x && plainDk xs)
end
theorem sm_ne {pins : List (Addr × Obj)} {sg : L2.St} {H : Hp} {s : Shared} (I : L2.Inv X pins sg H s) (sm : SM X.base) {a : Addr} {o : Obj} (h : s.heap.get? a = some o) (hc : ∀ es ep, o.data ≠ .dict es ep) : sysModules ≠ a := by
  obtain ⟨u, es, ep, h1, h2⟩ := sm
  intro e
  have h3 := I.bk _ _ h1
  rw [e, h] at h3
  cases h3
  exact hc es ep h2
mutual
theorem R.reads {pins : List (Addr × Obj)} {sg : L2.St} {H : Hp} {s : Shared} (I : L2.Inv X pins sg H s) (sm : SM X.base) : ∀ {d : PyData} {v : V} {u : Value}, R X.K H d v → plainD d = true → RelV v u → ∃ as, Reads s.heap u d as ∧ sysModules ∉ as
  | _, _, _, .non, _, rv => by
    cases rv
    exact ⟨_, .none, by simp⟩
  | _, _, _, .bl b, _, rv => by
    cases rv
    exact ⟨_, .bool b, by simp⟩
  | _, _, _, .int i, _, ⟨t, e⟩ => by
    subst e
    exact ⟨_, .int i t, by simp⟩
  | _, _, _, .str x, _, ⟨t, e⟩ => by
    subst e
    exact ⟨_, .str x t, by simp⟩
  | .list ds, .ref a, _, .lst h ra, c, rv => by
    cases rv
    obtain ⟨_, its, n, rvs, _, ea⟩ := h.at I
    obtain ⟨as, q, z⟩ := RA.reads I sm ra (by simpa [plainD] using c) rvs
    refine ⟨_, .list ea rfl rfl q, fun hm => ?_⟩
    rcases List.mem_cons.mp hm with e | e
    · exact sm_ne I sm ea (fun _ _ z => by cases z) e
    · exact z e
  | .tuple ds, .ref a, _, .tup h ra, c, rv => by
    cases rv
    obtain ⟨its, rvs, ⟨o, h1, h2, n, h3⟩, _⟩ := I.tuple h
    obtain ⟨as, q, z⟩ := RA.reads I sm ra (by simpa [plainD] using c) rvs
    exact ⟨_, .tuple h1 h2 h3 q, z⟩
  | .dict es, .ref a, _, .dic h ra, c, rv => by
    cases rv
    obtain ⟨_, ns, vs, kv, dk⟩ := I.hok a _ h
    obtain ⟨bs, q, z⟩ := RK.reads I sm ra (by simpa [plainD] using c) kv
    refine ⟨_, PyProof.V.reads_dictOf (enc := keyD) (fun k key hk => ?_) dk q, fun hm => ?_⟩
    · rcases keyIs_shape hk with ⟨i, t, rfl, rfl⟩ | ⟨x, t, rfl, rfl⟩
      · exact .int i t
      · exact .str x t
    · rcases List.mem_cons.mp hm with e | e
      · rw [← e] at ns
        simp at ns
      · exact z e
  | .dict _, .ref a, _, .ins _ _ _ _, c, rv => by simp [plainD, plainDk, keyB] at c
  | .dict _, .ref a, _, .cls _, c, rv => by simp [plainD, plainDk, keyB] at c
  | .dict _, .ref a, _, .exn0 _ _, c, rv => by simp [plainD, plainDk, keyB] at c
  | .dict _, .ref a, _, .exn _ _ _ _, c, rv => by simp [plainD, plainDk, keyB] at c
theorem RA.reads {pins : List (Addr × Obj)} {sg : L2.St} {H : Hp} {s : Shared} (I : L2.Inv X pins sg H s) (sm : SM X.base) : ∀ {ds : List PyData} {vs : List V} {us : List Value}, RA X.K H ds vs → plainDs ds = true → Vals vs us → ∃ as, ReadsAll s.heap us ds as ∧ sysModules ∉ as
  | _, _, _, .nil, _, .nil => ⟨_, .nil, by simp⟩
  | _, _, _, .cons h ra, c, .cons rv rvs => by
    simp only [plainDs, Bool.and_eq_true] at c
    obtain ⟨as, q1, z1⟩ := R.reads I sm h c.1 rv
    obtain ⟨bs, q2, z2⟩ := RA.reads I sm ra c.2 rvs
    exact ⟨_, .cons q1 q2, fun hm => (List.mem_append.mp hm).elim z1 z2⟩
theorem RK.reads {pins : List (Addr × Obj)} {sg : L2.St} {H : Hp} {s : Shared} (I : L2.Inv X pins sg H s) (sm : SM X.base) : ∀ {es : List (PyData × PyData)} {kvs : List (Key × V)} {us : List (Key × Value)}, RK X.K H es kvs → plainDk es = true → KV kvs us → ∃ as, PyProof.V.PairsRead s.heap keyD us es as ∧ sysModules ∉ as
  | _, _, _, .nil, _, .nil => ⟨_, .nil, by simp⟩
  | _, _, (k, u) :: us, .cons h ra, c, .cons rv rvs => by
    obtain ⟨e, rv⟩ := rv
    have e : _ = k := e
    subst e
    simp only [plainDk, Bool.and_eq_true] at c
    obtain ⟨as, q1, z1⟩ := R.reads I sm h c.2.1 rv
    obtain ⟨bs, q2, z2⟩ := RK.reads I sm ra c.2.2 rvs
    exact ⟨_, .cons q1 q2, fun hm => (List.mem_append.mp hm).elim z1 z2⟩
end
def reprOk (d : PyData) : Bool := d.showable && decide (d.depth ≤ 64) && plainD d && decide (d.shown.length ≤ 16777216)
def rRepr (K : PySem.W.Frag) : List V → Hp → VK → Prop := fun xs H Q => ∃ x d, xs = [x] ∧ R K H d x ∧ reprOk d = true ∧ Q (.str d.shown) H
theorem call_reprD (C : Ctx X B) : CallR X (.builtin "repr") (rRepr X.K) := by
  rintro pins s sg H xs us Q I rv ⟨x, d, rfl, hd, ok, q⟩
  obtain ⟨u, rfl, rx⟩ := vals1 rv
  unfold reprOk at ok
  simp only [Bool.and_eq_true, decide_eq_true_eq] at ok
  obtain ⟨⟨⟨o1, o2⟩, o3⟩, o4⟩ := ok
  have sz : d.shown.length ≤ sizeLine := by rw [sizeLine_eq]; exact o4
  have obj : ∀ {a : Addr}, R X.K H d (.ref a) → RelV (.ref a) u → wpAny (model X.prog X.w) X.A (call (.builtin "repr") [u]) (EP X pins sg Q) X.xe s := fun {a} hd rx => by
    obtain ⟨as, rd, ns⟩ := R.reads I C.sm hd o3 rx
    cases rx
    refine repr_of_reads' rd o1 (fun _ => ns) C.gd ?_ (fun _ _ z => z) (fun h' u tk hk => ⟨.str _, H, I.kept (t' := tk) hk, ⟨_, rfl⟩, q⟩) sz
    have := C.rm.un
    omega
  cases hd with
  | non =>
    cases rx
    refine PySem.P.repr_of_none ⟨.str _, H, I.tok _, ⟨_, rfl⟩, ?_⟩
    rw [PyData.shown_none] at q
    exact q
  | bl b =>
    cases rx
    refine PySem.P.repr_of_bool ⟨.str _, H, I.tok _, ⟨_, rfl⟩, ?_⟩
    rw [PyData.shown_bool] at q
    exact q
  | int i =>
    obtain ⟨t, rfl⟩ := rx
    refine PySem.P.repr_of_int (by simpa [PyData.showable] using o1) ⟨.str _, H, I.tok _, ⟨_, rfl⟩, ?_⟩
    rw [PyData.shown_int] at q
    exact q
  | str y =>
    obtain ⟨t, rfl⟩ := rx
    rw [PyData.shown_str] at q sz
    exact PySem.P.repr_of_str ⟨.str _, H, I.tok _, ⟨_, rfl⟩, q⟩ sz
  | lst h ra => exact obj (.lst h ra) rx
  | tup h ra => exact obj (.tup h ra) rx
  | dic h ra => exact obj (.dic h ra) rx
  | ins _ _ _ _ => simp [plainD, plainDk, keyB] at o3
  | cls _ => simp [plainD, plainDk, keyB] at o3
  | exn0 _ _ => simp [plainD, plainDk, keyB] at o3
  | exn _ _ _ _ => simp [plainD, plainDk, keyB] at o3
def gRepr : List PyData → Option EV
  | [x] => if reprOk x then some (.d (.str x.shown)) else none
  | _ => none
theorem ok_repr (C : Ctx X B) : BOk X (.builtin "repr") gRepr := by
  intro w ds xs v Q r h e k
  cases h with
  | nil => cases e
  | @cons d x ds xs h t =>
    cases t with
    | cons _ _ => cases e
    | nil =>
      unfold gRepr at e
      dsimp only at e
      split at e
      · rename_i hz
        cases e
        exact ⟨_, call_reprD C, x, d, rfl, h.now r.sub, hz, k.here r (.str _)⟩
      · cases e

/-! ### int, abs, min, max -/
def gAbs : List PyData → Option EV
  | [.int i] => some (.d (.int (if i < 0 then -i else i)))
  | _ => none
theorem ok_abs : BOk X (.builtin "abs") gAbs := by
  intro w ds xs v Q r h e k
  cases h with
  | nil => cases e
  | @cons d x ds xs h t =>
    cases t with
    | cons _ _ => cases d <;> cases e
    | nil =>
      cases d <;> try (cases e; done)
      cases e
      rw [h.int]
      exact ⟨_, call_abs, _, rfl, k.here r (.int _)⟩
def gInt : List PyData → Option EV
  | [.int i] => some (.d (.int i))
  | [.bool b] => some (.d (.int (if b then 1 else 0)))
  | _ => none
theorem ok_int : BOk X (.type "int") gInt := by
  intro w ds xs v Q r h e k
  cases h with
  | nil => cases e
  | @cons d x ds xs h t =>
    cases t with
    | cons _ _ => cases d <;> cases e
    | nil =>
      cases d <;> try (cases e; done)
      · cases e
        rw [h.bl]
        exact ⟨_, call_int1, .inr ⟨_, rfl, k.here r (.int _)⟩⟩
      · cases e
        rw [h.int]
        exact ⟨_, call_int1, .inl ⟨_, rfl, k.here r (.int _)⟩⟩
def gMin : List PyData → Option EV
  | [.int i, .int j] => some (.d (.int (if j < i then j else i)))
  | _ => none
theorem ok_min (C : Ctx X B) : BOk X (.builtin "min") gMin := by
  intro w ds xs v Q r h e k
  cases h with
  | nil => cases e
  | @cons d x ds xs h t =>
    cases t with
    | nil => cases d <;> cases e
    | @cons d2 x2 ds2 xs2 h2 t2 =>
      cases t2 with
      | cons _ _ => cases d <;> cases d2 <;> cases e
      | nil =>
        cases d <;> try (cases e; done)
        cases d2 <;> try (cases e; done)
        cases e
        rw [h.int, h2.int]
        exact ⟨_, call_min2 C.calm, _, _, rfl, k.here r (.int _)⟩
def gMax : List PyData → Option EV
  | [.int i, .int j] => some (.d (.int (if j > i then j else i)))
  | _ => none
theorem ok_max (C : Ctx X B) : BOk X (.builtin "max") gMax := by
  intro w ds xs v Q r h e k
  cases h with
  | nil => cases e
  | @cons d x ds xs h t =>
    cases t with
    | nil => cases d <;> cases e
    | @cons d2 x2 ds2 xs2 h2 t2 =>
      cases t2 with
      | cons _ _ => cases d <;> cases d2 <;> cases e
      | nil =>
        cases d <;> try (cases e; done)
        cases d2 <;> try (cases e; done)
        cases e
        rw [h.int, h2.int]
        exact ⟨_, call_max2 C.calm, _, _, rfl, k.here r (.int _)⟩

/-! ### tuple, list -/
def gTuple : List PyData → Option EV
  | [.list xs] => some (.d (.tuple xs))
  | [.tuple xs] => some (.d (.tuple xs))
  | _ => none
theorem ok_tuple : BOk X (.type "tuple") gTuple := by
  intro w ds xs v Q r h e k
  cases h with
  | nil => cases e
  | @cons d x ds xs h t =>
    cases t with
    | cons _ _ => cases d <;> cases e
    | nil =>
      cases d <;> try (cases e; done)
      · cases e
        obtain ⟨a, vs, rfl, h1, h2⟩ := h.lst r.sub
        exact ⟨_, call_tuple_of, a, vs, rfl, .inl ⟨h1.sq, fun p hp => k.tup r h2 hp⟩⟩
      · cases e
        obtain ⟨a, vs, rfl, h1, h2⟩ := h.tup
        exact ⟨_, call_tuple_of, a, vs, rfl, .inr ⟨sqt_mono r.sub h1, k.here r (.tup h1 h2)⟩⟩
def gList : List PyData → Option EV
  | [.list xs] => some (.fresh xs)
  | [.tuple xs] => some (.fresh xs)
  | _ => none
theorem ok_list : BOk X (.type "list") gList := by
  intro w ds xs v Q r h e k
  cases h with
  | nil => cases e
  | @cons d x ds xs h t =>
    cases t with
    | cons _ _ => cases d <;> cases e
    | nil =>
      cases d <;> try (cases e; done)
      · cases e
        obtain ⟨a, vs, rfl, h1, h2⟩ := h.lst r.sub
        exact ⟨_, call_list_of, a, vs, rfl, .inl h1.sq, fun p hp => k.lst r h2 hp⟩
      · cases e
        obtain ⟨a, vs, rfl, h1, h2⟩ := h.tup
        exact ⟨_, call_list_of, a, vs, rfl, .inr (sqt_mono r.sub h1), fun p hp => k.lst r h2 hp⟩

/-! ### all, any of bools -/
def boolsOf : List PyData → Option (List Bool)
  | [] => some []
  | .bool b :: r => match boolsOf r with
    | some bs => some (b :: bs)
    | none => none
  | _ => none
theorem boolsOf_ok {K : PySem.W.Frag} {F : Hp} : ∀ {ds : List PyData} {vs : List V} {bs : List Bool}, RA K F ds vs → boolsOf ds = some bs → vs = bs.map V.bl
  | [], _, _, .nil, e => by
    cases e
    rfl
  | .bool b :: r, _, _, .cons h t, e => by
    unfold boolsOf at e
    cases q : boolsOf r with
    | none =>
      rw [q] at e
      cases e
    | some zs =>
      rw [q] at e
      cases e
      cases h
      rw [boolsOf_ok t q]
      rfl
  | .none :: _, _, _, _, e => by cases e
  | .int _ :: _, _, _, _, e => by cases e
  | .str _ :: _, _, _, _, e => by cases e
  | .list _ :: _, _, _, _, e => by cases e
  | .tuple _ :: _, _, _, _, e => by cases e
  | .dict _ :: _, _, _, _, e => by cases e
def gAll : List PyData → Option EV
  | [.list xs] => match boolsOf xs with
    | some bs => some (.d (.bool (bs.all id)))
    | none => none
  | _ => none
theorem ok_all (C : Ctx X B) : BOk X (.builtin "all") gAll := by
  intro w ds xs v Q r h e k
  cases h with
  | nil => cases e
  | @cons d x ds xs h t =>
    cases t with
    | cons _ _ => cases d <;> cases e
    | nil =>
      cases d <;> try (cases e; done)
      unfold gAll at e
      dsimp only at e
      split at e
      · rename_i bs hb
        cases e
        obtain ⟨a, vs, rfl, h1, h2⟩ := h.lst r.sub
        refine ⟨_, cr_all C.calm, a, bs, rfl, ?_, k.here r (.bl _)⟩
        rw [← boolsOf_ok h2 hb]
        exact h1.sq
      · cases e
def gAny : List PyData → Option EV
  | [.list xs] => match boolsOf xs with
    | some bs => some (.d (.bool (bs.any id)))
    | none => none
  | _ => none
theorem ok_any (C : Ctx X B) : BOk X (.builtin "any") gAny := by
  intro w ds xs v Q r h e k
  cases h with
  | nil => cases e
  | @cons d x ds xs h t =>
    cases t with
    | cons _ _ => cases d <;> cases e
    | nil =>
      cases d <;> try (cases e; done)
      unfold gAny at e
      dsimp only at e
      split at e
      · rename_i bs hb
        cases e
        obtain ⟨a, vs, rfl, h1, h2⟩ := h.lst r.sub
        refine ⟨_, cr_any C.calm, a, bs, rfl, ?_, k.here r (.bl _)⟩
        rw [← boolsOf_ok h2 hb]
        exact h1.sq
      · cases e

/-! ### isinstance with one built-in class -/
def tyName : PyData → Option String
  | .none => some "NoneType"
  | .bool _ => some "bool"
  | .int _ => some "int"
  | .str _ => some "str"
  | .list _ => some "list"
  | .tuple _ => some "tuple"
  | .dict es => if plainK es then some "dict" else none
theorem tyX_of {w : Wd} (s : Same w.F w.H) {d : PyData} {v : V} (h : RN X.K w d v) {t : String} (ht : tyName d = some t) : TyX X.K w.H v (.type t) := by
  cases h.now s with
  | non => cases ht; exact .base .non
  | bl b => cases ht; exact .base (.bl b)
  | int i => cases ht; exact .base (.int i)
  | str x => cases ht; exact .base (.str x)
  | lst hq ra =>
    cases ht
    rcases hq with (q | ⟨o, q⟩) | ⟨its, n, q, _⟩
    · exact .base (.lst q)
    · exact .base (.frz q)
    · exact .kList q rfl
  | tup hq ra =>
    cases ht
    rcases hq with (q | ⟨o, q⟩) | ⟨o, its, n, q, c, _⟩
    · exact .base (.tup q)
    · exact .fTuple q
    · exact .kTuple q c
  | dic hq ra =>
    unfold tyName at ht
    dsimp only at ht
    split at ht
    · cases ht
      exact .base (.dK hq)
    · cases ht
  | ins _ _ _ _ => simp [tyName, plainK, keyB] at ht
  | cls _ => simp [tyName, plainK, keyB] at ht
  | exn0 _ _ => simp [tyName, plainK, keyB] at ht
  | exn _ _ _ _ => simp [tyName, plainK, keyB] at ht
/-- isinstance(e, T) -/
def evIsi (T : String) (f : Pg EV) : Pg EV := .bind f fun v => look (opnd v) fun x => optP ((tyName x).bind fun t => (kitB t T).map fun b => EV.d (.bool b))
theorem snd_isi {T : String} {f : Pg EV} {p1 p2 : Pos} {x t : Str} (h : Snd X B e f) (hg : Gl X x) (hm : X.mg x = none) (hv : bootBuiltins x = some (.builtin "isinstance")) (hg2 : Gl X t) (hm2 : X.mg t = none) (hv2 : bootBuiltins t = some (.type T))
    (hn : x ≠ "__name__" := by decide) (hdb : (x == ("__debug__" : Str)) = false := by decide) (hn2 : t ≠ "__name__" := by decide) (hdb2 : (t == ("__debug__" : Str)) = false := by decide)
    (he : starEach [e, .Name t p2] X.env = (false, eval e X.env) :: starEach [.Name t p2] X.env := by rfl) : Snd X B (.Call (.Name x p1) [e, .Name t p2] [] pos) (evIsi T f) := by
  intro w Q r hw
  refine we_of (pe_callB call_isi hg hm hv (pa_cons pe_w (pa_cons (pe_bltn hg2 hm2 hv2 (v := .ty T) rfl hn2 hdb2) pa_nil) he) hn hdb he rfl) ?_
  refine snd_then h r hw fun v w1 y e1 f1 r1 re h1 => ?_
  obtain ⟨x, ex, h1⟩ := look_ok h1
  have ro := (re.ro r1).rn r1 ex
  obtain ⟨z, ez, q⟩ := wp_opt h1
  cases et : tyName x with
  | none =>
    rw [et] at ez
    cases ez
  | some t0 =>
    rw [et] at ez
    have ez : (kitB t0 T).map (fun b => EV.d (.bool b)) = some z := ez
    cases ek : kitB t0 T with
    | none =>
      rw [ek] at ez
      cases ez
    | some b =>
      rw [ek] at ez
      cases ez
      exact ⟨y, .ty T, _, _, b, rfl, .ty T, tyX_of r1.sub ro et, kit_ty ek, q w1 (.bl b) rfl e1 f1 r1 (.bl b)⟩
end
end Ev

namespace Ev
open PySem PySem.Spec PyProof.Rows L2

/-! ### own defs -/
/-- a def as a pure function: its arguments, the shared lists -/
abbrev Fn := List AV → Pg EV
def bare (w : Wd) : Wd := { F := w.F, ro := w.ro, m := ⟨[], w.m.cs⟩, sg := [], H := w.H, Z := fun a => w.H a ≠ none, T := w.T }
def callW (K : PySem.W.Frag) (g : Fn) (B : XBt) (w0 : Wd) (args : List AV) (Q : VK) : Prop :=
  (g args w0.m).wp (fun v m' => ∀ (w' : Wd) (x : V), w'.m.sl = [] → w'.m.cs = m'.cs → w'.sg = [] → FolS w0 w' → Rep K w' → RE K w' v x → Q x w'.H) (fun x m' => ∀ w' : Wd, w'.m.sl = [] → w'.m.cs = m'.cs → w'.sg = [] → FolS w0 w' → Rep K w' → B x w')
/-- what a def promises -/
def spG (K : PySem.W.Frag) (n : Nat) (g : Fn) : Sp := fun vs H Q E => ∃ (w0 : Wd) (args : List AV), w0.m.sl = [] ∧ w0.sg = [] ∧ w0.H = H ∧ (∀ a, H a ≠ none → w0.Z a) ∧ Rep K w0 ∧ Paired (RV K w0) args vs ∧ args.length = n ∧
  callW K g (fun x w' => ∀ cls d, ExAt K w' x cls d → E cls d w'.H) w0 args Q
structure FnG (P : Program) (w : World) (K : PySem.W.Frag) (mg : Str → Option Value) (base : Heap) (k : Nat) (f : Addr) (fd : FuncData) (ps : List Str) (sp : Sp) : Prop where
  len : ∀ vs H Q E, sp vs H Q E → vs.length = ps.length
  bnd : ∀ (A : Around) (outer : List Env) (s : Shared) (H : Hp) (args : Args) (Q : VK) (E : XK), A.guards = some [] → Room k A → Env0 P w K mg base A outer s H →
    StX.Bnd (L2.CX P w) P w K mg base fd args ps A outer s H E (fun vs H2 => sp vs H2 Q E) → codeAny (model P w) A (.call (.ref f) args) (CR (L2.CX P w) outer P w H s Q E) s
theorem FnG.go {P : Program} {w : World} {K : PySem.W.Frag} {mg : Str → Option Value} {base : Heap} {k : Nat} {f : Addr} {fd : FuncData} {ps : List Str} {sp : Sp} (F : FnG P w K mg base k f fd ps sp) (A : Around) (outer : List Env) (s : Shared) (H : Hp) (args : Args) (us : List Value) (vs : List V) (Q : VK) (E : XK)
    (hg : A.guards = some []) (hr : Room k A) (e0 : Env0 P w K mg base A outer s H) (hb : BindsTo s fd args (ps.zip us)) (r : Vals vs us) (h : sp vs H Q E) : codeAny (model P w) A (.call (.ref f) args) (CR (L2.CX P w) outer P w H s Q E) s :=
  F.bnd A outer s H args Q E hg hr e0 fun A' Ex Q' cont => hb _ _ _ _ (cont s H vs us e0 (Un.refl ..) rfl (fun _ _ z => z) r (F.len vs H Q E h) h)
theorem FnG.up {P : Program} {w : World} {K : PySem.W.Frag} {mg : Str → Option Value} {base : Heap} {j k : Nat} {f : Addr} {fd : FuncData} {ps : List Str} {sp : Sp} (F : FnG P w K mg base j f fd ps sp) (h : j ≤ k) : FnG P w K mg base k f fd ps sp :=
  ⟨F.len, fun A outer s H args Q E hg hr => F.bnd A outer s H args Q E hg (hr.mono h)⟩

theorem paired_len {α β : Type} {R : α → β → Prop} : ∀ {xs : List α} {ys : List β}, Paired R xs ys → xs.length = ys.length
  | _, _, .nil => rfl
  | _, _, .cons _ t => congrArg (· + 1) (paired_len t)
theorem spG_len {K : PySem.W.Frag} {n : Nat} {g : Fn} {ps : List Str} (h : n = ps.length) : ∀ vs H Q E, spG K n g vs H Q E → vs.length = ps.length := by
  rintro vs H Q E ⟨w0, args, _, _, _, _, _, hv, hn, _⟩
  rw [← paired_len hv, hn, h]

/-- from a caller's world to the callee's, and back -/
theorem bare_rep {K : PySem.W.Frag} {w : Wd} (r : Rep K w) : Rep K (bare w) :=
  ⟨r.sub, Nat.zero_le _, fun i v h => by simp [bare] at h, r.cs, r.ln, r.rf, r.nd, fun i j xs ys x h => by simp [bare] at h, fun a h => h, r.oo, r.tb⟩
theorem bare_rv {K : PySem.W.Frag} {w : Wd} : ∀ {vs : List AV} {xs : List V}, Paired (RV K w) vs xs → Paired (RV K (bare w)) vs xs
  | _, _, .nil => .nil
  | .d _ :: _, _, .cons h t => .cons h (bare_rv t)
  | .cell _ :: _, _, .cons h t => .cons h (bare_rv t)
def back (w w' : Wd) : Wd := { F := w'.F, ro := w'.ro, m := ⟨w.m.sl, w'.m.cs⟩, sg := w.sg, H := w'.H, Z := w.Z, T := w.T }
theorem back_ok {K : PySem.W.Frag} {w w' : Wd} (r : Rep K w) (f : FolS (bare w) w') (r' : Rep K w') : Rep K (back w w') ∧ FolE w (back w w') := by
  have zn : ∀ a, ¬ (bare w).Z a → w.H a = none := fun a h => Classical.byContradiction fun q => h q
  have kp : ∀ a o, w.H a = some o → a ∉ w.ro → (∀ ps, o ≠ .tbl ps) → w'.H a = some o := fun a o h n => f.frm a o h n (some_ne h)
  have tT : w'.T = w.T := f.t
  have nf : ∀ a, w.H a ≠ none → w.F a = none → w'.F a = none := fun a h n => Classical.byContradiction fun q => (f.grow a q).elim (fun z => z n) fun z => z h
  have nr : ∀ a, w.H a ≠ none → a ∉ w.ro → a ∉ w'.ro := fun a h n q => (f.new a q).elim n fun z => z h
  refine ⟨⟨r'.sub, r.le, fun i v h => ?_, r'.cs, r'.ln, r'.rf, r'.nd, r.ow, fun a h => f.liv a (r.zl a h), r'.oo, by have q := r'.tb; unfold TB TK at q ⊢; rw [tT] at q; exact q⟩, ⟨rfl, rfl, f.ext, f.pre, kp, fun a h => (f.new a h).imp id (zn a), f.liv, fun a h => (f.grow a h).imp id fun z q => r.zl a q (zn a z), fun a h => h⟩⟩
  obtain ⟨x, h1, h2⟩ := r.sl i v h
  refine ⟨x, h1, ?_⟩
  cases v with
  | d y => exact R.mono f.ext h2
  | ob ys =>
    obtain ⟨a, e, q1, q3, q4, q5⟩ := h2
    obtain ⟨u, hu⟩ := q1.live
    exact ⟨a, e, q1.keep f.ext (fun u z => kp a u z q4 (q1.ntbl z)) (fun d z => kp d _ z (r.noOwnDict z).1 (by intro _ q; cases q)) (fun _ _ z => z), nf a (some_ne hu) q3, nr a (some_ne hu) q4, q5⟩
  | cell n =>
    obtain ⟨a, e, q⟩ := h2
    exact ⟨a, e, f.at q⟩
  | thk t => exact ⟨h2.1, thk_up h2.2.1 f.ext f.pre, h2.2.2⟩
theorem back_re {K : PySem.W.Frag} {w w' : Wd} (r : Rep K w) (f : FolS (bare w) w') (hz : w'.m.sl = []) : ∀ {v : EV} {x : V}, RE K w' v x → RE K (back w w') v x
  | .d _, _, h => h
  | .cell _, _, h => h
  | .pk i o, _, ⟨h, _⟩ => by
    rw [hz] at h
    simp at h
  | .new o, _, ⟨a, e, h1, h3, h4, h5, _⟩ => by
    have h5 : ¬ (bare w).Z a := by
      rw [← f.z]
      exact h5
    have nn : w.H a = none := Classical.byContradiction fun q => h5 q
    refine ⟨a, e, h1.keep (Same.refl _) (fun _ z => z) (fun _ z => z) (fun d _ z => ?_), h3, h4, fun z => r.zl a z nn, fun ⟨i, ys, q1, q2⟩ => (r.ownAt (show Own w a from ⟨i, ys, q1, q2⟩)).1 nn⟩
    rw [f.z]
    exact r.zl d z

section
variable {X : Cx} {B : XBt} {e : Expr} {es : List Expr} {pos p : Pos}
/-- a call of an own def -/
def callS (g : Fn) (args : List AV) : Pg EV := fun m => match g args ⟨[], m.cs⟩ with
  | .ok v m' => .ok v ⟨m.sl, m'.cs⟩
  | .thr x m' => .thr x ⟨m.sl, m'.cs⟩
  | .bad => .bad
def evCall (g : Fn) (fa : Pg (List AV)) : Pg EV := .bind fa fun args => callS g args
theorem callS_ok {g : Fn} {w : Wd} {args : List AV} {P : EV → Mem → Prop} {E : Exn → Mem → Prop} (h : (callS g args w.m).wp P E) : (g args (bare w).m).wp (fun v m' => P v ⟨w.m.sl, m'.cs⟩) (fun x m' => E x ⟨w.m.sl, m'.cs⟩) := by
  unfold callS at h
  show (g args ⟨[], w.m.cs⟩).wp _ _
  cases q : g args ⟨[], w.m.cs⟩ with
  | ok v m' =>
    rw [q] at h
    exact h
  | thr x m' =>
    rw [q] at h
    exact h
  | bad =>
    rw [q] at h
    exact h
theorem call_end {g : Fn} {n : Nat} {w : Wd} {args : List AV} {xs : List V} {Q : VK} (r : Rep X.K w) (hn : args.length = n) (hv : Paired (RV X.K w) args xs) (h : (callS g args w.m).wp (fun v m' => PostE X.K w Q v m') (XW X.K B w)) :
    spG X.K n g xs w.H Q fun cls d H' => WXB X.K B cls d w.sg H' := by
  refine ⟨bare w, args, rfl, rfl, rfl, fun a h => h, bare_rep r, bare_rv hv, hn, ?_⟩
  refine (callS_ok h).imp (fun v m' q w' x e1 e2 e3 f r' re => ?_) fun x m' q w' e1 e2 e3 f r' cls d ex => ?_
  · obtain ⟨r2, f2⟩ := back_ok r f r'
    exact q (back w w') x (by show (⟨w.m.sl, w'.m.cs⟩ : Mem) = _; rw [e2]) rfl f2 r2 (back_re r f e1 re)
  · obtain ⟨r2, f2⟩ := back_ok r f r'
    exact ⟨x, back w w', r2, rfl, rfl, ex, q (back w w') (by show (⟨w.m.sl, w'.m.cs⟩ : Mem) = _; rw [e2]) (f2.s r) r2⟩
variable {k : Nat} {f : Addr} {fd : FuncData} {ps : List Str} {ds : List Value} {x : Str}
theorem pass_b {sg : L2.St} {H : Hp} {s s' : Shared} {pins : List (Addr × Obj)} {e : Value} (C : Ctx X B) (I : L2.Inv X pins sg H s) (h : L2.CX X.prog X.w X.stack H s (fun cls d H' => WXB X.K B cls d sg H') e s') : X.xe e s' :=
  C.tk _ _ (XE.of_call I (fun _ _ _ q => q) h)
theorem run_g {sp : Sp} {pins : List (Addr × Obj)} {sg : L2.St} {H : Hp} {s : Shared} {Q : VK} {us : List Value} {vs : List V} (C : Ctx X B) (F : FnG X.prog X.w X.K X.mg X.base k f fd ps sp) (hr : Room k X.A) (hb : Binds X.K fd ps ds) {dvs : List V} (hd : Vals dvs ds)
    (I : L2.Inv X pins sg H s) (rv : Vals vs us) (h : sp (vs ++ dvs) H Q fun cls d H' => WXB X.K B cls d sg H') : wpAny (model X.prog X.w) X.A (call (.ref f) us) (EP X pins sg Q) X.xe s := by
  have ra : Vals (vs ++ dvs) (us ++ ds) := rv.append hd
  have ln : (us ++ ds).length = ps.length := by
    have := F.len _ _ _ _ h
    rw [← ra.length]
    exact this
  refine wpAny_call (codeAny_mono (F.go X.A X.stack s H ⟨us, []⟩ (us ++ ds) (vs ++ dvs) Q _ C.gd hr I.env0 (hb s us I.kIn ln) ra h) fun r s' hq => ?_)
  match r, hq with
  | .error _, hq => exact pass_b C I hq
  | .ok (.ret u), hq => exact I.after hq
  | .ok .next, hq => exact (show False from hq).elim
  | .ok .brk, hq => exact (show False from hq).elim
  | .ok .cont, hq => exact (show False from hq).elim
/-- f(..), as tCall; what is raised is wanted at the slots -/
def tCallB (X : Cx) (B : XBt) (sp : Sp) (dvs : List V) (t : TA) : TE := fun sg H Q => t sg H fun vs H1 => sp (vs ++ dvs) H1 Q fun cls d H' => WXB X.K B cls d sg H'
theorem pe_g {sp : Sp} {t : TA} (C : Ctx X B) (F : FnG X.prog X.w X.K X.mg X.base k f fd ps sp) (hr : Room k X.A) (hg : Gl X x) (hm : X.mg x = some (.ref f)) (hk : PySem.W.keepIn X.K (.ref f) = true) (hb : Binds X.K fd ps ds) {dvs : List V} (hd : Vals dvs ds) (ha : PA X (e :: es) t)
    (hdb : (x == ("__debug__" : Str)) = false := by decide) (he : starEach (e :: es) X.env = (false, eval e X.env) :: starEach es X.env := by rfl) (hpl : (backTo pos (starEach es X.env)).any (·.1) = false := by rfl) : PE X (.Call (.Name x p) (e :: es) [] pos) (tCallB X B sp dvs t) :=
  ⟨fun pins s sg H Q I h => wpAny_Call_Name_kw (ld_glob I hg hm (PySem.W.callWith_K (h₀ := X.base) I.ok.mod.kin hk (thn (ha.run pos pins s sg H _ I h) fun us s1 ⟨vs, H1, I1, rv, q⟩ => ⟨I1.kIn, run_g C F hr hb hd I1 rv q⟩) he hpl) hdb)⟩
theorem pe_g0 {sp : Sp} (C : Ctx X B) (F : FnG X.prog X.w X.K X.mg X.base k f fd ps sp) (hr : Room k X.A) (hg : Gl X x) (hm : X.mg x = some (.ref f)) (hk : PySem.W.keepIn X.K (.ref f) = true) (hb : Binds X.K fd ps ds) {dvs : List V} (hd : Vals dvs ds)
    (hdb : (x == ("__debug__" : Str)) = false := by decide) : PE X (.Call (.Name x p) [] [] pos) (tCallB X B sp dvs tNil) :=
  ⟨fun pins s sg H Q I h => wpAny_Call_Name_kw (ld_glob I hg hm (PySem.W.callWith_K0 I.kIn hk (run_g (us := []) C F hr hb hd I .nil h)) hdb)⟩
/-- the def that a name of the module holds -/
structure Has (X : Cx) (k : Nat) (x : Str) (ps : List Str) (g : Fn) : Prop where
  ex : ∃ (f : Addr) (fd : FuncData), FnG X.prog X.w X.K X.mg X.base k f fd ps (spG X.K ps.length g) ∧ X.mg x = some (.ref f) ∧ PySem.W.keepIn X.K (.ref f) = true ∧ Binds X.K fd ps []
def argsN (n : Nat) (fa : Pg (List AV)) : Pg (List AV) := .bind fa fun vs => if vs.length = n then .ret vs else .stuck
theorem snd_call {g : Fn} {n : Nat} {fa : Pg (List AV)} (C : Ctx X B) (h : Has X k x ps g) (hn : ps.length = n) (hr : Room k X.A) (hg : Gl X x) (ha : SndA X B (e :: es) fa)
    (hdb : (x == ("__debug__" : Str)) = false := by decide) (he : starEach (e :: es) X.env = (false, eval e X.env) :: starEach es X.env := by rfl) (hpl : (backTo pos (starEach es X.env)).any (·.1) = false := by rfl) : Snd X B (.Call (.Name x p) (e :: es) [] pos) (evCall g (argsN n fa)) := by
  subst hn
  obtain ⟨f, fd, F, hm, hk, hb⟩ := h.ex
  intro w Q r hw
  refine we_of (pe_g C F hr hg hm hk hb .nil pa_w hdb he hpl) ?_
  have hw := wp_bind (wp_bind hw)
  refine ha w _ r (hw.imp (fun vs m' q w1 xs em e1 f1 r1 rv => ?_) fun _ _ q => q)
  subst em
  show spG X.K ps.length g (xs ++ []) w1.H Q _
  rw [List.append_nil]
  by_cases hl : vs.length = ps.length
  · rw [if_pos hl] at q
    have q2 : (callS g vs w1.m).wp (PostE X.K w1 Q) (XW X.K B w1) := Res.wp.imp q (fun v m' z w2 y em es f2 r2 re => z w2 y em (es.trans e1) (f1.trans f2) r2 re) fun _ _ z => z.fol (f1.s r)
    have z := call_end r1 hl rv q2
    rw [e1] at z
    exact z
  · rw [if_neg hl] at q
    exact q.elim
end
end Ev

namespace Ev
open PySem PySem.Spec PyProof.Rows L2

/-! ### a def by its body -/
def toS : AV → SV
  | .d x => .d x
  | .cell n => .cell n
def startS (n : Nat) (args : List AV) : List (Option SV) := args.map (fun a => some (toS a)) ++ List.replicate (n - args.length) none
def outE : EV → EV
  | .d x => .d x
  | .new o => .new o
  | .pk _ o => .new o
  | .cell n => .cell n
def endR : Res Fl → Res EV
  | .ok (.ret v) m => .ok (outE v) ⟨[], m.cs⟩
  | .ok .next m => .ok (.d .none) ⟨[], m.cs⟩
  | .thr x m => .thr x ⟨[], m.cs⟩
  | _ => .bad
def runFn (n : Nat) (fb : Pg Fl) : Fn := fun args m => endR (fb ⟨startS n args, m.cs⟩)
theorem endR_ok {r : Res Fl} {P : EV → Mem → Prop} {E : Exn → Mem → Prop} (h : (endR r).wp P E) : r.wp (fun fl m => match fl with
    | .ret v => P (outE v) ⟨[], m.cs⟩
    | .next => P (.d .none) ⟨[], m.cs⟩
    | _ => False) (fun x m => E x ⟨[], m.cs⟩) := by
  cases r with
  | bad => exact h
  | thr x m => exact h
  | ok fl m =>
    cases fl with
    | next => exact h
    | brk => exact h
    | cont => exact h
    | ret v => exact h
theorem rv_map {K : PySem.W.Frag} {w : Wd} : ∀ {args : List AV} {vs : List V}, Paired (RV K w) args vs → ∀ (i : Nat) (v : SV), (args.map fun a => some (toS a))[i]? = some (some v) → ∃ x, (vs.map some)[i]? = some (some x) ∧ RS K w v x ∧ ∀ xs, v ≠ .ob xs
  | _, _, .nil, _, _, h => by simp at h
  | a :: _, x :: _, .cons h t, 0, v, e => by
    simp at e
    subst e
    refine ⟨x, by simp, ?_⟩
    cases a with
    | d y => exact ⟨h, fun _ z => by cases z⟩
    | cell n => exact ⟨h, fun _ z => by cases z⟩
  | _ :: _, _ :: _, .cons _ t, i + 1, v, e => by
    obtain ⟨x, h1, h2⟩ := rv_map t i v (by simpa using e)
    exact ⟨x, by simpa using h1, h2⟩
theorem start_slot {α : Type} {l : List (Option α)} {k i : Nat} {v : α} (h : (l ++ List.replicate k none)[i]? = some (some v)) : l[i]? = some (some v) := by
  by_cases q : i < l.length
  · rw [List.getElem?_append_left q] at h
    exact h
  · rw [List.getElem?_append_right (by omega), List.getElem?_replicate] at h
    split at h <;> cases h
/-- the callee's own world at its entry -/
def entry (N : List Str) (w0 : Wd) (args : List AV) (vs : List V) : Wd := { F := w0.F, ro := w0.ro, m := ⟨startS N.length args, w0.m.cs⟩, sg := start N vs, H := w0.H, Z := w0.Z, T := w0.T }
theorem entry_rep {K : PySem.W.Frag} {N : List Str} {w0 : Wd} {args : List AV} {vs : List V} (r : Rep K w0) (hv : Paired (RV K w0) args vs) : Rep K (entry N w0 args vs) := by
  have ln := paired_len hv
  have get : ∀ (i : Nat) (v : SV), (startS N.length args)[i]? = some (some v) → ∃ x, (start N vs)[i]? = some (some x) ∧ RS K w0 v x ∧ ∀ xs, v ≠ .ob xs := fun i v h => by
    obtain ⟨x, h1, h2⟩ := rv_map hv i v (start_slot h)
    refine ⟨x, ?_, h2⟩
    show (vs.map some ++ List.replicate (N.length - vs.length) none)[i]? = some (some x)
    rw [List.getElem?_append_left (List.getElem?_eq_some_iff.mp h1).1]
    exact h1
  refine ⟨r.sub, ?_, fun i v h => ?_, r.cs, r.ln, r.rf, r.nd, fun i j xs ys x h1 h2 _ _ => ?_, r.zl, r.oo, r.tb⟩
  · show (startS N.length args).length ≤ (start N vs).length
    unfold startS L2.start
    simp only [List.length_append, List.length_map, List.length_replicate, ln]
    exact Nat.le_refl _
  · obtain ⟨x, h1, h2, h3⟩ := get i v h
    refine ⟨x, h1, ?_⟩
    cases v with
    | d y => exact h2
    | ob xs => exact absurd rfl (h3 xs)
    | cell n => exact h2
    | thk t => exact h2
  · obtain ⟨x, _, _, h3⟩ := get i _ h1
    exact absurd rfl (h3 xs)
theorem out_re {K : PySem.W.Frag} {w : Wd} (r : Rep K w) {v : EV} {x : V} (h : RE K w v x) : RE K { w with m := ⟨[], w.m.cs⟩, sg := [] } (outE v) x := by
  cases v with
  | d y => exact h
  | cell n => exact h
  | new o =>
    obtain ⟨a, e, h1, h3, h4, h5, _⟩ := h
    exact ⟨a, e, h1, h3, h4, h5, fun ⟨i, ys, q, _⟩ => by simp at q⟩
  | pk i o =>
    obtain ⟨h1, h2⟩ := h
    obtain ⟨y, h3, a, e, q1, q3, q4, q5⟩ := r.sl i _ h1
    rw [h2] at h3
    cases h3
    exact ⟨a, e, q1, q3, q4, q5, fun ⟨i, ys, q, _⟩ => by simp at q⟩
theorem out_rep {K : PySem.W.Frag} {w : Wd} (r : Rep K w) : Rep K { w with m := ⟨[], w.m.cs⟩, sg := [] } := ⟨r.sub, Nat.zero_le _, fun i v h => by simp at h, r.cs, r.ln, r.rf, r.nd, fun i j xs ys x h => by simp at h, r.zl, r.oo, r.tb⟩
section
variable {P : Program} {w : World} {K : PySem.W.Frag} {mg : Str → Option Value} {base : Heap}
theorem fun_g {x qual : Str} {st : Stmt} {f : Addr} {fd : FuncData} {N ps : List Str} {k : Nat} {fb : Pg Fl} (F : Fun K x qual st f fd) (S : FnScope N ps (defScope st)) (sm : SM base)
    (hbody : ∀ (cdv : Value) (A : Around) (outer : List Env) (s : Shared) (H : Hp) (E : XK) (B : XBt), Ctx (cxOf (L2.CX P w) P w K mg base N qual (defScope st) f cdv A outer s H E) B → PassesOwn (model P w) (cxOf (L2.CX P w) P w K mg base N qual (defScope st) f cdv A outer s H E).A (cxOf (L2.CX P w) P w K mg base N qual (defScope st) f cdv A outer s H E).env (cxOf (L2.CX P w) P w K mg base N qual (defScope st) f cdv A outer s H E).xe →
      Room k (cxOf (L2.CX P w) P w K mg base N qual (defScope st) f cdv A outer s H E).A →
      SndB (cxOf (L2.CX P w) P w K mg base N qual (defScope st) f cdv A outer s H E) B (defBody st) fb) : FnG P w K mg base (k + 1) f fd ps (spG K ps.length (runFn N.length fb)) := by
  obtain ⟨oc, od, kV, doc, pm, an, cdv, ct, osl, rfl, lk, hcd⟩ := F.ex
  refine ⟨spG_len rfl, fun A outer s H args Q E hg hr e0 hb => ?_⟩
  refine StX.run_bnd (k := k) lk hcd S hr e0 hb fun s2 H2 vs hsp rm => ?_
  obtain ⟨w0, as, z1, z2, z3, zz, r0, rv, hn, hc⟩ := hsp
  subst z3
  let B : XBt := fun x w' => ∀ cls d, ExAt K w' x cls d → E cls d w'.H
  have C : Ctx (cxOf (L2.CX P w) P w K mg base N qual (defScope st) f cdv A outer s2 w0.H E) B := ⟨rfl, hg, rm.mono (Nat.zero_le _), S.nd, sm, (takes_of rfl rfl rfl rfl).imp fun cls d sg H ⟨x, w', _, _, eH, ex, b⟩ => eH ▸ b cls d ex⟩
  have body := hbody cdv A outer s2 w0.H E B C (passes_of rfl) rm
  have re := entry_rep (N := N) r0 rv
  have hw : (fb (entry N w0 as vs).m).wp (PostS K (entry N w0 as vs) { nx := fun _ H' => Q .non H', rt := Q }) (XW K B (entry N w0 as vs)) := by
    refine (endR_ok (r := fb ⟨startS N.length as, w0.m.cs⟩) hc).imp (fun fl m' q w' em fol r' => ?_) fun x m' q w' em fol r' => ?_
    · subst em
      have fo : FolS w0 { w' with m := ⟨[], w'.m.cs⟩, sg := [] } := ⟨fol.z, fol.t, fol.ext, fol.pre, fol.frm, fol.new, fol.liv, fol.grow⟩
      cases fl with
      | next => exact q { w' with m := ⟨[], w'.m.cs⟩, sg := [] } .non rfl rfl rfl fo (out_rep r') .non
      | brk => exact q.elim
      | cont => exact q.elim
      | ret v => exact fun x re => q { w' with m := ⟨[], w'.m.cs⟩, sg := [] } x rfl rfl rfl fo (out_rep r') (out_re r' re)
    · subst em
      exact fun cls d ex => q { w' with m := ⟨[], w'.m.cs⟩, sg := [] } rfl rfl rfl ⟨fol.z, fol.t, fol.ext, fol.pre, fol.frm, fol.new, fol.liv, fol.grow⟩ (out_rep r') cls d ex
  exact ⟨_, pb_w, body (entry N w0 as vs) _ re hw⟩
end
end Ev

namespace Ev
open PySem PySem.Spec PyProof.Rows L2

/-! ### a slot is set -/
def setM (m : Mem) (i : Nat) (v : SV) : Mem := { m with sl := m.sl.set i (some v) }
def setW (w : Wd) (i : Nat) (v : SV) (x : V) : Wd := { w with m := setM w.m i v, sg := w.sg.set i (some x) }
theorem set_sl {w : Wd} {i j : Nat} {v u : SV} {x : V} (h : (setW w i v x).m.sl[j]? = some (some u)) : (j = i ∧ u = v ∧ i < w.m.sl.length) ∨ (j ≠ i ∧ w.m.sl[j]? = some (some u)) := by
  rcases set_get (show (w.m.sl.set i (some v))[j]? = some (some u) from h) with ⟨q1, q2⟩ | q
  · refine .inl ⟨q1, Option.some.inj q2, ?_⟩
    have := (List.getElem?_eq_some_iff.mp h).1
    rw [q1] at this
    simpa [setW, setM] using this
  · exact .inr q
theorem set_ok {K : PySem.W.Frag} {w : Wd} (r : Rep K w) {i : Nat} {v : SV} {x : V} (h : RS K w v x) (ho : ∀ xs a, v = .ob xs → x = .ref a → ¬ Own w a) : Rep K (setW w i v x) ∧ FolS w (setW w i v x) := by
  have sgi : i < w.m.sl.length → (w.sg.set i (some x))[i]? = some (some x) := fun q => List.getElem?_set_self (Nat.lt_of_lt_of_le q r.le)
  have sgj : ∀ j, j ≠ i → (w.sg.set i (some x))[j]? = w.sg[j]? := fun j q => List.getElem?_set_ne (Ne.symm q)
  refine ⟨⟨r.sub, ?_, fun j u hj => ?_, r.cs, r.ln, r.rf, r.nd, fun j k xs ys y hj hk h1 h2 => ?_, r.zl, r.oo, r.tb⟩, ⟨rfl, rfl, Same.refl _, ⟨[], (List.append_nil _).symm⟩, fun _ _ h _ _ _ => h, fun _ h => .inl h, fun _ h => h, fun _ h => .inl h⟩⟩
  · show (w.m.sl.set i _).length ≤ (w.sg.set i _).length
    rw [List.length_set, List.length_set]
    exact r.le
  · rcases set_sl hj with ⟨q1, q2, q3⟩ | ⟨q1, q2⟩
    · subst q1 q2
      exact ⟨x, sgi q3, h⟩
    · obtain ⟨y, h1, h2⟩ := r.sl j u q2
      exact ⟨y, (sgj j q1).trans h1, h2⟩
  · have atJ : ∀ {j : Nat} {xs : Ob}, (setW w i v x).m.sl[j]? = some (some (.ob xs)) → (setW w i v x).sg[j]? = some (some y) → (j = i ∧ v = .ob xs ∧ y = x) ∨ (j ≠ i ∧ w.m.sl[j]? = some (some (.ob xs)) ∧ w.sg[j]? = some (some y)) := fun {j xs} hj hy => by
      have hy : (w.sg.set i (some x))[j]? = some (some y) := hy
      rcases set_sl hj with ⟨q1, q2, q3⟩ | ⟨q1, q2⟩
      · subst q1
        rw [sgi q3] at hy
        exact .inl ⟨rfl, q2.symm, (Option.some.inj (Option.some.inj hy)).symm⟩
      · rw [sgj j q1] at hy
        exact .inr ⟨q1, q2, hy⟩
    have clash : ∀ {j : Nat} {xs ys : Ob}, v = .ob ys → y = x → w.m.sl[j]? = some (some (.ob xs)) → w.sg[j]? = some (some y) → False := fun {j xs ys} e1 e2 e3 e4 => by
      subst e1 e2
      obtain ⟨a, e, _⟩ := h
      subst e
      exact ho _ a rfl rfl ⟨j, xs, e3, e4⟩
    rcases atJ hj h1 with ⟨a1, a2, a3⟩ | ⟨a1, a2, a3⟩
    · rcases atJ hk h2 with ⟨b1, b2, b3⟩ | ⟨b1, b2, b3⟩
      · exact a1.trans b1.symm
      · exact (clash a2 a3 b2 b3).elim
    · rcases atJ hk h2 with ⟨b1, b2, b3⟩ | ⟨b1, b2, b3⟩
      · exact (clash b2 b3 a2 a3).elim
      · exact r.ow j k xs ys y a2 b2 a3 b3
theorem set_okE {K : PySem.W.Frag} {w : Wd} (r : Rep K w) {i : Nat} {v : SV} {x : V} (h : RS K w v x) (ho : ∀ xs, v ≠ .ob xs) : Rep K (setW w i v x) ∧ FolE w (setW w i v x) := by
  refine ⟨(set_ok r h fun xs a e _ => absurd e (ho xs)).1, ⟨rfl, rfl, Same.refl _, ⟨[], (List.append_nil _).symm⟩, fun _ _ h _ _ => h, fun _ h => .inl h, fun _ h => h, fun _ h => .inl h, fun a ⟨j, xs, h1, h2⟩ => ?_⟩⟩
  rcases set_sl h1 with ⟨_, q, _⟩ | ⟨q1, q2⟩
  · exact absurd q.symm (ho xs)
  · have h2 : (w.sg.set i (some x))[j]? = some (some (.ref a)) := h2
    rw [List.getElem?_set_ne (Ne.symm q1)] at h2
    exact ⟨j, xs, q2, h2⟩
/-- what is stored under a name -/
def asgS (i : Nat) (v : EV) : Pg Unit := match v with
  | .new o => fun m => .ok () (setM m i (.ob o))
  | v => .bind (toA v) fun a => fun m => .ok () (setM m i (toS a))
theorem asg_ok {K : PySem.W.Frag} {B : XBt} {w : Wd} (r : Rep K w) {v : EV} {x : V} (h : RE K w v x) {i : Nat} {P : Unit → Mem → Prop} {E : Exn → Mem → Prop} (hw : (asgS i v w.m).wp P E) : ∃ w' : Wd, w'.sg = w.sg.set i (some x) ∧ w'.H = w.H ∧ FolS w w' ∧ Rep K w' ∧ P () w'.m := by
  have gen : ∀ {P : Unit → Mem → Prop}, ((Pg.bind (toA v) fun a => fun m => Res.ok () (setM m i (toS a))) w.m).wp P E → ∃ w' : Wd, w'.sg = w.sg.set i (some x) ∧ w'.H = w.H ∧ FolS w w' ∧ Rep K w' ∧ P () w'.m := fun {P} hw => by
    obtain ⟨a, w1, ea, e1, e2, f1, r1, rv⟩ := toA_ok r h
    have hw := wp_bind hw
    rw [ea] at hw
    obtain ⟨r2, f2⟩ := set_ok (i := i) (v := toS a) (x := x) r1 (by cases a <;> exact rv) (fun xs b e _ => by cases a <;> cases e)
    exact ⟨setW w1 i (toS a) x, by show w1.sg.set i _ = _; rw [e1], e2, (f1.s r).trans f2, r2, hw⟩
  cases v with
  | new o =>
    obtain ⟨a, e, h1, h3, h4, h5, h6⟩ := h
    subst e
    obtain ⟨r2, f2⟩ := set_ok (i := i) (v := .ob o) (x := .ref a) r ⟨a, rfl, h1, h3, h4, h5⟩ (fun ys b _ e => by cases e; exact h6)
    exact ⟨setW w i (.ob o) (.ref a), rfl, rfl, f2, r2, hw⟩
  | d y => exact gen hw
  | pk j xs => exact gen hw
  | cell n => exact gen hw

section
variable {X : Cx} {B : XBt} {e c : Expr} {es : List Expr} {pos p : Pos} {f : Pg EV} {st : Stmt} {rest sa sb : List Stmt} {fs fb fa : Pg Fl} {tc : Pg Bool}
theorem post_of {K : PySem.W.Frag} {w w1 : Wd} {D : Ends} {fl : Fl} {m : Mem} (q : PostS K w D fl m) (f : FolS w w1) : PostS K w1 D fl m := fun w' em g r => q w' em (f.trans g) r
theorem wps_of {K : PySem.W.Frag} {B : XBt} {w w1 : Wd} {D : Ends} {r : Res Fl} (q : r.wp (PostS K w D) (XW K B w)) (f : FolS w w1) : r.wp (PostS K w1 D) (XW K B w1) := q.imp (fun _ _ z => post_of z f) fun _ _ z => z.fol f

def evSeq (f g : Pg Fl) : Pg Fl := .bind f fun fl => match fl with
  | .next => g
  | fl => .ret fl
theorem sndB_nil : SndB X B [] (.ret .next) := fun w D r h => wb_of pss_nil (h w rfl (FolS.refl w) r)
theorem sndB_cons (h1 : SndS X B st fs) (h2 : SndB X B rest fb) : SndB X B (st :: rest) (evSeq fs fb) := by
  intro w D r hw
  refine wb_of (pss_cons ps_w pb_w) ?_
  refine h1 w { D with nx := WB X rest D } r ((wp_bind hw).imp (fun fl m' q w1 em f1 r1 => ?_) fun _ _ q => q)
  subst em
  cases fl with
  | next => exact h2 w1 D r1 (wps_of q f1)
  | brk => exact q w1 rfl f1 r1
  | cont => exact q w1 rfl f1 r1
  | ret v => exact q w1 rfl f1 r1
theorem sndB_one (h1 : SndS X B st fs) : SndB X B [st] fs := fun w D r hw => wb_of (pss_one ps_w) (h1 w D r hw)

def evSet (i : Nat) (f : Pg EV) : Pg Fl := .bind f fun v => .bind (asgS i v) fun _ => .ret .next
theorem snd_set {x : Str} {pos' : Pos} (i : Nat) (C : Ctx X B) (hi : X.N[i]? = some x) (hx : Loc X.env.scope x) (he : Snd X B e f) (hs : swapsWith e (some (.Name x pos')) pos.line X.env = pure false := by rfl)
    (hf : X.fn x = true ∨ X.env.scope.names.lookup x = some .local := by first | exact .inl rfl | exact .inr rfl | assumption) : SndS X B (.Assign [.Name x pos'] e pos) (evSet i f) := by
  intro w D r hw
  refine ws_of (ps_set C.nd hi hx pe_w hs hf) ?_
  refine snd_then he r hw fun v w1 y e1 f1 r1 re h1 => ?_
  obtain ⟨w2, s2, h2, f2, r2, q⟩ := asg_ok (B := B) r1 re (wp_bind h1)
  have q := q w2 rfl ((f1.s r).trans f2) r2
  rw [s2, h2, e1] at q
  exact q
def evRet (f : Pg EV) : Pg Fl := .bind f fun v => .ret (.ret v)
theorem snd_ret (he : Snd X B e f) : SndS X B (.Return (some e) pos) (evRet f) := by
  intro w D r hw
  refine ws_of (ps_ret pe_w) ?_
  refine snd_then he r hw fun v w1 y e1 f1 r1 re h1 => ?_
  exact h1 w1 rfl (f1.s r) r1 y re
theorem snd_retN : SndS X B (.Return none pos) (.ret (.ret (.d .none))) := fun w D r hw => ws_of ps_retN (hw w rfl (FolS.refl w) r .non .non)
def evIte (t : Pg Bool) (a b : Pg Fl) : Pg Fl := .bind t fun k => if k then a else b
theorem snd_if (hc : SndT X B c tc) (ha : SndB X B sa fa) (hb : SndB X B sb fb) : SndS X B (.If c sa sb pos) (evIte tc fa fb) := by
  intro w D r hw
  refine ws_of (ps_if pt_w pb_w pb_w) ?_
  refine sndT_then hc r hw fun k w1 e1 f1 r1 q => ?_
  have fo := f1.s r
  rw [← e1]
  cases k with
  | true => exact iteT (ha w1 D r1 (q.imp (fun _ _ z => post_of z fo) fun _ _ z => z))
  | false => exact iteF (hb w1 D r1 (q.imp (fun _ _ z => post_of z fo) fun _ _ z => z))
theorem snd_pass : SndS X B (.Pass pos) (.ret .next) := fun w D r hw => ws_of ps_pass (hw w rfl (FolS.refl w) r)
theorem snd_break : SndS X B (.Break pos) (.ret .brk) := fun w D r hw => ws_of ps_break (hw w rfl (FolS.refl w) r)
theorem snd_continue : SndS X B (.Continue pos) (.ret .cont) := fun w D r hw => ws_of ps_continue (hw w rfl (FolS.refl w) r)
def evDrop (f : Pg EV) : Pg Fl := .bind f fun _ => .ret .next
theorem snd_drop (he : Snd X B e f) (hs : swapsWith e none pos.line X.env = pure false := by rfl) : SndS X B (.Expr e pos) (evDrop f) := by
  intro w D r hw
  refine ws_of (ps_expr pe_w hs) ?_
  refine snd_then he r hw fun v w1 y e1 f1 r1 re h1 => ?_
  have q := h1 w1 rfl (f1.s r) r1
  rw [e1] at q
  exact q

/-! ### the object of a slot changes -/
theorem grow_ok {K : PySem.W.Frag} {w : Wd} (r : Rep K w) {i : Nat} {o o' : Ob} {a : Addr} {u : HO} (h1 : w.m.sl[i]? = some (some (.ob o))) (h2 : w.sg[i]? = some (some (.ref a))) (h4 : OH K w.F (upd w.H a u) w.Z a o') (hni : (∀ c fs, o ≠ .ins c fs) ∨ (∀ C d vs, w.H a = some (.ins C d vs) → ∃ C' vs', u = .ins C' d vs') := by exact .inl (by intro _ _ z; cases z)) :
    Rep K { w with m := setM w.m i (.ob o'), H := upd w.H a u } ∧ FolS w { w with m := setM w.m i (.ob o'), H := upd w.H a u } := by
  have oa : Own w a := ⟨i, o, h1, h2⟩
  obtain ⟨q0, q1, q2, q3⟩ := r.ownAt oa
  have oth : ∀ b o, b ≠ a → w.H b = some o → upd w.H a u b = some o := fun b o n e => by
    rw [upd_ne n]
    exact e
  have nod : ∀ {b d : Addr}, w.H d = some (.own b) → d ≠ a := fun {b d} e z => (r.noOwnDict e).2 (z ▸ oa)
  have liv : ∀ b, w.H b ≠ none → upd w.H a u b ≠ none := fun b h => by
    by_cases e : b = a
    · rw [e, upd_same]
      simp
    · rw [upd_ne e]
      exact h
  have tb' : (TK K w).P (upd w.H a u) ∧ (∀ b ps, w.F b ≠ some (.tbl ps)) ∧ ∀ b ps, upd w.H a u b = some (.tbl ps) → ∃ q, (b, q) ∈ tabL K := by
    obtain ⟨x, hx, a', ea', hO, _⟩ := r.sl i _ h1
    rw [h2] at hx
    cases hx
    cases ea'
    exact ⟨(TK _ w).us r.tb.1 hO.soft, r.tb.2.1, tbl_upd r.tb.2.2 (h4.ntbl upd_same)⟩
  have sl' : ∀ (j : Nat) (v : SV), (setM w.m i (.ob o')).sl[j]? = some (some v) → (j = i ∧ v = .ob o') ∨ (j ≠ i ∧ w.m.sl[j]? = some (some v)) := fun j v h => by
    rcases set_get (show (w.m.sl.set i (some (.ob o')))[j]? = some (some v) from h) with ⟨q1, q2⟩ | q
    · exact .inl ⟨q1, Option.some.inj q2⟩
    · exact .inr q
  have ownI : ∀ (j : Nat) (zs : Ob), (setM w.m i (.ob o')).sl[j]? = some (some (.ob zs)) → ∃ us, w.m.sl[j]? = some (some (.ob us)) := fun j zs h => by
    rcases sl' j _ h with ⟨e, _⟩ | ⟨_, e⟩
    · subst e
      exact ⟨o, h1⟩
    · exact ⟨zs, e⟩
  refine ⟨⟨fun b o e => ?_, ?_, fun j v h => ?_, fun n zs h => ?_, r.ln, r.rf, r.nd, fun j k us zs x p1 p2 p3 p4 => ?_, fun b h => liv b (r.zl b h), fun d b h => ?_, tb'⟩, ⟨rfl, rfl, Same.refl _, ⟨[], (List.append_nil _).symm⟩, fun b o e _ z _ => oth b o (fun q => q3 (q ▸ z)) e, fun _ h => .inl h, liv, fun _ h => .inl h⟩⟩
  · have n : b ≠ a := fun z => by
      have e : w.F b = some o := e
      rw [z, q1] at e
      cases e
    exact oth b o n (r.sub b o e)
  · show (w.m.sl.set i _).length ≤ _
    rw [List.length_set]
    exact r.le
  · rcases sl' j v h with ⟨e1, e2⟩ | ⟨e1, e2⟩
    · subst e1 e2
      exact ⟨.ref a, h2, a, rfl, h4, q1, q2, q3⟩
    · obtain ⟨x, p1, p2⟩ := r.sl j v e2
      refine ⟨x, p1, ?_⟩
      cases v with
      | d y => exact p2
      | cell n => exact p2
      | thk t => exact p2
      | ob zs =>
        obtain ⟨b, e, k1, k2⟩ := p2
        have nb : b ≠ a := fun z => e1 (r.ow j i _ _ _ e2 h1 p1 (by rw [e, z]; exact h2))
        exact ⟨b, e, k1.keep (Same.refl _) (fun u => oth b u nb) (fun d z => oth d _ (nod z) z) (fun _ _ z => z), k2⟩
  · obtain ⟨b, k1, k2⟩ := r.cs n zs h
    have nb : b ≠ a := fun z => q2 (z ▸ List.mem_of_getElem? k1)
    exact ⟨b, k1, k2.keep (Same.refl _) (fun u => oth b u nb) (fun d z => oth d _ (nod z) z) (fun _ _ z => z)⟩
  · obtain ⟨us', p1'⟩ := ownI j us p1
    obtain ⟨zs', p2'⟩ := ownI k zs p2
    exact r.ow j k us' zs' x p1' p2' p3 p4
  · have h : upd w.H a u d = some (.own b) := h
    by_cases q : d = a
    · rw [q] at h
      exact absurd h h4.noOwn
    · rw [upd_ne q] at h
      obtain ⟨C, vs, e⟩ := r.oo d b h
      by_cases z : b = a
      · subst z
        rcases hni with hni | hni
        · obtain ⟨x, hx, a', ea', hO, _⟩ := r.sl i _ h1
          rw [h2] at hx
          cases hx
          cases ea'
          cases o with
          | lst xs =>
            obtain ⟨ws, k1, _⟩ := hO
            rw [k1] at e
            cases e
          | dic es =>
            obtain ⟨ws, k1, _⟩ := hO
            rw [k1] at e
            cases e
          | ins c fs => exact absurd rfl (hni c fs)
        · obtain ⟨C', vs', eu⟩ := hni C d vs e
          exact ⟨C', vs', by rw [eu]; exact upd_same⟩
      · exact ⟨C, vs, oth b _ z e⟩
def appS (i : Nat) (d : PyData) : Pg Fl := fun m => match m.sl[i]? with
  | some (some (.ob (.lst xs))) => if xs.length < 16777216 then .ok .next (setM m i (.own (xs ++ [d]))) else .bad
  | _ => .bad
def isOwn (i : Nat) : Pg Unit := fun m => match m.sl[i]? with
  | some (some (.ob (.lst _))) => .ok () m
  | _ => .bad
theorem isOwn_ok {i : Nat} {m : Mem} {P : Unit → Mem → Prop} {E : Exn → Mem → Prop} (h : (isOwn i m).wp P E) : ∃ xs, m.sl[i]? = some (some (.own xs)) ∧ P () m := by
  unfold isOwn at h
  split at h
  · rename_i xs e
    exact ⟨xs, e, h⟩
  · exact h.elim
/-- x.append(e) -/
def evApp (i : Nat) (f : Pg EV) : Pg Fl := .bind (isOwn i) fun _ => .bind f fun v => .bind (toA v) fun a => .bind (needD a) fun d => appS i d
theorem app_then {w : Wd} {i : Nat} {d : PyData} {P : Fl → Mem → Prop} {E : Exn → Mem → Prop} (h : (appS i d w.m).wp P E) : ∃ xs, w.m.sl[i]? = some (some (.own xs)) ∧ xs.length < 16777216 ∧ P .next (setM w.m i (.own (xs ++ [d]))) := by
  unfold appS at h
  split at h
  · rename_i xs e
    split at h
    · rename_i hl
      exact ⟨xs, e, hl, h⟩
    · exact h.elim
  · exact h.elim
theorem needD_ok {a : AV} {m : Mem} {P : PyData → Mem → Prop} {E : Exn → Mem → Prop} (h : (needD a m).wp P E) : ∃ d, a = .d d ∧ P d m := by
  cases a with
  | d x => exact ⟨x, rfl, h⟩
  | cell n => exact h.elim
theorem snd_app {x : Str} {p1 p2 p3 : Pos} (i : Nat) (hi : X.N[i]? = some x) (hv : Vis X.env.scope x) (he : Snd X B e f)
    (hd : (x == ("__debug__" : Str)) = false := by decide) (hcd : (x == ("__classdict__" : Str)) = false := by decide)
    (hbase : attributeBase (.Name x p1) "append" X.env (eval (.Name x p1) X.env) = eval (.Name x p1) X.env := by rfl)
    (hfew : ((backTo p3 (starEach [e] X.env)).all (fun x => !x.1) && (backToKw p3 (keywordEach [] X.env)).all (fun x => x.1.isSome) && decide ([e].length + ([] : List Keyword).length + (if ([] : List Keyword).isEmpty then 0 else 1) < 30)) = true := by rfl)
    (hline : (p2.endLine == p3.line) = true := by rfl) (hst : starEach [e] X.env = (false, eval e X.env) :: starEach [] X.env := by rfl) :
    SndS X B (.Expr (.Call (.Attribute (.Name x p1) "append" p2) [e] [] p3) pos) (evApp i f) := by
  intro w D r hw
  refine ws_of (ps_expr (pe_bm PySem.F.plainAttrs_list PySem.F.slot_list_append PySem.F.type_list_append mt_append (pe_var hi hv hd hcd) (pa_cons pe_w pa_nil hst) rfl hfew hline hst rfl) rfl) ?_
  obtain ⟨us, o1, hw⟩ := isOwn_ok (wp_bind hw)
  obtain ⟨u, hu, b0, e0, ⟨vs0, k0, _⟩, _⟩ := r.sl i _ o1
  refine ⟨u, hu, ?_, ?_⟩
  · subst e0
    exact .inl ⟨rfl, vs0, .inl (.inl k0)⟩
  refine snd_then he r hw fun v w1 y e1 f1 r1 re h1 => ?_
  obtain ⟨a, w2, ea, e2, e3, f2, r2, rv⟩ := toA_ok r1 re
  have h2 := wp_bind h1
  rw [ea] at h2
  obtain ⟨d, rfl, h3⟩ := needD_ok (wp_bind (show (Pg.bind (needD a) (fun d => appS i d) w2.m).wp _ _ from h2))
  obtain ⟨xs, g1, g2, q⟩ := app_then h3
  have s2 : w2.sg = w.sg := e2.trans e1
  obtain ⟨z, g3, b, g4, ⟨vs, g5, g6⟩, _⟩ := r2.sl i _ g1
  rw [s2, hu] at g3
  cases g3
  subst g4
  obtain ⟨r3, f3⟩ := grow_ok (o' := .lst (xs ++ [d])) (u := .lst (vs ++ [y])) r2 g1 (by rw [s2]; exact hu) ⟨_, upd_same, g6.app (.one rv)⟩
  rw [← e3]
  refine ⟨b, vs, y, rfl, rfl, g5, by rw [← g6.len, sizeLine_eq]; exact g2, ?_⟩
  have q := q _ rfl ((f1.s r).trans ((f2.s r1).trans f3)) r3
  rw [← s2]
  exact q
end
end Ev

namespace Ev
open PySem PySem.Spec PyProof.Rows L2

/-! ### targets -/
def WG (X : Cx) (tg : Expr) : TG := fun v sg H Q => Cl (∀ (pins : List (Addr × Obj)) (s : Shared) (u : Value), L2.Inv X pins sg H s → RelV v u → wpAny (model X.prog X.w) X.A (assign tg X.env u) (fun _ s' => ∃ sg' H', L2.Inv X pins sg' H' s' ∧ Q sg' H') X.xe s)
theorem pg_w {X : Cx} {tg : Expr} : PG X tg (WG X tg) := ⟨fun pins s _ _ _ u _ I r h => h.go pins s u I r⟩
theorem wg_of {X : Cx} {tg : Expr} {t : TG} (h : PG X tg t) {v : V} {sg : L2.St} {H : Hp} {Q : L2.St → Hp → Prop} (q : t v sg H Q) : WG X tg v sg H Q := ⟨fun pins s u I r => h.run pins s sg H v u Q I r q⟩
def WGs (X : Cx) (ts : List Expr) : TGs := fun vs sg H Q => Cl (∀ (pins : List (Addr × Obj)) (s : Shared) (us : List Value), L2.Inv X pins sg H s → Vals vs us → wpAny (model X.prog X.w) X.A (assignInOrder ((assignEach ts X.env).map (·.2)) us) (fun _ s' => ∃ sg' H', L2.Inv X pins sg' H' s' ∧ Q sg' H') X.xe s)
theorem pgs_w {X : Cx} {ts : List Expr} : PGs X ts (WGs X ts) := ⟨fun pins s _ _ _ us _ I r h => h.go pins s us I r⟩
theorem wgs_of {X : Cx} {ts : List Expr} {t : TGs} (h : PGs X ts t) {vs : List V} {sg : L2.St} {H : Hp} {Q : L2.St → Hp → Prop} (q : t vs sg H Q) : WGs X ts vs sg H Q := ⟨fun pins s us I r => h.run pins s sg H vs us Q I r q⟩
/-- but at these places the slots are as they were -/
def SameBut (is : List Nat) (a b : L2.St) : Prop := b.length = a.length ∧ ∀ j, j ∉ is → b[j]? = a[j]?
theorem SameBut.refl (is : List Nat) (a : L2.St) : SameBut is a a := ⟨rfl, fun _ _ => rfl⟩
theorem SameBut.trans {is : List Nat} {a b c : L2.St} (h : SameBut is a b) (g : SameBut is b c) : SameBut is a c := ⟨g.1.trans h.1, fun j n => (g.2 j n).trans (h.2 j n)⟩
theorem SameBut.mono {is js : List Nat} {a b : L2.St} (h : SameBut is a b) (s : ∀ i, i ∈ is → i ∈ js) : SameBut js a b := ⟨h.1, fun j n => h.2 j fun q => n (s j q)⟩
theorem sameBut_set {is : List Nat} {i : Nat} (h : i ∈ is) (a : L2.St) (x : Option V) : SameBut is a (a.set i x) := ⟨List.length_set, fun j n => List.getElem?_set_ne fun (e : i = j) => n (e ▸ h)⟩
/-- a target that takes data: g what it does to the state, is the slots it may set -/
def SndG (X : Cx) (is : List Nat) (tg : Expr) (g : PyData → Pg Unit) : Prop := ∀ (w : Wd) (d : PyData) (x : V) (Q : L2.St → Hp → Prop), Rep X.K w → R X.K w.F d x →
  (g d w.m).wp (fun _ m' => ∀ w' : Wd, w'.m = m' → w'.H = w.H → SameBut is w.sg w'.sg → FolE w w' → Rep X.K w' → Q w'.sg w'.H) (fun _ _ => False) → WG X tg x w.sg w.H Q
def SndGs (X : Cx) (is : List Nat) (tgs : List Expr) (g : List PyData → Pg Unit) : Prop := ∀ (w : Wd) (ds : List PyData) (xs : List V) (Q : L2.St → Hp → Prop), Rep X.K w → RA X.K w.F ds xs →
  (g ds w.m).wp (fun _ m' => ∀ w' : Wd, w'.m = m' → w'.H = w.H → SameBut is w.sg w'.sg → FolE w w' → Rep X.K w' → Q w'.sg w'.H) (fun _ _ => False) → WGs X tgs xs w.sg w.H Q
def tgName (i : Nat) (d : PyData) : Pg Unit := fun m => .ok () (setM m i (.d d))
def tgNil : List PyData → Pg Unit
  | [] => .ret ()
  | _ => .stuck
def tgCons (g : PyData → Pg Unit) (h : List PyData → Pg Unit) : List PyData → Pg Unit
  | [] => .stuck
  | d :: ds => .bind (g d) fun _ => h ds
def tgTup (n : Nat) (g : List PyData → Pg Unit) : PyData → Pg Unit
  | .tuple ds => if ds.length = n then g ds else .stuck
  | .list ds => if ds.length = n then g ds else .stuck
  | _ => .stuck
section
variable {X : Cx} {B : XBt} {is : List Nat} {pos : Pos} {tg : Expr} {tgs : List Expr}
theorem sndG_name {x : Str} (i : Nat) (C : Ctx X B) (hi : X.N[i]? = some x) (hx : Loc X.env.scope x) (hm : i ∈ is) (hf : X.fn x = true ∨ X.env.scope.names.lookup x = some .local := by first | exact .inl rfl | exact .inr rfl | assumption) : SndG X is (.Name x pos) (tgName i) := by
  intro w d x Q r h q
  obtain ⟨r2, f2⟩ := set_okE (i := i) (v := .d d) (x := x) r h fun xs e => by cases e
  exact wg_of (pg_name C.nd hi hx hf) (q (setW w i (.d d) x) rfl rfl (sameBut_set hm _ _) f2 r2)
theorem sndGs_nil : SndGs X is [] tgNil := by
  intro w ds xs Q r h q
  cases h with
  | nil => exact wgs_of pgs_nil ⟨rfl, q w rfl rfl (SameBut.refl _ _) (FolE.refl w) r⟩
  | cons _ _ => exact q.elim
theorem sndGs_cons {g : PyData → Pg Unit} {h : List PyData → Pg Unit} (h1 : SndG X is tg g) (h2 : SndGs X is tgs h) (hs : (assignEach (tg :: tgs) X.env).map (·.2) = assign tg X.env :: (assignEach tgs X.env).map (·.2) := by rfl) : SndGs X is (tg :: tgs) (tgCons g h) := by
  intro w ds xs Q r hr q
  cases hr with
  | nil => exact q.elim
  | @cons d ds x xs hd ht =>
    refine wgs_of (pgs_cons pg_w pgs_w hs) ⟨x, xs, rfl, ?_⟩
    refine h1 w d x _ r hd ((wp_bind q).imp (fun _ m' q w1 em eh sb f1 r1 => ?_) fun _ _ z => z)
    subst em
    exact h2 w1 ds xs Q r1 (ht.mono f1.ext) (q.imp (fun _ m2 z w2 em2 eh2 sb2 f2 r2 => z w2 em2 (eh2.trans eh) (sb.trans sb2) (f1.trans f2) r2) fun _ _ z => z)
theorem sndG_tup {g : List PyData → Pg Unit} {k : Nat} (n : Nat) (C : Ctx X B) (h : SndGs X is tgs g) (hn : (assignEach tgs X.env).length = n := by rfl) (hst : (assignEach tgs X.env).findIdx? (·.1) = none := by rfl) : SndG X is (.Tuple tgs k pos) (tgTup n g) := by
  intro w d x Q r hr q
  cases hr with
  | tup hq ha =>
    rename_i a vs ds
    by_cases hl : ds.length = n
    · rw [show tgTup n g (.tuple ds) = g ds from if_pos hl] at q
      exact wg_of (pg_tup C.calm pgs_w hn hst) ⟨a, vs, rfl, sqt_mono r.sub hq, by rw [← ha.len]; exact hl, h w ds vs Q r ha q⟩
    · rw [show tgTup n g (.tuple ds) = .stuck from if_neg hl] at q
      exact q.elim
  | lst hq ha =>
    rename_i a vs ds
    by_cases hl : ds.length = n
    · rw [show tgTup n g (.list ds) = g ds from if_pos hl] at q
      exact wg_of (pg_lst C.calm pgs_w hn hst) ⟨a, vs, rfl, (hq.mono r.sub).sq, by rw [← ha.len]; exact hl, h w ds vs Q r ha q⟩
    · rw [show tgTup n g (.list ds) = .stuck from if_neg hl] at q
      exact q.elim
  | _ => exact q.elim
/-- target = e, by data -/
def evAsg (g : PyData → Pg Unit) (f : Pg EV) : Pg Fl := .bind f fun v => .bind (toA v) fun a => .bind (needD a) fun d => .bind (g d) fun _ => .ret .next
theorem noXW {K : PySem.W.Frag} {w : Wd} {α : Type} {r : Res α} {P : α → Mem → Prop} (h : r.wp P (XW K B0 w)) (hw : Rep K w) : True := trivial
theorem snd_asg {e : Expr} {f : Pg EV} {g : PyData → Pg Unit} (he : Snd X B e f) (hg : SndG X is tg g) (gt : ∀ d m x m', g d m ≠ .thr x m') (hs : swapsWithSole [tg] e pos.line X.env = pure false := by rfl) (hw : swappedStores [tg] e X.env = pure none := by rfl)
    (h1 : (assignEach [tg] X.env).map (·.2) = [assign tg X.env] := by rfl) : SndS X B (.Assign [tg] e pos) (evAsg g f) := by
  intro w D r hww
  refine ws_of (ps_asg pe_w pg_w hs hw h1) ?_
  refine snd_then he r hww fun v w1 y e1 f1 r1 re h2 => ?_
  obtain ⟨a, w2, ea, e2, e3, f2, r2, rv⟩ := toA_ok r1 re
  have h2 := wp_bind h2
  rw [ea] at h2
  have h2' : (Pg.bind (needD a) (fun d => Pg.bind (g d) fun _ => Pg.ret Fl.next) w2.m).wp (PostS X.K w D) (XW X.K B w1) := h2
  obtain ⟨d, rfl, h3⟩ := needD_ok (wp_bind h2')
  rw [← e1, ← e2, ← e3]
  have h4 := wp_bind h3
  have fo := (f1.s r).trans (f2.s r1)
  refine hg w2 d y _ r2 rv ?_
  cases eg : g d w2.m with
  | bad =>
    rw [eg] at h4
    exact h4.elim
  | thr x m' => exact absurd eg (gt d w2.m x m')
  | ok u m' =>
    rw [eg] at h4
    exact fun w3 em eh sb f3 r3 => by
      subst em
      exact h4 w3 rfl (fo.trans (f3.s r2)) r3

/-! ### what a loop walks -/
def WI (X : Cx) (tg iter : Expr) : TI := fun sg H R => ∃ t, PI X tg iter t ∧ t sg H R
theorem pi_w {tg iter : Expr} : PI X tg iter (WI X tg iter) := ⟨fun pins s sg H R I ⟨t, h, q⟩ => h.run pins s sg H R I q⟩
/-- J yields these data, whatever the body does -/
def Iters (K : PySem.W.Frag) (w : Wd) (J : It) (ds : List PyData) : Prop := ∀ w1 : Wd, FolS w w1 → Rep K w1 → ∀ i, (∀ d, ds[i]? = some d → J.go i w1.H ∧ ∀ x H', J.yld i w1.H x H' → ∃ w2 : Wd, w2.m = w1.m ∧ w2.sg = w1.sg ∧ w2.H = H' ∧ FolE w1 w2 ∧ Rep K w2 ∧ R K w2.F d x ∧ ∀ a, w2.F a ≠ none → w1.F a ≠ none ∨ w1.H a = none) ∧ (ds.length ≤ i → J.stop i w1.H)
def SndI (X : Cx) (B : XBt) (tg iter : Expr) (f : Pg (List PyData)) : Prop := ∀ (w : Wd) (Q : It → Hp → Prop), Rep X.K w →
  (f w.m).wp (fun ds m' => ∀ (w' : Wd) (J : It), w'.m = m' → w'.sg = w.sg → FolE w w' → Rep X.K w' → Iters X.K w' J ds → Q J w'.H) (XW X.K B w) → WI X tg iter w.sg w.H Q
theorem iters_list {K : PySem.W.Frag} {w : Wd} {a : Addr} {vs : List V} {ds : List PyData} (h : LQ K w.F a vs) (ra : RA K w.F ds vs) : Iters K w (Itl K a) ds := by
  intro w1 f r i
  have hq : SqL K w1.H a vs := ((h.mono f.ext).mono r.sub).sq
  refine ⟨fun d hd => ?_, fun hl => ⟨vs, hq, by rw [← ra.len]; exact hl⟩⟩
  obtain ⟨v, hv, rv⟩ := ra.get hd
  refine ⟨⟨vs, v, hq, hv⟩, fun x H' y => ?_⟩
  obtain ⟨rfl, y⟩ := y
  have e := y vs hq
  rw [hv] at e
  cases e
  exact ⟨w1, rfl, rfl, rfl, FolE.refl w1, r, rv.mono f.ext, fun _ z => .inl z⟩
theorem iters_tup {K : PySem.W.Frag} {w : Wd} {a : Addr} {vs : List V} {ds : List PyData} (h : SqT K w.F a vs) (ra : RA K w.F ds vs) : Iters K w (Itt K a) ds := by
  intro w1 f r i
  have hq : SqT K w1.H a vs := sqt_mono r.sub (sqt_mono f.ext h)
  refine ⟨fun d hd => ?_, fun hl => ⟨vs, hq, by rw [← ra.len]; exact hl⟩⟩
  obtain ⟨v, hv, rv⟩ := ra.get hd
  refine ⟨⟨vs, v, hq, hv⟩, fun x H' y => ?_⟩
  obtain ⟨rfl, y⟩ := y
  have e := y vs hq
  rw [hv] at e
  cases e
  exact ⟨w1, rfl, rfl, rfl, FolE.refl w1, r, rv.mono f.ext, fun _ z => .inl z⟩
def intsD (lo : Int) (n : Nat) : List PyData := (List.range n).map fun i => .int (lo + (i : Nat))
theorem ints_get {lo : Int} {n i : Nat} {d : PyData} (h : (intsD lo n)[i]? = some d) : i < n ∧ d = .int (lo + (i : Nat)) := by
  unfold intsD at h
  rw [List.getElem?_map] at h
  by_cases q : i < n
  · rw [List.getElem?_range q] at h
    exact ⟨q, (Option.some.inj h).symm⟩
  · rw [List.getElem?_eq_none (by simpa using q)] at h
    cases h
theorem iters_rng {K : PySem.W.Frag} {w : Wd} {lo : Int} {n : Nat} : Iters K w (Itr lo n) (intsD lo n) := by
  intro w1 f r i
  refine ⟨fun d hd => ?_, fun hl => by
    unfold intsD at hl
    have hl : n ≤ i := by simpa using hl
    exact hl⟩
  obtain ⟨hi, rfl⟩ := ints_get hd
  refine ⟨hi, fun x H' y => ?_⟩
  obtain ⟨rfl, rfl⟩ := y
  exact ⟨w1, rfl, rfl, rfl, FolE.refl w1, r, .int _, fun _ z => .inl z⟩
/-- a list or a tuple, by its value -/
def seqOf : AV → Option (List PyData)
  | .d (.list xs) => some xs
  | .d (.tuple xs) => some xs
  | _ => none
def evIt (f : Pg EV) : Pg (List PyData) := .bind f fun v => .bind (toA v) fun a => optP (seqOf a)
/-- the pure text gives one answer: by its kind the walk's rule is taken -/
def kindT : EV → Bool
  | .d (.tuple _) => true
  | _ => false
theorem sndI_val {e : Expr} {f : Pg EV} (he : Snd X B e f) : SndI X B tg e (evIt f) := by
  intro w Q r hw
  by_cases kt : ∃ xs m', f w.m = .ok (.d (.tuple xs)) m'
  · obtain ⟨xs, m0, ef⟩ := kt
    refine ⟨_, pi_tup pe_w, ?_⟩
    refine he w _ r ?_
    rw [ef]
    have hw : ((evIt f) w.m).wp _ _ := hw
    unfold evIt Pg.bind at hw
    rw [ef] at hw
    intro w1 x em e1 f1 r1 re
    subst em
    cases re with
    | tup hq ra => exact ⟨_, rfl, ⟨_, sqt_mono r1.sub hq⟩, hw w1 _ rfl e1 f1 r1 (iters_tup hq ra)⟩
  · refine ⟨_, pi_list pe_w, ?_⟩
    have hw2 := wp_bind hw
    refine he w _ r ?_
    cases ef : f w.m with
    | bad =>
      rw [ef] at hw2
      exact hw2
    | thr x m' =>
      rw [ef] at hw2
      exact hw2
    | ok v m' =>
      rw [ef] at hw2
      intro w1 x em e1 f1 r1 re
      subst em
      obtain ⟨a, w2, ea, e2, e3, f2, r2, rv⟩ := toA_ok r1 re
      have h3 := wp_bind (show (Pg.bind (toA v) (fun a => optP (seqOf a)) w1.m).wp _ _ from hw2)
      rw [ea] at h3
      obtain ⟨ds, eds, q⟩ := wp_opt (show (optP (seqOf a) w2.m).wp _ _ from h3)
      have nt : ∀ xs, a ≠ .d (.tuple xs) := fun xs ex => by
        subst ex
        cases v with
        | d y =>
          injection ea with q _
          cases q
          exact kt ⟨xs, w1.m, ef⟩
        | new o =>
          injection ea with q _
          cases o <;> cases q
        | pk i o =>
          injection ea with q _
          cases o <;> cases q
        | cell n => injection ea with q _
      cases a with
      | cell n => cases eds
      | d y =>
        cases y <;> try (cases eds; done)
        · cases eds
          cases rv with
          | lst hq ra =>
            have q := q w2 _ rfl (e2.trans e1) (f1.trans f2) r2 (iters_list hq ra)
            rw [e3] at q
            have hs := (hq.mono r2.sub).sq
            rw [e3] at hs
            exact ⟨_, rfl, ⟨_, hs⟩, q⟩
        · exact absurd rfl (nt _)
def rngOk (j : Int) : Bool := decide (-(2 ^ 62) ≤ j) && decide (j < 2 ^ 62)
def rng1 : List OV → Option (List PyData)
  | [.d (.int j)] => if rngOk j then some (intsD 0 j.toNat) else none
  | _ => none
def rng2 : List OV → Option (List PyData)
  | [.d (.int i), .d (.int j)] => if rngOk i && rngOk j then some (intsD i (j - i).toNat) else none
  | _ => none
def evRng1 (f : Pg (List OV)) : Pg (List PyData) := .bind f fun os => optP (rng1 os)
def evRng2 (f : Pg (List OV)) : Pg (List PyData) := .bind f fun os => optP (rng2 os)
theorem sndI_rng1 {a : Expr} {p : Pos} {f : Pg (List OV)} (hg : Gl X "range") (hm : X.mg "range" = none) (ha : SndO X B [a] f) (hs : starEach [a] X.env = [(false, eval a X.env)] := by rfl) : SndI X B tg (.Call (.Name "range" p) [a] [] pos) (evRng1 f) := by
  intro w Q r hw
  refine ⟨_, pi_range1 hg hm pa_w hs, ?_⟩
  refine sndO_then ha r hw fun os w1 xs e1 f1 r1 ro h1 => ?_
  obtain ⟨ds, ed, q⟩ := wp_opt h1
  unfold rng1 at ed
  split at ed
  · rename_i j
    split at ed
    · rename_i hj
      cases ed
      unfold rngOk at hj
      simp only [Bool.and_eq_true, decide_eq_true_eq] at hj
      cases ro with
      | cons h t =>
        cases t
        rw [(h.rn r1 rfl).int]
        exact ⟨j, rfl, hj.1, hj.2, q w1 _ rfl e1 f1 r1 iters_rng⟩
    · cases ed
  · cases ed
theorem sndI_rng2 {a b : Expr} {p : Pos} {f : Pg (List OV)} (hg : Gl X "range") (hm : X.mg "range" = none) (ha : SndO X B [a, b] f) (hs : starEach [a, b] X.env = [(false, eval a X.env), (false, eval b X.env)] := by rfl) (hs2 : starEach [b] X.env = [(false, eval b X.env)] := by rfl) : SndI X B tg (.Call (.Name "range" p) [a, b] [] pos) (evRng2 f) := by
  intro w Q r hw
  refine ⟨_, pi_range2 hg hm pa_w hs hs2, ?_⟩
  refine sndO_then ha r hw fun os w1 xs e1 f1 r1 ro h1 => ?_
  obtain ⟨ds, ed, q⟩ := wp_opt h1
  unfold rng2 at ed
  split at ed
  · rename_i i j
    split at ed
    · rename_i hj
      cases ed
      unfold rngOk at hj
      simp only [Bool.and_eq_true, decide_eq_true_eq] at hj
      cases ro with
      | cons h t =>
        cases t with
        | cons h' t' =>
          cases t'
          rw [(h.rn r1 rfl).int, (h'.rn r1 rfl).int]
          exact ⟨i, j, rfl, ⟨hj.1.1, hj.1.2, hj.2.1, hj.2.2⟩, q w1 _ rfl e1 f1 r1 iters_rng⟩
    · cases ed
  · cases ed

/-! ### for -/
def forL (g : PyData → Pg Unit) (b : Pg Fl) : List PyData → Pg Fl
  | [] => .ret .next
  | d :: ds => .bind (g d) fun _ => .bind b fun fl => match fl with
    | .next => forL g b ds
    | .cont => forL g b ds
    | .brk => .ret .next
    | .ret v => .ret (.ret v)
def evFor (f : Pg (List PyData)) (g : PyData → Pg Unit) (b : Pg Fl) : Pg Fl := .bind f fun ds => forL g b ds
theorem snd_for {iter : Expr} {body : List Stmt} {f : Pg (List PyData)} {g : PyData → Pg Unit} {fb : Pg Fl} (C : Ctx X B) (hp : PassesOwn (model X.prog X.w) X.A X.env X.xe) (hi : SndI X B tg iter f) (hg : SndG X is tg g) (gt : ∀ d m x m', g d m ≠ .thr x m') (hb : SndB X B body fb)
    (hs : ∀ x, foldedSetIterable iter X.env x = pure x := by intro _; rfl) : SndS X B (.For tg iter body [] pos) (evFor f g fb) := by
  intro w D r hw
  refine ws_of (ps_for hp C.calm pi_w pg_w pb_w hs) ?_
  refine hi w _ r ((wp_bind hw).imp (fun ds m0 hw w1 J em e1 f1 r1 itr => ?_) fun _ _ z => z)
  subst em
  have fo1 := f1.s r
  refine ⟨fun i n sg H => ∃ w2 : Wd, w2.sg = sg ∧ w2.H = H ∧ FolS w1 w2 ∧ Rep X.K w2 ∧ n = ds.length - i ∧ i ≤ ds.length ∧ (forL g fb (ds.drop i) w2.m).wp (PostS X.K w D) (XW X.K B w), ⟨ds.length, w1, e1, rfl, FolS.refl w1, r1, by omega, Nat.zero_le _, hw⟩, ?_⟩
  rintro i n sg H ⟨w2, rfl, rfl, f2, r2, rfl, hle, q⟩
  obtain ⟨itg, its⟩ := itr w2 f2 r2 i
  by_cases hlt : i < ds.length
  · have hd : ds[i]? = some ds[i] := List.getElem?_eq_getElem hlt
    obtain ⟨go, yl⟩ := itg _ hd
    rw [List.drop_eq_getElem_cons hlt] at q
    refine .inr ⟨go, fun sg' H' => ∃ w5 : Wd, w5.sg = sg' ∧ w5.H = H' ∧ FolS w1 w5 ∧ Rep X.K w5 ∧ (forL g fb (ds.drop (i + 1)) w5.m).wp (PostS X.K w D) (XW X.K B w), fun sg' H' ⟨w5, a1, a2, a3, a4, a5⟩ => ⟨ds.length - (i + 1), by omega, w5, a1, a2, a3, a4, rfl, hlt, a5⟩, fun x H' y => ?_⟩
    obtain ⟨w3, b1, b2, b3, f3, r3, rx, _⟩ := yl x H' y
    subst b3
    rw [← b2]
    have f13 := f2.trans (f3.s r2)
    have q1 := wp_bind (show (Pg.bind (g ds[i]) (fun _ => Pg.bind fb fun fl => match fl with
      | .next => forL g fb (ds.drop (i + 1))
      | .cont => forL g fb (ds.drop (i + 1))
      | .brk => .ret .next
      | .ret v => .ret (.ret v)) w3.m).wp (PostS X.K w D) (XW X.K B w) from by rw [b1]; exact q)
    refine hg w3 ds[i] x _ r3 rx ?_
    cases eg : g ds[i] w3.m with
    | bad =>
      rw [eg] at q1
      exact q1.elim
    | thr e m' => exact absurd eg (gt _ _ e m')
    | ok u m' =>
      rw [eg] at q1
      intro w4 em eh sb f4 r4
      subst em
      have q2 := wp_bind (show (Pg.bind fb _ w4.m).wp (PostS X.K w D) (XW X.K B w) from q1)
      have f14 := f13.trans (f4.s r3)
      have fw4 := fo1.trans f14
      refine hb w4 _ r4 (q2.imp (fun fl m5 z w5 em f5 r5 => ?_) fun _ _ z => z.fol fw4)
      subst em
      have f15 := f14.trans f5
      cases fl with
      | next => exact ⟨w5, rfl, rfl, f15, r5, z⟩
      | cont => exact ⟨w5, rfl, rfl, f15, r5, z⟩
      | brk => exact z w5 rfl (fo1.trans f15) r5
      | ret v => exact z w5 rfl (fo1.trans f15) r5
  · have e0 : ds.drop i = [] := List.drop_eq_nil_of_le (by omega)
    rw [e0] at q
    exact .inl ⟨its (by omega), q w2 rfl (fo1.trans f2) r2⟩
end
end Ev

namespace Ev
open PySem PySem.Spec PyProof.Rows L2

/-! ### list comprehensions -/
/-- J yields these data while expressions alone are asked for -/
def IterE (K : PySem.W.Frag) (w : Wd) (J : It) (ds : List PyData) : Prop := ∀ w1 : Wd, FolE w w1 → Rep K w1 → ∀ i, (∀ d, ds[i]? = some d → J.go i w1.H ∧ ∀ x H', J.yld i w1.H x H' → ∃ w2 : Wd, w2.m = w1.m ∧ w2.sg = w1.sg ∧ w2.H = H' ∧ FolE w1 w2 ∧ Rep K w2 ∧ R K w2.F d x ∧ ∀ a, w2.F a ≠ none → w1.F a ≠ none ∨ w1.H a = none) ∧ (ds.length ≤ i → J.stop i w1.H)
def SndIE (X : Cx) (B : XBt) (tg iter : Expr) (f : Pg (List PyData)) : Prop := ∀ (w : Wd) (Q : It → Hp → Prop), Rep X.K w →
  (f w.m).wp (fun ds m' => ∀ (w' : Wd) (J : It), w'.m = m' → w'.sg = w.sg → FolE w w' → Rep X.K w' → IterE X.K w' J ds → Q J w'.H) (XW X.K B w) → WI X tg iter w.sg w.H Q
theorem SndI.e {X : Cx} {B : XBt} {tg iter : Expr} {f : Pg (List PyData)} (h : SndI X B tg iter f) : SndIE X B tg iter f := fun w Q r hw =>
  h w Q r (hw.imp (fun ds m' q w' J em es fo rp it => q w' J em es fo rp fun w1 g rp1 => it w1 (g.s rp) rp1) fun _ _ z => z)
/-- an own list is walked as it stands -/
def itE : EV → Pg (List PyData)
  | .pk _ (.lst xs) => .ret xs
  | v => .bind (toA v) fun a => optP (seqOf a)
def evItE (f : Pg EV) : Pg (List PyData) := .bind f itE
theorem sndIE_own {X : Cx} {B : XBt} {tg e : Expr} {f : Pg EV} (he : Snd X B e f) : SndIE X B tg e (evItE f) := by
  intro w Q r hw
  by_cases kp : ∃ i xs m', f w.m = .ok (.pk i (.lst xs)) m'
  · obtain ⟨i, xs, m0, ef⟩ := kp
    refine ⟨_, pi_list pe_w, ?_⟩
    refine he w _ r ?_
    have hw : ((evItE f) w.m).wp _ _ := hw
    unfold evItE Pg.bind at hw
    rw [ef] at hw ⊢
    intro w1 x em e1 f1 r1 re
    subst em
    obtain ⟨h1, h2⟩ := re
    obtain ⟨y, h3, a, e, hO, hF, hro, hz⟩ := r1.sl i _ h1
    rw [h2] at h3
    cases h3
    subst e
    obtain ⟨vs, hv, ra⟩ := hO
    refine ⟨a, rfl, ⟨vs, .inl (.inl hv)⟩, hw w1 _ rfl e1 f1 r1 fun w2 g r2 j => ?_⟩
    have hq : SqL X.K w2.H a vs := .inl (.inl (g.frm a _ hv hro (by intro _ z; cases z)))
    refine ⟨fun d hd => ?_, fun hl => ⟨vs, hq, by rw [← ra.len]; exact hl⟩⟩
    obtain ⟨v, hv, rv⟩ := ra.get hd
    refine ⟨⟨vs, v, hq, hv⟩, fun x H' y => ?_⟩
    obtain ⟨rfl, y⟩ := y
    have e := y vs hq
    rw [hv] at e
    cases e
    exact ⟨w2, rfl, rfl, rfl, FolE.refl w2, r2, rv.mono g.ext, fun _ z => .inl z⟩
  · refine (sndI_val (tg := tg) he).e w Q r ?_
    have hw : ((evItE f) w.m).wp _ _ := hw
    have e : evIt f w.m = evItE f w.m := by
      unfold evItE evIt Pg.bind
      cases ef : f w.m with
      | bad => rfl
      | thr x m' => rfl
      | ok v m' =>
        cases v with
        | pk i o =>
          cases o with
          | lst xs => exact absurd ⟨i, xs, m', ef⟩ kp
          | _ => rfl
        | _ => rfl
    rw [e]
    exact hw
def wipeL : List Nat → List (Option SV) → List (Option SV)
  | [], l => l
  | i :: is, l => (wipeL is l).set i none
def wipeP (is : List Nat) : Pg Unit := fun m => .ok () { m with sl := wipeL is m.sl }
theorem wipeL_len (is : List Nat) (l : List (Option SV)) : (wipeL is l).length = l.length := by
  induction is with
  | nil => rfl
  | cons i is ih => rw [wipeL, List.length_set, ih]
theorem wipeL_get {is : List Nat} {l : List (Option SV)} {j : Nat} {v : SV} (h : (wipeL is l)[j]? = some (some v)) : l[j]? = some (some v) ∧ j ∉ is := by
  induction is with
  | nil => exact ⟨h, by simp⟩
  | cons i is ih =>
    rw [wipeL] at h
    by_cases e : i = j
    · subst e
      by_cases q : i < (wipeL is l).length
      · rw [List.getElem?_set_self q] at h
        cases h
      · rw [List.getElem?_eq_none (by rw [List.length_set]; omega)] at h
        cases h
    · rw [List.getElem?_set_ne e] at h
      obtain ⟨h1, h2⟩ := ih h
      exact ⟨h1, by simp only [List.mem_cons, not_or]; exact ⟨fun q => e q.symm, h2⟩⟩
theorem rep_wipe {K : PySem.W.Frag} {w : Wd} (r : Rep K w) {is : List Nat} {sg : L2.St} (h : SameBut is w.sg sg) : Rep K { w with m := { w.m with sl := wipeL is w.m.sl }, sg := sg } ∧ FolE w { w with m := { w.m with sl := wipeL is w.m.sl }, sg := sg } := by
  refine ⟨⟨r.sub, ?_, fun i v q => ?_, r.cs, r.ln, r.rf, r.nd, fun i j xs ys x a b c d => ?_, r.zl, r.oo, r.tb⟩, ⟨rfl, rfl, Same.refl _, ⟨[], (List.append_nil _).symm⟩, fun _ _ h _ _ => h, fun _ h => .inl h, fun _ h => h, fun _ h => .inl h, fun a ⟨j, xs, q1, q2⟩ => ?_⟩⟩
  · show (wipeL is w.m.sl).length ≤ sg.length
    rw [wipeL_len, h.1]
    exact r.le
  · obtain ⟨q1, q2⟩ := wipeL_get q
    obtain ⟨x, h1, h2⟩ := r.sl i v q1
    exact ⟨x, (h.2 i q2).trans h1, h2⟩
  · obtain ⟨a1, a2⟩ := wipeL_get a
    obtain ⟨b1, b2⟩ := wipeL_get b
    exact r.ow i j xs ys x a1 b1 ((h.2 i a2).symm.trans c) ((h.2 j b2).symm.trans d)
  · obtain ⟨a1, a2⟩ := wipeL_get q1
    exact ⟨j, xs, a1, (h.2 j a2).symm.trans q2⟩
/-- the slots are told anew, where these places say nothing -/
theorem rep_sg {K : PySem.W.Frag} {w : Wd} (r : Rep K w) {is : List Nat} {sg : L2.St} (h : SameBut is w.sg sg) (hn : ∀ (j : Nat) (v : SV), j ∈ is → w.m.sl[j]? ≠ some (some v)) : Rep K { w with sg := sg } ∧ FolE w { w with sg := sg } := by
  have at_ : ∀ (j : Nat) (v : SV), w.m.sl[j]? = some (some v) → sg[j]? = w.sg[j]? := fun j v q => h.2 j fun z => hn j v z q
  refine ⟨⟨r.sub, by show w.m.sl.length ≤ sg.length; rw [h.1]; exact r.le, fun i v q => ?_, r.cs, r.ln, r.rf, r.nd, fun i j xs ys x a b c d => r.ow i j xs ys x a b ((at_ i _ a).symm.trans c) ((at_ j _ b).symm.trans d), r.zl, r.oo, r.tb⟩, ⟨rfl, rfl, Same.refl _, ⟨[], (List.append_nil _).symm⟩, fun _ _ h _ _ => h, fun _ h => .inl h, fun _ h => h, fun _ h => .inl h, fun a ⟨j, xs, q1, q2⟩ => ⟨j, xs, q1, (at_ j _ q1).symm.trans q2⟩⟩⟩
  obtain ⟨x, h1, h2⟩ := r.sl i v q
  exact ⟨x, (at_ i v q).trans h1, h2⟩
/-- a thing that nobody holds is changed -/
theorem poke {K : PySem.W.Frag} {w : Wd} (r : Rep K w) {p : Addr} {o : HO} (hf : w.F p = none) (hr : p ∉ w.ro) (ho : ¬ Own w p) (nd : ∀ {a d : Addr}, w.H d = some (.own a) → d ≠ p) (hni : ∀ C d vs, w.H p ≠ some (.ins C d vs)) (hh : ∃ u, w.H p = some u ∧ ¬ Hard u) (hnt : ∀ ps, o ≠ .tbl ps := by intro _ z; cases z) (hno : ∀ a, o ≠ .own a := by intro _ z; cases z) : Rep K { w with H := upd w.H p o } := by
  have up : ∀ {a : Addr} {u : HO}, a ≠ p → w.H a = some u → upd w.H p o a = some u := fun {a u} n h => by
    rw [upd_ne n]
    exact h
  refine ⟨fun a u h => up (fun e => ?_) (r.sub a u h), r.le, fun i v h => ?_, fun n xs h => ?_, r.ln, r.rf, r.nd, r.ow, fun a h => ?_, fun d a h => ?_, ⟨(TK _ w).us r.tb.1 hh, r.tb.2.1, tbl_upd r.tb.2.2 hnt⟩⟩
  · have h : w.F a = some u := h
    rw [e, hf] at h
    cases h
  · obtain ⟨x, h1, h2⟩ := r.sl i v h
    refine ⟨x, h1, ?_⟩
    cases v with
    | d y => exact h2
    | cell n => exact h2
    | thk t => exact h2
    | ob ys =>
      obtain ⟨a, e, k1, k2⟩ := h2
      exact ⟨a, e, k1.keep (Same.refl _) (fun u => up fun z => ho ⟨i, ys, h, by rw [h1, e, z]⟩) (fun d z => up (nd z) z) (fun _ _ z => z), k2⟩
  · obtain ⟨a, h1, h2⟩ := r.cs n xs h
    exact ⟨a, h1, h2.keep (Same.refl _) (fun u => up fun z => hr (z ▸ List.mem_of_getElem? h1)) (fun d z => up (nd z) z) (fun _ _ z => z)⟩
  · by_cases e : a = p
    · show upd w.H p o a ≠ none
      rw [e, upd_same]
      simp
    · show upd w.H p o a ≠ none
      rw [upd_ne e]
      exact r.zl a h
  · have h : upd w.H p o d = some (.own a) := h
    by_cases q : d = p
    · rw [q, upd_same] at h
      exact absurd (Option.some.inj h) (hno a)
    · rw [upd_ne q] at h
      obtain ⟨C, vs, e⟩ := r.oo d a h
      exact ⟨C, vs, up (fun z => hni C d vs (z ▸ e)) e⟩
/-- more or less is guarded -/
def reZ (w : Wd) (Z : Addr → Prop) : Wd := { w with Z := Z }
theorem reZ_rep {K : PySem.W.Frag} {w : Wd} (r : Rep K w) {Z : Addr → Prop} (h : ∀ a, Z a → w.Z a) : Rep K (reZ w Z) := by
  refine ⟨r.sub, r.le, fun i v q => ?_, r.cs, r.ln, r.rf, r.nd, r.ow, fun a q => r.zl a (h a q), r.oo, r.tb⟩
  obtain ⟨x, h1, h2⟩ := r.sl i v q
  refine ⟨x, h1, ?_⟩
  cases v with
  | d y => exact h2
  | cell n => exact h2
  | thk t => exact h2
  | ob ys =>
    obtain ⟨a, e, k1, k3, k4, k5⟩ := h2
    exact ⟨a, e, k1.keep (Same.refl _) (fun _ z => z) (fun _ z => z) (fun d _ z => h d z), k3, k4, fun z => k5 (h a z)⟩
theorem reZ_more {K : PySem.W.Frag} {w : Wd} (r : Rep K w) {Z : Addr → Prop} (h : ∀ a, Z a → w.H a ≠ none) (ho : ∀ a, Own w a → ¬ Z a) (hd : ∀ d a, w.H d = some (.own a) → Z d → w.Z d) : Rep K (reZ w Z) := by
  refine ⟨r.sub, r.le, fun i v q => ?_, r.cs, r.ln, r.rf, r.nd, r.ow, h, r.oo, r.tb⟩
  obtain ⟨x, h1, h2⟩ := r.sl i v q
  refine ⟨x, h1, ?_⟩
  cases v with
  | d y => exact h2
  | cell n => exact h2
  | thk t => exact h2
  | ob ys =>
    obtain ⟨a, e, k1, k3, k4, k5⟩ := h2
    exact ⟨a, e, k1.keep (Same.refl _) (fun _ z => z) (fun _ z => z) (fun d => hd d a), k3, k4, ho a ⟨i, ys, q, by rw [h1, e]⟩⟩
theorem reZ_fol {w w' : Wd} (f : FolE w w') {Z : Addr → Prop} (h : ∀ a, Z a → w.Z a) : FolE (reZ w Z) (reZ w' Z) := ⟨rfl, f.t, f.ext, f.pre, f.frm, f.new, f.liv, fun a q => (f.grow a q).imp id fun z k => z (h a k), f.own⟩
theorem reZ_folS {w w' : Wd} (f : FolS w w') {Z : Addr → Prop} (h : ∀ a, Z a → w.Z a) : FolS (reZ w Z) (reZ w' Z) := ⟨rfl, f.t, f.ext, f.pre, fun a o q n k => f.frm a o q n (h a k), fun a q => (f.new a q).imp id fun z k => z (h a k), f.liv, fun a q => (f.grow a q).imp id fun z k => z (h a k)⟩
theorem wipe_get (sg : L2.St) : ∀ (is : List Nat) (j : Nat), j ∉ is → (wipe sg is)[j]? = sg[j]?
  | [], _, _ => rfl
  | i :: is, j, h => by
    rw [wipe, List.getElem?_set_ne (fun e : i = j => h (by simp [e]))]
    exact wipe_get sg is j fun q => h (List.mem_cons_of_mem _ q)
theorem wipe_in (sg : L2.St) : ∀ (is : List Nat) (j : Nat), j ∈ is → j < sg.length → (wipe sg is)[j]? = some none
  | i :: is, j, h, hl => by
    rw [wipe]
    by_cases e : i = j
    · subst e
      rw [List.getElem?_set_self (by rw [wipe_length]; exact hl)]
    · rw [List.getElem?_set_ne e]
      refine wipe_in sg is j ?_ hl
      rcases List.mem_cons.mp h with q | q
      · exact absurd q.symm e
      · exact q
theorem sameBut_wipe (is : List Nat) (sg : L2.St) : SameBut is sg (wipe sg is) := ⟨wipe_length sg is, fun j h => wipe_get sg is j h⟩
theorem SameBut.symm {is : List Nat} {a b : L2.St} (h : SameBut is a b) : SameBut is b a := ⟨h.1.symm, fun j n => (h.2 j n).symm⟩
theorem wipe_eq {is : List Nat} {a b : L2.St} (h : SameBut is a b) : wipe b is = wipe a is := by
  refine List.ext_getElem? fun j => ?_
  by_cases hj : j ∈ is
  · by_cases hl : j < a.length
    · rw [wipe_in a is j hj hl, wipe_in b is j hj (by rw [h.1]; exact hl)]
    · rw [List.getElem?_eq_none (by rw [wipe_length]; have := h.1; omega), List.getElem?_eq_none (by rw [wipe_length]; omega)]
  · rw [wipe_get a is j hj, wipe_get b is j hj, h.2 j hj]

section
variable {X : Cx} {B : XBt} {tg iter elt : Expr} {ifs : List Expr} {scope : Scope} {pos : Pos}
def WTs (X : Cx) (ifs : List Expr) : TT := fun sg H Q => Cl (∀ (pins : List (Addr × Obj)) (s : Shared), L2.Inv X pins sg H s →
  wpAny (model X.prog X.w) X.A (forIn ifs true fun c r => if r = true then do let ok ← isTrue c X.env (eval c X.env); pure (ForInStep.yield ok) else pure (ForInStep.yield r)) (TP X pins sg Q) X.xe s)
theorem pts_w : PTs X ifs (WTs X ifs) := ⟨fun pins s _ _ _ I h => h.go pins s I⟩
theorem wts_of {t : TT} (h : PTs X ifs t) {sg : L2.St} {H : Hp} {Q : Bool → Hp → Prop} (q : t sg H Q) : WTs X ifs sg H Q := ⟨fun pins s I => h.run pins s sg H Q I q⟩
def SndTs (X : Cx) (B : XBt) (ifs : List Expr) (t : Pg Bool) : Prop := ∀ (w : Wd) (Q : Bool → Hp → Prop), Rep X.K w → (t w.m).wp (PostT X.K w Q) (XW X.K B w) → WTs X ifs w.sg w.H Q
theorem sndTs_nil : SndTs X B [] (.ret true) := fun w Q r h => wts_of pts_nil (h w rfl rfl (FolE.refl w) r)
theorem sndTs_one {c : Expr} {t : Pg Bool} (h : SndT X B c t) : SndTs X B [c] t := fun w Q r hw => wts_of (pts_one pt_w) (h w Q r hw)

/-- the block's contexts -/
def EachBlk (X : Cx) (scope : Scope) (φ : Cx → Prop) : Prop := ∀ (s : Shared) (H : Hp) (C : Addr) (cl : List (Str × Addr)) (fp : List Addr), φ (X.blk s H scope (compEnvC scope cl C X.env) fp)
theorem ctx_blk {B : XBt} (C : Ctx X B) (s : Shared) (H : Hp) (Cc : Addr) (cl : List (Str × Addr)) (fp : List Addr) : Ctx (X.blk s H scope (compEnvC scope cl Cc X.env) fp) B0 := ⟨C.calm, C.gd, C.rm, C.nd, C.sm, takes_b0⟩
def compL (is : List Nat) (g : PyData → Pg Unit) (t : Pg Bool) (e : Pg EV) : List PyData → List PyData → Pg EV
  | [], acc => .ret (.fresh acc)
  | d :: ds, acc => .bind (g d) fun _ => .bind (noThr t) fun k => if k then .bind (noThr e) fun v => .bind (toA v) fun a => .bind (needD a) fun y => if acc.length < 16777216 then .bind (wipeP is) fun _ => compL is g t e ds (acc ++ [y]) else .stuck
      else .bind (wipeP is) fun _ => compL is g t e ds acc
def evComp (is : List Nat) (fi : Pg (List PyData)) (g : PyData → Pg Unit) (t : Pg Bool) (e : Pg EV) : Pg EV := .bind fi fun ds => .bind (wipeP is) fun _ => compL is g t e ds []

def gAll0 (X : Cx) (scope : Scope) (tg : Expr) : TG := fun v sg H Q => EachBlk X scope fun Y => WG Y tg v sg H Q
def tAll0 (X : Cx) (scope : Scope) (ifs : List Expr) : TT := fun sg H Q => EachBlk X scope fun Y => WTs Y ifs sg H Q
def eAll0 (X : Cx) (scope : Scope) (elt : Expr) : TE := fun sg H Q => EachBlk X scope fun Y => WE Y elt sg H Q
theorem lc_read {own : List (Str × Nat)} {fi : Pg (List PyData)} {g : PyData → Pg Unit} {t : Pg Bool} {fe : Pg EV} (gt : ∀ d m x m', g d m ≠ .thr x m') (hi : SndIE X B tg iter fi)
    (hg : EachBlk X scope fun Y => SndG Y (own.map (·.2)) tg g) (ht : EachBlk X scope fun Y => SndTs Y B0 ifs t) (he : EachBlk X scope fun Y => Snd Y B0 elt fe) {w : Wd} {Q : VK} (r : Rep X.K w)
    (hw : (evComp (own.map (·.2)) fi g t fe w.m).wp (PostE X.K w Q) (XW X.K B w)) : tLc (WI X tg iter) (gAll0 X scope tg) (tAll0 X scope ifs) (eAll0 X scope elt) (own.map (·.2)) w.sg w.H Q := by
  generalize own.map (·.2) = is at *
  refine hi w _ r ((wp_bind hw).imp (fun ds m0 hw w1 J em e1 f1 r1 itr => ?_) fun _ _ z => z)
  subst em
  intro D hD
  have hw1 : (compL is g t fe ds [] { w1.m with sl := wipeL is w1.m.sl }).wp (PostE X.K w Q) (XW X.K B w) := hw
  obtain ⟨r1w, f1w⟩ := rep_wipe r1 (is := is) (sg := w.sg) (by rw [e1]; exact SameBut.refl _ _)
  obtain ⟨rl, fl⟩ := lay r1w (p := D) hD (.lst [])
  have fD : w1.F D = none := by
    cases e : w1.F D with
    | none => rfl
    | some u =>
      have := r1.sub D u e
      rw [hD] at this
      cases this
  -- the new list is guarded while the block runs
  generalize hZd : (fun a => w1.Z a ∨ a = D) = Zd
  have zSub : ∀ a, w1.Z a → Zd a := fun a h => by rw [← hZd]; exact .inl h
  have zD : Zd D := by rw [← hZd]; exact .inr rfl
  have zInv : ∀ a, Zd a → w1.Z a ∨ a = D := fun a h => by rw [← hZd] at h; exact h
  have wz : w1.Z = w.Z := f1.z
  generalize hw0 : ({ F := w1.F, ro := w1.ro, m := { w1.m with sl := wipeL is w1.m.sl }, sg := w.sg, H := upd w1.H D (.lst []), Z := w1.Z, T := w1.T } : Wd) = w0 at rl fl
  have oD : ∀ {H : Hp} {vs : List V} {d a : Addr}, H D = some (.lst vs) → H d = some (.own a) → Zd d → w1.Z d := fun {H vs d a} hl hd z => by
    rcases zInv d z with q | q
    · exact q
    · rw [q, hl] at hd
      cases hd
  have r0 : Rep X.K (reZ w0 Zd) := reZ_more rl (fun a h => by
    rcases zInv a h with q | q
    · exact rl.zl a (by rw [← hw0]; exact q)
    · rw [q, ← hw0]
      show upd w1.H D (.lst []) D ≠ none
      rw [upd_same]
      simp) (fun a h z => by
    rcases zInv a z with q | q
    · exact (rl.ownAt h).2.2.2 (by rw [← hw0]; exact q)
    · have h : Own { w1 with m := { w1.m with sl := wipeL is w1.m.sl }, sg := w.sg } D := by rw [← hw0, q] at h; exact h
      exact (r1w.ownAt h).1 hD) fun d a hd z => by
    rw [← hw0] at hd ⊢
    exact oD (show (upd w1.H D (.lst [])) D = some (.lst []) from upd_same) hd z
  refine ⟨fun i n H => ∃ (w2 : Wd) (acc : List PyData) (vs : List V), w2.sg = w.sg ∧ w2.H = H ∧ w2.Z = Zd ∧ FolE w1 (reZ w2 w1.Z) ∧ Rep X.K w2 ∧ H D = some (.lst vs) ∧ RA X.K w2.F acc vs ∧ w2.F D = none ∧ D ∉ w2.ro ∧ n = ds.length - i ∧ i ≤ ds.length ∧
    (compL is g t fe (ds.drop i) acc w2.m).wp (PostE X.K w Q) (XW X.K B w) ∧ (∀ (j : Nat) (v : SV), j ∈ is → w2.m.sl[j]? ≠ some (some v)),
    ⟨ds.length, reZ w0 Zd, [], [], by rw [← hw0]; rfl, by rw [← hw0]; rfl, rfl, by rw [← hw0]; rw [← hw0] at fl; exact f1w.trans fl, r0, upd_same, .nil, by rw [← hw0]; exact fD, fun h => r1.roLive (by rw [← hw0] at h; exact h) hD, by omega, Nat.zero_le _, by rw [← hw0]; exact hw1, fun j v hj q => by rw [← hw0] at q; exact (wipeL_get q).2 hj⟩, ?_⟩
  rintro i n H ⟨w2, acc, vs, s2, rfl, z2, f2, r2, hl, ra, q1, q2, rfl, hle, q, hn⟩
  have z2s : ∀ a, w1.Z a → w2.Z a := fun a h => by rw [z2]; exact zSub a h
  have r2u : Rep X.K (reZ w2 w1.Z) := reZ_rep r2 z2s
  obtain ⟨itg, its⟩ := itr (reZ w2 w1.Z) f2 r2u i
  by_cases hlt : i < ds.length
  · have hd : ds[i]? = some ds[i] := List.getElem?_eq_getElem hlt
    obtain ⟨go, yl⟩ := itg _ hd
    rw [List.drop_eq_getElem_cons hlt] at q
    refine .inr ⟨go, fun H' => ∃ n', n' < ds.length - i ∧ ∃ (w2 : Wd) (acc : List PyData) (vs : List V), w2.sg = w.sg ∧ w2.H = H' ∧ w2.Z = Zd ∧ FolE w1 (reZ w2 w1.Z) ∧ Rep X.K w2 ∧ H' D = some (.lst vs) ∧ RA X.K w2.F acc vs ∧ w2.F D = none ∧ D ∉ w2.ro ∧ n' = ds.length - (i + 1) ∧ i + 1 ≤ ds.length ∧
      (compL is g t fe (ds.drop (i + 1)) acc w2.m).wp (PostE X.K w Q) (XW X.K B w) ∧ (∀ (j : Nat) (v : SV), j ∈ is → w2.m.sl[j]? ≠ some (some v)), fun H' h => h, fun x H' y => ?_⟩
    obtain ⟨w3u, b1, b2, b3, f3u, r3u, rx, gr⟩ := yl x H' y
    subst b3
    have r3 : Rep X.K (reZ w3u Zd) := reZ_more r3u (fun a h => f3u.liv a (r2.zl a (by rw [z2]; exact h))) (fun a h z => (r2.ownAt (show Own w2 a from f3u.own a h)).2.2.2 (by rw [z2]; exact z)) fun d a hd z => by
      rw [f3u.z]
      exact oD (f3u.frm D _ hl q2 (by intro _ z; cases z)) hd z
    have f3 : FolE w2 (reZ w3u Zd) := ⟨z2.symm, f3u.t, f3u.ext, f3u.pre, f3u.frm, f3u.new, f3u.liv, fun a h => (gr a h).imp id fun z k => r2.zl a k z, f3u.own⟩
    generalize hw3 : reZ w3u Zd = w3 at r3 f3
    have b1 : w3.m = w2.m := by rw [← hw3]; exact b1
    have b2 : w3.sg = w2.sg := by rw [← hw3]; exact b2
    have bH : w3u.H = w3.H := by rw [← hw3]; rfl
    have rx : R X.K w3.F ds[i] x := by rw [← hw3]; exact rx
    rw [bH]
    obtain ⟨r3w, f3w⟩ := rep_sg r3 (is := is) (sg := wipe w.sg is) (by rw [b2, s2]; exact sameBut_wipe _ _) (by rw [b1]; exact hn)
    intro s H0 Cc cl fp
    have q' := wp_bind (show (compL is g t fe (ds[i] :: ds.drop (i + 1)) acc w3.m).wp (PostE X.K w Q) (XW X.K B w) from by rw [b1]; exact q)
    refine hg s H0 Cc cl fp { w3 with sg := wipe w.sg is } ds[i] x _ r3w rx ?_
    show (g ds[i] w3.m).wp _ _
    cases eg : g ds[i] w3.m with
    | bad =>
      rw [eg] at q'
      exact q'.elim
    | thr e m' => exact absurd eg (gt _ _ e m')
    | ok u m' =>
      rw [eg] at q'
      intro w4 em eh sb f4 r4
      subst em
      have sb4 : SameBut is w.sg w4.sg := (sameBut_wipe is w.sg).trans sb
      refine ⟨(wipe_eq sb4), ?_⟩
      have f24 : FolE w2 w4 := f3.trans (f3w.trans f4)
      have toW : ∀ {w' : Wd}, FolE w2 w' → FolE w1 (reZ w' w1.Z) := fun {w'} f => f2.trans (reZ_fol f z2s)
      have kD : ∀ {w' : Wd}, FolE w2 w' → w'.H D = some (.lst vs) ∧ D ∉ w'.ro ∧ w'.F D = none ∧ w'.Z = Zd := fun {w'} f => ⟨f.frm D _ hl q2 (by intro _ z; cases z), fun z => (f.new D z).elim q2 (some_ne hl), Classical.byContradiction fun z => (f.grow D z).elim (fun k => k q1) fun k => k (by rw [z2]; exact zD), f.z.trans z2⟩
      intro s H0 Cc cl fp
      have q5 := wp_bind (show (Pg.bind (noThr t) _ w4.m).wp (PostE X.K w Q) (XW X.K B w) from q')
      refine ht s H0 Cc cl fp w4 _ r4 ((noThr_wp q5).imp (fun k m5 z w5 em e5 f5 r5 => ?_) fun _ _ z => z.elim)
      subst em
      have f25 : FolE w2 w5 := f24.trans f5
      cases k with
      | false =>
        have z : (compL is g t fe (ds.drop (i + 1)) acc { w5.m with sl := wipeL is w5.m.sl }).wp (PostE X.K w Q) (XW X.K B w) := z
        refine iteF ?_
        obtain ⟨r6, f6⟩ := rep_wipe r5 (is := is) (sg := w.sg) (by rw [e5]; exact sb4.symm)
        have f26 := f25.trans f6
        obtain ⟨d1, d2, d3, d4⟩ := kD f26
        exact ⟨ds.length - (i + 1), by omega, { w5 with m := { w5.m with sl := wipeL is w5.m.sl }, sg := w.sg }, acc, vs, rfl, rfl, d4, toW f26, r6, d1, ra.mono f26.ext, d3, d2, rfl, hlt, z, fun j v hj q => (wipeL_get q).2 hj⟩
      | true =>
        refine iteT ?_
        rw [← e5]
        intro s H0 Cc cl fp
        have q6 := wp_bind (show (Pg.bind (noThr fe) _ w5.m).wp (PostE X.K w Q) (XW X.K B w) from z)
        refine he s H0 Cc cl fp w5 _ r5 ((noThr_wp q6).imp (fun v m6 z w6 y em e6 f6 r6 re => ?_) fun _ _ z => z.elim)
        subst em
        obtain ⟨a, w7, ea, e7, h7, f7, r7, rv⟩ := toA_ok r6 re
        have z := wp_bind z
        rw [ea] at z
        obtain ⟨d, ed, zz⟩ := needD_ok (wp_bind (show (Pg.bind (needD a) _ w7.m).wp (PostE X.K w Q) (XW X.K B w) from z))
        subst ed
        clear z
        have z := zz
        have f27 : FolE w2 w7 := f25.trans (f6.trans f7)
        have s7 : SameBut is w7.sg w.sg := by
          rw [e7, e6, e5]
          exact sb4.symm
        by_cases hz : acc.length < 16777216
        · rw [if_pos hz] at z
          have z : (compL is g t fe (ds.drop (i + 1)) (acc ++ [d]) { w7.m with sl := wipeL is w7.m.sl }).wp (PostE X.K w Q) (XW X.K B w) := z
          obtain ⟨r8, f8⟩ := rep_wipe r7 (is := is) (sg := w.sg) s7
          have f28 := f27.trans f8
          generalize hw8 : ({ F := w7.F, ro := w7.ro, m := { w7.m with sl := wipeL is w7.m.sl }, sg := w.sg, H := w7.H, Z := w7.Z, T := w7.T } : Wd) = w8 at r8 f28
          obtain ⟨d1, d2, d3, d4⟩ := kD f28
          have nO : ¬ Own w8 D := fun z => (r8.ownAt z).2.2.2 (by rw [d4]; exact zD)
          have r9 := poke (o := .lst (vs ++ [y])) r8 d3 d2 nO (fun {a d} z e => by rw [e, d1] at z; cases z) (fun C d vs z => by rw [d1] at z; cases z) ⟨_, d1, fun z => z⟩
          have hH : w6.H = w8.H := by rw [← hw8]; exact h7.symm
          rw [hH]
          have f18 := toW f28
          have f19 : FolE w1 (reZ { w8 with H := upd w8.H D (.lst (vs ++ [y])) } w1.Z) := ⟨rfl, f18.t, f18.ext, f18.pre, fun a o h n k => by
            show upd w8.H D (.lst (vs ++ [y])) a = some o
            rw [upd_ne (fun e => by rw [e, hD] at h; cases h)]
            exact f18.frm a o h n k, f18.new, fun a h => by
            show upd w8.H D (.lst (vs ++ [y])) a ≠ none
            rw [upd_ne (fun e => h (by rw [e]; exact hD))]
            exact f18.liv a h, f18.grow, f18.own⟩
          have ra' : RA X.K w8.F (acc ++ [d]) (vs ++ [y]) := (ra.mono f28.ext).app (.one (by rw [← hw8]; exact rv))
          refine ⟨vs, d1, by rw [← (ra.mono f28.ext).len, sizeLine_eq]; exact hz, ds.length - (i + 1), by omega, { w8 with H := upd w8.H D (.lst (vs ++ [y])) }, acc ++ [d], vs ++ [y], by rw [← hw8], rfl, d4, f19, r9, upd_same, ra', d3, d2, rfl, hlt, ?_, fun j v hj q => ?_⟩
          · show (compL is g t fe (ds.drop (i + 1)) (acc ++ [d]) w8.m).wp _ _
            rw [← hw8]
            exact z
          · have q : w8.m.sl[j]? = some (some v) := q
            rw [← hw8] at q
            exact (wipeL_get q).2 hj
        · rw [if_neg hz] at z
          exact z.elim
  · have e0 : ds.drop i = [] := List.drop_eq_nil_of_le (by omega)
    rw [e0] at q
    have f12 : FolE w (reZ w2 w1.Z) := f1.trans f2
    refine .inl ⟨its (by omega), q (reZ w2 w1.Z) (.ref D) rfl s2 f12 r2u ⟨D, rfl, ⟨vs, hl, ra⟩, q1, q2, fun z => r1.zl D z hD, fun z => (r2.ownAt (show Own w2 D from z)).2.2.2 (by rw [z2]; exact zD)⟩⟩
theorem snd_lc {own : List (Str × Nat)} {fi : Pg (List PyData)} {g : PyData → Pg Unit} {t : Pg Bool} {fe : Pg EV} (C : Ctx X B) (ok : BlkOk X.N X.env.scope scope own) (gt : ∀ d m x m', g d m ≠ .thr x m') (hi : SndIE X B tg iter fi)
    (hg : EachBlk X scope fun Y => SndG Y (own.map (·.2)) tg g) (ht : EachBlk X scope fun Y => SndTs Y B0 ifs t) (he : EachBlk X scope fun Y => Snd Y B0 elt fe) (hs : ∀ x, foldedSetIterable iter X.env x = pure x := by intro _; rfl) :
    Snd X B (.ListComp elt [⟨tg, iter, ifs, 0⟩] scope pos) (evComp (own.map (·.2)) fi g t fe) := fun w Q r hw =>
  we_of (pe_lc C.calm C.nd pi_w ok (fun s H Cc cl fp => ⟨fun pins s1 _ _ _ u _ I rv h => (h s H Cc cl fp).go pins s1 u I rv⟩) (fun s H Cc cl fp => ⟨fun pins s1 _ _ _ I h => (h s H Cc cl fp).go pins s1 I⟩) (fun s H Cc cl fp => ⟨fun pins s1 _ _ _ I h => (h s H Cc cl fp).go pins s1 I⟩) hs)
    (lc_read gt hi hg ht he r hw)
/-- name = [..] on one row, the name a local -/
theorem snd_setLc {own : List (Str × Nat)} {fi : Pg (List PyData)} {g : PyData → Pg Unit} {t : Pg Bool} {fe : Pg EV} {y : Str} {py spos : Pos} (i : Nat) (C : Ctx X B) (hy : X.N[i]? = some y) (hyl : X.env.scope.names.lookup y = some .local)
    (hsw : swapsWith (.ListComp elt [⟨tg, iter, ifs, 0⟩] scope pos) (some (.Name y py)) spos.line X.env = pure true) (ok : BlkOk X.N X.env.scope scope own) (gt : ∀ d m x m', g d m ≠ .thr x m') (hi : SndIE X B tg iter fi)
    (hg : EachBlk X scope fun Y => SndG Y (own.map (·.2)) tg g) (ht : EachBlk X scope fun Y => SndTs Y B0 ifs t) (he : EachBlk X scope fun Y => Snd Y B0 elt fe) (hs : ∀ x, foldedSetIterable iter X.env x = pure x := by intro _; rfl) :
    SndS X B (.Assign [.Name y py] (.ListComp elt [⟨tg, iter, ifs, 0⟩] scope pos) spos) (evSet i (evComp (own.map (·.2)) fi g t fe)) := by
  intro w D r hw
  refine ws_of (ps_setLc C.calm C.nd hy hyl hsw pi_w ok (fun s H Cc cl fp => ⟨fun pins s1 _ _ _ u _ I rv h => (h s H Cc cl fp).go pins s1 u I rv⟩) (fun s H Cc cl fp => ⟨fun pins s1 _ _ _ I h => (h s H Cc cl fp).go pins s1 I⟩) (fun s H Cc cl fp => ⟨fun pins s1 _ _ _ I h => (h s H Cc cl fp).go pins s1 I⟩) hs)
   (lc_read (Q := fun x H1 => D.nx (w.sg.set i (some x)) H1) gt hi hg ht he r ((wp_bind hw).imp (fun v m' q w1 x em e1 f1 r1 re => ?_) fun _ _ z => z))
  subst em
  obtain ⟨w2, s2, h2, f2, r2, q⟩ := asg_ok (B := B) r1 re (wp_bind q)
  have q := q w2 rfl ((f1.s r).trans f2) r2
  rw [s2, h2, e1] at q
  exact q
end
end Ev

namespace Ev
open PySem PySem.Spec PyProof.Rows L2

/-! ### a[b] -/
theorem RA.atI {K : PySem.W.Frag} {F : Hp} {ds : List PyData} {vs : List V} {i : Int} {d : PyData} (a : RA K F ds vs) (h : atI ds i = some d) : ∃ v, atI vs i = some v ∧ R K F d v := by
  unfold L2.atI at h ⊢
  rw [← a.len]
  cases e : ixN ds.length i with
  | none =>
    rw [e] at h
    cases h
  | some j =>
    rw [e] at h
    exact a.get h
def chD (z : Str) (i : Int) : Option PyData := if z.length ≤ 16777216 then (atI z.cps.toList i).map fun c => .str ⟨#[c]⟩ else none
/-- a[b], by values -/
def ixS : PyData → PyData → Option PyData
  | .list xs, .int i => atI xs i
  | .tuple xs, .int i => atI xs i
  | .str z, .int i => chD z i
  | .dict es, k => if plainK es && keyB k then dGet es k else none
  | _, _ => none
def ixP (o i : OV) : Pg EV := look o fun x => look i fun y => optP ((ixS x y).map .d)
theorem ix_val {K : PySem.W.Frag} {w : Wd} {xs : List PyData} {vs : List V} {i : Int} {d : PyData} (a : RA K w.F xs vs) (h : atI xs i = some d) : ∃ v, atI vs i = some v ∧ RE K w (.d d) v := a.atI h
theorem anyIx {X : Cx} : IxR X (fun x y H Q => ∃ r, IxR X r ∧ r x y H Q) := by
  intro value slice pins s sg H x y v u Q I rx ry ⟨r, hr, q⟩ hs
  exact hr value slice pins s sg H x y v u Q I rx ry q hs
def rIxDK : R2 := fun x y H Q => ∃ a v, x = .ref a ∧ DGet H a y (some v) ∧ Q v H
theorem ix_dict {X : Cx} (hu : X.A.units + 1 < cLine) : IxR X rIxDK := by
  intro value slice pins s sg H x y v u Q I rx ry ⟨a, v0, ex, g, q⟩ hs
  subst ex
  obtain rfl : v = Value.ref a := rx
  exact tail_any (dict_typeIs I g) PySem.F.slot_dict_getitem.lookup (d_getItem hu I g ry fun w' s3 I3 rw' => ⟨v0, H, I3, rw', q⟩) hs
section
variable {X : Cx} {B : XBt} {a b c e : Expr} {es : List Expr} {fa fb fc f : Pg EV} {pos p : Pos}
def evIx (fa fb : Pg EV) : Pg EV := .bind fa fun v => .bind fb fun u => ixP (opnd v) (opnd u)
theorem snd_ix (C : Ctx X B) (ha : Snd X B a fa) (hb : Snd X B b fb) (hs : PlainIx b := by intro _ _; rfl) : Snd X B (.Subscript a b pos) (evIx fa fb) := by
  intro w Q r h
  refine we_of (pe_ix anyIx pe_w pe_w hs) ?_
  refine snd_then ha r h fun v w1 x e1 f1 r1 re h1 => ?_
  rw [← e1]
  refine snd_then hb r1 h1 fun u w2 y e2 f2 r2 re2 h2 => ?_
  obtain ⟨dx, q1, h2⟩ := look_ok h2
  obtain ⟨dy, q2, h2⟩ := look_ok h2
  have o1 := ((re.ro r1).fol r1 f2).rn r2 q1
  have o2 := (re2.ro r2).rn r2 q2
  have fo := f1.trans f2
  have es := e2.trans e1
  obtain ⟨z, ez, q⟩ := wp_opt h2
  cases ei : ixS dx dy with
  | none =>
    rw [ei] at ez
    cases ez
  | some d =>
    rw [ei] at ez
    cases ez
    have k := PostE.keep q es fo
    cases dx with
    | list xs =>
      cases dy with
      | int i =>
        obtain rfl := o2.int
        obtain ⟨p, vs, rfl, hq, ra⟩ := o1.lst r2.sub
        obtain ⟨z, hz, rz⟩ := ix_val ra ei
        exact ⟨_, ix_list, p, vs, i, z, rfl, rfl, hq.sq, hz, k.here r2 rz⟩
      | _ => cases ei
    | tuple xs =>
      cases dy with
      | int i =>
        obtain rfl := o2.int
        obtain ⟨p, vs, rfl, hq, ra⟩ := o1.tup
        obtain ⟨z, hz, rz⟩ := ix_val ra ei
        exact ⟨_, ix_tup, p, vs, i, z, rfl, rfl, sqt_mono r2.sub hq, hz, k.here r2 rz⟩
      | _ => cases ei
    | str s =>
      cases dy with
      | int i =>
        obtain rfl := o2.int
        obtain rfl := o1.str
        have ei : chD s i = some d := ei
        unfold chD at ei
        split at ei
        · rename_i hl
          cases ec : atI s.cps.toList i with
          | none =>
            rw [ec] at ei
            cases ei
          | some c =>
            rw [ec] at ei
            cases ei
            exact ⟨_, ix_str, s, i, c, rfl, rfl, by rw [sizeLine_eq]; exact hl, ec, k.here r2 (.str _)⟩
        · cases ei
      | _ => cases ei
    | dict es0 =>
      have ei : (if plainK es0 && keyB dy then dGet es0 dy else none) = some d := by
        cases dy <;> exact ei
      split at ei
      · rename_i hp
        simp only [Bool.and_eq_true] at hp
        obtain ⟨kk, rfl⟩ := keyD_of hp.2
        obtain ⟨p, kvs, rfl, hH, rk⟩ := o1.dic r2.sub hp.1
        obtain ⟨v0, e0, rv0⟩ := (rk.val kk).1 d ei
        have ey := keyD_kV o2
        subst ey
        have u1 : X.A.units + 1 < cLine := by have := C.rm.un; omega
        exact ⟨_, ix_dict u1, p, v0, rfl, by rw [← e0]; exact DGet.k hH, k.here r2 rv0⟩
      · cases ei
    | _ => cases dy <;> cases ei

/-! ### a[lo:hi] -/
/-- a slice's part -/
def WO (X : Cx) (e : Option Expr) : TO := fun sg H Q => Cl (∀ (pins : List (Addr × Obj)) (s : Shared), L2.Inv X pins sg H s → wpAny (model X.prog X.w) X.A (evalPart e X.env) (fun u s' => ∃ o H', L2.Inv X pins sg H' s' ∧ IsPart u o ∧ Q o H') X.xe s)
theorem po_w {e : Option Expr} : PO X e (WO X e) := ⟨fun pins s _ _ _ I h => h.go pins s I⟩
theorem wo_of {e : Option Expr} {t : TO} (h : PO X e t) {sg : L2.St} {H : Hp} {Q : Option Int → Hp → Prop} (q : t sg H Q) : WO X e sg H Q := ⟨fun pins s I => h.run pins s sg H Q I q⟩
def SndP (X : Cx) (B : XBt) (e : Option Expr) (f : Pg (Option Int)) : Prop := ∀ (w : Wd) (Q : Option Int → Hp → Prop), Rep X.K w →
  (f w.m).wp (fun o m' => ∀ (w' : Wd), w'.m = m' → w'.sg = w.sg → FolE w w' → Rep X.K w' → Q o w'.H) (XW X.K B w) → WO X e w.sg w.H Q
def intD : PyData → Option (Option Int)
  | .int i => some (some i)
  | _ => none
def intP (o : OV) : Pg (Option Int) := look o fun x => optP (intD x)
def evPart (f : Pg EV) : Pg (Option Int) := .bind f fun v => intP (opnd v)
theorem sndP_none : SndP X B none (.ret none) := fun w Q r h => wo_of po_none (h w rfl rfl (FolE.refl w) r)
theorem sndP_some (h : Snd X B e f) : SndP X B (some e) (evPart f) := by
  intro w Q r hw
  refine wo_of (po_some pe_w) ?_
  refine snd_then h r hw fun v w1 x e1 f1 r1 re h1 => ?_
  obtain ⟨d, q1, h1⟩ := look_ok h1
  have o1 := (re.ro r1).rn r1 q1
  obtain ⟨z, ez, q⟩ := wp_opt h1
  cases d with
  | int i =>
    cases ez
    obtain rfl := o1.int
    exact ⟨i, rfl, q w1 rfl e1 f1 r1⟩
  | _ => cases ez
theorem sndP_then {eo : Option Expr} {f : Pg (Option Int)} {α : Type} {g : Option Int → Pg α} {P : α → Mem → Prop} {w : Wd} {Q : Option Int → Hp → Prop} (h : SndP X B eo f) (r : Rep X.K w) (hw : (Pg.bind f g w.m).wp P (XW X.K B w))
    (next : ∀ (v : Option Int) (w' : Wd), w'.sg = w.sg → FolE w w' → Rep X.K w' → (g v w'.m).wp P (XW X.K B w') → Q v w'.H) : WO X eo w.sg w.H Q := by
  refine h w Q r ((wp_bind hw).imp (fun v m' q w' e1 e2 f r' => ?_) fun _ _ q => q)
  subst e1
  exact next v w' e2 f r' (q.imp (fun _ _ z => z) fun _ _ z => z.fol (f.s r))
def cutD (xs : List PyData) (lo hi : Option Int) : List PyData := (xs.drop (HT.sIx xs.length 0 lo)).take (HT.sIx xs.length xs.length hi - HT.sIx xs.length 0 lo)
def slS (x : PyData) (lo hi : Option Int) : Option EV :=
  match x with
  | .list xs => some (.fresh (cutD xs lo hi))
  | .tuple xs => some (.d (.tuple (cutD xs lo hi)))
  | .str z => if z.length ≤ 16777216 then some (.d (.str (Txt.slice z lo hi))) else none
  | _ => none
def slP (x : OV) (lo hi : Option Int) : Pg EV := look x fun x => optP (slS x lo hi)
def evSl (fa : Pg EV) (fl fh : Pg (Option Int)) : Pg EV := .bind fa fun v => .bind fl fun l => .bind fh fun h => slP (opnd v) l h
theorem RA.cut {K : PySem.W.Frag} {F : Hp} {ds : List PyData} {vs : List V} (a : RA K F ds vs) (lo hi : Option Int) : RA K F (cutD ds lo hi) (cutV vs lo hi) := by
  unfold cutD cutV
  rw [← a.len]
  exact (a.drop _).take _
theorem anySl : SlR X (fun x lo hi H Q => ∃ r, SlR X r ∧ r x lo hi H Q) := by
  intro pins s sg H x v vl vu lo hi sl Q I rx hs pl pu ⟨r, hr, q⟩
  exact hr pins s sg H x v vl vu lo hi sl Q I rx hs pl pu q
theorem cut_whole {xs : List PyData} {lo hi : Option Int} (h : HT.sIx xs.length 0 lo = 0 ∧ HT.sIx xs.length xs.length hi = xs.length) : cutD xs lo hi = xs := by
  unfold cutD
  rw [h.1, h.2]
  simp
theorem snd_sl {lo hi : Option Expr} {fl fh : Pg (Option Int)} {p2 : Pos} (ha : Snd X B a fa) (hl : SndP X B lo fl) (hh : SndP X B hi fh) : Snd X B (.Subscript a (.Slice lo hi none p2) pos) (evSl fa fl fh) := by
  intro w Q r h
  refine we_of (pe_slice anySl pe_w po_w po_w) ?_
  refine snd_then ha r h fun v w1 x e1 f1 r1 re h1 => ?_
  rw [← e1]
  refine sndP_then hl r1 h1 fun l w2 e2 f2 r2 h2 => ?_
  rw [← e2]
  refine sndP_then hh r2 h2 fun h w3 e3 f3 r3 h3 => ?_
  obtain ⟨d, q1, h3⟩ := look_ok h3
  have o1 := (((re.ro r1).fol r1 f2).fol r2 f3).rn r3 q1
  have fo := f1.trans (f2.trans f3)
  have es := e3.trans (e2.trans e1)
  obtain ⟨z, ez, q⟩ := wp_opt h3
  have k := PostE.keep q es fo
  cases d with
  | list xs =>
    cases ez
    obtain ⟨p, vs, rfl, hq, ra⟩ := o1.lst r3.sub
    exact ⟨_, sl_list, p, vs, rfl, hq.sq, fun b hb => k.lst r3 (ra.cut l h) hb⟩
  | tuple xs =>
    cases ez
    obtain ⟨p, vs, rfl, hq, ra⟩ := o1.tup
    refine ⟨_, sl_tupA, p, vs, rfl, sqt_mono r3.sub hq, fun hw => ?_, fun _ b hb => k.tup r3 (ra.cut l h) hb⟩
    refine k.here r3 ?_
    rw [← ra.len] at hw
    rw [cut_whole hw]
    exact R.tup hq ra
  | str s =>
    have ez : (if s.length ≤ 16777216 then some (EV.d (.str (Txt.slice s l h))) else none) = some z := ez
    split at ez
    · rename_i hz
      cases ez
      obtain rfl := o1.str
      exact ⟨_, C8.sl_txt, s, rfl, by rw [sizeLine_eq]; exact hz, k.here r3 (.str _)⟩
    · cases ez
  | _ => cases ez

/-! ### o[i] = e -/
theorem nodup_inj {α : Type} : ∀ {l : List α} {i j : Nat} {a : α}, l.Nodup → l[i]? = some a → l[j]? = some a → i = j
  | [], _, _, _, _, h, _ => by simp at h
  | b :: l, 0, 0, _, _, _, _ => rfl
  | b :: l, 0, j + 1, a, n, h1, h2 => by
    simp at h1 h2
    subst h1
    exact absurd (List.mem_of_getElem? h2) (List.nodup_cons.mp n).1
  | b :: l, i + 1, 0, a, n, h1, h2 => by
    simp at h1 h2
    subst h2
    exact absurd (List.mem_of_getElem? h1) (List.nodup_cons.mp n).1
  | b :: l, i + 1, j + 1, a, n, h1, h2 => by
    simp at h1 h2
    rw [nodup_inj (List.nodup_cons.mp n).2 h1 h2]
theorem cell_ok {K : PySem.W.Frag} {w : Wd} (r : Rep K w) {n : Nat} {o o' : Ob} {a : Addr} {u : HO} (h1 : w.m.cs[n]? = some o) (h2 : w.ro[n]? = some a) (h4 : OH K w.F (upd w.H a u) (fun _ => False) a o') (hni : (∀ c fs, o ≠ .ins c fs) ∨ (∀ C d vs, w.H a = some (.ins C d vs) → ∃ C' vs', u = .ins C' d vs') := by exact .inl (by intro _ _ z; cases z)) :
    Rep K { w with m := { w.m with cs := w.m.cs.set n o' }, H := upd w.H a u } ∧ FolE w { w with m := { w.m with cs := w.m.cs.set n o' }, H := upd w.H a u } := by
  have ar : a ∈ w.ro := List.mem_of_getElem? h2
  have q1 := r.rf a ar
  have oth : ∀ b o, b ≠ a → w.H b = some o → upd w.H a u b = some o := fun b o n e => by
    rw [upd_ne n]
    exact e
  have nod : ∀ {b d : Addr}, w.H d = some (.own b) → d ≠ a := fun {b d} e z => (r.noOwnDict e).1 (z ▸ ar)
  have liv : ∀ b, w.H b ≠ none → upd w.H a u b ≠ none := fun b h => by
    by_cases e : b = a
    · rw [e, upd_same]
      simp
    · rw [upd_ne e]
      exact h
  have tb' : (TK K w).P (upd w.H a u) ∧ (∀ b ps, w.F b ≠ some (.tbl ps)) ∧ ∀ b ps, upd w.H a u b = some (.tbl ps) → ∃ q, (b, q) ∈ tabL K := by
    obtain ⟨a', k1, k2⟩ := r.cs n _ h1
    rw [h2] at k1
    cases k1
    exact ⟨(TK _ w).us r.tb.1 k2.soft, r.tb.2.1, tbl_upd r.tb.2.2 (h4.ntbl upd_same)⟩
  have nl : n < w.m.cs.length := (List.getElem?_eq_some_iff.mp h1).1
  refine ⟨⟨fun b o e => ?_, r.le, fun j v h => ?_, fun k zs h => ?_, ?_, r.rf, r.nd, r.ow, fun b h => liv b (r.zl b h), fun d b h => ?_, tb'⟩, ⟨rfl, rfl, Same.refl _, ⟨[], (List.append_nil _).symm⟩, fun b o e z _ => oth b o (fun q => z (q ▸ ar)) e, fun _ h => .inl h, liv, fun _ h => .inl h, fun _ h => h⟩⟩
  · have n : b ≠ a := fun z => by
      have e : w.F b = some o := e
      rw [z, q1] at e
      cases e
    exact oth b o n (r.sub b o e)
  · obtain ⟨x, p1, p2⟩ := r.sl j v h
    refine ⟨x, p1, ?_⟩
    cases v with
    | d y => exact p2
    | cell n => exact p2
    | thk t => exact p2
    | ob zs =>
      obtain ⟨b, e, k1, k3, k4, k5⟩ := p2
      exact ⟨b, e, k1.keep (Same.refl _) (fun u => oth b u fun z => k4 (z ▸ ar)) (fun d z => oth d _ (nod z) z) (fun _ _ z => z), k3, k4, k5⟩
  · rcases set_get (show (w.m.cs.set n o')[k]? = some zs from h) with ⟨e1, e2⟩ | ⟨e1, e2⟩
    · subst e1 e2
      exact ⟨a, h2, h4⟩
    · obtain ⟨b, k1, k2⟩ := r.cs k zs e2
      have nb : b ≠ a := fun z => e1 (by
        subst z
        exact nodup_inj r.nd k1 h2)
      exact ⟨b, k1, k2.keep (Same.refl _) (fun u => oth b u nb) (fun d z => oth d _ (nod z) z) (fun _ _ z => z)⟩
  · show (w.m.cs.set n o').length = _
    rw [List.length_set]
    exact r.ln
  · have h : upd w.H a u d = some (.own b) := h
    by_cases q : d = a
    · rw [q] at h
      exact absurd h h4.noOwn
    · rw [upd_ne q] at h
      obtain ⟨C, vs, e⟩ := r.oo d b h
      by_cases z : b = a
      · subst z
        rcases hni with hni | hni
        · obtain ⟨a', ha', hO⟩ := r.cs n o h1
          rw [h2] at ha'
          cases ha'
          cases o with
          | lst xs =>
            obtain ⟨ws, k1, _⟩ := hO
            rw [k1] at e
            cases e
          | dic es =>
            obtain ⟨ws, k1, _⟩ := hO
            rw [k1] at e
            cases e
          | ins c fs => exact absurd rfl (hni c fs)
        · obtain ⟨C', vs', eu⟩ := hni C d vs e
          exact ⟨C', vs', by rw [eu]; exact upd_same⟩
      · exact ⟨C, vs, oth b _ z e⟩
/-- o[i] = d, by values -/
def putS (o : Ob) (i d : PyData) : Option Ob := match o, i with
  | .lst xs, .int k => (ixN xs.length k).map fun j => .lst (xs.set j d)
  | .dic es, k => if keyB k && decide (es.length < 16777216) then some (.dic (dPut es k d)) else none
  | _, _ => none
/-- the object of a slot, or a shared one, becomes another -/
def putAt (v : EV) (o' : Ob) : Pg Unit := match v with
  | .cell n => fun m => .ok () { m with cs := m.cs.set n o' }
  | .pk j _ => fun m => .ok () (setM m j (.ob o'))
  | _ => .stuck
/-- .. as it stands now -/
def getAt (v : EV) : Pg Ob := fun m => match v with
  | .cell n => match m.cs[n]? with
    | some o => .ok o m
    | none => .bad
  | .pk j _ => match m.sl[j]? with
    | some (some (.ob o)) => .ok o m
    | _ => .bad
  | _ => .bad
/-- the object o at v: where it lies, and what becomes of it by a change of its place alone -/
theorem at_ok {K : PySem.W.Frag} {w0 w : Wd} {v : EV} {x : V} {P : Ob → Mem → Prop} {E : Exn → Mem → Prop} (r0 : Rep K w0) (re : RE K w0 v x) (r : Rep K w) (hf : FolE w0 w) (hs : w.sg = w0.sg) (h : (getAt v w.m).wp P E) :
    ∃ a o, x = .ref a ∧ OH K w.F w.H (fun _ => False) a o ∧ P o w.m ∧ ∀ (o' : Ob) (u : HO) {R : Unit → Mem → Prop} {E' : Exn → Mem → Prop}, ((∀ c fs, o ≠ .ins c fs) ∨ (∀ C d vs, w.H a = some (.ins C d vs) → ∃ C' vs', u = .ins C' d vs')) → (∀ Z, OH K w.F w.H Z a o → OH K w.F (upd w.H a u) Z a o') → (putAt v o' w.m).wp R E' → ∃ w' : Wd, w'.H = upd w.H a u ∧ w'.sg = w.sg ∧ Rep K w' ∧ FolS w w' ∧ R () w'.m := by
  cases v with
  | d _ => exact h.elim
  | new _ => exact h.elim
  | cell n =>
    obtain ⟨p, rfl, hp⟩ := re
    have hp := hf.at hp
    unfold getAt at h
    dsimp only at h
    split at h
    · rename_i o ec
      obtain ⟨p', hp', hO⟩ := r.cs n o ec
      rw [hp] at hp'
      cases hp'
      refine ⟨p, o, rfl, hO, h, fun o' u R E' hni ho q => ?_⟩
      obtain ⟨r5, f5⟩ := cell_ok r ec hp (ho _ hO) hni
      exact ⟨{ w with m := { w.m with cs := w.m.cs.set n o' }, H := upd w.H p u }, rfl, rfl, r5, f5.s r, q⟩
    · exact h.elim
  | pk j o0 =>
    unfold getAt at h
    dsimp only at h
    split at h
    · rename_i o ec
      obtain ⟨_, g2⟩ := re
      obtain ⟨z, g3, b, g4, g5, _⟩ := r.sl j _ ec
      have g3' := g3
      rw [hs, g2] at g3
      cases g3
      subst g4
      refine ⟨b, o, rfl, g5.any, h, fun o' u R E' hni ho q => ?_⟩
      obtain ⟨r5, f5⟩ := grow_ok r ec g3' (ho _ g5) hni
      exact ⟨{ w with m := setM w.m j (.ob o'), H := upd w.H b u }, rfl, rfl, r5, f5, q⟩
    · exact h.elim
def storeP (v : EV) (i : OV) (d : PyData) : Pg Fl := .bind (getAt v) fun o => look i fun k => .bind (optP (putS o k d)) fun o' => .bind (putAt v o') fun _ => .ret .next
def evStore (fe fo fi : Pg EV) : Pg Fl := .bind fe fun v => .bind (toA v) fun a => .bind (needD a) fun d => .bind fo fun o => .bind fi fun i => storeP o (opnd i) d
theorem anySet {X : Cx} : PSet X (fun o i v H Q => ∃ t, PSet X t ∧ t o i v H Q) := by
  intro pins s sg H o i v ov iv u Q I ro ri rv ⟨t, ht, q⟩
  exact ht pins s sg H o i v ov iv u Q I ro ri rv q
theorem snd_store {o i : Expr} {fo fi : Pg EV} {p2 : Pos} (C : Ctx X B) (he : Snd X B e f) (ho : Snd X B o fo) (hi : Snd X B i fi) (hs : swapsWithSole [.Subscript o i p2] e pos.line X.env = pure false := by rfl) (hw : swappedStores [.Subscript o i p2] e X.env = pure none := by rfl)
    (h1 : (assignEach [.Subscript o i p2] X.env).map (·.2) = [assign (.Subscript o i p2) X.env] := by rfl)
    (ha : ∀ v, assign (.Subscript o i p2) X.env v = (do
      let ov ← holding [v] (eval o X.env)
      let iv ← holding [v, ov] (eval i X.env)
      standAt p2
      holding [v, ov, iv] (setItem ov iv v)
      release [v, ov, iv] []) := by intro _; rfl) : SndS X B (.Assign [.Subscript o i p2] e pos) (evStore f fo fi) := by
  intro w D r hh
  refine ws_of (ps_asg pe_w (pg_sub pe_w pe_w anySet ha) hs hw h1) ?_
  refine snd_then he r hh fun v w1 y e1 f1 r1 re q1 => ?_
  obtain ⟨a, w2, ea, e2, e3, f2, r2, rv⟩ := toA_ok r1 re
  have q2 := wp_bind q1
  rw [ea] at q2
  obtain ⟨d, ed, q3⟩ := needD_ok (wp_bind (show (Pg.bind (needD a) _ w2.m).wp (PostS X.K w D) (XW X.K B w1) from q2))
  subst ed
  have s2 : w2.sg = w.sg := e2.trans e1
  have rv : R X.K w2.F d y := rv
  rw [← e3, ← s2]
  have q3 := q3.imp (fun _ _ z => z) fun _ _ z => z.fol (f2.s r1)
  refine snd_then ho r2 q3 fun ov w3 ox e4 f3 r3 re3 q4 => ?_
  have s3 : w3.sg = w.sg := e4.trans s2
  rw [← e4]
  refine snd_then hi r3 q4 fun iv w4 ix e5 f4 r4 re4 q5 => ?_
  have s4 : w4.sg = w.sg := e5.trans s3
  have fol : FolE w w4 := f1.trans (f2.trans (f3.trans f4))
  have rd : R X.K w4.F d y := (rv.mono f3.ext).mono f4.ext
  obtain ⟨p, o, rfl, hO, q6, next⟩ := at_ok r3 re3 r4 f4 e5 (wp_bind q5)
  obtain ⟨k, ek, q7⟩ := look_ok q6
  have oi := (re4.ro r4).rn r4 ek
  obtain ⟨o', eo, q8⟩ := wp_opt (wp_bind q7)
  have fin : ∀ {u : HO}, (∀ Z, OH X.K w4.F w4.H Z p o → OH X.K w4.F (upd w4.H p u) Z p o') → D.nx w3.sg (upd w4.H p u) := fun {u} h => by
    have hni : ∀ c fs, o ≠ .ins c fs := fun c fs z => by
      subst z
      cases k <;> cases eo
    obtain ⟨w5, eH, es, r5, f5, z⟩ := next o' u (.inl hni) h (wp_bind q8)
    have z := z w5 rfl ((fol.s r).trans f5) r5
    rw [eH, es, e5] at z
    exact z
  cases o with
  | lst xs =>
    cases k with
    | int k =>
      have eo : (ixN xs.length k).map (fun j => Ob.lst (xs.set j d)) = some o' := eo
      cases ej : ixN xs.length k with
      | none =>
        rw [ej] at eo
        cases eo
      | some j =>
        rw [ej] at eo
        cases eo
        obtain rfl := oi.int
        obtain ⟨vs, hH, ra⟩ := hO
        exact ⟨_, set_list, p, vs, k, j, rfl, rfl, hH, by rw [← ra.len]; exact ej, fin fun Z _ => ⟨_, upd_same, ra.set j rd⟩⟩
    | _ => cases eo
  | dic es0 =>
    have eo : (if keyB k && decide (es0.length < 16777216) then some (Ob.dic (dPut es0 k d)) else none) = some o' := by
      cases k <;> exact eo
    split at eo
    · rename_i hk
      simp only [Bool.and_eq_true, decide_eq_true_eq] at hk
      cases eo
      obtain ⟨kk, rfl⟩ := keyD_of hk.1
      obtain rfl := keyD_kV oi
      obtain ⟨kvs, hH, rk⟩ := hO
      have u1 : X.A.units + 1 < cLine := by have := C.rm.un; omega
      exact ⟨_, set_dict u1, p, _, rfl, DPut.k hH (by rw [← rk.len, sizeLine_eq]; exact hk.2), fin fun Z _ => ⟨_, upd_same, rk.put rd kk⟩⟩
    · cases eo
  | ins c fs => cases k <;> cases eo

/-! ### calls: no argument; keywords -/
variable {k : Nat} {x : Str} {ps : List Str}
theorem snd_call0 {g : Fn} (C : Ctx X B) (h : Has X k x [] g) (hr : Room k X.A) (hg : Gl X x) (hdb : (x == ("__debug__" : Str)) = false := by decide) : Snd X B (.Call (.Name x p) [] [] pos) (evCall g evNil) := by
  obtain ⟨f, fd, F, hm, hk, hb⟩ := h.ex
  intro w Q r hw
  refine we_of (pe_g0 C F hr hg hm hk hb .nil hdb) ?_
  have hw := wp_bind hw
  exact call_end r rfl .nil (show (callS g [] w.m).wp _ _ from hw)
def WK (X : Cx) (kws : List Keyword) : TA := fun sg H Q => Cl (∀ (pos : Pos) (pins : List (Addr × Obj)) (s : Shared), L2.Inv X pins sg H s → wpAny (model X.prog X.w) X.A (evalAll ((backToKw pos (keywordEach kws X.env)).map (·.2))) (AP X pins sg Q) X.xe s)
theorem pk_w {kws : List Keyword} : PK X kws (WK X kws) := ⟨fun pos pins s _ _ _ I h => h.go pos pins s I⟩
theorem wk_of {kws : List Keyword} {t : TA} (h : PK X kws t) {sg : L2.St} {H : Hp} {Q : List V → Hp → Prop} (q : t sg H Q) : WK X kws sg H Q := ⟨fun pos pins s I => h.run pos pins s sg H Q I q⟩
def SndK (X : Cx) (B : XBt) (kws : List Keyword) (f : Pg (List AV)) : Prop := ∀ (w : Wd) (Q : List V → Hp → Prop), Rep X.K w → (f w.m).wp (PostA X.K w Q) (XW X.K B w) → WK X kws w.sg w.H Q
theorem sndK_nil : SndK X B [] evNil := fun w Q r h => wk_of pk_nil (h w [] rfl rfl (FolE.refl w) r .nil)
theorem sndK_then {kws : List Keyword} {f : Pg (List AV)} {α : Type} {g : List AV → Pg α} {P : α → Mem → Prop} {w : Wd} {Q : List V → Hp → Prop} (h : SndK X B kws f) (r : Rep X.K w) (hw : (Pg.bind f g w.m).wp P (XW X.K B w))
    (next : ∀ (v : List AV) (w' : Wd) (xs : List V), w'.sg = w.sg → FolE w w' → Rep X.K w' → Paired (RV X.K w') v xs → (g v w'.m).wp P (XW X.K B w') → Q xs w'.H) : WK X kws w.sg w.H Q := by
  refine h w Q r ((wp_bind hw).imp (fun v m' q w' x e1 e2 f r' re => ?_) fun _ _ q => q)
  subst e1
  exact next v w' x e2 f r' re (q.imp (fun _ _ z => z) fun _ _ z => z.fol (f.s r))
theorem sndK_cons {nm : Option Str} {kpos : Pos} {kws : List Keyword} {g : Pg (List AV)} (h1 : Snd X B e f) (h2 : SndK X B kws g) : SndK X B (⟨nm, e, kpos⟩ :: kws) (evConsA f g) := by
  intro w Q r h
  refine wk_of (pk_cons pe_w pk_w) ?_
  refine snd_then h1 r h fun v w1 x e1 f1 r1 re h' => ?_
  obtain ⟨a, w2, ea, e2, e3, f2, r2, rv⟩ := toA_ok r1 re
  have h'' := wp_bind h'
  rw [ea] at h''
  rw [← e1, ← e2, ← e3]
  have h3 : (Pg.bind g (fun r => Pg.ret (a :: r)) w2.m).wp (PostA X.K w Q) (XW X.K B w2) := Res.wp.imp h'' (fun _ _ q => q) fun _ _ q => q.fol (f2.s r1)
  refine sndK_then h2 r2 h3 fun vs w3 xs e4 f3 r3 rvs q => ?_
  exact q w3 (x :: xs) rfl (e4.trans (e2.trans e1)) (f1.trans (f2.trans f3)) r3 (.cons (rv.fol f3) rvs)
theorem paired_app {α β : Type} {P : α → β → Prop} : ∀ {as : List α} {xs : List β} {bs : List α} {ys : List β}, Paired P as xs → Paired P bs ys → Paired P (as ++ bs) (xs ++ ys)
  | _, _, _, _, .nil, h => h
  | _, _, _, _, .cons h t, g => .cons h (paired_app t g)
theorem paired_get {α β : Type} {P : α → β → Prop} : ∀ {as : List α} {xs : List β} (i : Nat), Paired P as xs → (as[i]? = none ∧ xs[i]? = none) ∨ ∃ a x, as[i]? = some a ∧ xs[i]? = some x ∧ P a x
  | _, _, _, .nil => .inl ⟨rfl, rfl⟩
  | _, _, 0, .cons h _ => .inr ⟨_, _, rfl, rfl, h⟩
  | _, _, i + 1, .cons _ t => by
    rcases paired_get i t with h | ⟨a, x, h1, h2, h3⟩
    · exact .inl (by simpa using h)
    · exact .inr ⟨a, x, by simpa using h1, by simpa using h2, h3⟩
/-- the values of l that stand at the places is -/
def pick {α : Type} (is : List Nat) (l : List α) : List α := is.filterMap fun i => l[i]?
theorem paired_pick {α β : Type} {P : α → β → Prop} {as : List α} {xs : List β} (h : Paired P as xs) : ∀ is : List Nat, Paired P (pick is as) (pick is xs)
  | [] => .nil
  | i :: is => by
    unfold pick
    rcases paired_get i h with ⟨h1, h2⟩ | ⟨a, x, h1, h2, h3⟩
    · rw [List.filterMap_cons_none h1, List.filterMap_cons_none h2]
      exact paired_pick h is
    · rw [List.filterMap_cons_some h1, List.filterMap_cons_some h2]
      exact .cons h3 (paired_pick h is)
/-- the def that a name holds, called by n values and keywords ks (is: where the parameters' values stand among these; none lacks) -/
structure HasK (X : Cx) (k : Nat) (x : Str) (ps : List Str) (n : Nat) (ks : List Str) (is : List Nat) (g : Fn) : Prop where
  ex : ∃ (f : Addr) (fd : FuncData), FnG X.prog X.w X.K X.mg X.base k f fd ps (spG X.K ps.length g) ∧ X.mg x = some (.ref f) ∧ PySem.W.keepIn X.K (.ref f) = true ∧
    ∀ (s : Shared) (us ws : List Value), X.K.In s.heap → us.length = n → ws.length = ks.length → BindsTo s fd ⟨us, ks.zip ws⟩ (ps.zip (pick is (us ++ ws)))
theorem run_gk {f : Addr} {fd : FuncData} {sp : Sp} {pins : List (Addr × Obj)} {sg : L2.St} {H : Hp} {s : Shared} {Q : VK} {us : List Value} {args : Args} {vs : List V} (C : Ctx X B) (F : FnG X.prog X.w X.K X.mg X.base k f fd ps sp) (hr : Room k X.A) (hb : BindsTo s fd args (ps.zip us))
    (I : L2.Inv X pins sg H s) (rv : Vals vs us) (h : sp vs H Q fun cls d H' => WXB X.K B cls d sg H') : codeAny (model X.prog X.w) X.A (.call (.ref f) args) (wants (EP X pins sg Q) X.xe) s := by
  refine codeAny_mono (F.go X.A X.stack s H args us vs Q _ C.gd hr I.env0 hb rv h) fun r s' hq => ?_
  match r, hq with
  | .error _, hq => exact pass_b C I hq
  | .ok (.ret u), hq => exact I.after hq
  | .ok .next, hq => exact (show False from hq).elim
  | .ok .brk, hq => exact (show False from hq).elim
  | .ok .cont, hq => exact (show False from hq).elim
def evCallK (g : Fn) (n m q : Nat) (is : List Nat) (fa fk : Pg (List AV)) : Pg EV := .bind fa fun vs => .bind fk fun zs => if vs.length = n ∧ zs.length = m ∧ (pick is (vs ++ zs)).length = q then callS g (pick is (vs ++ zs)) else .stuck
theorem vals_paired : ∀ {vs : List V} {us : List Value}, Vals vs us → Paired RelV vs us
  | _, _, .nil => .nil
  | _, _, .cons h t => .cons h (vals_paired t)
theorem paired_vals : ∀ {vs : List V} {us : List Value}, Paired RelV vs us → Vals vs us
  | _, _, .nil => .nil
  | _, _, .cons h t => .cons h (paired_vals t)
theorem callK_end {g : Fn} {n : Nat} {is : List Nat} {ks : List Str} {w w2 : Wd} {vs zs : List AV} {xs ys : List V} {Q : VK} {pins : List (Addr × Obj)} {s : Shared} {us ws : List Value} (C : Ctx X B) (h : HasK X k x ps n ks is g) (hr : Room k X.A) {f : Addr}
    (hm : X.mg x = some (.ref f)) (I : L2.Inv X pins w2.sg w2.H s) (ru : Vals xs us) (rw : Vals ys ws) (e2 : w2.sg = w.sg) (fo : FolE w w2) (rw0 : Rep X.K w) (r2 : Rep X.K w2) (rv : Paired (RV X.K w2) vs xs) (rz : Paired (RV X.K w2) zs ys)
    (hw : ((if vs.length = n ∧ zs.length = ks.length ∧ (pick is (vs ++ zs)).length = ps.length then callS g (pick is (vs ++ zs)) else .stuck : Pg EV) w2.m).wp (PostE X.K w Q) (XW X.K B w2)) :
    wpAny (model X.prog X.w) X.A (call (.ref f) us (ks.zip ws)) (EP X pins w2.sg Q) X.xe s := by
  obtain ⟨f', fd, F, hm', hk, hb⟩ := h.ex
  rw [hm] at hm'
  cases hm'
  split at hw
  · rename_i hl
    obtain ⟨l1, l2, l3⟩ := hl
    have q2 : (callS g (pick is (vs ++ zs)) w2.m).wp (PostE X.K w2 Q) (XW X.K B w2) := hw.imp (fun v m' z w3 y em es f2 r2 re => z w3 y em (es.trans e2) (fo.trans f2) r2 re) fun _ _ z => z
    have pv := paired_pick (paired_app rv rz) is
    have pu := paired_vals (paired_pick (paired_app (vals_paired ru) (vals_paired rw)) is)
    have sp := call_end (n := ps.length) r2 l3 pv q2
    exact wpAny_call (run_gk C F hr (hb s us ws I.kIn ((paired_len (vals_paired ru)).symm.trans ((paired_len rv).symm.trans l1)) ((paired_len (vals_paired rw)).symm.trans ((paired_len rz).symm.trans l2))) I pu sp)
  · exact hw.elim
theorem snd_callK {g : Fn} {n m q : Nat} {is : List Nat} {ks : List Str} {fa fk : Pg (List AV)} {kws : List Keyword} (C : Ctx X B) (h : HasK X k x ps n ks is g) (hm : ks.length = m) (hq : ps.length = q) (hr : Room k X.A) (hg : Gl X x) (ha : SndA X B (e :: es) fa) (hkw : SndK X B kws fk)
    (hall : (backToKw pos (keywordEach kws X.env)).all (·.1.isSome) = true := by rfl) (hks : (backToKw pos (keywordEach kws X.env)).filterMap (·.1) = ks := by rfl) (hdb : (x == ("__debug__" : Str)) = false := by decide)
    (he : starEach (e :: es) X.env = (false, eval e X.env) :: starEach es X.env := by rfl) (hpl : ((backTo pos (starEach (e :: es) X.env)).any (·.1) || (backToKw pos (keywordEach kws X.env)).any (·.1.isNone)) = false := by rfl) :
    Snd X B (.Call (.Name x p) (e :: es) kws pos) (evCallK g n m q is fa fk) := by
  subst hm hq
  obtain ⟨f, fd, F, hm, hk, hb⟩ := id h.ex
  intro w Q r hw
  refine ⟨fun pins s I => ?_⟩
  refine wpAny_Call_Name_kw (ld_glob I hg hm ?_ hdb)
  have wa : WA X (e :: es) w.sg w.H fun xs H1 => WK X kws w.sg H1 fun ys H2 => ∃ w2 : Wd, w2.H = H2 ∧ w2.sg = w.sg ∧ ∀ pins s us ws, L2.Inv X pins w2.sg w2.H s → Vals xs us → Vals ys ws → wpAny (model X.prog X.w) X.A (call (.ref f) us (ks.zip ws)) (EP X pins w2.sg Q) X.xe s := by
    refine sndA_then ha r hw fun vs w1 xs e1 f1 r1 rv q => ?_
    rw [← e1]
    refine sndK_then hkw r1 q fun zs w2 ys e2 f2 r2 rz q2 => ?_
    exact ⟨w2, rfl, e2, fun pins s us ws I ru rw => callK_end C h hr hm I ru rw (e2.trans e1) (f1.trans f2) r r2 (rvs_fol f2 rv) rz q2⟩
  refine PySem.W.callWith_KW (h₀ := X.base) I.ok.mod.kin hk hall (thn (wa.go pos pins s I) fun us s1 ⟨vs, H1, I1, r1, q⟩ => ?_) hpl he
  refine thn (q.go pos pins s1 I1) fun ws s2 ⟨zs, H2, I2, rz, w2, eH, eS, q2⟩ => ⟨I2.kIn, ?_⟩
  rw [hks]
  have z := q2 pins s2 us ws (by rw [eS, eH]; exact I2) r1 rz
  rw [eS] at z
  exact z
theorem snd_callK0 {g : Fn} {m q : Nat} {is : List Nat} {ks : List Str} {fk : Pg (List AV)} {kws : List Keyword} (C : Ctx X B) (h : HasK X k x ps 0 ks is g) (hm : ks.length = m) (hq : ps.length = q) (hr : Room k X.A) (hg : Gl X x) (hkw : SndK X B kws fk)
    (hall : (backToKw pos (keywordEach kws X.env)).all (·.1.isSome) = true := by rfl) (hks : (backToKw pos (keywordEach kws X.env)).filterMap (·.1) = ks := by rfl) (hdb : (x == ("__debug__" : Str)) = false := by decide)
    (hpl : ((backTo pos (starEach [] X.env)).any (·.1) || (backToKw pos (keywordEach kws X.env)).any (·.1.isNone)) = false := by rfl) :
    Snd X B (.Call (.Name x p) [] kws pos) (evCallK g 0 m q is evNil fk) := by
  subst hm hq
  obtain ⟨f, fd, F, hm, hk, hb⟩ := id h.ex
  intro w Q r hw
  refine ⟨fun pins s I => ?_⟩
  refine wpAny_Call_Name_kw (ld_glob I hg hm ?_ hdb)
  have wa : WK X kws w.sg w.H fun ys H2 => ∃ w2 : Wd, w2.H = H2 ∧ w2.sg = w.sg ∧ ∀ pins s ws, L2.Inv X pins w2.sg w2.H s → Vals ys ws → wpAny (model X.prog X.w) X.A (call (.ref f) [] (ks.zip ws)) (EP X pins w2.sg Q) X.xe s := by
    have q : (Pg.bind fk _ w.m).wp (PostE X.K w Q) (XW X.K B w) := wp_bind hw
    refine sndK_then hkw r q fun zs w2 ys e2 f2 r2 rz q2 => ?_
    exact ⟨w2, rfl, e2, fun pins s ws I rw => callK_end C h hr hm I .nil rw e2 f2 r r2 .nil rz q2⟩
  refine PySem.W.callWith_KW0 (h₀ := X.base) I.ok.mod.kin hk hall ?_ hpl
  refine thn (wa.go pos pins s I) fun ws s2 ⟨zs, H2, I2, rz, w2, eH, eS, q2⟩ => ⟨I2.kIn, ?_⟩
  rw [hks]
  have z := q2 pins s2 ws (by rw [eS, eH]; exact I2) rz
  rw [eS] at z
  exact z
end
end Ev

namespace Ev
open PySem PySem.Spec PyProof.Rows L2

section
variable {X : Cx} {B : XBt} {a b c e : Expr} {es : List Expr} {fa fb fc f : Pg EV} {pos p : Pos}
/-! ### -a -/
def negS : PyData → Option EV
  | .int i => some (.d (.int (-i)))
  | _ => none
def evNeg (f : Pg EV) : Pg EV := .bind f fun v => look (opnd v) fun x => optP (negS x)
theorem snd_neg (h : Snd X B a fa) : Snd X B (.UnaryOp .USub a pos) (evNeg fa) := by
  intro w Q r hw
  refine we_of (pe_un un_neg pe_w) ?_
  refine snd_then h r hw fun v w1 x e1 f1 r1 re h1 => ?_
  obtain ⟨d, q1, h1⟩ := look_ok h1
  have o1 := (re.ro r1).rn r1 q1
  obtain ⟨z, ez, q⟩ := wp_opt h1
  cases d with
  | int i =>
    cases ez
    obtain rfl := o1.int
    exact ⟨i, rfl, (PostE.keep q e1 f1).here r1 (.int _)⟩
  | _ => cases ez

/-! ### str(int), str(str) -/
def strOk (i : Int) : Bool := decide (i.natAbs.log2 < 1920)
def gStr : List PyData → Option EV
  | [.int i] => if strOk i then some (.d (.str (toString i))) else none
  | [.str z] => some (.d (.str z))
  | _ => none
theorem ok_str : BOk X (.type "str") gStr := by
  intro w ds xs v Q r h e k
  cases h with
  | nil => cases e
  | @cons d x ds xs h t =>
    cases t with
    | cons _ _ => cases d <;> cases e
    | nil =>
      cases d <;> try (cases e; done)
      · rename_i i
        have e : (if strOk i then some (EV.d (.str (toString i))) else none) = some v := e
        split at e
        · rename_i hz
          cases e
          rw [h.int]
          exact ⟨_, call_str_int, i, rfl, of_decide_eq_true hz, k.here r (.str _)⟩
        · cases e
      · cases e
        rw [h.str]
        exact ⟨_, SkE.call_str_str, _, rfl, k.here r (.str _)⟩
/-! ### {} -/
def evD0 : Pg EV := .ret (.new (.dic []))
theorem snd_dict0 : Snd X B (.Dict [] [] pos) evD0 := by
  intro w Q r hw
  refine we_of pe_dnewK ?_
  intro p hp
  obtain ⟨r2, f2⟩ := lay r hp (.dK [])
  exact hw { w with H := upd w.H p (.dK []) } _ rfl rfl f2 r2 (lay_dic r hp .nil)
/-! ### what a target never does -/
theorem nt_name {i : Nat} : ∀ d m x m', tgName i d m ≠ .thr x m' := fun _ _ _ _ h => by cases h
theorem nts_nil : ∀ d m x m', tgNil d m ≠ .thr x m' := fun d m x m' h => by cases d <;> cases h
theorem nts_cons {g : PyData → Pg Unit} {h : List PyData → Pg Unit} (h1 : ∀ d m x m', g d m ≠ .thr x m') (h2 : ∀ d m x m', h d m ≠ .thr x m') : ∀ d m x m', tgCons g h d m ≠ .thr x m' := fun d m x m' z => by
  cases d with
  | nil => cases z
  | cons d ds =>
    have z : Pg.bind (g d) (fun _ => h ds) m = .thr x m' := z
    unfold Pg.bind at z
    cases e : g d m with
    | ok u m1 =>
      rw [e] at z
      exact h2 _ _ _ _ z
    | thr x1 m1 => exact h1 _ _ _ _ e
    | bad =>
      rw [e] at z
      cases z
theorem nt_tup {n : Nat} {g : List PyData → Pg Unit} (h : ∀ d m x m', g d m ≠ .thr x m') : ∀ d m x m', tgTup n g d m ≠ .thr x m' := fun d m x m' z => by
  cases d with
  | tuple ds =>
    have z : (if ds.length = n then g ds else .stuck) m = .thr x m' := z
    split at z
    · exact h _ _ _ _ z
    · cases z
  | list ds =>
    have z : (if ds.length = n then g ds else .stuck) m = .thr x m' := z
    split at z
    · exact h _ _ _ _ z
    · cases z
  | _ => cases z
end
end Ev

namespace Ev
open PySem PySem.Spec PyProof.Rows L2

/-! ### the law's head -/
def ints_ (ns : List Int) : PyData := .list (ns.map PyData.int)
/-- the table of the def `law`: it is empty at first, and no part of the frame -/
def TabF (K : PySem.W.Frag) (h : Heap) : Prop := ∀ c P, PySem.W.tabIn K "law" = some (c, P) → PySem.W.CodeHd h c P ∧ h.get? P = some (PySem.W.tabObj #[]) ∧ K.lookup P = none
def TabG (K : PySem.W.Frag) (mg : Str → Option Value) (base : Heap) : Prop := ∀ c P, PySem.W.tabIn K "law" = some (c, P) → LamX.TabB base mg c P
def tabAt (K : PySem.W.Frag) (b : Addr) : Prop := (PySem.W.tabIn K "law").map (·.2) = some b
instance {K : PySem.W.Frag} {b : Addr} : Decidable (tabAt K b) := inferInstanceAs (Decidable (_ = _))
theorem tabAt_ex {K : PySem.W.Frag} {b : Addr} (h : tabAt K b) : ∃ c, PySem.W.tabIn K "law" = some (c, b) := by
  unfold tabAt at h
  cases e : PySem.W.tabIn K "law" with
  | none => rw [e] at h; cases h
  | some p =>
    rw [e] at h
    obtain ⟨c, P⟩ := p
    cases h
    exact ⟨c, rfl⟩
/-- what may be told at the law's start: the script, frozen, and the table -/
def StartH (K : PySem.W.Frag) (a : Addr) (H : Hp) : Prop := ∀ b, H b = none ∨ (tabAt K b ∧ H b = some (.tbl #[])) ∨ (b = a ∧ ∃ ob xs, H b = some (.frz ob (.lst xs)))
theorem tabs_start {K : PySem.W.Frag} {H : Hp} (h : ∀ b, tabAt K b → H b = some (.tbl #[])) : LamX.Tabs (tabL K) H := fun p hp => by
  obtain ⟨x, hx, q⟩ := List.mem_filterMap.mp hp
  rw [List.mem_singleton.mp hx] at q
  cases e : PySem.W.tabIn K "law" with
  | none => rw [e] at q; cases q
  | some r =>
    rw [e] at q
    cases q
    exact LamX.TabS.nil (h _ (by unfold tabAt; rw [e]; rfl))
theorem law_callG {P : Program} {w : World} {K : PySem.W.Frag} {mg mb : Str → Option Value} {k : Nat} {fa a : Addr} {fd : FuncData} {x : Str} {g : Fn} {s₁ : Shared} {vs : List Value} {ns : List Int}
    (KX : K.In s₁.heap) (hns : s₁.heap.Ns mainGlobals mg) (hb : s₁.heap.Ns builtinsNs mb) (hbb : ∀ x : Str, x ≠ "__name__" → mb x = bootBuiltins x) (hlim : s₁.heap.NoLimit) (hsm : ∃ mm, s₁.heap.Ns sysModules mm) (hg : s₁.gens = #[])
    (tf : TabF K s₁.heap) (hbm : ∃ (bm : Addr) (ob : Obj), mg "__builtins__" = some (.ref bm) ∧ bm ≠ builtinsNs ∧ s₁.heap.get? bm = some ob ∧ ob.cls = .type "module" ∧ ob.dict = some builtinsNs ∧ ob.data = .plain)
    (ha : s₁.heap.get? a = some { cls := .type "list", data := .seq vs.toArray }) (hi : IntsAre vs ns) (hl : ns.length ≤ sizeLine) (hr : Room k callerA)
    (F : ∀ base : Heap, K.In base → base.Ns mainGlobals mg → SM base → TabG K mg base → FnG P w K mg base k fa fd [x] (spG K 1 g)) (hbind : ∀ (s : Shared) (u : Value), BindsTo s fd ⟨[u], []⟩ [(x, u)])
    (law : ∃ m, g [.d (ints_ ns)] ⟨[], []⟩ = .ok (.d (.bool true)) m) :
    codeAny (model P w) callerA (.call (.ref fa) ⟨[.ref a], []⟩) (fun r s' => r = .ok (.ret (.bool true)) ∧ OldK s₁.heap s'.heap ∧ s'.os = s₁.os ∧ AllBare s'.gens) s₁ := by
  have rv := vals_ints hi
  have lenV := hi.length
  have isTab : ∀ b, tabAt K b → s₁.heap.get? b = some (PySem.W.tabObj #[]) ∧ K.lookup b = none := fun b h => by
    obtain ⟨c, e⟩ := tabAt_ex h
    exact (tf c b e).2
  have notA : ¬ tabAt K a := fun h => by
    have q := (isTab a h).1
    rw [ha] at q
    injection q with q
    injection q with _ _ q
    cases q
  have core : ∀ H : Hp, StartH K a H → (∀ b, tabAt K b → H b = some (.tbl #[])) → LQ K H a (ns.map V.int) → HOk P w H s₁.heap → (H a ≠ none → K.lookup a = none) →
      codeAny (model P w) callerA (.call (.ref fa) ⟨[.ref a], []⟩) (fun r s' => r = .ok (.ret (.bool true)) ∧ OldK s₁.heap s'.heap ∧ s'.os = s₁.os ∧ AllBare s'.gens) s₁ := by
    intro H hO hT hS hok hK
    have hid : ∀ {b : Addr} {o : Obj}, s₁.heap.get? b = some o → H b = none → (hidT s₁.heap H).get? b = some o := fun e n => hidT_get e n
    -- neither a list nor an empty table: nothing is told of it
    have free : ∀ {b : Addr} {o : Obj}, s₁.heap.get? b = some o → (∀ ws n, o.data ≠ .seq ws n) → o.data ≠ .fields #[] → H b = none := fun {b o} e h1 h2 => by
      rcases hO b with q | ⟨q, _⟩ | ⟨q, _⟩
      · exact q
      · rw [(isTab b q).1] at e
        cases e
        exact absurd rfl h2
      · rw [q, ha] at e
        cases e
        exact absurd rfl (h1 _ _)
    have noD : ∀ {b : Addr} {o : Obj} {es : Array DictEntry} {ep : Nat}, s₁.heap.get? b = some o → o.data = .dict es ep → H b = none := fun {b o es ep} e d =>
      free e (fun ws n z => by rw [d] at z; cases z) fun z => by rw [d] at z; cases z
    have nsK : ∀ {b : Addr} {m : Str → Option Value}, s₁.heap.Ns b m → (hidT s₁.heap H).Ns b m := fun {b m} ⟨o, es, ep, e, d, r⟩ => ⟨o, es, ep, hid e (noD e d), d, r⟩
    have hKb : K.In (hidT s₁.heap H) := fun b o e => hid (KX b o e) (by
      rcases hO b with q | ⟨q, _⟩ | ⟨q, ob, xs, z⟩
      · exact q
      · rw [(isTab b q).2] at e
        cases e
      · rw [q] at e z
        rw [hK (by rw [z]; simp)] at e
        cases e)
    have hM : Mod K mg (hidT s₁.heap H) := ⟨hKb, nsK hns, ⟨mb, nsK hb, hbb⟩, let ⟨mc, h1, h2⟩ := hlim; ⟨mc, nsK h1, h2⟩⟩
    have hTG : TabG K mg (hidT s₁.heap H) := fun c Q e => by
      obtain ⟨cd, tq, _⟩ := tf c Q e
      have gQ : mainGlobals ≠ Q := fun z => by
        obtain ⟨o, es, ep, e1, d, _⟩ := hns
        rw [z, tq] at e1
        cases e1
        cases d
      refine ⟨?_, ?_, gQ⟩
      · obtain ⟨o, us, fi, tfi, fl, tg, fr, tx, tt, e1, k1, k2, k3, rest⟩ := cd
        refine ⟨o, us, fi, tfi, fl, tg, fr, tx, tt, hid e1 (free e1 (fun ws n z => by rw [k2] at z; cases z) fun z => ?_), k1, k2, k3, rest⟩
        rw [k2] at z
        injection z with z
        rw [z] at k3
        simp at k3
      · obtain ⟨bm, ob, b1, b2, b3, b4, b5, b6⟩ := hbm
        refine ⟨bm, ob, b1, b2, fun z => ?_, fun z => ?_, hid b3 (free b3 (fun ws n z => by rw [b6] at z; cases z) fun z => by rw [b6] at z; cases z), b4, b5, b6⟩
        · obtain ⟨o, es, ep, e1, d, _⟩ := hns
          rw [z, e1] at b3
          cases b3
          rw [d] at b6
          cases b6
        · rw [z, tq] at b3
          cases b3
          cases b6
    have e0 : Env0 P w K mg (hidT s₁.heap H) callerA [] s₁ H := ⟨rfl, hM, fun b o e => of_hidT e, Nat.le_of_eq (hidT_size _ _), trivial, fun b hb => absurd (show b ∈ ([] : List Addr) from hb) (by simp), hok, .of_eq hg⟩
    have sp : spG K 1 g [.ref a] H (fun v _ => v = .bl true) fun _ _ _ => False := by
      obtain ⟨m, e⟩ := law
      have frz0 : ∀ b u, H b = some u → (∃ ob xs, u = .frz ob xs) ∨ u = .tbl #[] := fun b u z => by
        rcases hO b with q | ⟨_, q⟩ | ⟨_, ob, xs, q⟩
        · rw [q] at z; cases z
        · rw [q] at z; cases z; exact .inr rfl
        · rw [q] at z; cases z; exact .inl ⟨_, _, rfl⟩
      -- what is frozen from the start: all but the table
      let F0 : Hp := fun b => if tabAt K b then none else H b
      have fs : Same F0 H := fun b u z => by
        have z : (if tabAt K b then none else H b) = some u := z
        split at z
        · cases z
        · exact z
      have hS0 : LQ K F0 a (ns.map V.int) := by
        have e : F0 a = H a := if_neg notA
        rcases hS with (z | z) | z
        · exact .inl (.inl (e.trans z))
        · obtain ⟨ob, z⟩ := z
          exact .inl (.inr ⟨ob, e.trans z⟩)
        · exact .inr z
      refine ⟨{ F := F0, ro := [], m := ⟨[], []⟩, sg := [], H := H, Z := fun b => H b ≠ none, T := T0 }, [.d (ints_ ns)], rfl, rfl, rfl, fun _ h => h, ⟨fs, Nat.le_refl _, fun i v h => by simp at h, fun n xs h => by simp at h, rfl, fun b h => by simp at h, List.nodup_nil, fun i j xs ys x h => by simp at h, fun _ h => h, fun d c z => ?_, ⟨⟨trivial, tabs_start hT⟩, fun b ps z => ?_, fun b ps z => ?_⟩⟩, .cons (R.lst hS0 (RA.ints ns)) .nil, rfl, ?_⟩
      · rcases frz0 d _ z with ⟨_, _, q⟩ | q <;> cases q
      · have z : (if tabAt K b then none else H b) = some (HO.tbl ps) := z
        split at z
        · cases z
        · rename_i nt
          rcases hO b with q | ⟨q, _⟩ | ⟨_, ob, xs, q⟩
          · rw [q] at z; cases z
          · exact nt q
          · rw [q] at z; cases z
      · rcases hO b with q | ⟨q, _⟩ | ⟨_, ob, xs, q⟩
        · have z : H b = some (HO.tbl ps) := z
          rw [q] at z; cases z
        · obtain ⟨c, ec⟩ := tabAt_ex q
          refine ⟨lamQ "law", ?_⟩
          unfold tabL lamNames
          simp [ec]
        · have z : H b = some (HO.tbl ps) := z
          rw [q] at z; cases z
      show (g [.d (ints_ ns)] ⟨[], []⟩).wp _ _
      rw [e]
      intro w' y _ _ _ _ _ re
      cases re
      rfl
    have hsb : SM (hidT s₁.heap H) := by
      obtain ⟨mm, q⟩ := hsm
      obtain ⟨o, es, ep, e1, e2, _⟩ := nsK q
      exact ⟨o, es, ep, e1, e2⟩
    refine codeAny_mono ((F _ hKb (nsK hns) hsb hTG).go callerA [] s₁ H ⟨[.ref a], []⟩ [.ref a] [.ref a] _ _ rfl hr e0 (hbind s₁ (.ref a)) (.cons rfl .nil) sp) fun r s' h => ?_
    match r, h with
    | .error e, h =>
      obtain ⟨_, _, _, _, _, _, _, _, _, _, _, _, z⟩ := h
      exact z.elim
    | .ok .next, h => exact (show False from h).elim
    | .ok .brk, h => exact (show False from h).elim
    | .ok .cont, h => exact (show False from h).elim
    | .ok (.ret u), h =>
      obtain ⟨v, H', os, bare, un, hok', r', q⟩ := h
      have q' : v = .bl true := q
      subst q'
      obtain rfl : u = Value.bool true := r'
      have kept : ∀ b o, ¬ tabAt K b → s₁.heap.get? b = some o → s'.heap.get? b = some o := fun b o nt e => by
        rcases hO b with q | ⟨q, _⟩ | ⟨_, ob, xs, z⟩
        · exact un.keep b o e q (by intro z; exact absurd (show b ∈ ([] : List Addr) from z) (by simp)) (by simp)
        · exact absurd q nt
        · have z2 := un.frzs b ob _ z
          obtain ⟨e1, _⟩ := hok b _ z
          obtain ⟨e2, _⟩ := hok' b _ z2
          rw [e] at e1; cases e1
          exact e2
      have more : ∀ b, tabAt K b → ∃ ps : Array Value, s'.heap.get? b = some (PySem.W.tabObj ps) := fun b h => by
        obtain ⟨ps, z⟩ := un.tbls b #[] (hT b h)
        exact ⟨_, hok' b _ z⟩
      refine ⟨rfl, ⟨fun b o e => ?_, fun b o e => ?_⟩, os, bare⟩
      · by_cases ht : tabAt K b
        · obtain ⟨ps, z⟩ := more b ht
          obtain ⟨c, ec⟩ := tabAt_ex ht
          obtain ⟨cd, tq, _⟩ := tf c b ec
          rw [tq] at e
          cases e
          exact .inr (.inl ⟨(cd.tab tq).isCodeTable, rfl, #[], ps, rfl, by rw [Array.empty_append]; exact z⟩)
        · exact .inl (kept b o ht e)
      · by_cases ht : tabAt K b
        · obtain ⟨ps, z⟩ := more b ht
          exact ⟨_, z⟩
        · exact ⟨o, kept b o ht e⟩
  cases hk : K.lookup a with
  | some o =>
    have e := KX a o hk
    rw [ha] at e
    cases e
    refine core (fun b => if tabAt K b then some (.tbl #[]) else none) (fun b => ?_) (fun b h => if_pos h) (.inr ⟨vs, _, hk, by rw [lenV]; exact hl, rv⟩) (fun b u z => ?_) fun z => absurd (if_neg notA) z
    · by_cases ht : tabAt K b
      · exact .inr (.inl ⟨ht, if_pos ht⟩)
      · exact .inl (if_neg ht)
    · by_cases ht : tabAt K b
      · have z' := (if_pos ht).symm.trans z
        cases z'
        exact (isTab b ht).1
      · have z' := (if_neg ht).symm.trans z
        cases z'
  | none =>
    refine core (fun b => if b = a then some (.frz { cls := .type "list", data := .seq vs.toArray } (.lst (ns.map V.int))) else if tabAt K b then some (.tbl #[]) else none) (fun b => ?_) (fun b h => (if_neg (fun z : b = a => notA (z ▸ h))).trans (if_pos h)) (.inl (.inr ⟨{ cls := .type "list", data := .seq vs.toArray }, if_pos rfl⟩)) (fun b u z => ?_) fun _ => hk
    · by_cases hb : b = a
      · exact .inr (.inr ⟨hb, _, _, if_pos hb⟩)
      · by_cases ht : tabAt K b
        · exact .inr (.inl ⟨ht, (if_neg hb).trans (if_pos ht)⟩)
        · exact .inl ((if_neg hb).trans (if_neg ht))
    · by_cases hb : b = a
      · have z' := (if_pos hb).symm.trans z
        cases z'
        subst hb
        exact ⟨ha, by rw [List.length_map]; exact hl, vs, _, rv, ha⟩
      · have z1 := (if_neg hb).symm.trans z
        by_cases ht : tabAt K b
        · have z' := (if_pos ht).symm.trans z1
          cases z'
          exact (isTab b ht).1
        · have z' := (if_neg ht).symm.trans z1
          cases z'
/-- what is asked of the law's def, by pure reading -/
def LawG (n : Nat) (g : Fn) : Prop := ∀ ns : List Int, ns.length ≤ n → (∀ z ∈ ns, Builtin.Int.intBits z ≤ 1048576) → ∃ m, g [.d (ints_ ns)] ⟨[], []⟩ = .ok (.d (.bool true)) m
/-- the table lies outside the frame -/
def tabOut (K : PySem.W.Frag) : Bool := match PySem.W.tabIn K "law" with
  | some p => (K.lookup p.2).isNone
  | none => true
theorem walk_G {l : PySem.W.OpenLaw} {n k : Nat} {q : Program} {loose : List Str} {XP : (Str → Option Value) → Heap → Prop} {YP : World → Heap → Prop} {d d' : DefRec} {K : Params → PySem.W.Frag} {x : Str} {g : Fn}
    (hi : importsNone q = true) (hn : l.most = some n) (hn2 : n ≤ sizeLine) (hdf : d.params.defaults = []) (hr : Room k callerA)
    (hY : ∀ (w : World) (h : Heap), YP w h → (K w.params).In h)
    (hd' : (recsOf q).find? (fun e : DefRec => e.name == ("law" : Str)) = some d') (hto : ∀ w : World, tabOut (K w.params) = true)
    (F : ∀ (w : World) (mg : Str → Option Value) (fa : Addr) (h : Heap), (K w.params).In h → h.Ns mainGlobals mg → mg d.name = some (.ref fa) →
      ∃ fd : FuncData, (∀ (s : Shared) (u : Value), BindsTo s fd ⟨[u], []⟩ [(x, u)]) ∧
        ∀ base : Heap, (K w.params).In base → base.Ns mainGlobals mg → SM base → TabG (K w.params) mg base → FnG l.prog w (K w.params) mg base k fa fd [x] (spG (K w.params) 1 g))
    (law : LawG n g) : PySem.W.WalkO q loose XP YP l.row.toRowW d [] (fun f vs => PySem.call f vs) := by
  refine Att.attach_callB hn hdf fun w s₀ s₁ mg mb fa o pm cd doc a vs ns G Y ho hd hcd hmg hobj hints hlen hbits hg => ?_
  have KX := hY w _ Y
  obtain ⟨fd, hb, hF⟩ := F w mg fa _ KX G.T.g hmg
  have tf : TabF (K w.params) s₁.heap := fun c P e => by
    obtain ⟨h1, h2⟩ := PySem.W.tab_of G.T KX hd' e
    refine ⟨h1, h2, ?_⟩
    have o := hto w
    unfold tabOut at o
    rw [e] at o
    exact Option.isNone_iff_eq_none.mp o
  exact law_callG KX G.T.g G.T.b G.T.builtins G.T.nolimit (let ⟨mm, z, _⟩ := (G.T.seer hi).mods; ⟨mm, z⟩) hg tf G.T.bmain hobj hints (Nat.le_trans hlen hn2) hr hF hb (law ns hlen hbits)
end Ev

namespace Ev
open PySem PySem.Spec PyProof.Rows L2

/-! ### what the generated texts lean on -/
def blkB (N : List Str) (sc scope : Scope) (own : List (Str × Nat)) : Bool :=
  decide (scope.kind = .function) && scope.names.all (fun y => decide (scope.names.lookup y.1 = some y.2)) && own.all (fun p => decide (N[p.2]? = some p.1)) &&
    scope.names.all (fun y => decide (y.2 ≠ .free) || decide (sc.names.lookup y.1 = some .cell) || decide (sc.names.lookup y.1 = some .free)) &&
    scope.names.all (fun y => !(decide (y.2 = .local) || decide (y.2 = .cell)) || decide (y.1 ∈ own.map (·.1)) || decide (y.1 ∉ N))
theorem blk_of {N : List Str} {sc scope : Scope} {own : List (Str × Nat)} (h : blkB N sc scope own = true) : BlkOk N sc scope own := by
  unfold blkB at h
  simp only [Bool.and_eq_true, List.all_eq_true, decide_eq_true_eq, Bool.or_eq_true, Bool.not_eq_true', Bool.or_eq_false_iff, decide_eq_false_iff_not] at h
  obtain ⟨⟨⟨⟨h1, h2⟩, h3⟩, h4⟩, h5⟩ := h
  refine ⟨h1, h2, h3, fun y hy e => ?_, fun y hy e => ?_⟩
  · rcases h4 y hy with (q | q) | q
    · exact absurd e q
    · exact .inl q
    · exact .inr q
  · rcases h5 y hy with (q | q) | q
    · rcases e with e | e
      · exact absurd e q.1
      · exact absurd e q.2
    · exact .inl q
    · exact .inr q
/-- a name of the module that holds data -/
def GM (K : PySem.W.Frag) (mg : Str → Option Value) (x : Str) (d : PyData) : Prop := ∃ (v : V) (u : Value), mg x = some u ∧ RelV v u ∧ ∀ F : Hp, R K F d v
/-- a name of the module that holds a def -/
def FM (K : PySem.W.Frag) (mg : Str → Option Value) (x : Str) (st : Stmt) (ps : List Str) : Prop := ∃ (f : Addr) (fd : FuncData), Fun K x x st f fd ∧ mg x = some (.ref f) ∧ Binds K fd ps []
def HasG (P : Program) (w : World) (K : PySem.W.Frag) (mg : Str → Option Value) (base : Heap) (k : Nat) (x : Str) (ps : List Str) (g : Fn) : Prop :=
  ∃ (f : Addr) (fd : FuncData), FnG P w K mg base k f fd ps (spG K ps.length g) ∧ mg x = some (.ref f) ∧ PySem.W.keepIn K (.ref f) = true ∧ Binds K fd ps []
section
variable {P : Program} {w : World} {K : PySem.W.Frag} {mg : Str → Option Value} {base : Heap}
theorem has_of {x : Str} {st : Stmt} {ps : List Str} {g : Fn} {j k : Nat} (h : FM K mg x st ps) (hk : j ≤ k) (ok : ∀ {f : Addr} {fd : FuncData}, Fun K x x st f fd → FnG P w K mg base j f fd ps (spG K ps.length g)) : HasG P w K mg base k x ps g := by
  obtain ⟨f, fd, F, hm, hb⟩ := h
  exact ⟨f, fd, (ok F).up hk, hm, F.kp, hb⟩
theorem gm_int {x : Str} {i : Int} {n : Nat} (h : mg x = some (.int i n)) : GM K mg x (.int i) := ⟨.int i, _, h, ⟨n, rfl⟩, fun _ => .int i⟩
theorem gm_str {x s : Str} {n : Nat} (h : mg x = some (.str s n)) : GM K mg x (.str s) := ⟨.str s, _, h, ⟨n, rfl⟩, fun _ => .str s⟩
theorem gm_none {x : Str} (h : mg x = some .none) : GM K mg x .none := ⟨.non, _, h, rfl, fun _ => .non⟩
theorem gm_bool {x : Str} {b : Bool} (h : mg x = some (.bool b)) : GM K mg x (.bool b) := ⟨.bl b, _, h, rfl, fun _ => .bl b⟩
theorem fm_of {x : Str} {st : Stmt} {ps : List Str} {f : Addr} {oc : Value} {od an : Option Addr} {osl : Array (Option Value)} {kV doc pm cdv ct : Value} (hm : mg x = some (.ref f))
    (l : K.lookup f = some ⟨oc, od, .func (PySem.W.fnOf x x (defArgs st) (defBody st) (defScope st) .none kV doc pm an cdv ct), osl⟩) (c : PySem.W.codeIn K cdv x = true) (k : PySem.W.keepIn K (.ref f) = true)
    (hb : ∀ (kV doc pm : Value) (an : Option Addr) (cdv ct : Value) (us : List Value), us.length = ps.length → bindArgs (PySem.W.fnOf x x (defArgs st) (defBody st) (defScope st) .none kV doc pm an cdv ct) ⟨us, []⟩ = pure (ps.zip us)) : FM K mg x st ps :=
  ⟨f, _, fun_mk l c k, hm, (fun_mk l c k).binds hb⟩
/-- a def called by keywords -/
theorem hasK_of {x : Str} {st : Stmt} {ps : List Str} {g : Fn} {j k n : Nat} {ks : List Str} {is : List Nat} (h : FM K mg x st ps) (hk : j ≤ k) (ok : ∀ {f : Addr} {fd : FuncData}, Fun K x x st f fd → FnG P w K mg base j f fd ps (spG K ps.length g))
    (hb : ∀ (kV doc pm : Value) (an : Option Addr) (cdv ct : Value) (us ws : List Value), us.length = n → ws.length = ks.length → bindArgs (PySem.W.fnOf x x (defArgs st) (defBody st) (defScope st) .none kV doc pm an cdv ct) ⟨us, ks.zip ws⟩ = pure (ps.zip (pick is (us ++ ws)))) :
    ∃ (f : Addr) (fd : FuncData), FnG P w K mg base k f fd ps (spG K ps.length g) ∧ mg x = some (.ref f) ∧ PySem.W.keepIn K (.ref f) = true ∧
      ∀ (s : Shared) (us ws : List Value), K.In s.heap → us.length = n → ws.length = ks.length → BindsTo s fd ⟨us, ks.zip ws⟩ (ps.zip (pick is (us ++ ws))) := by
  obtain ⟨f, fd, F, hm, _⟩ := h
  refine ⟨f, fd, (ok F).up hk, hm, F.kp, fun s us ws _ l1 l2 => ?_⟩
  obtain ⟨oc, od, kV, doc, pm, an, cdv, ct, osl, rfl, _, _⟩ := F.ex
  exact .of_eq (hb kV doc pm an cdv ct us ws l1 l2)
end
end Ev

namespace Ev
open PySem PySem.Spec PyProof.Rows L2

/-! ### name = a new object that is shared from here on -/
def newC (i : Nat) : EV → Pg Unit
  | .new o => fun m => .ok () { sl := m.sl.set i (some (.cell m.cs.length)), cs := m.cs ++ [o] }
  | _ => .stuck
/-- a new object becomes a shared one -/
theorem share_ok {K : PySem.W.Frag} {w : Wd} (r : Rep K w) {a : Addr} {o : Ob} (h1 : OH K w.F w.H w.Z a o) (h3 : w.F a = none) (h4 : a ∉ w.ro) (h6 : ¬ Own w a) (h5 : ¬ w.Z a) :
    Rep K { w with ro := w.ro ++ [a], m := { w.m with cs := w.m.cs ++ [o] } } ∧ FolS w { w with ro := w.ro ++ [a], m := { w.m with cs := w.m.cs ++ [o] } } := by
  have ro_at : ∀ {n : Nat} {b : Addr}, w.ro[n]? = some b → (w.ro ++ [a])[n]? = some b := fun {n b} q => by
    rw [List.getElem?_append_left (List.getElem?_eq_some_iff.mp q).1]
    exact q
  refine ⟨⟨r.sub, r.le, fun j v h => ?_, fun n ys h => ?_, ?_, fun b hb => ?_, ?_, r.ow, r.zl, r.oo, r.tb⟩, ⟨rfl, rfl, Same.refl _, ⟨[a], rfl⟩, fun b o e _ _ _ => e, fun b hb => ?_, fun b e => e, fun b e => .inl e⟩⟩
  · obtain ⟨y, p1, p2⟩ := r.sl j v h
    refine ⟨y, p1, ?_⟩
    cases v with
    | d z => exact p2
    | ob zs =>
      obtain ⟨b, e, k1, k3, k4, k5⟩ := p2
      refine ⟨b, e, k1, k3, fun hb => ?_, k5⟩
      rcases List.mem_append.mp hb with q | q
      · exact k4 q
      · have q := List.mem_singleton.mp q
        subst q
        exact h6 ⟨j, zs, h, by rw [p1, e]⟩
    | cell n =>
      obtain ⟨b, e, q⟩ := p2
      exact ⟨b, e, ro_at q⟩
    | thk t => exact ⟨p2.1, thk_up p2.2.1 (Same.refl _) ⟨[a], rfl⟩, p2.2.2⟩
  · by_cases hn : n < w.m.cs.length
    · have h : w.m.cs[n]? = some ys := by
        rw [← h]
        exact (List.getElem?_append_left hn).symm
      obtain ⟨b, k1, k2⟩ := r.cs n ys h
      exact ⟨b, ro_at k1, k2⟩
    · have h : (w.m.cs ++ [o])[n]? = some ys := h
      rw [List.getElem?_append_right (by omega)] at h
      have hz : n - w.m.cs.length = 0 := by
        have := (List.getElem?_eq_some_iff.mp h).1
        simp only [List.length_singleton] at this
        omega
      rw [hz] at h
      cases h
      refine ⟨a, ?_, h1.any⟩
      show (w.ro ++ [a])[n]? = some a
      rw [List.getElem?_append_right (by rw [← r.ln]; omega), ← r.ln, hz]
      rfl
  · show (w.m.cs ++ [o]).length = (w.ro ++ [a]).length
    rw [List.length_append, List.length_append, r.ln]
    rfl
  · rcases List.mem_append.mp hb with q | q
    · exact r.rf b q
    · rw [List.mem_singleton.mp q]
      exact h3
  · show (w.ro ++ [a]).Nodup
    rw [List.nodup_append]
    refine ⟨r.nd, by simp, fun b hb c hc => ?_⟩
    rw [List.mem_singleton.mp hc]
    exact fun z => h4 (z ▸ hb)
  · rcases List.mem_append.mp hb with q | q
    · exact .inl q
    · rw [List.mem_singleton.mp q]
      exact .inr h5
theorem newC_ok {K : PySem.W.Frag} {w : Wd} (r : Rep K w) {v : EV} {x : V} (h : RE K w v x) {i : Nat} {P : Unit → Mem → Prop} {E : Exn → Mem → Prop} (hw : (newC i v w.m).wp P E) : ∃ w' : Wd, w'.sg = w.sg.set i (some x) ∧ w'.H = w.H ∧ FolS w w' ∧ Rep K w' ∧ P () w'.m := by
  cases v with
  | d y => exact hw.elim
  | pk j xs => exact hw.elim
  | cell n => exact hw.elim
  | new o =>
    obtain ⟨a, e, h1, h3, h4, h5, h6⟩ := h
    subst e
    obtain ⟨r1, f1⟩ := share_ok r h1 h3 h4 h6 h5
    obtain ⟨r2, f2⟩ := set_ok (i := i) (v := .cell w.m.cs.length) (x := .ref a) r1 ⟨a, rfl, by
      show (w.ro ++ [a])[w.m.cs.length]? = some a
      rw [r.ln, List.getElem?_append_right (Nat.le_refl _), Nat.sub_self]
      rfl⟩ (fun ys b e => by cases e)
    exact ⟨setW { w with ro := w.ro ++ [a], m := { w.m with cs := w.m.cs ++ [o] } } i (.cell w.m.cs.length) (.ref a), rfl, rfl, f1.trans f2, r2, hw⟩
section
open HT
theorem adjust_rev (n : Nat) : Builtin.Slice.sliceAdjust none none (-1) (n : Int) = ((n : Int) - 1, -1) := by
  unfold Builtin.Slice.sliceAdjust
  simp
  try omega
theorem places_rev (n : Nat) : Builtin.Slice.slicePlaces ((n : Int) - 1) (-1) (-1) = n := by
  unfold Builtin.Slice.slicePlaces
  simp
  try omega
theorem fm_congr {α β : Type} {f g : α → Option β} : ∀ {l : List α}, (∀ m, m ∈ l → f m = g m) → l.filterMap f = l.filterMap g
  | [], _ => rfl
  | a :: l, h => by
    rw [List.filterMap_cons, List.filterMap_cons, h a (List.mem_cons_self ..), fm_congr fun m hm => h m (List.mem_cons_of_mem _ hm)]
theorem pick_rev (xs : Array Value) : ((List.range xs.size).filterMap fun (m : Nat) => xs[(((xs.size : Int) - 1) + (m : Int) * (-1)).toNat]?).toArray = xs.toList.reverse.toArray := by
  obtain ⟨l⟩ := xs
  have e : (List.range l.length).filterMap (fun m : Nat => l[(((l.length : Int) - 1) + (m : Int) * (-1)).toNat]?) = (List.range l.length).filterMap fun m : Nat => some ((l.reverse[m]?).getD .none) := by
    refine fm_congr fun m hm => ?_
    have hm := List.mem_range.mp hm
    have q : (((l.length : Int) - 1) + (m : Int) * (-1)).toNat = l.length - 1 - m := by omega
    rw [q, List.getElem?_eq_getElem (by omega), List.getElem?_reverse hm, List.getElem?_eq_getElem (by omega)]
    rfl
  have e2 : ((List.range l.length).map fun m : Nat => (l.reverse[m]?).getD Value.none) = l.reverse := by
    refine List.ext_getElem (by simp) fun i h1 h2 => ?_
    rw [List.getElem_map, List.getElem_range, List.getElem?_eq_getElem h2]
    rfl
  show ((List.range l.length).filterMap fun (m : Nat) => l.toArray[(((l.length : Int) - 1) + (m : Int) * (-1)).toNat]?).toArray = l.reverse.toArray
  congr 1
  rw [show (fun (m : Nat) => l.toArray[(((l.length : Int) - 1) + (m : Int) * (-1)).toNat]?) = fun m : Nat => l[(((l.length : Int) - 1) + (m : Int) * (-1)).toNat]? from by funext m; simp, e, List.filterMap_eq_map', e2]
section
variable {prog : Program} {w : World} {A : Around} {E : Value → Shared → Prop} {s : Shared}
theorem sliceApplied_rev {sl : Addr} {vl vu vs : Value} {n : Nat} {Q : Int × Int × Nat → Shared → Prop} (hs : s.heap.IsSliceOf sl vl vu vs) (pl : IsPart vl none) (pu : IsPart vu none) (ps : IsPart vs (some (-1)))
    (h : Q ((n : Int) - 1, -1, n) s) : wpAny (model prog w) A (Builtin.Slice.sliceApplied (.ref sl) (pure (n : Int))) Q E s := by
  obtain ⟨os, hos, hcs, hds⟩ := id hs
  unfold Builtin.Slice.sliceApplied Builtin.Slice.sliceFields
  refine wpAny_bind (wpAny_bind (wpAny_field hos hds (x := vl) rfl (wpAny_bind (wpAny_field hos hds (x := vu) rfl (wpAny_bind (wpAny_field hos hds (x := vs) rfl (wpAny_pure ?_)))))))
  refine wpAny_bind (slicePart_ ps ?_)
  show wpAny _ _ (if ((-1 : Int) == 0) = true then _ else _) _ _ s
  rw [if_neg (by decide)]
  refine wpAny_bind (slicePart_ pl (wpAny_bind (slicePart_ pu (wpAny_bind (wpAny_pure ?_)))))
  show wpAny _ _ (match Builtin.Slice.sliceAdjust none none (-1) (n : Int) with | (lo, hi) => pure (lo, (-1 : Int), Builtin.Slice.slicePlaces lo hi (-1))) _ _ s
  rw [adjust_rev n]
  show wpAny _ _ (pure ((n : Int) - 1, (-1 : Int), Builtin.Slice.slicePlaces ((n : Int) - 1) (-1) (-1))) _ _ s
  rw [places_rev]
  exact wpAny_pure h
theorem getItem_tuple_rev {t sl : Addr} {items : Array Value} {vl vu vs : Value} {Q : Value → Shared → Prop} (ht : IsTup s.heap t items) (hs : s.heap.IsSliceOf sl vl vu vs) (pl : IsPart vl none) (pu : IsPart vu none) (ps : IsPart vs (some (-1)))
    (h : Q (.ref s.heap.objs.size) { s with heap := s.heap.push { cls := .type "tuple", data := .seq items.toList.reverse.toArray } })
    (hsz : items.size ≤ sizeLine) : wpAny (model prog w) A (getItem (.ref t) (.ref sl)) Q E s := by
  have htake : sizeOk (.seq items.toList.reverse.toArray) := by
    show items.toList.reverse.toArray.size ≤ sizeLine
    rw [List.size_toArray, List.length_reverse, Array.length_toList]
    exact hsz
  obtain ⟨os, hos, hcs, hds⟩ := id hs
  have hTs : s.TypeIs (.ref sl) "slice" := ⟨os, hos, hcs⟩
  unfold getItem
  try with_reducible refine wpAny_holding ?_
  first | refine wpAny_bind (wpAny_pure ?_) | skip
  refine wpAny_bind (wpAny_sequenceKey ht.typeIs (by decide) ?_)
  refine wpAny_bind (wpAny_callSpecial?_slot (name := Str.ofString "__getitem__") ht.typeIs PyProof.Rows.slot_tuple_getitem
    (wpAny_call_entry PyProof.Rows.slot_tuple_getitem ht.typeIs entry_tuple_getitem ?_ (args_tuple_getitem _ _)))
  show wpAny _ _ (Builtin.Tuple.tupleItemsOf (.ref t) >>= _) _ _ s
  refine wpAny_bind (tupleItemsOf_ ht ?_)
  refine wpAny_bind (wpAny_typeOf hTs ?_)
  rw [if_pos (by decide)]
  refine wpAny_bind (sliceApplied_rev hs pl pu ps ?_)
  have hno : ¬ ((((items.size : Int) - 1) == 0 && (-1 : Int) == 1 && items.size == items.size) = true) := by
    intro q
    rw [Bool.and_eq_true, Bool.and_eq_true] at q
    exact absurd q.1.2 (by decide)
  show wpAny _ _ (if (((items.size : Int) - 1) == 0 && (-1 : Int) == 1 && items.size == items.size) = true then _ else _) _ _ s
  rw [if_neg hno, pick_rev]
  first
    | exact wpAny_bind (m := Builtin.Tuple.tupleExact _) (wpAny_newObj_type (wpAny_pure ⟨_, rfl, wpAny_pure h⟩) htake)
    | exact wpAny_bind (m := Builtin.Tuple.tupleExact _) (wpAny_newObj_type (wpAny_bind (wpAny_pure (wpAny_pure ⟨_, rfl, wpAny_pure h⟩))) htake)
    | exact wpAny_bind (wpAny_bind (m := Builtin.Tuple.tupleExact _) (wpAny_newObj_type (wpAny_pure (wpAny_pure ⟨_, rfl, wpAny_pure h⟩)) htake))
    | exact wpAny_bind (wpAny_bind (m := Builtin.Tuple.tupleExact _) (wpAny_newObj_type (wpAny_pure ⟨_, rfl, wpAny_pure h⟩) htake))
end
/-- t[::-1] too -/
def tRevA (K : PySem.W.Frag) (te : TE) : TE := fun σ H Q => te σ H fun x H1 => ∃ a xs, x = .ref a ∧ ((SqL K H1 a xs ∧ ∀ p, H1 p = none → Q (.ref p) (upd H1 p (.lst xs.reverse))) ∨ (SqT K H1 a xs ∧ ∀ p, H1 p = none → Q (.ref p) (upd H1 p (.tup xs.reverse))))
theorem pe_revA {X : Cx} {e : Expr} {te : TE} {k : Nat} {p1 p2 p3 pos : Pos} (he : PE X e te) : PE X (.Subscript e (.Slice none none (some (.UnaryOp .USub (.Constant (.int 1) k p1) p2)) p3) pos) (tRevA X.K te) := by
  refine ⟨fun pins s σ H Q I h => ?_⟩
  refine Subscript_ (thn (he.run pins s σ H _ I h) fun v s1 ⟨x, H1, I1, r1, q1⟩ => ?_)
  obtain ⟨a, xs, ex, hq⟩ := q1
  subst ex
  cases r1
  have hst : PO X (some (.UnaryOp .USub (.Constant (.int 1) k p1) p2)) (tPart (tUn (rU fun i => .int (-i)) (tC (.int 1)))) := po_some (pe_un un_neg pe_int)
  refine wpAny_Slice (thn (po_none.run pins s1 σ H1 (fun o H2 => o = none ∧ H2 = H1) I1 ⟨rfl, rfl⟩) fun vl s2 ⟨l, H2, I2, pl, el, e2⟩ => ?_)
  subst el e2
  refine thn (po_none.run pins s2 σ H2 (fun o H3 => o = none ∧ H3 = H2) I2 ⟨rfl, rfl⟩) fun vu s3 ⟨u, H3, I3, pu, eu, e3⟩ => ?_
  subst eu e3
  refine thn (hst.run pins s3 σ H3 (fun o H4 => o = some (-1) ∧ H4 = H3) I3 ⟨1, rfl, -1, rfl, rfl, rfl⟩) fun vs s4 ⟨o, H4, I4, ps, eo, e4⟩ => ?_
  subst eo e4
  have I5 : Inv X pins σ H4 { s4 with heap := s4.heap.push { cls := .type "slice", data := .fields #[vl, vu, vs] } } := I4.kept (t' := s4.toks) fun b ob q => Heap.get?_push_of_some _ q
  show wpAny (model X.prog X.w) X.A (subscriptTail e (.Slice none none (some (.UnaryOp .USub (.Constant (.int 1) k p1) p2)) p3) (.ref a) (.ref s4.heap.objs.size)) (EP X pins σ Q) X.xe { s4 with heap := s4.heap.push { cls := .type "slice", data := .fields #[vl, vu, vs] } }
  rcases hq with ⟨hx, q⟩ | ⟨hx, q⟩
  · obtain ⟨its, r, ht, hz⟩ := I5.list hx
    have hlen := r.length
    refine tail_any (ops := [.ref a, .ref s4.heap.objs.size]) ht.isList.typeIs (PySem.slot_list_getitem.lookup) ?_ (by with_unfolding_all rfl)
    refine wpAny_getItem_list_slice ht.isList (Heap.IsSliceOf.new _ vl vu vs) pl pu ps (by decide) ?_ (by rw [List.size_toArray]; omega)
    rw [PySem.W.krv_pick]
    refine ⟨.ref _, _, I5.laid (t' := s4.toks) (o := .lst xs.reverse) (fun b ob q => Heap.get?_push_of_some _ q) (Nat.le_refl _) ?_, rfl, q _ (I5.hok.fresh (Nat.le_refl _))⟩
    exact ⟨by rw [List.length_reverse]; exact hz, _, 0, r.reverse, Heap.get?_push_size _ rfl⟩
  · obtain ⟨its, r, ht, hz⟩ := I5.tuple hx
    have hlen := r.length
    refine tail_any (ops := [.ref a, .ref s4.heap.objs.size]) ht.typeIs (PyProof.Rows.slot_tuple_getitem.lookup) ?_ (by with_unfolding_all rfl)
    refine getItem_tuple_rev ht (Heap.IsSliceOf.new _ vl vu vs) pl pu ps ?_ (by rw [List.size_toArray]; omega)
    refine ⟨.ref _, _, I5.laid (t' := s4.toks) (o := .tup xs.reverse) (fun b ob q => Heap.get?_push_of_some _ q) (Nat.le_refl _) ?_, rfl, q _ (I5.hok.fresh (Nat.le_refl _))⟩
    exact ⟨by rw [List.length_reverse]; exact hz, _, r.reverse, IsTup.new _ _⟩
end
section
variable {X : Cx} {B : XBt} {e c : Expr} {es : List Expr} {pos p : Pos} {f fa : Pg EV}
def evSetC (i : Nat) (f : Pg EV) : Pg Fl := .bind f fun v => .bind (newC i v) fun _ => .ret .next
theorem snd_setC {x : Str} {pos' : Pos} (i : Nat) (C : Ctx X B) (hi : X.N[i]? = some x) (hx : Loc X.env.scope x) (he : Snd X B e f) (hs : swapsWith e (some (.Name x pos')) pos.line X.env = pure false := by rfl)
    (hf : X.fn x = true ∨ X.env.scope.names.lookup x = some .local := by first | exact .inl rfl | exact .inr rfl | assumption) : SndS X B (.Assign [.Name x pos'] e pos) (evSetC i f) := by
  intro w D r hw
  refine ws_of (ps_set C.nd hi hx pe_w hs hf) ?_
  refine snd_then he r hw fun v w1 y e1 f1 r1 re h1 => ?_
  obtain ⟨w2, s2, h2, f2, r2, q⟩ := newC_ok r1 re (wp_bind h1)
  have q := q w2 rfl ((f1.s r).trans f2) r2
  rw [s2, h2, e1] at q
  exact q
/-! ### xs[::-1], of lists -/
def revO : PyData → Option EV
  | .list xs => some (.fresh xs.reverse)
  | .tuple xs => some (.d (.tuple xs.reverse))
  | _ => none
def evRev (f : Pg EV) : Pg EV := .bind f fun v => look (opnd v) fun x => optP (revO x)
theorem snd_rev {k : Nat} {p1 p2 p3 : Pos} (h : Snd X B e f) : Snd X B (.Subscript e (.Slice none none (some (.UnaryOp .USub (.Constant (.int 1) k p1) p2)) p3) pos) (evRev f) := by
  intro w Q r hw
  refine we_of (pe_revA pe_w) ?_
  refine snd_then h r hw fun v w1 x e1 f1 r1 re h1 => ?_
  obtain ⟨d, q1, h1⟩ := look_ok h1
  have o1 := (re.ro r1).rn r1 q1
  obtain ⟨z, ez, q⟩ := wp_opt h1
  cases d with
  | list xs =>
    cases ez
    obtain ⟨a, vs, rfl, h1, h2⟩ := o1.lst r1.sub
    exact ⟨a, vs, rfl, .inl ⟨h1.sq, fun b hb => (PostE.keep q e1 f1).lst r1 h2.rev hb⟩⟩
  | tuple xs =>
    cases ez
    obtain ⟨a, vs, rfl, h1, h2⟩ := o1.tup
    exact ⟨a, vs, rfl, .inr ⟨sqt_mono r1.sub h1, fun b hb => (PostE.keep q e1 f1).tup r1 h2.rev hb⟩⟩
  | _ => cases ez
end
end Ev
namespace Ev
open PySem PySem.Spec PyProof.Rows L2
section
variable {P : Program} {w : World} {K : PySem.W.Frag} {mg : Str → Option Value} {base : Heap}
theorem fun_n {x qual : Str} {st : Stmt} {f : Addr} {fd : FuncData} {N ps : List Str} {k n m : Nat} {fb : Pg Fl} (F : Fun K x qual st f fd) (S : FnScope N ps (defScope st)) (sm : SM base) (hn : N.length = n) (hm : ps.length = m)
    (hbody : ∀ (cdv : Value) (A : Around) (outer : List Env) (s : Shared) (H : Hp) (E : XK) (B : XBt), Ctx (cxOf (L2.CX P w) P w K mg base N qual (defScope st) f cdv A outer s H E) B → PassesOwn (model P w) (cxOf (L2.CX P w) P w K mg base N qual (defScope st) f cdv A outer s H E).A (cxOf (L2.CX P w) P w K mg base N qual (defScope st) f cdv A outer s H E).env (cxOf (L2.CX P w) P w K mg base N qual (defScope st) f cdv A outer s H E).xe →
      Room k (cxOf (L2.CX P w) P w K mg base N qual (defScope st) f cdv A outer s H E).A →
      SndB (cxOf (L2.CX P w) P w K mg base N qual (defScope st) f cdv A outer s H E) B (defBody st) fb) : FnG P w K mg base (k + 1) f fd ps (spG K m (runFn n fb)) := by
  subst hn hm
  exact fun_g F S sm hbody
end
end Ev
namespace Ev
open PySem PySem.Spec PyProof.Rows L2
theorem px_const {c k p} : PlainIx (.Constant c k p) := fun _ _ => rfl
theorem px_name {x p} : PlainIx (.Name x p) := fun _ _ => rfl
theorem px_bin {a o b p} : PlainIx (.BinOp a o b p) := fun _ _ => rfl
theorem px_un {o a p} : PlainIx (.UnaryOp o a p) := fun _ _ => rfl
theorem px_call {f a k p} : PlainIx (.Call f a k p) := fun _ _ => rfl
theorem px_sub {a b p} : PlainIx (.Subscript a b p) := fun _ _ => rfl
theorem px_if {c a b p} : PlainIx (.IfExp c a b p) := fun _ _ => rfl
theorem px_tup {a k p} : PlainIx (.Tuple a k p) := fun _ _ => rfl
theorem px_cmp {a o b p} : PlainIx (.Compare a o b p) := fun _ _ => rfl
theorem px_bool {a o p} : PlainIx (.BoolOp a o p) := fun _ _ => rfl
theorem px_attr {a x p} : PlainIx (.Attribute a x p) := fun _ _ => rfl
end Ev

namespace Ev
open PySem PySem.Spec PyProof.Rows L2

/-! ### what a text answers, told by wishes: X of what is raised -/
structure W {α : Type} (p : Pg α) (m : Mem) (X : Exn → Mem → Prop) (Q : α → Mem → Prop) : Prop where
  go : (p m).wp Q X
/-- nothing is raised -/
abbrev noX : Exn → Mem → Prop := fun _ _ => False
theorem W_iff {α : Type} {p : Pg α} {m : Mem} {X : Exn → Mem → Prop} {Q : α → Mem → Prop} : W p m X Q ↔ (p m).wp Q X := ⟨fun h => h.go, fun h => ⟨h⟩⟩
section
variable {α β : Type} {m : Mem} {X : Exn → Mem → Prop} {P Q : α → Mem → Prop} {R : β → Mem → Prop} {E : EV → Mem → Prop} {F : Fl → Mem → Prop} {T : Bool → Mem → Prop}
theorem W.mono {p : Pg α} (h : W p m X P) (i : ∀ a m, P a m → Q a m) : W p m X Q := ⟨Res.wp.imp h.go i fun _ _ z => z⟩
theorem W.monoX {Y : Exn → Mem → Prop} {p : Pg α} (h : W p m Y P) (i : ∀ a m, P a m → Q a m) (j : ∀ x m, Y x m → X x m) : W p m X Q := ⟨Res.wp.imp h.go i j⟩
theorem W.no {p : Pg α} (h : W p m noX Q) : W p m X Q := ⟨Res.wp.imp h.go (fun _ _ z => z) fun _ _ z => z.elim⟩
theorem W_def {p : Pg α} {a : α} {m' : Mem} (e : p m = .ok a m') : W p m X Q ↔ Q a m' := by
  rw [W_iff, e]
  exact Iff.rfl
theorem W_eq {p : Pg α} {a : α} {m' : Mem} (e : p m = .ok a m') (h : Q a m') : W p m X Q := (W_def e).mpr h
@[simp] theorem W_bind {f : Pg α} {g : α → Pg β} : W (Pg.bind f g) m X R ↔ W f m X fun a m' => W (g a) m' X R := by
  rw [W_iff, W_iff]
  unfold Pg.bind
  cases f m with
  | ok a m' => exact (W_iff (p := g a)).symm
  | thr x m' => exact Iff.rfl
  | bad => exact Iff.rfl
@[simp] theorem W_noThr {f : Pg α} : W (noThr f) m X Q ↔ W f m noX Q := by
  rw [W_iff, W_iff]
  unfold noThr
  cases f m <;> exact Iff.rfl
@[simp] theorem W_ret {a : α} : W (Pg.ret a) m X Q ↔ Q a m := ⟨fun h => h.go, fun h => ⟨h⟩⟩
@[simp] theorem W_stuck : W (Pg.stuck : Pg α) m X Q ↔ False := ⟨fun h => h.go, fun h => ⟨h⟩⟩
@[simp] theorem W_opt {o : Option α} : W (optP o) m X Q ↔ ∃ a, o = some a ∧ Q a m := by
  cases o with
  | none => exact ⟨fun h => h.go.elim, fun ⟨_, e, _⟩ => by cases e⟩
  | some a => exact ⟨fun h => ⟨a, rfl, h.go⟩, fun ⟨_, e, h⟩ => by cases e; exact ⟨h⟩⟩
@[simp high] theorem W_optS {a : α} : W (optP (some a)) m X Q ↔ Q a m := ⟨fun h => h.go, fun h => ⟨h⟩⟩
@[simp] theorem ex_ite {c : Prop} [Decidable c] {x : α} {P : α → Prop} : (∃ a, (if c then some x else none) = some a ∧ P a) ↔ c ∧ P x := by
  by_cases h : c
  · simp [h]
  · simp [h]
@[simp] theorem ex_and {c : Prop} {x : α} {P : α → Prop} : (∃ a, (c ∧ x = a) ∧ P a) ↔ c ∧ P x :=
  ⟨fun ⟨_, ⟨h, e⟩, q⟩ => ⟨h, e ▸ q⟩, fun ⟨h, q⟩ => ⟨x, ⟨h, rfl⟩, q⟩⟩
@[simp] theorem W_if {c : Prop} [Decidable c] {p q : Pg α} : W (if c then p else q) m X Q ↔ (c → W p m X Q) ∧ (¬c → W q m X Q) := by
  by_cases h : c
  · simp [h]
  · simp [h]
/-! values -/
@[simp] theorem W_c {d : PyData} : W (evC d) m X E ↔ E (.d d) m := ⟨fun h => h.go, fun h => ⟨h⟩⟩
@[simp] theorem W_var {i : Nat} : W (evVar i) m X E ↔ ∃ v, slotE i m.sl[i]? = some v ∧ E v m := by
  have h := W_opt (o := slotE i m.sl[i]?) (m := m) (X := X) (Q := E)
  rw [W_iff] at h ⊢
  exact h
@[simp] theorem slotE_d {i : Nat} {x : PyData} : slotE i (some (some (.d x))) = some (.d x) := rfl
@[simp] theorem slotE_ob {i : Nat} {o : Ob} : slotE i (some (some (.ob o))) = some (.pk i o) := rfl
@[simp] theorem slotE_cell {i n : Nat} : slotE i (some (some (.cell n))) = some (.cell n) := rfl
@[simp] theorem opnd_d {x : PyData} : opnd (.d x) = .d x := rfl
@[simp] theorem opnd_new {o : Ob} : opnd (.new o) = .d (dOf o) := rfl
@[simp] theorem opnd_cell {n : Nat} : opnd (.cell n) = .cell n := rfl
@[simp] theorem opnd_pk {i : Nat} {o : Ob} : opnd (.pk i o) = .d (dOf o) := rfl
@[simp] theorem dOf_l {xs : List PyData} : dOf (.lst xs) = .list xs := rfl
@[simp] theorem dOf_d {es : List (PyData × PyData)} : dOf (.dic es) = .dict es := rfl
@[simp] theorem dOf_i {c : Str} {fs : List (Str × PyData)} : dOf (.ins c fs) = insD c fs := rfl
@[simp] theorem W_look_d {x : PyData} {k : PyData → Pg α} : W (look (.d x) k) m X Q ↔ W (k x) m X Q := ⟨fun h => ⟨h.go⟩, fun h => ⟨h.go⟩⟩
@[simp] theorem W_look_c {n : Nat} {k : PyData → Pg α} : W (look (.cell n) k) m X Q ↔ ∃ o, m.cs[n]? = some o ∧ W (k (dOf o)) m X Q := by
  have h : look (.cell n) k m = match m.cs[n]?.map dOf with
    | some x => k x m
    | none => .bad := rfl
  rw [W_iff, h]
  cases e : m.cs[n]? with
  | none => simp [Res.wp]
  | some o => simp [W_iff]
@[simp] theorem W_bin {op : Operator} {fa fb : Pg EV} : W (evBin op fa fb) m X E ↔ W fa m X fun v m1 => W fb m1 X fun u m2 => W (two (fun x y => optP (binS op x y)) (opnd v) (opnd u)) m2 X E := by
  unfold evBin
  simp only [W_bind]
@[simp] theorem two_eq {g : PyData → PyData → Pg EV} {o1 o2 : OV} : two g o1 o2 = look o1 fun x => look o2 fun y => g x y := rfl
@[simp] theorem bin_add {i j : Int} : binS .Add (.int i) (.int j) = some (.d (.int (i + j))) := rfl
@[simp] theorem bin_adds {a b : Str} : binS .Add (.str a) (.str b) = if a.length + b.length ≤ 16777216 then some (.d (.str (a ++ b))) else none := rfl
@[simp] theorem bin_addt {xs ys : List PyData} : binS .Add (.tuple xs) (.tuple ys) = if xs.length + ys.length ≤ 16777216 then some (.d (.tuple (xs ++ ys))) else none := rfl
@[simp] theorem bin_addl {xs ys : List PyData} : binS .Add (.list xs) (.list ys) = if xs.length + ys.length ≤ 16777216 then some (.fresh (xs ++ ys)) else none := rfl
@[simp] theorem bin_sub {i j : Int} : binS .Sub (.int i) (.int j) = some (.d (.int (i - j))) := rfl
@[simp] theorem bin_mul {i j : Int} : binS .Mult (.int i) (.int j) = if mulOk i j then some (.d (.int (i * j))) else none := rfl
@[simp] theorem bin_mult {xs : List PyData} {k : Int} : binS .Mult (.tuple xs) (.int k) = if timesOk xs k then some (.d (.tuple (List.replicate k.toNat xs).flatten)) else none := rfl
@[simp] theorem bin_mull {xs : List PyData} {k : Int} : binS .Mult (.list xs) (.int k) = if timesOk xs k then some (.fresh (List.replicate k.toNat xs).flatten) else none := rfl
@[simp] theorem bin_div {i j : Int} : binS .FloorDiv (.int i) (.int j) = if decide (0 < j) && decide (j < 1073741824) then some (.d (.int (i / j))) else none := rfl
@[simp] theorem bin_mod {i j : Int} : binS .Mod (.int i) (.int j) = if 0 < j then some (.d (.int (i % j))) else none := rfl
@[simp] theorem bin_pow {i j : Int} : binS .Pow (.int i) (.int j) = if powOk i j then some (.d (.int (i ^ j.toNat))) else none := rfl
@[simp] theorem mulOk_iff {i j : Int} : mulOk i j = true ↔ (-18446744073709551616 < i ∧ i < 18446744073709551616) ∨ (-18446744073709551616 < j ∧ j < 18446744073709551616) := by
  unfold mulOk
  simp
@[simp] theorem powOk_iff {i j : Int} : powOk i j = true ↔ 0 ≤ j ∧ j ≤ 1000000 ∧ i.natAbs < 18446744073709551616 := by
  unfold powOk
  simp [and_assoc]
@[simp] theorem timesOk_iff {xs : List PyData} {k : Int} : timesOk xs k = true ↔ k ≤ 1000 ∧ -1000 ≤ k ∧ xs.length ≤ 1000 := by
  unfold timesOk
  simp [and_assoc]
@[simp] theorem lenOk_iff {xs : List PyData} : lenOk xs = true ↔ xs.length ≤ 16777216 := by
  unfold lenOk
  simp
@[simp] theorem W_cmp {op : CmpOp} {fa fb : Pg EV} : W (evCmpT op fa fb) m X T ↔ W fa m X fun v m1 => W fb m1 X fun u m2 => W (twoB (cmpS op) (opnd v) (opnd u)) m2 X T := by
  unfold evCmpT
  simp only [W_bind]
@[simp] theorem W_chain {op op' : CmpOp} {fa fb fc : Pg EV} : W (evChainT op op' fa fb fc) m X T ↔ W fa m X fun v m1 => W fb m1 X fun u m2 => W (twoB (cmpS op) (opnd v) (opnd u)) m2 X fun k m3 =>
    (k = true → W fc m3 X fun z m4 => W (twoB (cmpS op') (opnd u) (opnd z)) m4 X T) ∧ (¬ k = true → T false m3) := by
  unfold evChainT
  simp only [W_bind, W_if, W_ret]
@[simp] theorem W_twoB {g : PyData → PyData → Option Bool} {o1 o2 : OV} : W (twoB g o1 o2) m X T ↔ W (look o1 fun x => look o2 fun y => optP (g x y)) m X T := Iff.rfl
@[simp] theorem cmp_lt {i j : Int} : cmpS .Lt (.int i) (.int j) = some (decide (i < j)) := rfl
@[simp] theorem cmp_le {i j : Int} : cmpS .LtE (.int i) (.int j) = some (decide (i ≤ j)) := rfl
@[simp] theorem cmp_gt {i j : Int} : cmpS .Gt (.int i) (.int j) = some (decide (j < i)) := rfl
@[simp] theorem cmp_ge {i j : Int} : cmpS .GtE (.int i) (.int j) = some (decide (j ≤ i)) := rfl
@[simp] theorem cmp_eqi {i j : Int} : cmpS .Eq (.int i) (.int j) = some (decide (i = j)) := by
  by_cases h : i = j <;> simp [cmpS, eqQ, SeqAt.shaped, PyData.canLay0, PyData.depth, PyData.eqv, h]
@[simp] theorem cmp_nei {i j : Int} : cmpS .NotEq (.int i) (.int j) = some (decide (i ≠ j)) := by
  by_cases h : i = j <;> simp [cmpS, eqQ, SeqAt.shaped, PyData.canLay0, PyData.depth, PyData.eqv, h]
@[simp] theorem cmp_eqb {i j : Bool} : cmpS .Eq (.bool i) (.bool j) = some (decide (i = j)) := by
  cases i <;> cases j <;> decide +kernel
@[simp] theorem cmp_neb {i j : Bool} : cmpS .NotEq (.bool i) (.bool j) = some (decide (i ≠ j)) := by
  cases i <;> cases j <;> decide +kernel
@[simp] theorem cmp_eqt0 {xs : List PyData} : cmpS .Eq (.tuple xs) (.tuple []) = some xs.isEmpty := rfl
@[simp] theorem cmp_net0 {xs : List PyData} : cmpS .NotEq (.tuple xs) (.tuple []) = some (!xs.isEmpty) := rfl
@[simp] theorem cmp_eql0 {xs : List PyData} : cmpS .Eq (.list xs) (.list []) = some xs.isEmpty := by
  cases xs with
  | nil => decide +kernel
  | cons x xs => simp [cmpS, eqQ]
@[simp] theorem cmp_nel0 {xs : List PyData} : cmpS .NotEq (.list xs) (.list []) = some (!xs.isEmpty) := by
  cases xs with
  | nil => decide +kernel
  | cons x xs => simp [cmpS, eqQ]
theorem can_ints : ∀ ns : List Int, PyData.canLayAll0 (ns.map PyData.int) = true
  | [] => by simp [PyData.canLayAll0]
  | n :: ns => by simp [PyData.canLayAll0, PyData.canLay0, can_ints ns]
theorem depth_ints : ∀ ns : List Int, PyData.depthAll (ns.map PyData.int) = 0
  | [] => by simp [PyData.depthAll]
  | n :: ns => by simp [PyData.depthAll, PyData.depth, depth_ints ns]
theorem shaped_ints {ns : List Int} : SeqAt.shaped (.list (ns.map PyData.int)) = true := by
  unfold SeqAt.shaped
  simp [PyData.canLay0, can_ints, PyData.depth, depth_ints]
theorem shaped_nil : SeqAt.shaped (.list []) = true := shaped_ints (ns := [])
theorem cmp_ne_ints {ns : List Int} : cmpS .NotEq (.list (ns.map PyData.int)) (.list []) = some (!ns.isEmpty) := by
  cases ns <;> simp
theorem cmp_ne_l {xs : List PyData} (h : SeqAt.shaped (.list xs) = true) : cmpS .NotEq (.list xs) (.list []) = some (decide (xs ≠ [])) := by
  cases xs <;> simp
@[simp] theorem cmp_eqs {a b : Str} : cmpS .Eq (.str a) (.str b) = some (decide (a = b)) := rfl
@[simp] theorem cmp_nes {a b : Str} : cmpS .NotEq (.str a) (.str b) = some (decide (a ≠ b)) := by
  by_cases h : a = b <;> simp [cmpS, h]
@[simp] theorem cmp_isN {x : PyData} : cmpS .Is x .none = some (isNoneD x) := rfl
@[simp] theorem cmp_isNotN {x : PyData} : cmpS .IsNot x .none = some (!isNoneD x) := rfl
@[simp] theorem cmp_isB {a b : Bool} : cmpS .Is (.bool a) (.bool b) = some (decide (a = b)) := rfl
@[simp] theorem cmp_isNotB {a b : Bool} : cmpS .IsNot (.bool a) (.bool b) = some (decide (a ≠ b)) := by
  cases a <;> cases b <;> rfl
@[simp] theorem isNone_n : isNoneD .none = true := rfl
@[simp] theorem isNone_i {i : Int} : isNoneD (.int i) = false := rfl
@[simp] theorem isNone_b {i : Bool} : isNoneD (.bool i) = false := rfl
@[simp] theorem isNone_s {i : Str} : isNoneD (.str i) = false := rfl
@[simp] theorem isNone_t {i : List PyData} : isNoneD (.tuple i) = false := rfl
@[simp] theorem isNone_l {i : List PyData} : isNoneD (.list i) = false := rfl
@[simp] theorem isNone_d {i : List (PyData × PyData)} : isNoneD (.dict i) = false := rfl
@[simp] theorem W_asV {f : Pg Bool} : W (asV f) m X E ↔ W f m X fun k m1 => E (.d (.bool k)) m1 := by
  unfold asV
  simp only [W_bind, W_ret]
@[simp] theorem W_tru {f : Pg EV} : W (evTru f) m X T ↔ W f m X fun v m1 => W (truO (opnd v)) m1 X T := by
  unfold evTru
  simp only [W_bind]
@[simp] theorem W_truO {o : OV} : W (truO o) m X T ↔ W (look o fun x => optP (truD x)) m X T := Iff.rfl
@[simp] theorem truD_b {k : Bool} : truD (.bool k) = some k := rfl
@[simp] theorem truD_n : truD .none = some false := rfl
@[simp] theorem truD_i {i : Int} : truD (.int i) = some (i != 0) := rfl
@[simp] theorem truD_l {xs : List PyData} : truD (.list xs) = some (!xs.isEmpty) := rfl
@[simp] theorem truD_t {xs : List PyData} : truD (.tuple xs) = some (!xs.isEmpty) := rfl
@[simp] theorem truD_s {x : Str} : truD (.str x) = if x.length ≤ 16777216 then some ((x.length : Int) != 0) else none := rfl
@[simp] theorem W_notT {t : Pg Bool} : W (evNotT t) m X T ↔ W t m X fun k m1 => T (!k) m1 := by
  unfold evNotT
  simp only [W_bind, W_ret]
@[simp] theorem W_andT {t u : Pg Bool} : W (evAndT t u) m X T ↔ W t m X fun k m1 => (k = true → W u m1 X T) ∧ (¬ k = true → T false m1) := by
  unfold evAndT
  simp only [W_bind, W_ret, W_if]
@[simp] theorem W_orT {t u : Pg Bool} : W (evOrT t u) m X T ↔ W t m X fun k m1 => (k = true → T true m1) ∧ (¬ k = true → W u m1 X T) := by
  unfold evOrT
  simp only [W_bind, W_ret, W_if]
@[simp] theorem W_not {f : Pg EV} : W (evNot f) m X E ↔ W f m X fun v m1 => W (truO (opnd v)) m1 X fun k m2 => E (.d (.bool (!k))) m2 := by
  unfold evNot
  simp only [W_bind, W_ret]
@[simp] theorem W_and {f g : Pg EV} : W (evAnd f g) m X E ↔ W f m X fun v m1 => W (truO (opnd v)) m1 X fun k m2 => (k = true → W g m2 X E) ∧ (¬ k = true → E v m2) := by
  unfold evAnd
  simp only [W_bind, W_ret, W_if]
@[simp] theorem W_or {f g : Pg EV} : W (evOr f g) m X E ↔ W f m X fun v m1 => W (truO (opnd v)) m1 X fun k m2 => (k = true → E v m2) ∧ (¬ k = true → W g m2 X E) := by
  unfold evOr
  simp only [W_bind, W_ret, W_if]
@[simp] theorem W_evIf {t : Pg Bool} {f g : Pg EV} : W (evIf t f g) m X E ↔ W t m X fun k m1 => (k = true → W f m1 X E) ∧ (¬ k = true → W g m1 X E) := by
  unfold evIf
  simp only [W_bind, W_if]
@[simp] theorem W_tup {g : Pg (List AV)} : W (evTup g) m X E ↔ W g m X fun vs m1 => ∃ v, mkTup vs = some v ∧ E v m1 := by
  unfold evTup
  simp only [W_bind, W_opt]
@[simp] theorem W_lst {g : Pg (List AV)} : W (evLst g) m X E ↔ W g m X fun vs m1 => ∃ v, mkLst vs = some v ∧ E v m1 := by
  unfold evLst
  simp only [W_bind, W_opt]
@[simp] theorem W_nil {P : List α → Mem → Prop} : W (evNil : Pg (List α)) m X P ↔ P [] m := ⟨fun h => h.go, fun h => ⟨h⟩⟩
@[simp] theorem W_consA {f : Pg EV} {g : Pg (List AV)} {P : List AV → Mem → Prop} : W (evConsA f g) m X P ↔ W f m X fun v m1 => W (toA v) m1 X fun a m2 => W g m2 X fun r m3 => P (a :: r) m3 := by
  unfold evConsA
  simp only [W_bind, W_ret]
@[simp] theorem W_consO {f : Pg EV} {g : Pg (List OV)} {P : List OV → Mem → Prop} : W (evConsO f g) m X P ↔ W f m X fun v m1 => W g m1 X fun r m3 => P (opnd v :: r) m3 := by
  unfold evConsO
  simp only [W_bind, W_ret]
@[simp] theorem W_toAd {x : PyData} {P : AV → Mem → Prop} : W (toA (.d x)) m X P ↔ P (.d x) m := ⟨fun h => h.go, fun h => ⟨h⟩⟩
@[simp] theorem W_toAf {o : Ob} {P : AV → Mem → Prop} : W (toA (.new o)) m X P ↔ P (.d (dOf o)) m := ⟨fun h => h.go, fun h => ⟨h⟩⟩
@[simp] theorem W_toAp {i : Nat} {o : Ob} {P : AV → Mem → Prop} : W (toA (.pk i o)) m X P ↔ P (.d (dOf o)) (freezeM m i (dOf o)) := ⟨fun h => h.go, fun h => ⟨h⟩⟩
@[simp] theorem W_toAc {n : Nat} {P : AV → Mem → Prop} : W (toA (.cell n)) m X P ↔ P (.cell n) m := ⟨fun h => h.go, fun h => ⟨h⟩⟩
@[simp] theorem freezeM_mk {i : Nat} {x : PyData} {sl : List (Option SV)} {cs : List Ob} : freezeM ⟨sl, cs⟩ i x = ⟨sl.set i (some (.d x)), cs⟩ := rfl
@[simp] theorem dataOf_nil : dataOf [] = some [] := rfl
@[simp] theorem dataOf_cons {x : PyData} {r : List AV} : dataOf (.d x :: r) = (dataOf r).map (x :: ·) := by
  show (match dataOf r with
    | some xs => some (x :: xs)
    | none => none) = _
  cases dataOf r <;> rfl
@[simp] theorem mkTup_of {vs : List AV} {xs : List PyData} (h : dataOf vs = some xs) : mkTup vs = if lenOk xs then some (.d (.tuple xs)) else none := by
  unfold mkTup
  rw [h]
@[simp] theorem mkLst_of {vs : List AV} {xs : List PyData} (h : dataOf vs = some xs) : mkLst vs = if lenOk xs then some (.fresh xs) else none := by
  unfold mkLst
  rw [h]
@[simp] theorem dats_nil : dats [] m = some [] := rfl
@[simp] theorem dats_cons {x : PyData} {r : List OV} : dats (.d x :: r) m = (dats r m).map (x :: ·) := by
  show (match some x, dats r m with
    | some x, some xs => some (x :: xs)
    | _, _ => none) = _
  cases dats r m <;> rfl
@[simp] theorem dats_cell {n : Nat} {r : List OV} : dats (.cell n :: r) m = (m.cs[n]?).bind fun o => (dats r m).map (dOf o :: ·) := by
  show (match (m.cs[n]?).map dOf, dats r m with
    | some x, some xs => some (x :: xs)
    | _, _ => none) = _
  cases m.cs[n]? <;> cases dats r m <;> rfl
@[simp] theorem W_blt {g : List PyData → Option EV} {fo : Pg (List OV)} : W (evBlt g fo) m X E ↔ W fo m X fun os m1 => ∃ ds, dats os m1 = some ds ∧ ∃ v, g ds = some v ∧ E v m1 := by
  unfold evBlt
  simp only [W_bind]
  constructor
  · intro h
    refine h.mono fun os m1 q => ?_
    rw [W_iff] at q
    cases e : dats os m1 with
    | none =>
      rw [e] at q
      exact q.elim
    | some ds =>
      rw [e] at q
      have q : W (optP (g ds)) m1 X E := ⟨q⟩
      exact ⟨ds, rfl, W_opt.mp q⟩
  · intro h
    refine h.mono fun os m1 ⟨ds, e, q⟩ => ?_
    rw [W_iff, e]
    exact (W_opt.mpr q).go
@[simp] theorem gLen_list {xs : List PyData} : gLen [.list xs] = some (.d (.int xs.length)) := rfl
@[simp] theorem gLen_tup {xs : List PyData} : gLen [.tuple xs] = some (.d (.int xs.length)) := rfl
@[simp] theorem gLen_str {s : Str} : gLen [.str s] = if s.length ≤ 16777216 then some (.d (.int s.length)) else none := rfl
@[simp] theorem gAbs_int {i : Int} : gAbs [.int i] = some (.d (.int (if i < 0 then -i else i))) := rfl
@[simp] theorem gInt_int {i : Int} : gInt [.int i] = some (.d (.int i)) := rfl
@[simp] theorem gInt_bool {b : Bool} : gInt [.bool b] = some (.d (.int (if b then 1 else 0))) := rfl
@[simp] theorem gMin_int {i j : Int} : gMin [.int i, .int j] = some (.d (.int (if j < i then j else i))) := rfl
@[simp] theorem gMax_int {i j : Int} : gMax [.int i, .int j] = some (.d (.int (if j > i then j else i))) := rfl
@[simp] theorem gTuple_l {xs : List PyData} : gTuple [.list xs] = some (.d (.tuple xs)) := rfl
@[simp] theorem gTuple_t {xs : List PyData} : gTuple [.tuple xs] = some (.d (.tuple xs)) := rfl
@[simp] theorem gList_l {xs : List PyData} : gList [.list xs] = some (.fresh xs) := rfl
@[simp] theorem gList_t {xs : List PyData} : gList [.tuple xs] = some (.fresh xs) := rfl
@[simp] theorem gStr_int {i : Int} : gStr [.int i] = if strOk i then some (.d (.str (toString i))) else none := rfl
@[simp] theorem gStr_str {s : Str} : gStr [.str s] = some (.d (.str s)) := rfl
@[simp] theorem gRepr_d {d : PyData} : gRepr [d] = if reprOk d then some (.d (.str d.shown)) else none := rfl
@[simp] theorem W_isi {t : String} {f : Pg EV} : W (evIsi t f) m X E ↔ W f m X fun v m1 => W (look (opnd v) fun x => optP ((tyName x).bind fun t0 => (kitB t0 t).map fun b => EV.d (.bool b))) m1 X E := by
  unfold evIsi
  simp only [W_bind]
/-! calls -/
@[simp] theorem W_callS {g : Fn} {args : List AV} : W (callS g args) m X E ↔ W (g args) ⟨[], m.cs⟩ (fun x m' => X x ⟨m.sl, m'.cs⟩) fun v m' => E v ⟨m.sl, m'.cs⟩ := by
  rw [W_iff, W_iff]
  unfold callS
  cases g args ⟨[], m.cs⟩ <;> exact Iff.rfl
@[simp] theorem W_call {g : Fn} {fa : Pg (List AV)} : W (evCall g fa) m X E ↔ W fa m X fun args m1 => W (callS g args) m1 X E := by
  unfold evCall
  simp only [W_bind]
@[simp] theorem W_argsN {n : Nat} {fa : Pg (List AV)} {P : List AV → Mem → Prop} : W (argsN n fa) m X P ↔ W fa m X fun vs m1 => vs.length = n ∧ P vs m1 := by
  unfold argsN
  simp only [W_bind, W_if, W_ret, W_stuck]
  constructor
  · intro h
    refine h.mono fun vs m1 ⟨q1, q2⟩ => ?_
    by_cases e : vs.length = n
    · exact ⟨e, q1 e⟩
    · exact (q2 e).elim
  · intro h
    exact h.mono fun vs m1 ⟨q1, q2⟩ => ⟨fun _ => q2, fun z => z q1⟩
@[simp] theorem W_callK {g : Fn} {n k q : Nat} {is : List Nat} {fa fk : Pg (List AV)} : W (evCallK g n k q is fa fk) m X E ↔ W fa m X fun vs m1 => W fk m1 X fun zs m2 => (vs.length = n ∧ zs.length = k ∧ (pick is (vs ++ zs)).length = q) ∧ W (callS g (pick is (vs ++ zs))) m2 X E := by
  unfold evCallK
  simp only [W_bind, W_if, W_stuck]
  constructor
  · intro h
    refine h.mono fun vs m1 h => h.mono fun zs m2 ⟨q1, q2⟩ => ?_
    by_cases e : vs.length = n ∧ zs.length = k ∧ (pick is (vs ++ zs)).length = q
    · exact ⟨e, q1 e⟩
    · exact (q2 e).elim
  · intro h
    exact h.mono fun vs m1 h => h.mono fun zs m2 ⟨q1, q2⟩ => ⟨fun _ => q2, fun z => (z q1).elim⟩
theorem W_run {n : Nat} {fb : Pg Fl} {args : List AV} : W (runFn n fb args) m X E ↔ W fb ⟨startS n args, m.cs⟩ (fun x m' => X x ⟨[], m'.cs⟩) fun fl m' => match fl with
    | .ret v => E (outE v) ⟨[], m'.cs⟩
    | .next => E (.d .none) ⟨[], m'.cs⟩
    | _ => False := by
  rw [W_iff, W_iff]
  unfold runFn
  cases fb ⟨startS n args, m.cs⟩ with
  | bad => exact Iff.rfl
  | thr x m' => exact Iff.rfl
  | ok fl m' => cases fl <;> exact Iff.rfl
@[simp] theorem outE_d {x : PyData} : outE (.d x) = .d x := rfl
@[simp] theorem outE_n {o : Ob} : outE (.new o) = .new o := rfl
@[simp] theorem outE_p {i : Nat} {o : Ob} : outE (.pk i o) = .new o := rfl
@[simp] theorem outE_c {n : Nat} : outE (.cell n) = .cell n := rfl
@[simp] theorem toS_d {x : PyData} : toS (.d x) = .d x := rfl
@[simp] theorem toS_c {n : Nat} : toS (.cell n) = .cell n := rfl
/-! statements -/
@[simp] theorem W_seq {f g : Pg Fl} : W (evSeq f g) m X F ↔ W f m X fun fl m' => match fl with
    | .next => W g m' X F
    | .brk => F .brk m'
    | .cont => F .cont m'
    | .ret v => F (.ret v) m' := by
  unfold evSeq
  simp only [W_bind]
  constructor
  · intro h
    refine h.mono fun fl m' q => ?_
    cases fl
    · exact q
    · exact q.go
    · exact q.go
    · exact q.go
  · intro h
    refine h.mono fun fl m' q => ?_
    cases fl
    · exact q
    · exact ⟨q⟩
    · exact ⟨q⟩
    · exact ⟨q⟩
@[simp] theorem W_evSet {i : Nat} {f : Pg EV} : W (evSet i f) m X F ↔ W f m X fun v m1 => W (asgS i v) m1 X fun _ m2 => F .next m2 := by
  unfold evSet
  simp only [W_bind, W_ret]
@[simp] theorem W_asg_d {i : Nat} {x : PyData} {sl : List (Option SV)} {cs : List Ob} {P : Unit → Mem → Prop} : W (asgS i (.d x)) ⟨sl, cs⟩ X P ↔ P () ⟨sl.set i (some (.d x)), cs⟩ := ⟨fun h => h.go, fun h => ⟨h⟩⟩
@[simp] theorem W_asg_f {i : Nat} {x : Ob} {sl : List (Option SV)} {cs : List Ob} {P : Unit → Mem → Prop} : W (asgS i (.new x)) ⟨sl, cs⟩ X P ↔ P () ⟨sl.set i (some (.ob x)), cs⟩ := ⟨fun h => h.go, fun h => ⟨h⟩⟩
@[simp] theorem W_asg_c {i n : Nat} {sl : List (Option SV)} {cs : List Ob} {P : Unit → Mem → Prop} : W (asgS i (.cell n)) ⟨sl, cs⟩ X P ↔ P () ⟨sl.set i (some (.cell n)), cs⟩ := ⟨fun h => h.go, fun h => ⟨h⟩⟩
@[simp] theorem W_asg_p {i j : Nat} {x : Ob} {sl : List (Option SV)} {cs : List Ob} {P : Unit → Mem → Prop} : W (asgS i (.pk j x)) ⟨sl, cs⟩ X P ↔ P () ⟨(sl.set j (some (.d (dOf x)))).set i (some (.d (dOf x))), cs⟩ := ⟨fun h => h.go, fun h => ⟨h⟩⟩
@[simp] theorem W_evSetC {i : Nat} {f : Pg EV} : W (evSetC i f) m X F ↔ W f m X fun v m1 => W (newC i v) m1 X fun _ m2 => F .next m2 := by
  unfold evSetC
  simp only [W_bind, W_ret]
@[simp] theorem W_newC {i : Nat} {x : Ob} {sl : List (Option SV)} {cs : List Ob} {P : Unit → Mem → Prop} : W (newC i (.new x)) ⟨sl, cs⟩ X P ↔ P () ⟨sl.set i (some (.cell cs.length)), cs ++ [x]⟩ := ⟨fun h => h.go, fun h => ⟨h⟩⟩
@[simp] theorem W_evRet {f : Pg EV} : W (evRet f) m X F ↔ W f m X fun v m1 => F (.ret v) m1 := by
  unfold evRet
  simp only [W_bind, W_ret]
@[simp] theorem W_evIte {t : Pg Bool} {a b : Pg Fl} : W (evIte t a b) m X F ↔ W t m X fun k m1 => (k = true → W a m1 X F) ∧ (¬ k = true → W b m1 X F) := by
  unfold evIte
  simp only [W_bind, W_if]
@[simp] theorem W_evDrop {f : Pg EV} : W (evDrop f) m X F ↔ W f m X fun v m1 => F .next m1 := by
  unfold evDrop
  simp only [W_bind, W_ret]
@[simp] theorem W_needD {a : AV} {P : PyData → Mem → Prop} : W (needD a) m X P ↔ ∃ d, a = .d d ∧ P d m := by
  cases a with
  | d x => exact ⟨fun h => ⟨x, rfl, h.go⟩, fun ⟨_, e, h⟩ => by cases e; exact ⟨h⟩⟩
  | cell n => exact ⟨fun h => h.go.elim, fun ⟨_, e, _⟩ => by cases e⟩
@[simp] theorem W_evApp {i : Nat} {f : Pg EV} : W (evApp i f) m X F ↔ W (isOwn i) m X fun _ m0 => W f m0 X fun v m1 => W (toA v) m1 X fun a m2 => ∃ d, a = .d d ∧ W (appS i d) m2 X F := by
  unfold evApp
  simp only [W_bind, W_needD]
@[simp] theorem W_isOwn {i : Nat} {P : Unit → Mem → Prop} : W (isOwn i) m X P ↔ ∃ xs, m.sl[i]? = some (some (.own xs)) ∧ P () m := by
  rw [W_iff]
  unfold isOwn
  split
  · rename_i xs e
    exact ⟨fun h => ⟨xs, e, h⟩, fun ⟨_, _, h⟩ => h⟩
  · rename_i h
    exact ⟨fun h => h.elim, fun ⟨xs, e, _⟩ => h xs e⟩
@[simp] theorem W_appS {i : Nat} {d : PyData} {sl : List (Option SV)} {cs : List Ob} : W (appS i d) ⟨sl, cs⟩ X F ↔ ∃ xs, sl[i]? = some (some (.own xs)) ∧ xs.length < 16777216 ∧ F .next ⟨sl.set i (some (.own (xs ++ [d]))), cs⟩ := by
  rw [W_iff]
  unfold appS
  split
  · rename_i xs e
    have e : sl[i]? = some (some (.own xs)) := e
    split
    · rename_i hl
      exact ⟨fun h => ⟨xs, e, hl, h⟩, fun ⟨ys, e2, _, h⟩ => by rw [e] at e2; cases e2; exact h⟩
    · rename_i hl
      exact ⟨fun h => h.elim, fun ⟨ys, e2, h2, _⟩ => by rw [e] at e2; cases e2; exact hl h2⟩
  · rename_i h
    exact ⟨fun h => h.elim, fun ⟨xs, e, _⟩ => h xs e⟩
@[simp] theorem W_store {fe fo fi : Pg EV} : W (evStore fe fo fi) m X F ↔ W fe m X fun v m1 => W (toA v) m1 X fun a m2 => ∃ d, a = .d d ∧ W fo m2 X fun o m3 => W fi m3 X fun i m4 => W (storeP o (opnd i) d) m4 X F := by
  unfold evStore
  simp only [W_bind, W_needD]
@[simp] theorem W_storeP {v : EV} {i : OV} {d : PyData} : W (storeP v i d) m X F ↔ W (getAt v) m X fun o m1 => W (look i fun k => .bind (optP (putS o k d)) fun o' => .bind (putAt v o') fun _ => .ret .next) m1 X F := by
  unfold storeP
  simp only [W_bind]
@[simp] theorem W_getC {n : Nat} {P : Ob → Mem → Prop} : W (getAt (.cell n)) m X P ↔ ∃ o, m.cs[n]? = some o ∧ P o m := by
  rw [W_iff]
  unfold getAt
  cases e : m.cs[n]? <;> simp [Res.wp, e]
@[simp] theorem W_getP {j : Nat} {o0 : Ob} {P : Ob → Mem → Prop} : W (getAt (.pk j o0)) m X P ↔ ∃ o, m.sl[j]? = some (some (.ob o)) ∧ P o m := by
  rw [W_iff]
  unfold getAt
  dsimp only
  split
  · rename_i o e
    exact ⟨fun h => ⟨o, e, h⟩, fun ⟨_, e2, h⟩ => by rw [e] at e2; cases e2; exact h⟩
  · rename_i h
    exact ⟨fun h => h.elim, fun ⟨o, e, _⟩ => h o e⟩
@[simp] theorem W_putC {n : Nat} {o : Ob} {sl : List (Option SV)} {cs : List Ob} {P : Unit → Mem → Prop} : W (putAt (.cell n) o) ⟨sl, cs⟩ X P ↔ P () ⟨sl, cs.set n o⟩ := ⟨fun h => h.go, fun h => ⟨h⟩⟩
@[simp] theorem W_putP {j : Nat} {o o0 : Ob} {sl : List (Option SV)} {cs : List Ob} {P : Unit → Mem → Prop} : W (putAt (.pk j o0) o) ⟨sl, cs⟩ X P ↔ P () ⟨sl.set j (some (.ob o)), cs⟩ := ⟨fun h => h.go, fun h => ⟨h⟩⟩
@[simp] theorem putS_l {xs : List PyData} {k : Int} {d : PyData} : putS (.lst xs) (.int k) d = (ixN xs.length k).map fun j => .lst (xs.set j d) := rfl
theorem putS_d {es : List (PyData × PyData)} {k d : PyData} : putS (.dic es) k d = if keyB k && decide (es.length < 16777216) then some (.dic (dPut es k d)) else none := by cases k <;> rfl
@[simp] theorem W_evAsg {g : PyData → Pg Unit} {f : Pg EV} : W (evAsg g f) m X F ↔ W f m X fun v m1 => W (toA v) m1 X fun a m2 => ∃ d, a = .d d ∧ W (g d) m2 X fun _ m3 => F .next m3 := by
  unfold evAsg
  simp only [W_bind, W_needD, W_ret]
@[simp] theorem W_tgName {i : Nat} {d : PyData} {sl : List (Option SV)} {cs : List Ob} {P : Unit → Mem → Prop} : W (tgName i d) ⟨sl, cs⟩ X P ↔ P () ⟨sl.set i (some (.d d)), cs⟩ := ⟨fun h => h.go, fun h => ⟨h⟩⟩
@[simp] theorem W_tgTup {n : Nat} {g : List PyData → Pg Unit} {ds : List PyData} {P : Unit → Mem → Prop} : W (tgTup n g (.tuple ds)) m X P ↔ ds.length = n ∧ W (g ds) m X P := by
  show W (if ds.length = n then g ds else .stuck) m X P ↔ _
  rw [W_if, W_stuck]
  exact ⟨fun ⟨h1, h2⟩ => (by
    by_cases e : ds.length = n
    · exact ⟨e, h1 e⟩
    · exact (h2 e).elim), fun ⟨h1, h2⟩ => ⟨fun _ => h2, fun z => z h1⟩⟩
@[simp] theorem W_tgTupL {n : Nat} {g : List PyData → Pg Unit} {ds : List PyData} {P : Unit → Mem → Prop} : W (tgTup n g (.list ds)) m X P ↔ ds.length = n ∧ W (g ds) m X P := W_tgTup
@[simp] theorem W_tgNil {P : Unit → Mem → Prop} : W (tgNil []) m X P ↔ P () m := ⟨fun h => h.go, fun h => ⟨h⟩⟩
@[simp] theorem W_tgCons {g : PyData → Pg Unit} {h : List PyData → Pg Unit} {d : PyData} {ds : List PyData} {P : Unit → Mem → Prop} : W (tgCons g h (d :: ds)) m X P ↔ W (g d) m X fun _ m1 => W (h ds) m1 X P := W_bind
/-! subscripts -/
theorem atI_nn {α : Type} {xs : List α} {i : Int} (h : 0 ≤ i) : atI xs i = xs[i.toNat]? := by
  unfold atI ixN
  by_cases h2 : i < xs.length
  · rw [if_pos h, if_pos h2]
    rfl
  · rw [if_pos h, if_neg h2, List.getElem?_eq_none (by omega)]
    rfl
theorem atI_map {α β : Type} {xs : List α} {i : Int} {f : α → β} : atI (xs.map f) i = (atI xs i).map f := by
  unfold atI
  rw [List.length_map]
  cases ixN xs.length i with
  | none => rfl
  | some j => simp
@[simp] theorem atI_0 {α : Type} {xs : List α} : atI xs 0 = xs[0]? := by
  unfold atI ixN
  by_cases h : (0 : Int) < xs.length
  · rw [if_pos (by omega), if_pos h]
    rfl
  · rw [if_pos (by omega), if_neg h, List.getElem?_eq_none (by omega)]
    rfl
@[simp] theorem atI_1 {α : Type} {xs : List α} : atI xs 1 = xs[1]? := by
  unfold atI ixN
  by_cases h : (1 : Int) < xs.length
  · rw [if_pos (by omega), if_pos h]
    rfl
  · rw [if_pos (by omega), if_neg h, List.getElem?_eq_none (by omega)]
    rfl
@[simp] theorem atI_2 {α : Type} {xs : List α} : atI xs 2 = xs[2]? := by
  unfold atI ixN
  by_cases h : (2 : Int) < xs.length
  · rw [if_pos (by omega), if_pos h]
    rfl
  · rw [if_pos (by omega), if_neg h, List.getElem?_eq_none (by omega)]
    rfl
@[simp] theorem atI_3 {α : Type} {xs : List α} : atI xs 3 = xs[3]? := by
  unfold atI ixN
  by_cases h : (3 : Int) < xs.length
  · rw [if_pos (by omega), if_pos h]
    rfl
  · rw [if_pos (by omega), if_neg h, List.getElem?_eq_none (by omega)]
    rfl
@[simp] theorem atI_4 {α : Type} {xs : List α} : atI xs 4 = xs[4]? := by
  unfold atI ixN
  by_cases h : (4 : Int) < xs.length
  · rw [if_pos (by omega), if_pos h]
    rfl
  · rw [if_pos (by omega), if_neg h, List.getElem?_eq_none (by omega)]
    rfl
@[simp] theorem atI_5 {α : Type} {xs : List α} : atI xs 5 = xs[5]? := by
  unfold atI ixN
  by_cases h : (5 : Int) < xs.length
  · rw [if_pos (by omega), if_pos h]
    rfl
  · rw [if_pos (by omega), if_neg h, List.getElem?_eq_none (by omega)]
    rfl
@[simp] theorem atI_6 {α : Type} {xs : List α} : atI xs 6 = xs[6]? := by
  unfold atI ixN
  by_cases h : (6 : Int) < xs.length
  · rw [if_pos (by omega), if_pos h]
    rfl
  · rw [if_pos (by omega), if_neg h, List.getElem?_eq_none (by omega)]
    rfl
@[simp] theorem atI_7 {α : Type} {xs : List α} : atI xs 7 = xs[7]? := by
  unfold atI ixN
  by_cases h : (7 : Int) < xs.length
  · rw [if_pos (by omega), if_pos h]
    rfl
  · rw [if_pos (by omega), if_neg h, List.getElem?_eq_none (by omega)]
    rfl
@[simp] theorem atI_8 {α : Type} {xs : List α} : atI xs 8 = xs[8]? := by
  unfold atI ixN
  by_cases h : (8 : Int) < xs.length
  · rw [if_pos (by omega), if_pos h]
    rfl
  · rw [if_pos (by omega), if_neg h, List.getElem?_eq_none (by omega)]
    rfl
@[simp] theorem W_ix {fa fb : Pg EV} : W (evIx fa fb) m X E ↔ W fa m X fun v m1 => W fb m1 X fun u m2 => W (ixP (opnd v) (opnd u)) m2 X E := by
  unfold evIx
  simp only [W_bind]
@[simp] theorem W_ixP {o i : OV} : W (ixP o i) m X E ↔ W (look o fun x => look i fun y => optP ((ixS x y).map .d)) m X E := Iff.rfl
@[simp] theorem ex_ex {β γ : Type} {p : β → Prop} {f : β → γ} {P : γ → Prop} : (∃ a, (∃ b, p b ∧ f b = a) ∧ P a) ↔ ∃ b, p b ∧ P (f b) :=
  ⟨fun ⟨_, ⟨b, h, e⟩, q⟩ => ⟨b, h, e ▸ q⟩, fun ⟨b, h, q⟩ => ⟨_, ⟨b, h, rfl⟩, q⟩⟩
@[simp] theorem ex_map {β γ : Type} {o : Option β} {f : β → γ} {P : γ → Prop} : (∃ a, o.map f = some a ∧ P a) ↔ ∃ b, o = some b ∧ P (f b) := by
  cases o <;> simp
@[simp] theorem ixS_l {xs : List PyData} {i : Int} : ixS (.list xs) (.int i) = atI xs i := rfl
@[simp] theorem ixS_t {xs : List PyData} {i : Int} : ixS (.tuple xs) (.int i) = atI xs i := rfl
@[simp] theorem W_part {f : Pg EV} {P : Option Int → Mem → Prop} : W (evPart f) m X P ↔ W f m X fun v m1 => W (intP (opnd v)) m1 X P := by
  unfold evPart
  simp only [W_bind]
@[simp] theorem W_intP {o : OV} {P : Option Int → Mem → Prop} : W (intP o) m X P ↔ W (look o fun x => optP (intD x)) m X P := Iff.rfl
@[simp] theorem intD_i {i : Int} : intD (.int i) = some (some i) := rfl
@[simp] theorem W_sl {fa : Pg EV} {fl fh : Pg (Option Int)} : W (evSl fa fl fh) m X E ↔ W fa m X fun v m1 => W fl m1 X fun l m2 => W fh m2 X fun h m3 => W (slP (opnd v) l h) m3 X E := by
  unfold evSl
  simp only [W_bind]
@[simp] theorem W_slP {o : OV} {l h : Option Int} : W (slP o l h) m X E ↔ W (look o fun x => optP (slS x l h)) m X E := Iff.rfl
@[simp] theorem slS_l {xs : List PyData} {l h : Option Int} : slS (.list xs) l h = some (.fresh (cutD xs l h)) := rfl
@[simp] theorem slS_t {xs : List PyData} {l h : Option Int} : slS (.tuple xs) l h = some (.d (.tuple (cutD xs l h))) := rfl
@[simp] theorem W_neg {f : Pg EV} : W (evNeg f) m X E ↔ W f m X fun v m1 => W (look (opnd v) fun x => optP (negS x)) m1 X E := by
  unfold evNeg
  simp only [W_bind]
@[simp] theorem W_d0 : W evD0 m X E ↔ E (.new (.dic [])) m := ⟨fun h => h.go, fun h => ⟨h⟩⟩
@[simp] theorem W_rev {f : Pg EV} : W (evRev f) m X E ↔ W f m X fun v m1 => W (look (opnd v) fun x => optP (revO x)) m1 X E := by
  unfold evRev
  simp only [W_bind]
@[simp] theorem revO_l {xs : List PyData} : revO (.list xs) = some (.fresh xs.reverse) := rfl
@[simp] theorem revO_t {xs : List PyData} : revO (.tuple xs) = some (.d (.tuple xs.reverse)) := rfl
@[simp] theorem negS_int {i : Int} : negS (.int i) = some (.d (.int (-i))) := rfl
/-! loops -/
@[simp] theorem wipeL_n {l : List (Option SV)} : wipeL [] l = l := rfl
@[simp] theorem wipeL_c {i : Nat} {is : List Nat} {l : List (Option SV)} : wipeL (i :: is) l = (wipeL is l).set i none := rfl
theorem boolsOf_map {α : Type} (f : α → Bool) : ∀ xs : List α, boolsOf (xs.map fun x => .bool (f x)) = some (xs.map f)
  | [] => rfl
  | x :: xs => by
    simp only [List.map_cons]
    unfold boolsOf
    rw [boolsOf_map f xs]
@[simp] theorem gAll_map {α : Type} {f : α → Bool} {xs : List α} : gAll [.list (xs.map fun x => .bool (f x))] = some (.d (.bool (xs.all f))) := by
  show (match boolsOf (xs.map fun x => PyData.bool (f x)) with
    | some bs => some (EV.d (.bool (bs.all id)))
    | none => none) = _
  rw [boolsOf_map]
  simp [List.all_map]
@[simp] theorem gAny_map {α : Type} {f : α → Bool} {xs : List α} : gAny [.list (xs.map fun x => .bool (f x))] = some (.d (.bool (xs.any f))) := by
  show (match boolsOf (xs.map fun x => PyData.bool (f x)) with
    | some bs => some (EV.d (.bool (bs.any id)))
    | none => none) = _
  rw [boolsOf_map]
  simp [List.any_map]
@[simp] theorem W_for {f : Pg (List PyData)} {g : PyData → Pg Unit} {b : Pg Fl} : W (evFor f g b) m X F ↔ W f m X fun ds m1 => W (forL g b ds) m1 X F := by
  unfold evFor
  simp only [W_bind]
theorem W_forL {g : PyData → Pg Unit} {b : Pg Fl} (I : List PyData → Mem → Prop) : ∀ {ds : List PyData} {m : Mem}, I ds m →
    (∀ d ds m, I (d :: ds) m → W (g d) m X fun _ m1 => W b m1 X fun fl m2 => match fl with
      | .next => I ds m2
      | .cont => I ds m2
      | .brk => F .next m2
      | .ret v => F (.ret v) m2) → (∀ m, I [] m → F .next m) → W (forL g b ds) m X F
  | [], m, h0, _, h2 => ⟨h2 m h0⟩
  | d :: ds, m, h0, h1, h2 => by
    show W (Pg.bind (g d) _) m X F
    rw [W_bind]
    refine (h1 d ds m h0).mono fun _ m1 q => ?_
    rw [W_bind]
    refine q.mono fun fl m2 q => ?_
    cases fl with
    | next => exact W_forL I q h1 h2
    | cont => exact W_forL I q h1 h2
    | brk => exact ⟨q⟩
    | ret v => exact ⟨q⟩
@[simp] theorem W_evIt {f : Pg EV} {P : List PyData → Mem → Prop} : W (evIt f) m X P ↔ W f m X fun v m1 => W (toA v) m1 X fun a m2 => ∃ ds, seqOf a = some ds ∧ P ds m2 := by
  unfold evIt
  simp only [W_bind, W_opt]
@[simp] theorem seqOf_l {xs : List PyData} : seqOf (.d (.list xs)) = some xs := rfl
@[simp] theorem seqOf_t {xs : List PyData} : seqOf (.d (.tuple xs)) = some xs := rfl
@[simp] theorem W_evItE {f : Pg EV} {P : List PyData → Mem → Prop} : W (evItE f) m X P ↔ W f m X fun v m1 => W (itE v) m1 X P := by
  unfold evItE
  rw [W_bind]
@[simp] theorem W_itEp {i : Nat} {xs : List PyData} {P : List PyData → Mem → Prop} : W (itE (.pk i (.lst xs))) m X P ↔ P xs m := ⟨fun h => h.go, fun h => ⟨h⟩⟩
@[simp] theorem W_itEn {xs : List PyData} {P : List PyData → Mem → Prop} : W (itE (.new (.lst xs))) m X P ↔ P xs m := ⟨fun h => h.go, fun h => ⟨h⟩⟩
@[simp] theorem W_itEd {x : PyData} {P : List PyData → Mem → Prop} : W (itE (.d x)) m X P ↔ ∃ ds, seqOf (.d x) = some ds ∧ P ds m := by
  show W (optP (seqOf (.d x))) m X P ↔ _
  exact W_opt
@[simp] theorem W_rng1 {f : Pg (List OV)} {P : List PyData → Mem → Prop} : W (evRng1 f) m X P ↔ W f m X fun os m1 => ∃ ds, rng1 os = some ds ∧ P ds m1 := by
  unfold evRng1
  simp only [W_bind, W_opt]
@[simp] theorem W_rng2 {f : Pg (List OV)} {P : List PyData → Mem → Prop} : W (evRng2 f) m X P ↔ W f m X fun os m1 => ∃ ds, rng2 os = some ds ∧ P ds m1 := by
  unfold evRng2
  simp only [W_bind, W_opt]
theorem W_wipe {is : List Nat} {P : Unit → Mem → Prop} : W (wipeP is) m X P ↔ P () ⟨wipeL is m.sl, m.cs⟩ := ⟨fun h => h.go, fun h => ⟨h⟩⟩
@[simp] theorem W_comp {is : List Nat} {fi : Pg (List PyData)} {g : PyData → Pg Unit} {t : Pg Bool} {e : Pg EV} : W (evComp is fi g t e) m X E ↔ W fi m X fun ds m1 => W (compL is g t e ds []) ⟨wipeL is m1.sl, m1.cs⟩ X E := by
  unfold evComp
  simp only [W_bind, W_wipe]
theorem W_compL {is : List Nat} {g : PyData → Pg Unit} {t : Pg Bool} {e : Pg EV} (I : List PyData → List PyData → Mem → Prop) : ∀ {ds acc : List PyData} {m : Mem}, I ds acc m →
    (∀ d ds acc m, I (d :: ds) acc m → W (g d) m X fun _ m1 => W t m1 noX fun k m2 => if k = true then W e m2 noX fun v m3 => W (toA v) m3 X fun a m4 => ∃ x, a = .d x ∧ acc.length < 16777216 ∧ I ds (acc ++ [x]) ⟨wipeL is m4.sl, m4.cs⟩ else I ds acc ⟨wipeL is m2.sl, m2.cs⟩) →
    (∀ acc m, I [] acc m → E (.fresh acc) m) → W (compL is g t e ds acc) m X E
  | [], acc, m, h0, _, h2 => ⟨h2 acc m h0⟩
  | d :: ds, acc, m, h0, h1, h2 => by
    have go := h1 d ds acc m h0
    unfold compL
    rw [W_bind]
    refine go.mono fun _ m1 q => ?_
    rw [W_bind, W_noThr]
    refine q.mono fun k m2 q => ?_
    cases k with
    | false =>
      have q : I ds acc ⟨wipeL is m2.sl, m2.cs⟩ := q
      have z := W_compL I q h1 h2
      simp
      exact W_wipe.mpr z
    | true =>
      have q : W e m2 noX fun v m3 => W (toA v) m3 X fun a m4 => ∃ x, a = .d x ∧ acc.length < 16777216 ∧ I ds (acc ++ [x]) ⟨wipeL is m4.sl, m4.cs⟩ := q
      simp
      refine q.mono fun v m3 q => q.mono fun a m4 ⟨x, ea, hl, q⟩ => ?_
      have z := W_compL I q h1 h2
      refine ⟨x, ea, ?_⟩
      exact ⟨fun _ => W_wipe.mpr z, hl⟩
end
end Ev

namespace Ev
open PySem PySem.Spec PyProof.Rows L2

/-! ### data that == and repr take -/
structure Fit (k B : Nat) (d : PyData) : Prop where
  pl : plainD d = true
  dep : d.depth ≤ k
  shw : d.showable = true
  len : d.shown.length ≤ B
theorem Fit.mono {k B k' B' : Nat} {d : PyData} (h : Fit k B d) (h1 : k ≤ k') (h2 : B ≤ B') : Fit k' B' d := ⟨h.pl, Nat.le_trans h.dep h1, h.shw, Nat.le_trans h.len h2⟩
theorem Fit.shaped {k B : Nat} {d : PyData} (h : Fit k B d) (hc : d.canLay0 = true) (hk : k ≤ 64) : SeqAt.shaped d = true := by
  unfold SeqAt.shaped
  simp only [hc, Bool.true_and, decide_eq_true_eq]
  exact Nat.le_trans h.dep hk
theorem Fit.repr {k B : Nat} {d : PyData} (h : Fit k B d) (hk : k ≤ 64) (hB : B ≤ 16777216) : reprOk d = true := by
  unfold reprOk
  simp only [h.shw, Bool.true_and, h.pl, Bool.and_true, Bool.and_eq_true, decide_eq_true_eq]
  exact ⟨Nat.le_trans h.dep hk, Nat.le_trans h.len hB⟩
theorem fit_none : Fit 0 4 .none := ⟨by simp [plainD], by simp [PyData.depth], by simp [PyData.showable], by simp only [PyData.shown]; decide⟩
theorem fit_bool {b : Bool} : Fit 0 5 (.bool b) := ⟨by simp [plainD], by simp [PyData.depth], by simp [PyData.showable], by cases b <;> simp only [PyData.shown] <;> decide⟩
theorem log_lt {a n : Nat} (h : a < 2 ^ n) (hn : 0 < n) : a.log2 < n := by
  by_cases h0 : a = 0
  · subst h0
    simpa using hn
  · exact (Nat.log2_lt h0).mpr h
theorem fit_int {i : Int} (h : i.natAbs < 10 ^ 60) : Fit 0 61 (.int i) := by
  refine ⟨by simp [plainD], by simp [PyData.depth], ?_, ?_⟩
  · simp only [PyData.showable, decide_eq_true_eq]
    exact Nat.lt_trans (log_lt (n := 200) (Nat.lt_trans h (by decide)) (by decide)) (by decide)
  · simp only [PyData.shown]
    rw [PySem.ofString_length]
    exact int_text_length_le10 (by decide) h
theorem fit_nat {i : Int} {k : Nat} (hk : 0 < k) (hk2 : k ≤ 60) (h : i.natAbs < 10 ^ k) : Fit 0 (k + 1) (.int i) := by
  have f := fit_int (i := i) (Nat.lt_of_lt_of_le h (Nat.pow_le_pow_right (by decide) hk2))
  refine ⟨f.pl, f.dep, f.shw, ?_⟩
  simp only [PyData.shown]
  rw [PySem.ofString_length]
  exact int_text_length_le10 hk h
theorem can_all : ∀ {xs : List PyData}, (∀ x, x ∈ xs → x.canLay0 = true) → PyData.canLayAll0 xs = true
  | [], _ => by simp [PyData.canLayAll0]
  | x :: xs, h => by
    simp only [PyData.canLayAll0, Bool.and_eq_true]
    exact ⟨h x (List.mem_cons_self ..), can_all fun y hy => h y (List.mem_cons_of_mem _ hy)⟩
theorem pl_all : ∀ {xs : List PyData}, (∀ x, x ∈ xs → plainD x = true) → plainDs xs = true
  | [], _ => by simp [plainDs]
  | x :: xs, h => by
    simp only [plainDs, Bool.and_eq_true]
    exact ⟨h x (List.mem_cons_self ..), pl_all fun y hy => h y (List.mem_cons_of_mem _ hy)⟩
theorem shw_all : ∀ {xs : List PyData}, (∀ x, x ∈ xs → x.showable = true) → PyData.showableAll xs = true
  | [], _ => by simp [PyData.showableAll]
  | x :: xs, h => by
    simp only [PyData.showableAll, Bool.and_eq_true]
    exact ⟨h x (List.mem_cons_self ..), shw_all fun y hy => h y (List.mem_cons_of_mem _ hy)⟩
theorem dep_all {k : Nat} : ∀ {xs : List PyData}, (∀ x, x ∈ xs → x.depth ≤ k) → PyData.depthAll xs ≤ k
  | [], _ => by simp [PyData.depthAll]
  | x :: xs, h => by
    simp only [PyData.depthAll]
    exact Nat.max_le.mpr ⟨h x (List.mem_cons_self ..), dep_all fun y hy => h y (List.mem_cons_of_mem _ hy)⟩
theorem piled_all {B : Nat} : ∀ {xs : List PyData}, (∀ x, x ∈ xs → x.shown.length ≤ B) → piled (PyData.shownAll xs) ≤ xs.length * (B + 2)
  | [], _ => by simp [PyData.shownAll, piled]
  | x :: xs, h => by
    simp only [PyData.shownAll, piled_cons, List.length_cons]
    have h1 := h x (List.mem_cons_self ..)
    have h2 := piled_all (xs := xs) fun y hy => h y (List.mem_cons_of_mem _ hy)
    rw [Nat.add_mul]
    omega
theorem tup_len (ts : List Str) : (tupleText ts).length ≤ 3 + piled ts := by
  unfold tupleText
  rw [strLen_append, strLen_append]
  have h1 : ((if ts.length == 1 then ",)" else ")" : String) : Str).length ≤ 2 := by split <;> decide
  have h2 : (("(" : Str)).length = 1 := rfl
  by_cases h : ts = []
  · subst h
    simp [Str.join, piled]
    decide
  · have := join_length_add ts h
    omega
theorem from_len : ∀ (ts : List Str) (k : Nat) (acc : Str), (textFrom k acc ts).length ≤ acc.length + piled ts
  | [], k, acc => by simp [textFrom, piled]
  | t :: r, k, acc => by
    have := from_len r (k + 1) (acc ++ (if k > 0 then ", " else "" : String) ++ t)
    have e : (acc ++ (if k > 0 then ", " else "" : String) ++ t).length ≤ acc.length + 2 + t.length := by
      rw [strLen_append, strLen_append]
      have h1 : ((if k > 0 then ", " else "" : String) : Str).length ≤ 2 := by split <;> decide
      omega
    rw [piled_cons]
    show (textFrom (k + 1) (acc ++ (if k > 0 then ", " else "" : String) ++ t) r).length ≤ _
    omega
theorem list_len (ts : List Str) : (listText ts).length ≤ 3 + piled ts := by
  unfold listText
  rw [strLen_append]
  have := from_len ts 0 "["
  have h2 : (("[" : Str)).length = 1 := rfl
  have h3 : (("]" : Str)).length = 1 := rfl
  omega
theorem fit_tup {k B : Nat} {xs : List PyData} (h : ∀ x, x ∈ xs → Fit k B x) : Fit (k + 1) (3 + xs.length * (B + 2)) (.tuple xs) := by
  refine ⟨?_, ?_, ?_, ?_⟩
  · simp only [plainD]
    exact pl_all fun x hx => (h x hx).pl
  · simp only [PyData.depth]
    have := dep_all fun x hx => (h x hx).dep
    omega
  · simp only [PyData.showable]
    exact shw_all fun x hx => (h x hx).shw
  · simp only [PyData.shown]
    have h1 := tup_len (PyData.shownAll xs)
    have h2 := piled_all fun x hx => (h x hx).len
    omega
theorem fit_lst {k B : Nat} {xs : List PyData} (h : ∀ x, x ∈ xs → Fit k B x) : Fit (k + 1) (3 + xs.length * (B + 2)) (.list xs) := by
  refine ⟨?_, ?_, ?_, ?_⟩
  · simp only [plainD]
    exact pl_all fun x hx => (h x hx).pl
  · simp only [PyData.depth]
    have := dep_all fun x hx => (h x hx).dep
    omega
  · simp only [PyData.showable]
    exact shw_all fun x hx => (h x hx).shw
  · simp only [PyData.shown]
    have h1 := list_len (PyData.shownAll xs)
    have h2 := piled_all fun x hx => (h x hx).len
    omega
theorem fit_tupN {k B n : Nat} {xs : List PyData} (h : ∀ x, x ∈ xs → Fit k B x) (hn : xs.length ≤ n) : Fit (k + 1) (3 + n * (B + 2)) (.tuple xs) := (fit_tup h).mono (Nat.le_refl _) (Nat.add_le_add_left (Nat.mul_le_mul_right _ hn) _)
theorem fit_lstN {k B n : Nat} {xs : List PyData} (h : ∀ x, x ∈ xs → Fit k B x) (hn : xs.length ≤ n) : Fit (k + 1) (3 + n * (B + 2)) (.list xs) := (fit_lst h).mono (Nat.le_refl _) (Nat.add_le_add_left (Nat.mul_le_mul_right _ hn) _)
theorem fit_str {x : Str} (B : Nat) (h : (PyData.str x).showable = true) (h2 : (PyData.str x).shown.length ≤ B) : Fit 0 B (.str x) := ⟨by simp [plainD], by simp [PyData.depth], h, h2⟩
theorem fit_dict0 : Fit 1 2 (.dict []) := ⟨by simp [plainD, plainDk], by decide +kernel, by decide +kernel, by decide +kernel⟩
theorem cut_mem {xs : List PyData} {lo hi : Option Int} {x : PyData} (h : x ∈ cutD xs lo hi) : x ∈ xs := List.mem_of_mem_drop (List.mem_of_mem_take h)
theorem cut_len {xs : List PyData} {lo hi : Option Int} : (cutD xs lo hi).length ≤ xs.length := by
  unfold cutD
  rw [List.length_take, List.length_drop]
  omega
/-! ### isinstance, by kinds -/
def isI : PyData → Bool
  | .int _ => true
  | .bool _ => true
  | _ => false
def isB : PyData → Bool
  | .bool _ => true
  | _ => false
def isS : PyData → Bool
  | .str _ => true
  | _ => false
def isL : PyData → Bool
  | .list _ => true
  | _ => false
def isT : PyData → Bool
  | .tuple _ => true
  | _ => false
def isD : PyData → Bool
  | .dict _ => true
  | _ => false
def kindB (t : String) (x : PyData) : Option Bool := (tyName x).bind fun t0 => kitB t0 t
/-- data whose kind is told -/
def kindly : PyData → Bool
  | .dict es => plainK es
  | _ => true
@[simp] theorem kind_eq {x : PyData} {t : String} : ((tyName x).bind fun t0 => (kitB t0 t).map fun b => EV.d (.bool b)) = (kindB t x).map fun b => EV.d (.bool b) := by
  unfold kindB
  cases tyName x <;> rfl
@[simp] theorem kind_int {x : PyData} : kindB "int" x = if kindly x then some (isI x) else none := by
  cases x with
  | dict es =>
    show Option.bind (if plainK es = true then some "dict" else none) (fun t0 => kitB t0 "int") = if plainK es = true then some (isI (.dict es)) else none
    by_cases h : plainK es = true
    · rw [if_pos h, if_pos h]
      dsimp only [isI, isB, isS, isL, isT, isD]
      decide +kernel
    · rw [if_neg h, if_neg h]
      rfl
  | _ =>
    simp only [kindB, tyName, kindly, isI, isB, isS, isL, isT, isD, if_true]
    decide +kernel
@[simp] theorem kind_bool {x : PyData} : kindB "bool" x = if kindly x then some (isB x) else none := by
  cases x with
  | dict es =>
    show Option.bind (if plainK es = true then some "dict" else none) (fun t0 => kitB t0 "bool") = if plainK es = true then some (isB (.dict es)) else none
    by_cases h : plainK es = true
    · rw [if_pos h, if_pos h]
      dsimp only [isI, isB, isS, isL, isT, isD]
      decide +kernel
    · rw [if_neg h, if_neg h]
      rfl
  | _ =>
    simp only [kindB, tyName, kindly, isI, isB, isS, isL, isT, isD, if_true]
    decide +kernel
@[simp] theorem kind_str {x : PyData} : kindB "str" x = if kindly x then some (isS x) else none := by
  cases x with
  | dict es =>
    show Option.bind (if plainK es = true then some "dict" else none) (fun t0 => kitB t0 "str") = if plainK es = true then some (isS (.dict es)) else none
    by_cases h : plainK es = true
    · rw [if_pos h, if_pos h]
      dsimp only [isI, isB, isS, isL, isT, isD]
      decide +kernel
    · rw [if_neg h, if_neg h]
      rfl
  | _ =>
    simp only [kindB, tyName, kindly, isI, isB, isS, isL, isT, isD, if_true]
    decide +kernel
@[simp] theorem kind_list {x : PyData} : kindB "list" x = if kindly x then some (isL x) else none := by
  cases x with
  | dict es =>
    show Option.bind (if plainK es = true then some "dict" else none) (fun t0 => kitB t0 "list") = if plainK es = true then some (isL (.dict es)) else none
    by_cases h : plainK es = true
    · rw [if_pos h, if_pos h]
      dsimp only [isI, isB, isS, isL, isT, isD]
      decide +kernel
    · rw [if_neg h, if_neg h]
      rfl
  | _ =>
    simp only [kindB, tyName, kindly, isI, isB, isS, isL, isT, isD, if_true]
    decide +kernel
@[simp] theorem kind_tuple {x : PyData} : kindB "tuple" x = if kindly x then some (isT x) else none := by
  cases x with
  | dict es =>
    show Option.bind (if plainK es = true then some "dict" else none) (fun t0 => kitB t0 "tuple") = if plainK es = true then some (isT (.dict es)) else none
    by_cases h : plainK es = true
    · rw [if_pos h, if_pos h]
      dsimp only [isI, isB, isS, isL, isT, isD]
      decide +kernel
    · rw [if_neg h, if_neg h]
      rfl
  | _ =>
    simp only [kindB, tyName, kindly, isI, isB, isS, isL, isT, isD, if_true]
    decide +kernel
@[simp] theorem kind_dict {x : PyData} : kindB "dict" x = if kindly x then some (isD x) else none := by
  cases x with
  | dict es =>
    show Option.bind (if plainK es = true then some "dict" else none) (fun t0 => kitB t0 "dict") = if plainK es = true then some (isD (.dict es)) else none
    by_cases h : plainK es = true
    · rw [if_pos h, if_pos h]
      dsimp only [isI, isB, isS, isL, isT, isD]
      decide +kernel
    · rw [if_neg h, if_neg h]
      rfl
  | _ =>
    simp only [kindB, tyName, kindly, isI, isB, isS, isL, isT, isD, if_true]
    decide +kernel
@[simp] theorem kindly_n : kindly .none = true := rfl
@[simp] theorem kindly_b {b : Bool} : kindly (.bool b) = true := rfl
@[simp] theorem kindly_i {b : Int} : kindly (.int b) = true := rfl
@[simp] theorem kindly_s {b : Str} : kindly (.str b) = true := rfl
@[simp] theorem kindly_l {b : List PyData} : kindly (.list b) = true := rfl
@[simp] theorem kindly_t {b : List PyData} : kindly (.tuple b) = true := rfl
@[simp] theorem kindly_d {b : List (PyData × PyData)} : kindly (.dict b) = plainK b := rfl
@[simp] theorem plainK_nil : plainK [] = true := rfl
theorem Fit.kindly {k B : Nat} {d : PyData} (h : Fit k B d) : kindly d = true := by
  cases d with
  | dict es =>
    have := h.pl
    simp only [plainD] at this
    show plainK es = true
    clear h
    induction es with
    | nil => rfl
    | cons p es ih =>
      obtain ⟨a, b⟩ := p
      simp only [plainDk, Bool.and_eq_true] at this
      unfold plainK
      rw [List.all_cons, Bool.and_eq_true]
      exact ⟨this.1, ih this.2.2⟩
  | _ => rfl
/-! ### loops over ints -/
theorem intsD_zero {lo : Int} : intsD lo 0 = [] := rfl
theorem intsD_succ {lo : Int} {n : Nat} : intsD lo (n + 1) = .int lo :: intsD (lo + 1) n := by
  unfold intsD
  rw [List.range_succ_eq_map, List.map_cons, List.map_map]
  congr 1
  · simp
  · refine List.map_congr_left fun i _ => ?_
    simp only [Function.comp]
    congr 1
    omega
section
variable {X : Exn → Mem → Prop} {F : Fl → Mem → Prop} {E : EV → Mem → Prop}
theorem W_range {g : PyData → Pg Unit} {b : Pg Fl} (I : Int → Mem → Prop) : ∀ (n : Nat) (lo : Int) {m : Mem}, I lo m →
    (∀ i m, lo ≤ i → i < lo + n → I i m → W (g (.int i)) m X fun _ m1 => W b m1 X fun fl m2 => match fl with
      | .next => I (i + 1) m2
      | .cont => I (i + 1) m2
      | .brk => F .next m2
      | .ret v => F (.ret v) m2) → (∀ m, I (lo + n) m → F .next m) → W (forL g b (intsD lo n)) m X F
  | 0, lo, m, h0, _, h2 => by
    rw [intsD_zero]
    exact ⟨h2 m (by simpa using h0)⟩
  | n + 1, lo, m, h0, h1, h2 => by
    rw [intsD_succ]
    show W (Pg.bind (g (.int lo)) _) m X F
    rw [W_bind]
    have hI : ∀ m, I (lo + 1) m → W (forL g b (intsD (lo + 1) n)) m X F := fun m h => W_range I n (lo + 1) h (fun i m a b => h1 i m (by omega) (by omega)) fun m h => h2 m (by rw [show lo + ((n + 1 : Nat) : Int) = lo + 1 + (n : Int) by omega]; exact h)
    refine (h1 lo m (Int.le_refl _) (by omega) h0).mono fun _ m1 q => ?_
    rw [W_bind]
    refine q.mono fun fl m2 q => ?_
    cases fl with
    | next => exact hI m2 q
    | cont => exact hI m2 q
    | brk => exact ⟨q⟩
    | ret v => exact ⟨q⟩
theorem W_list {g : PyData → Pg Unit} {b : Pg Fl} {P : PyData → Prop} (I : Mem → Prop) : ∀ {ds : List PyData} {m : Mem}, (∀ d, d ∈ ds → P d) → I m →
    (∀ d m, P d → I m → W (g d) m X fun _ m1 => W b m1 X fun fl m2 => match fl with
      | .next => I m2
      | .cont => I m2
      | .brk => F .next m2
      | .ret v => F (.ret v) m2) → (∀ m, I m → F .next m) → W (forL g b ds) m X F := fun {ds m} hP h0 h1 h2 =>
  W_forL (fun ds m => (∀ d, d ∈ ds → P d) ∧ I m) ⟨hP, h0⟩ (fun d ds m ⟨q1, q2⟩ => (h1 d m (q1 d (List.mem_cons_self ..)) q2).mono fun _ m1 z => z.mono fun fl m2 z => by
    cases fl with
    | next => exact ⟨fun d hd => q1 d (List.mem_cons_of_mem _ hd), z⟩
    | cont => exact ⟨fun d hd => q1 d (List.mem_cons_of_mem _ hd), z⟩
    | brk => exact z
    | ret v => exact z) fun m ⟨_, q⟩ => h2 m q
theorem W_compR {is : List Nat} {g : PyData → Pg Unit} {t : Pg Bool} {e : Pg EV} (I : Int → List PyData → Mem → Prop) : ∀ (n : Nat) (lo : Int) {acc : List PyData} {m : Mem}, I lo acc m →
    (∀ i acc m, lo ≤ i → i < lo + n → I i acc m → W (g (.int i)) m X fun _ m1 => W t m1 noX fun k m2 => if k = true then W e m2 noX fun v m3 => W (toA v) m3 X fun a m4 => ∃ x, a = .d x ∧ acc.length < 16777216 ∧ I (i + 1) (acc ++ [x]) ⟨wipeL is m4.sl, m4.cs⟩ else I (i + 1) acc ⟨wipeL is m2.sl, m2.cs⟩) →
    (∀ acc m, I (lo + n) acc m → E (.fresh acc) m) → W (compL is g t e (intsD lo n) acc) m X E := fun n lo {acc m} h0 h1 h2 =>
  W_compL (fun ds acc m => ∃ i : Int, lo ≤ i ∧ i + ds.length = lo + n ∧ ds = intsD i ds.length ∧ I i acc m) ⟨lo, Int.le_refl _, by simp [intsD], by simp [intsD], h0⟩ (fun d ds acc m ⟨i, l1, l2, l3, q⟩ => by
    rw [List.length_cons] at l3 l2
    rw [intsD_succ] at l3
    injection l3 with e1 e2
    subst e1
    refine (h1 i acc m l1 (by omega) q).mono fun _ m1 z => z.mono fun k m2 z => ?_
    cases k with
    | false => exact ⟨i + 1, by omega, by omega, e2, z⟩
    | true =>
      have z : W e m2 noX fun v m3 => W (toA v) m3 X fun a m4 => ∃ x, a = .d x ∧ acc.length < 16777216 ∧ I (i + 1) (acc ++ [x]) ⟨wipeL is m4.sl, m4.cs⟩ := z
      exact z.mono fun v m3 z => z.mono fun a m4 ⟨x, z1, z2, z3⟩ => ⟨x, z1, z2, i + 1, by omega, by omega, e2, z3⟩)
    fun acc m ⟨i, l1, l2, l3, q⟩ => h2 acc m (by rw [show lo + (n : Int) = i by simpa using l2.symm]; exact q)
end
@[simp] theorem rngOk_iff {j : Int} : rngOk j = true ↔ -4611686018427387904 ≤ j ∧ j < 4611686018427387904 := by
  unfold rngOk
  simp
@[simp] theorem rng1_int {j : Int} : rng1 [.d (.int j)] = if rngOk j then some (intsD 0 j.toNat) else none := rfl
@[simp] theorem rng2_int {i j : Int} : rng2 [.d (.int i), .d (.int j)] = if rngOk i && rngOk j then some (intsD i (j - i).toNat) else none := rfl
theorem atI_mem {α : Type} {xs : List α} {i : Int} (h : 0 ≤ i) (h2 : i < xs.length) : ∃ d, atI xs i = some d ∧ d ∈ xs := by
  rw [atI_nn h]
  exact ⟨_, List.getElem?_eq_getElem (by omega), List.getElem_mem _⟩
/-- one of a written list -/
theorem menu {α : Type} {xs : List α} {i : Int} {P : α → Prop} (h : 0 ≤ i) (h2 : i < xs.length) (g : ∀ d, d ∈ xs → P d) : ∃ d, atI xs i = some d ∧ P d := by
  obtain ⟨d, e, q⟩ := atI_mem h h2
  exact ⟨d, e, g d q⟩
/-! ### parts of fitting data -/
theorem can_mem : ∀ {xs : List PyData} {x : PyData}, PyData.canLayAll0 xs = true → x ∈ xs → x.canLay0 = true
  | y :: ys, x, h, hx => by
    simp only [PyData.canLayAll0, Bool.and_eq_true] at h
    rcases List.mem_cons.mp hx with q | q
    · rw [q]
      exact h.1
    · exact can_mem h.2 q
theorem pl_mem : ∀ {xs : List PyData} {x : PyData}, plainDs xs = true → x ∈ xs → plainD x = true
  | y :: ys, x, h, hx => by
    simp only [plainDs, Bool.and_eq_true] at h
    rcases List.mem_cons.mp hx with q | q
    · rw [q]
      exact h.1
    · exact pl_mem h.2 q
theorem shw_mem : ∀ {xs : List PyData} {x : PyData}, PyData.showableAll xs = true → x ∈ xs → x.showable = true
  | y :: ys, x, h, hx => by
    simp only [PyData.showableAll, Bool.and_eq_true] at h
    rcases List.mem_cons.mp hx with q | q
    · rw [q]
      exact h.1
    · exact shw_mem h.2 q
theorem dep_mem : ∀ {xs : List PyData} {x : PyData}, x ∈ xs → x.depth ≤ PyData.depthAll xs
  | y :: ys, x, hx => by
    simp only [PyData.depthAll]
    rcases List.mem_cons.mp hx with q | q
    · rw [q]
      exact Nat.le_max_left _ _
    · exact Nat.le_trans (dep_mem q) (Nat.le_max_right _ _)
theorem piled_mem : ∀ {xs : List PyData} {x : PyData}, x ∈ xs → x.shown.length ≤ piled (PyData.shownAll xs)
  | y :: ys, x, hx => by
    simp only [PyData.shownAll, piled_cons]
    rcases List.mem_cons.mp hx with q | q
    · rw [q]
      omega
    · have := piled_mem q
      omega
theorem Fit.tup_mem {k B : Nat} {xs : List PyData} {x : PyData} (h : Fit k B (.tuple xs)) (hx : x ∈ xs) : Fit k B x := by
  obtain ⟨h1, h2, h3, h4⟩ := h
  simp only [plainD] at h1
  simp only [PyData.depth] at h2
  simp only [PyData.showable] at h3
  simp only [PyData.shown] at h4
  have := dep_mem hx
  exact ⟨pl_mem h1 hx, by omega, shw_mem h3 hx, Nat.le_trans (piled_mem hx) (Nat.le_trans (piled_le_tupleText _) h4)⟩
theorem Fit.lst_mem {k B : Nat} {xs : List PyData} {x : PyData} (h : Fit k B (.list xs)) (hx : x ∈ xs) : Fit k B x := by
  obtain ⟨h1, h2, h3, h4⟩ := h
  simp only [plainD] at h1
  simp only [PyData.depth] at h2
  simp only [PyData.showable] at h3
  simp only [PyData.shown] at h4
  have := dep_mem hx
  exact ⟨pl_mem h1 hx, by omega, shw_mem h3 hx, Nat.le_trans (piled_mem hx) (Nat.le_trans (piled_le_listText _) h4)⟩
theorem law_of_W {n : Nat} {g : Fn} (h : ∀ ns : List Int, ns.length ≤ n → (∀ z ∈ ns, Builtin.Int.intBits z ≤ 1048576) → W (g [.d (ints_ ns)]) ⟨[], []⟩ noX fun v _ => v = .d (.bool true)) : LawG n g := fun ns h1 h2 => by
  have z := h ns h1 h2
  have z := z.go
  cases e : g [.d (ints_ ns)] ⟨[], []⟩ with
  | bad =>
    rw [e] at z
    exact z.elim
  | thr x m =>
    rw [e] at z
    exact z.elim
  | ok v m =>
    rw [e] at z
    have z : v = .d (.bool true) := z
    exact ⟨m, by rw [z]⟩
theorem cut_take {ns : List Int} {k : Nat} : cutD (ns.map PyData.int) none (some (k : Int)) = (ns.take k).map PyData.int := by
  unfold cutD
  rw [HT.sIx_nat, HT.sIx_none, List.drop_zero, Nat.sub_zero, List.length_map, ← List.map_take]
  by_cases h : k ≤ ns.length
  · rw [Nat.min_eq_left h]
  · rw [Nat.min_eq_right (by omega), List.take_of_length_le (Nat.le_refl _), List.take_of_length_le (by omega)]
@[simp] theorem reprOk_b {b : Bool} : reprOk (.bool b) = true := fit_bool.repr (by decide) (by decide)
/-- a statement, then the rest from what is known there -/
theorem W_cut {X : Exn → Mem → Prop} {f g : Pg Fl} {m : Mem} {F : Fl → Mem → Prop} (I : Mem → Prop) (h1 : W f m X fun fl m' => match fl with
    | .next => I m'
    | .brk => F .brk m'
    | .cont => F .cont m'
    | .ret v => F (.ret v) m') (h2 : ∀ m', I m' → W g m' X F) : W (evSeq f g) m X F :=
  W_seq.mpr (h1.mono fun fl m' q => by
    cases fl with
    | next => exact h2 m' q
    | brk => exact q
    | cont => exact q
    | ret v => exact q)
end Ev

namespace Ev
open PySem PySem.Spec PyProof.Rows L2

/-! ### while -/
def whileL (t : Pg Bool) (b : Pg Fl) : Nat → Pg Fl
  | 0 => .stuck
  | n + 1 => .bind t fun k => if k then .bind b fun fl => match fl with
      | .next => whileL t b n
      | .cont => whileL t b n
      | .brk => .ret .next
      | .ret v => .ret (.ret v)
    else .ret .next
def evWhile (t : Pg Bool) (b : Pg Fl) : Pg Fl := fun m => whileL t b 1000000 m
section
variable {X : Cx} {B : XBt} {e c : Expr} {es : List Expr} {pos p : Pos} {f : Pg EV} {tc : Pg Bool} {fb : Pg Fl}
theorem snd_while {body : List Stmt} (hp : PassesOwn (model X.prog X.w) X.A X.env X.xe) (hc : SndT X B c tc) (hb : SndB X B body fb) : SndS X B (.While c body [] pos) (evWhile tc fb) := by
  intro w D r hw
  refine ws_of (ps_while hp pt_w pb_w) ?_
  refine ⟨fun n sg H => ∃ w2 : Wd, w2.sg = sg ∧ w2.H = H ∧ FolS w w2 ∧ Rep X.K w2 ∧ (whileL tc fb n w2.m).wp (PostS X.K w D) (XW X.K B w), ⟨1000000, w, rfl, rfl, FolS.refl w, r, hw⟩, ?_⟩
  rintro n sg H ⟨w2, rfl, rfl, f2, r2, q⟩
  cases n with
  | zero => exact q.elim
  | succ n =>
    refine hc w2 _ r2 ((wp_bind q).imp (fun k m3 z w3 em e3 f3 r3 => ?_) fun _ _ z => z.fol f2)
    subst em
    have f23 := f2.trans (f3.s r2)
    cases k with
    | false =>
      have z := z w3 rfl f23 r3
      rw [e3] at z
      exact z
    | true =>
      refine ⟨fun sg' H' => ∃ w5 : Wd, w5.sg = sg' ∧ w5.H = H' ∧ FolS w w5 ∧ Rep X.K w5 ∧ (whileL tc fb n w5.m).wp (PostS X.K w D) (XW X.K B w), fun sg' H' h => ⟨n, Nat.lt_succ_self n, h⟩, ?_⟩
      have z := wp_bind (show (Pg.bind fb _ w3.m).wp (PostS X.K w D) (XW X.K B w) from z)
      rw [← e3]
      refine hb w3 _ r3 (z.imp (fun fl m5 z w5 em f5 r5 => ?_) fun _ _ z => z.fol f23)
      subst em
      have f25 := f23.trans f5
      cases fl with
      | next => exact ⟨w5, rfl, rfl, f25, r5, z⟩
      | cont => exact ⟨w5, rfl, rfl, f25, r5, z⟩
      | brk => exact z w5 rfl f25 r5
      | ret v => exact z w5 rfl f25 r5

/-! ### name = xs.pop(); xs.extend(ys) -/
def lastS (i : Nat) : Pg PyData := fun m => match m.sl[i]? with
  | some (some (.ob (.lst xs))) => match xs[xs.length - 1]? with
    | some d => .ok d (setM m i (.ob (.lst xs.dropLast)))
    | none => .bad
  | _ => .bad
/-- j = i.pop() -/
def evPop (j i : Nat) : Pg Fl := .bind (lastS i) fun d => fun m => .ok .next (setM m j (.d d))
theorem RA.dropLast {K : PySem.W.Frag} {F : Hp} {ds : List PyData} {vs : List V} (a : RA K F ds vs) : RA K F ds.dropLast vs.dropLast := by
  rw [List.dropLast_eq_take, List.dropLast_eq_take, a.len]
  exact a.take _
theorem snd_pop {x y : Str} {p1 p2 p3 p4 : Pos} (j i : Nat) (C : Ctx X B) (hj : X.N[j]? = some y) (hy : Loc X.env.scope y) (hi : X.N[i]? = some x) (hv : Vis X.env.scope x)
    (hs : swapsWith (.Call (.Attribute (.Name x p1) "pop" p2) [] [] p3) (some (.Name y p4)) pos.line X.env = pure false := by rfl)
    (hf : X.fn y = true ∨ X.env.scope.names.lookup y = some .local := by first | exact .inl rfl | exact .inr rfl | assumption)
    (hd : (x == ("__debug__" : Str)) = false := by decide) (hcd : (x == ("__classdict__" : Str)) = false := by decide)
    (hbase : attributeBase (.Name x p1) "pop" X.env (eval (.Name x p1) X.env) = eval (.Name x p1) X.env := by rfl) (hline : (p2.endLine == p3.line) = true := by rfl) :
    SndS X B (.Assign [.Name y p4] (.Call (.Attribute (.Name x p1) "pop" p2) [] [] p3) pos) (evPop j i) := by
  intro w D r hw
  refine ws_of (ps_set C.nd hj hy (pe_bm0 PySem.F.plainAttrs_list PySem.F.slot_list_pop PySem.F.type_list_pop mt_pop (pe_var hi hv hd hcd) hbase hline) hs hf) ?_
  have hw := wp_bind hw
  unfold lastS at hw
  split at hw
  · rename_i xs e
    split at hw
    · rename_i d ed
      obtain ⟨u, hu, b, e0, ⟨vs, k0, ra⟩, hF, hro, hz⟩ := r.sl i _ e
      subst e0
      obtain ⟨v, hv', rv⟩ := ra.get ed
      obtain ⟨r1, f1⟩ := grow_ok (o' := .lst xs.dropLast) (u := .lst vs.dropLast) r e hu ⟨_, upd_same, ra.dropLast⟩
      obtain ⟨r2, f2⟩ := set_ok (i := j) (v := .d d) (x := v) r1 rv fun _ _ z => by cases z
      refine ⟨_, hu, .inl ⟨rfl, vs, .inl (.inl k0)⟩, b, vs, v, rfl, rfl, k0, by rw [← ra.len]; exact hv', ?_⟩
      exact hw (setW { w with m := setM w.m i (.ob (.lst xs.dropLast)), H := upd w.H b (.lst vs.dropLast) } j (.d d) v) rfl (f1.trans f2) r2
    · exact hw.elim
  · exact hw.elim
/-- i.extend(e), e a new list -/
def extS (i : Nat) : EV → Pg Fl
  | .new (.lst ys) => fun m => match m.sl[i]? with
    | some (some (.ob (.lst xs))) => if xs.length + ys.length ≤ 16777216 then .ok .next (setM m i (.ob (.lst (xs ++ ys)))) else .bad
    | _ => .bad
  | _ => .stuck
def evExt (i : Nat) (f : Pg EV) : Pg Fl := .bind (isOwn i) fun _ => .bind f fun v => extS i v
theorem snd_ext {x : Str} {p1 p2 p3 : Pos} (i : Nat) (hi : X.N[i]? = some x) (hv : Vis X.env.scope x) (he : Snd X B e f)
    (hd : (x == ("__debug__" : Str)) = false := by decide) (hcd : (x == ("__classdict__" : Str)) = false := by decide)
    (hbase : attributeBase (.Name x p1) "extend" X.env (eval (.Name x p1) X.env) = eval (.Name x p1) X.env := by rfl)
    (hfew : ((backTo p3 (starEach [e] X.env)).all (fun x => !x.1) && (backToKw p3 (keywordEach [] X.env)).all (fun x => x.1.isSome) && decide ([e].length + ([] : List Keyword).length + (if ([] : List Keyword).isEmpty then 0 else 1) < 30)) = true := by rfl)
    (hline : (p2.endLine == p3.line) = true := by rfl) (hst : starEach [e] X.env = (false, eval e X.env) :: starEach [] X.env := by rfl) :
    SndS X B (.Expr (.Call (.Attribute (.Name x p1) "extend" p2) [e] [] p3) pos) (evExt i f) := by
  intro w D r hw
  refine ws_of (ps_expr (pe_bm PySem.F.plainAttrs_list PySem.F.slot_list_extend PySem.F.type_list_extend mt_extend (pe_var hi hv hd hcd) (pa_cons pe_w pa_nil hst) rfl hfew hline hst rfl) rfl) ?_
  obtain ⟨us, o1, hw⟩ := isOwn_ok (wp_bind hw)
  obtain ⟨u, hu, b0, e0, ⟨vs0, k0, _⟩, _⟩ := r.sl i _ o1
  refine ⟨u, hu, ?_, ?_⟩
  · subst e0
    exact .inl ⟨rfl, vs0, .inl (.inl k0)⟩
  refine snd_then he r hw fun v w1 y e1 f1 r1 re h1 => ?_
  cases v with
  | d _ => exact h1.elim
  | pk _ _ => exact h1.elim
  | cell _ => exact h1.elim
  | new o =>
    cases o with
    | dic _ => exact h1.elim
    | ins _ _ => exact h1.elim
    | lst ys =>
      obtain ⟨a, ea, ⟨ws, hH, rw2⟩, hF, hro, hz, no⟩ := re
      subst ea
      have h1 : ((match w1.m.sl[i]? with
        | some (some (.ob (.lst xs))) => if xs.length + ys.length ≤ 16777216 then .ok .next (setM w1.m i (.ob (.lst (xs ++ ys)))) else .bad
        | _ => .bad) : Res Fl).wp (PostS X.K w D) (XW X.K B w1) := h1
      split at h1
      · rename_i xs g1
        split at h1
        · rename_i hl
          obtain ⟨z, g3, b, g4, ⟨vs, g5, g6⟩, _⟩ := r1.sl i _ g1
          rw [e1, hu] at g3
          cases g3
          subst g4
          obtain ⟨r3, f3⟩ := grow_ok (o' := .lst (xs ++ ys)) (u := .lst (vs ++ ws)) r1 g1 (by rw [e1]; exact hu) ⟨_, upd_same, g6.app rw2⟩
          refine ⟨b, a, vs, ws, rfl, rfl, g5, hH, by rw [← g6.len, ← rw2.len, sizeLine_eq]; exact hl, ?_⟩
          have q := h1 _ rfl ((f1.s r).trans f3) r3
          rw [← e1]
          exact q
        · exact h1.elim
      · exact h1.elim

/-! ### sorted(ints); list(a dict) -/
/-- ascending -/
def isort (ns : List Int) : List Int := ns.mergeSort fun a b => decide (a ≤ b)
theorem isort_perm (ns : List Int) : (isort ns).Perm ns := List.mergeSort_perm ns _
theorem isort_le (ns : List Int) : (isort ns).Pairwise (· ≤ ·) := by
  have h := List.pairwise_mergeSort (le := fun a b : Int => decide (a ≤ b)) (fun a b c h1 h2 => by simp at *; omega) (fun a b => by simp; omega) ns
  exact h.imp fun h => by simpa using h
theorem isort_the {ns ms : List Int} (h : ms.Perm ns) (g : ms.Pairwise (· ≤ ·)) : ms = isort ns :=
  (h.trans (isort_perm ns).symm).eq_of_pairwise (fun a b _ _ h1 h2 => Int.le_antisymm h1 h2) g (isort_le ns)
def gSorted : List PyData → Option EV
  | [.list xs] => (intsOf xs).map fun ns => .fresh ((isort ns).map .int)
  | _ => none
theorem ok_sorted : BOk X (.builtin "sorted") gSorted := by
  intro w ds xs v Q r h e k
  cases h with
  | nil => cases e
  | @cons d x ds xs h t =>
    cases t with
    | cons _ _ => cases d <;> cases e
    | nil =>
      cases d <;> try (cases e; done)
      rename_i ys
      have e : (intsOf ys).map (fun ns => EV.fresh ((isort ns).map .int)) = some v := e
      cases q : intsOf ys with
      | none =>
        rw [q] at e
        cases e
      | some ns =>
        rw [q] at e
        cases e
        obtain ⟨a, vs, rfl, h1, h2⟩ := h.lst r.sub
        rw [intsOf_eq q] at h2
        have ev := h2.intsV
        subst ev
        refine ⟨_, cr_sortedI, a, ns, rfl, h1.sq, fun ns' p g1 g2 hp => ?_⟩
        rw [isort_the g1 g2]
        exact k.lst r (.ints _) hp
def gListX : List PyData → Option EV
  | [.dict es] => if plainK es then some (.fresh (es.map (·.1))) else none
  | ds => gList ds
theorem RK.keys {K : PySem.W.Frag} {F : Hp} : ∀ {es : List (PyData × PyData)} {kvs : List (Key × V)}, RK K F es kvs → RA K F (es.map (·.1)) (kvs.map fun kv => kV kv.1)
  | _, _, .nil => .nil
  | _, _, .cons (k := k) _ t => .cons (by cases k; exact .int _; exact .str _) (RK.keys t)
theorem ok_listX (C : Ctx X B) : BOk X (.type "list") gListX := by
  intro w ds xs v Q r h e k
  cases h with
  | nil => cases e
  | @cons d x ds xs h t =>
    cases t with
    | cons a b => exact ok_list w _ _ v Q r (.cons h (.cons a b)) (by cases d <;> exact e) k
    | nil =>
      cases d with
      | dict es =>
        have e : (if plainK es then some (EV.fresh (es.map (·.1))) else none) = some v := e
        split at e
        · rename_i hp
          cases e
          obtain ⟨a, kvs, rfl, h1, h2⟩ := h.dic r.sub hp
          exact ⟨_, call_listD C.calm, a, kvs, rfl, .inl h1, fun p hp => k.lst r h2.keys hp⟩
        · cases e
      | _ => exact ok_list w _ _ v Q r (.cons h .nil) e k
end
/-! ### rules of wishes -/
section
variable {m : Mem} {X : Exn → Mem → Prop} {F : Fl → Mem → Prop} {E : EV → Mem → Prop}
theorem W_whileL {t : Pg Bool} {b : Pg Fl} (I : Mem → Prop) (μ : Mem → Nat) (hs : ∀ m, I m → W t m X fun k m1 => if k = true then W b m1 X fun fl m2 => match fl with
      | .next => I m2 ∧ μ m2 < μ m
      | .cont => I m2 ∧ μ m2 < μ m
      | .brk => F .next m2
      | .ret v => F (.ret v) m2
    else F .next m1) : ∀ (n : Nat) (m : Mem), I m → μ m < n → W (whileL t b n) m X F
  | 0, m, _, h => absurd h (Nat.not_lt_zero _)
  | n + 1, m, hI, h => by
    unfold whileL
    rw [W_bind]
    refine (hs m hI).mono fun k m1 q => ?_
    cases k with
    | false =>
      rw [if_neg (by simp)]
      exact ⟨show F .next m1 by simpa using q⟩
    | true =>
      have q : W b m1 X fun fl m2 => match fl with
        | .next => I m2 ∧ μ m2 < μ m
        | .cont => I m2 ∧ μ m2 < μ m
        | .brk => F .next m2
        | .ret v => F (.ret v) m2 := by simpa using q
      rw [if_pos rfl, W_bind]
      refine q.mono fun fl m2 q => ?_
      cases fl with
      | next => exact W_whileL I μ hs n m2 q.1 (by omega)
      | cont => exact W_whileL I μ hs n m2 q.1 (by omega)
      | brk => exact ⟨q⟩
      | ret v => exact ⟨q⟩
theorem W_while {t : Pg Bool} {b : Pg Fl} (I : Mem → Prop) (μ : Mem → Nat) (h0 : I m) (hm : μ m < 1000000) (hs : ∀ m, I m → W t m X fun k m1 => if k = true then W b m1 X fun fl m2 => match fl with
      | .next => I m2 ∧ μ m2 < μ m
      | .cont => I m2 ∧ μ m2 < μ m
      | .brk => F .next m2
      | .ret v => F (.ret v) m2
    else F .next m1) : W (evWhile t b) m X F := ⟨(W_whileL I μ hs 1000000 m h0 hm).go⟩
@[simp] theorem W_evPop {i j : Nat} {sl : List (Option SV)} {cs : List Ob} : W (evPop j i) ⟨sl, cs⟩ X F ↔ ∃ xs d, sl[i]? = some (some (.ob (.lst xs))) ∧ xs[xs.length - 1]? = some d ∧ F .next ⟨(sl.set i (some (.ob (.lst xs.dropLast)))).set j (some (.d d)), cs⟩ := by
  unfold evPop
  rw [W_bind, W_iff]
  unfold lastS
  dsimp only
  split
  · rename_i xs e
    cases e2 : xs[xs.length - 1]? with
    | none =>
      refine ⟨fun h => h.elim, fun ⟨ys, d, h1, h2, _⟩ => ?_⟩
      rw [e] at h1
      cases h1
      rw [e2] at h2
      cases h2
    | some d =>
      refine ⟨fun h => ⟨xs, d, e, e2, h.go⟩, fun ⟨ys, d', h1, h2, h3⟩ => ?_⟩
      rw [e] at h1
      cases h1
      rw [e2] at h2
      cases h2
      exact ⟨h3⟩
  · rename_i h
    exact ⟨fun h => h.elim, fun ⟨xs, d, e, _⟩ => h xs e⟩
@[simp] theorem W_evExt {i : Nat} {f : Pg EV} : W (evExt i f) m X F ↔ W (isOwn i) m X fun _ m0 => W f m0 X fun v m1 => W (extS i v) m1 X F := by
  unfold evExt
  simp only [W_bind]
@[simp] theorem W_extS {i : Nat} {ys : List PyData} {sl : List (Option SV)} {cs : List Ob} : W (extS i (.new (.lst ys))) ⟨sl, cs⟩ X F ↔ ∃ xs, sl[i]? = some (some (.ob (.lst xs))) ∧ xs.length + ys.length ≤ 16777216 ∧ F .next ⟨sl.set i (some (.ob (.lst (xs ++ ys)))), cs⟩ := by
  rw [W_iff]
  unfold extS
  dsimp only
  split
  · rename_i xs e
    split
    · rename_i hl
      exact ⟨fun h => ⟨xs, e, hl, h⟩, fun ⟨ys, e2, _, h⟩ => by rw [e] at e2; cases e2; exact h⟩
    · rename_i hl
      exact ⟨fun h => h.elim, fun ⟨ys, e2, h, _⟩ => by rw [e] at e2; cases e2; exact hl h⟩
  · rename_i h
    exact ⟨fun h => h.elim, fun ⟨xs, e, _⟩ => h xs e⟩
@[simp] theorem gSorted_l {xs : List PyData} : gSorted [.list xs] = (intsOf xs).map fun ns => .fresh ((isort ns).map .int) := rfl
@[simp] theorem gListX_d {es : List (PyData × PyData)} : gListX [.dict es] = if plainK es then some (.fresh (es.map (·.1))) else none := rfl
@[simp] theorem gListX_l {xs : List PyData} : gListX [.list xs] = some (.fresh xs) := rfl
@[simp] theorem gListX_t {xs : List PyData} : gListX [.tuple xs] = some (.fresh xs) := rfl
end
end Ev

namespace Ev
open PySem PySem.Spec PyProof.Rows L2

/-! ### calls with defaults -/
/-- keyword-only parameters that lack: values and what they are -/
theorem dbinds {K : PySem.W.Frag} {x qual : Str} {params : Arguments} {body : List Stmt} {scope : Scope} {kws : List (Str × V)} {f : Addr} {fd : FuncData} {ps : List Str} (F : FunD K x qual params body scope [] kws f fd) (n : Nat) (ks : List Str) (ms : List (Str × V)) (is : List Nat) (hk : kws ≠ []) (hms : ∀ q ∈ ms, q ∈ kws)
    (h : ∀ (D : Addr) (doc pm : Value) (an : Option Addr) (cdv ct : Value) (us mv ws : List Value), us.length = n → mv.length = ms.length → ws.length = ks.length →
      KwChain D ((ms.map (·.1)).zip mv) (bindArgs (PySem.W.fnOf x qual params body scope .none (.ref D) doc pm an cdv ct) ⟨us, ks.zip ws⟩) (ps.zip (pick is (us ++ ws ++ mv)))) :
    ∃ mv : List Value, Vals (ms.map (·.2)) mv ∧ ∀ (s : Shared) (us ws : List Value), K.In s.heap → us.length = n → ws.length = ks.length → BindsTo s fd ⟨us, ks.zip ws⟩ (ps.zip (pick is (us ++ ws ++ mv))) := by
  obtain ⟨oc, od, dV, kV, doc, pm, an, cdv, ct, osl, rfl, lk, hcd, hD, hK⟩ := F.ex
  rcases hD with ⟨_, rfl⟩ | ⟨e, _⟩
  · rcases hK with e | ⟨D, rfl, hq⟩
    · exact absurd e hk
    · obtain ⟨mv, hl, rk, hks⟩ := kwd_vals (ms := ms) fun q hm => hq q (hms q hm)
      exact ⟨mv, rk, fun s us ws X l1 l2 => BindsTo.of_looks fun M => KwChain.looks X hks (h D doc pm an cdv ct us mv ws l1 hl l2)⟩
  · exact absurd rfl e
/-- as KwChain, what is at its end left open -/
def Chain {α : Type} (D : Addr) : List (Str × Value) → Sem α → Sem α → Prop
  | [], t, r => t = r
  | q :: l, t, r => ∃ (β γ : Type) (k1 : Option Value → Sem β) (k2 : β → Sem γ) (k3 : γ → Sem α) (a : β), t = ((nsGet D q.1 >>= k1) >>= k2) >>= k3 ∧ k1 (some q.2) = pure a ∧ Chain D l (k2 a >>= k3) r
theorem Chain.go {α : Type} {K : PySem.W.Frag} {M : Model} {D : Addr} {A : Around} {Q : α → Shared → Prop} {E : Value → Shared → Prop} {s : Shared} (X : K.In s.heap) : ∀ {l : List (Str × Value)} {t r : Sem α}, (∀ q ∈ l, PySem.W.nsIn K D q.1 = some (some q.2)) → Chain D l t r → wpAny M A r Q E s → wpAny M A t Q E s
  | [], t, r, _, e, h => by
    have e : t = r := e
    rw [e]
    exact h
  | q :: l, t, r, hl, e, h => by
    obtain ⟨β, γ, k1, k2, k3, a, e1, e2, e3⟩ := e
    have l1 : PySem.W.Looks M s.heap (nsGet D q.1 >>= k1) a := (PySem.W.looks_nsIn X (hl q (List.mem_cons_self ..))).andThen (PySem.W.Looks.of_pure e2)
    rw [e1, bind_assoc]
    exact wpAny_bind (l1.here (Chain.go X (fun p hp => hl p (List.mem_cons_of_mem _ hp)) e3 h))
/-- what binds ends in a new tuple of what is left over -/
def StarTo (s : Shared) (fd : FuncData) (args : Args) (b : List (Str × Value)) (pv : Str) (rest : List Value) : Prop := ∀ (M : Model) (A : Around) (Q : List (Str × Value) → Shared → Prop) (E : Value → Shared → Prop), wpAny M A (newTuple rest >>= fun t => pure (b ++ [(pv, t)])) Q E s → wpAny M A (bindArgs fd args) Q E s
theorem sbinds {full : Bool} {K : PySem.W.Frag} {x qual : Str} {params : Arguments} {body : List Stmt} {scope : Scope} {kws : List (Str × V)} {f : Addr} {fd : FuncData} {ps : List Str} {pv : Str} (F : FunD K x qual params body scope [] kws f fd) (n : Nat) (ks : List Str) (ms : List (Str × V)) (is : List Nat) (hk : kws ≠ []) (hms : ∀ q ∈ ms, q ∈ kws)
    (h : ∀ (D : Addr) (doc pm : Value) (an : Option Addr) (cdv ct : Value) (us mv ws rest : List Value), us.length = n → mv.length = ms.length → ws.length = ks.length → (full = true ∨ rest = []) →
      Chain D ((ms.map (·.1)).zip mv) (bindArgs (PySem.W.fnOf x qual params body scope .none (.ref D) doc pm an cdv ct) ⟨us ++ rest, ks.zip ws⟩) (newTuple rest >>= fun t => pure (ps.zip (pick is (us ++ ws ++ mv)) ++ [(pv, t)]))) :
    ∃ mv : List Value, Vals (ms.map (·.2)) mv ∧ ∀ (s : Shared) (us ws rest : List Value), K.In s.heap → us.length = n → ws.length = ks.length → (full = true ∨ rest = []) → StarTo s fd ⟨us ++ rest, ks.zip ws⟩ (ps.zip (pick is (us ++ ws ++ mv))) pv rest := by
  obtain ⟨oc, od, dV, kV, doc, pm, an, cdv, ct, osl, rfl, lk, hcd, hD, hK⟩ := F.ex
  rcases hD with ⟨_, rfl⟩ | ⟨e, _⟩
  · rcases hK with e | ⟨D, rfl, hq⟩
    · exact absurd e hk
    · obtain ⟨mv, hl, rk, hks⟩ := kwd_vals (ms := ms) fun q hm => hq q (hms q hm)
      exact ⟨mv, rk, fun s us ws rest X l1 l2 l3 M A Q E hw => Chain.go X hks (h D doc pm an cdv ct us mv ws rest l1 hl l2 l3) hw⟩
  · exact absurd rfl e
theorem funD_fn {K : PySem.W.Frag} {x : Str} {st : Stmt} {kws : List (Str × V)} {f : Addr} {fd : FuncData} (F : FunD K x x (defArgs st) (defBody st) (defScope st) [] kws f fd) : Fun K x x st f fd := by
  obtain ⟨oc, od, dV, kV, doc, pm, an, cdv, ct, osl, e, lk, hcd, hD, hK⟩ := F.ex
  rcases hD with ⟨_, rfl⟩ | ⟨z, _⟩
  · exact ⟨⟨oc, od, kV, doc, pm, an, cdv, ct, osl, e, lk, hcd⟩, F.kp⟩
  · exact absurd rfl z
/-- the def that a name holds, called by n values and keywords ks; ds: what the parameters that lack are -/
structure HasD (X : Cx) (k : Nat) (x : Str) (ps : List Str) (n : Nat) (ks : List Str) (is : List Nat) (ds : List PyData) (g : Fn) : Prop where
  ex : ∃ (f : Addr) (fd : FuncData) (dv : List Value) (dvs : List V), FnG X.prog X.w X.K X.mg X.base k f fd ps (spG X.K ps.length g) ∧ X.mg x = some (.ref f) ∧ PySem.W.keepIn X.K (.ref f) = true ∧ Vals dvs dv ∧ (∀ F : Hp, RA X.K F ds dvs) ∧
    ∀ (s : Shared) (us ws : List Value), X.K.In s.heap → us.length = n → ws.length = ks.length → BindsTo s fd ⟨us, ks.zip ws⟩ (ps.zip (pick is (us ++ ws ++ dv)))
/-- one with a star: q parameters ahead of it -/
structure HasS (X : Cx) (k : Nat) (x : Str) (ps : List Str) (pv : Str) (full : Bool) (n : Nat) (ks : List Str) (is : List Nat) (ds : List PyData) (g : Fn) : Prop where
  ex : ∃ (f : Addr) (fd : FuncData) (dv : List Value) (dvs : List V), FnG X.prog X.w X.K X.mg X.base k f fd (ps ++ [pv]) (spG X.K (ps.length + 1) g) ∧ X.mg x = some (.ref f) ∧ PySem.W.keepIn X.K (.ref f) = true ∧ Vals dvs dv ∧ (∀ F : Hp, RA X.K F ds dvs) ∧
    ∀ (s : Shared) (us ws rest : List Value), X.K.In s.heap → us.length = n → ws.length = ks.length → (full = true ∨ rest = []) → StarTo s fd ⟨us ++ rest, ks.zip ws⟩ (ps.zip (pick is (us ++ ws ++ dv))) pv rest
def dAV (ds : List PyData) : List AV := ds.map .d
theorem ra_rv {K : PySem.W.Frag} {w : Wd} : ∀ {ds : List PyData} {vs : List V}, RA K w.F ds vs → Paired (RV K w) (dAV ds) vs
  | _, _, .nil => .nil
  | _, _, .cons h t => .cons h (ra_rv t)
section
variable {X : Cx} {B : XBt} {e : Expr} {es : List Expr} {pos p : Pos} {k : Nat} {ps : List Str} {x pv : Str}
def evCallD (g : Fn) (n m q : Nat) (is : List Nat) (ds : List PyData) (fa fk : Pg (List AV)) : Pg EV := .bind fa fun vs => .bind fk fun zs => if vs.length = n ∧ zs.length = m ∧ (pick is (vs ++ zs ++ dAV ds)).length = q then callS g (pick is (vs ++ zs ++ dAV ds)) else .stuck
def restD (l : List AV) : Option (List PyData) := match dataOf l with
  | some xs => if lenOk xs then some xs else none
  | none => none
/-- q: all parameters, the star's too -/
def evCallS (g : Fn) (full : Bool) (n m q : Nat) (is : List Nat) (ds : List PyData) (fa fk : Pg (List AV)) : Pg EV := .bind fa fun vs => .bind fk fun zs => if (full = true ∨ vs.length = n) ∧ n ≤ vs.length ∧ zs.length = m ∧ (pick is (vs.take n ++ zs ++ dAV ds)).length + 1 = q then
  .bind (optP (restD (vs.drop n))) fun xs => callS g (pick is (vs.take n ++ zs ++ dAV ds) ++ [.d (.tuple xs)]) else .stuck
theorem callD_end {g : Fn} {n : Nat} {is : List Nat} {ks : List Str} {ds : List PyData} {w w2 : Wd} {vs zs : List AV} {xs ys : List V} {Q : VK} {pins : List (Addr × Obj)} {s : Shared} {us ws : List Value} (C : Ctx X B) (h : HasD X k x ps n ks is ds g) (hr : Room k X.A) {f : Addr}
    (hm : X.mg x = some (.ref f)) (I : L2.Inv X pins w2.sg w2.H s) (ru : Vals xs us) (rw : Vals ys ws) (e2 : w2.sg = w.sg) (fo : FolE w w2) (r2 : Rep X.K w2) (rv : Paired (RV X.K w2) vs xs) (rz : Paired (RV X.K w2) zs ys)
    (hw : ((if vs.length = n ∧ zs.length = ks.length ∧ (pick is (vs ++ zs ++ dAV ds)).length = ps.length then callS g (pick is (vs ++ zs ++ dAV ds)) else .stuck : Pg EV) w2.m).wp (PostE X.K w Q) (XW X.K B w2)) :
    wpAny (model X.prog X.w) X.A (call (.ref f) us (ks.zip ws)) (EP X pins w2.sg Q) X.xe s := by
  obtain ⟨f', fd, dv, dvs, F, hm', hk, hdv, hra, hb⟩ := h.ex
  rw [hm] at hm'
  cases hm'
  split at hw
  · rename_i hl
    obtain ⟨l1, l2, l3⟩ := hl
    have q2 : (callS g (pick is (vs ++ zs ++ dAV ds)) w2.m).wp (PostE X.K w2 Q) (XW X.K B w2) := hw.imp (fun v m' z w3 y em es f2 r2 re => z w3 y em (es.trans e2) (fo.trans f2) r2 re) fun _ _ z => z
    have pv := paired_pick (paired_app (paired_app rv rz) (ra_rv (hra w2.F))) is
    have pu := paired_vals (paired_pick (paired_app (paired_app (vals_paired ru) (vals_paired rw)) (vals_paired hdv)) is)
    have sp := call_end (n := ps.length) r2 l3 pv q2
    exact wpAny_call (run_gk C F hr (hb s us ws I.kIn ((paired_len (vals_paired ru)).symm.trans ((paired_len rv).symm.trans l1)) ((paired_len (vals_paired rw)).symm.trans ((paired_len rz).symm.trans l2))) I pu sp)
  · exact hw.elim
theorem paired_take {α β : Type} {P : α → β → Prop} : ∀ {as : List α} {xs : List β} (n : Nat), Paired P as xs → Paired P (as.take n) (xs.take n)
  | _, _, 0, _ => by rw [List.take_zero, List.take_zero]; exact .nil
  | _, _, n + 1, .nil => by rw [List.take_nil, List.take_nil]; exact .nil
  | _, _, n + 1, .cons h a => .cons h (paired_take n a)
theorem paired_drop {α β : Type} {P : α → β → Prop} : ∀ {as : List α} {xs : List β} (n : Nat), Paired P as xs → Paired P (as.drop n) (xs.drop n)
  | _, _, 0, a => a
  | _, _, n + 1, .nil => by rw [List.drop_nil, List.drop_nil]; exact .nil
  | _, _, n + 1, .cons h a => paired_drop n a
theorem callS_end {full : Bool} {g : Fn} {n : Nat} {is : List Nat} {ks : List Str} {ds : List PyData} {w w2 : Wd} {vs zs : List AV} {xs ys : List V} {Q : VK} {pins : List (Addr × Obj)} {s : Shared} {us ws : List Value} (C : Ctx X B) (h : HasS X k x ps pv full n ks is ds g) (hr : Room k X.A) {f : Addr}
    (hm : X.mg x = some (.ref f)) (I : L2.Inv X pins w2.sg w2.H s) (ru : Vals xs us) (rw : Vals ys ws) (e2 : w2.sg = w.sg) (fo : FolE w w2) (r2 : Rep X.K w2) (rv : Paired (RV X.K w2) vs xs) (rz : Paired (RV X.K w2) zs ys)
    (hw : ((if (full = true ∨ vs.length = n) ∧ n ≤ vs.length ∧ zs.length = ks.length ∧ (pick is (vs.take n ++ zs ++ dAV ds)).length + 1 = ps.length + 1 then .bind (optP (restD (vs.drop n))) fun xs => callS g (pick is (vs.take n ++ zs ++ dAV ds) ++ [.d (.tuple xs)]) else .stuck : Pg EV) w2.m).wp (PostE X.K w Q) (XW X.K B w2)) :
    wpAny (model X.prog X.w) X.A (call (.ref f) us (ks.zip ws)) (EP X pins w2.sg Q) X.xe s := by
  obtain ⟨f', fd, dv, dvs, F, hm', hk, hdv, hra, hb⟩ := h.ex
  rw [hm] at hm'
  cases hm'
  split at hw
  · rename_i hl
    obtain ⟨l0, l1, l2, l3⟩ := hl
    obtain ⟨ds', ed, hw⟩ := wp_opt (wp_bind hw)
    unfold restD at ed
    cases eo : dataOf (vs.drop n) with
    | none =>
      rw [eo] at ed
      cases ed
    | some zs' =>
      rw [eo] at ed
      have ed : (if lenOk zs' then some zs' else none) = some ds' := ed
      split at ed
      · rename_i hlen
        cases ed
        have ra := dataOf_ok (paired_drop n rv) eo
        have ru' := vals_paired ru
        have rest_rel := paired_vals (paired_drop n ru')
        have lu : us.length = vs.length := (paired_len ru').symm.trans (paired_len rv).symm
        have hz : (us.drop n).length ≤ sizeLine := by
          have := lenOk_le hlen ra
          have := rest_rel.length
          omega
        have hn : w2.H s.heap.objs.size = none := I.hok.fresh (Nat.le_refl _)
        obtain ⟨r3, f3⟩ := layFix r2 hn (.tup (xs.drop n))
        have l3' : (pick is (vs.take n ++ zs ++ dAV ds)).length = ps.length := by omega
        have pv0 := paired_pick (paired_app (paired_app (paired_take n rv) rz) (ra_rv (hra w2.F))) is
        have pu := paired_vals (paired_pick (paired_app (paired_app (paired_take n ru') (vals_paired rw)) (vals_paired hdv)) is)
        let w3 : Wd := { w2 with F := upd w2.F s.heap.objs.size (.tup (xs.drop n)), H := upd w2.H s.heap.objs.size (.tup (xs.drop n)) }
        have pv3 : Paired (RV X.K w3) (pick is (vs.take n ++ zs ++ dAV ds) ++ [.d (.tuple ds')]) (pick is (xs.take n ++ ys ++ dvs) ++ [V.ref s.heap.objs.size]) := paired_app (rvs_fol f3 pv0) (.cons (layFix_tup r2 hn ra) .nil)
        have q2 : (callS g (pick is (vs.take n ++ zs ++ dAV ds) ++ [.d (.tuple ds')]) w3.m).wp (PostE X.K w3 Q) (XW X.K B w3) := hw.imp (fun v m' z w4 y em es f4 r4 re => z w4 y em (es.trans e2) (fo.trans (f3.trans f4)) r4 re) fun _ _ z => z.fol (f3.s r2)
        have sp := call_end (n := ps.length + 1) r3 (by rw [List.length_append, l3'] <;> rfl) pv3 q2
        refine wpAny_call (codeAny_mono (F.bnd X.A X.stack s w2.H ⟨us, ks.zip ws⟩ Q (fun cls d H' => WXB X.K B cls d w2.sg H') C.gd hr I.env0 fun A' Ex Q' cont => ?_) fun r s' hq => ?_)
        · have hs := hb s (us.take n) ws (us.drop n) I.kIn (by rw [List.length_take]; omega) ((paired_len (vals_paired rw)).symm.trans ((paired_len rz).symm.trans l2)) (l0.imp id fun e => List.drop_eq_nil_of_le (by omega))
          rw [List.take_append_drop] at hs
          refine hs _ _ _ _ (wpAny_bind (wpAny_newTuple (wpAny_pure ?_) hz))
          have hzx : (xs.drop n).length ≤ sizeLine := by
            rw [rest_rel.length]
            exact hz
          have new : ObjOk X.prog X.w (upd w2.H s.heap.objs.size (.tup (xs.drop n))) (s.heap.push ({ cls := .type "tuple", data := .seq (us.drop n).toArray } : Obj)) s.heap.objs.size (.tup (xs.drop n)) := ⟨hzx, us.drop n, rest_rel, ⟨_, Heap.get?_push_size _ rfl, rfl, _, rfl⟩⟩
          have un := StX.un_laid (fs := frs X.stack) (s := s) (o := ({ cls := .type "tuple", data := .seq (us.drop n).toArray } : Obj)) (u := .tup (xs.drop n)) hn
          have z := cont { s with heap := s.heap.push ({ cls := .type "tuple", data := .seq (us.drop n).toArray } : Obj) } w3.H (pick is (xs.take n ++ ys ++ dvs) ++ [V.ref s.heap.objs.size]) (pick is (us.take n ++ ws ++ dv) ++ [Value.ref s.heap.objs.size]) (StX.env0_laid I.env0 new) un rfl
            (fun e s' => StX.cxUp X.stack s w2.H _ _ _ e s' un (fun b o q => Heap.get?_push_of_some _ q) rfl) (pu.append (.cons rfl .nil)) (by rw [← paired_len pv3, List.length_append, List.length_append, l3'] <;> rfl) sp
          have lz : ps.length = (pick is (us.take n ++ ws ++ dv)).length := by
            rw [← l3', paired_len pv0]
            exact paired_len (vals_paired pu)
          rw [List.zip_append lz] at z
          exact z
        · match r, hq with
          | .error _, hq => exact pass_b C I hq
          | .ok (.ret u), hq => exact I.after hq
          | .ok .next, hq => exact (show False from hq).elim
          | .ok .brk, hq => exact (show False from hq).elim
          | .ok .cont, hq => exact (show False from hq).elim
      · cases ed
  · exact hw.elim
theorem snd_callD {g : Fn} {n m q : Nat} {is : List Nat} {ks : List Str} {ds : List PyData} {fa fk : Pg (List AV)} {kws : List Keyword} (C : Ctx X B) (h : HasD X k x ps n ks is ds g) (hm : ks.length = m) (hq : ps.length = q) (hr : Room k X.A) (hg : Gl X x) (ha : SndA X B (e :: es) fa) (hkw : SndK X B kws fk)
    (hall : (backToKw pos (keywordEach kws X.env)).all (·.1.isSome) = true := by rfl) (hks : (backToKw pos (keywordEach kws X.env)).filterMap (·.1) = ks := by rfl) (hdb : (x == ("__debug__" : Str)) = false := by decide)
    (he : starEach (e :: es) X.env = (false, eval e X.env) :: starEach es X.env := by rfl) (hpl : ((backTo pos (starEach (e :: es) X.env)).any (·.1) || (backToKw pos (keywordEach kws X.env)).any (·.1.isNone)) = false := by rfl) :
    Snd X B (.Call (.Name x p) (e :: es) kws pos) (evCallD g n m q is ds fa fk) := by
  subst hm hq
  obtain ⟨f, fd, dv, dvs, F, hm, hk, hdv, hra, hb⟩ := id h.ex
  intro w Q r hw
  refine ⟨fun pins s I => ?_⟩
  refine wpAny_Call_Name_kw (ld_glob I hg hm ?_ hdb)
  have wa : WA X (e :: es) w.sg w.H fun xs H1 => WK X kws w.sg H1 fun ys H2 => ∃ w2 : Wd, w2.H = H2 ∧ w2.sg = w.sg ∧ ∀ pins s us ws, L2.Inv X pins w2.sg w2.H s → Vals xs us → Vals ys ws → wpAny (model X.prog X.w) X.A (call (.ref f) us (ks.zip ws)) (EP X pins w2.sg Q) X.xe s := by
    refine sndA_then ha r hw fun vs w1 xs e1 f1 r1 rv q => ?_
    rw [← e1]
    refine sndK_then hkw r1 q fun zs w2 ys e2 f2 r2 rz q2 => ?_
    exact ⟨w2, rfl, e2, fun pins s us ws I ru rw => callD_end C h hr hm I ru rw (e2.trans e1) (f1.trans f2) r2 (rvs_fol f2 rv) rz q2⟩
  refine PySem.W.callWith_KW (h₀ := X.base) I.ok.mod.kin hk hall (thn (wa.go pos pins s I) fun us s1 ⟨vs, H1, I1, r1, q⟩ => ?_) hpl he
  refine thn (q.go pos pins s1 I1) fun ws s2 ⟨zs, H2, I2, rz, w2, eH, eS, q2⟩ => ⟨I2.kIn, ?_⟩
  rw [hks]
  have z := q2 pins s2 us ws (by rw [eS, eH]; exact I2) r1 rz
  rw [eS] at z
  exact z
theorem snd_callD0 {g : Fn} {m q : Nat} {is : List Nat} {ks : List Str} {ds : List PyData} {fk : Pg (List AV)} {kws : List Keyword} (C : Ctx X B) (h : HasD X k x ps 0 ks is ds g) (hm : ks.length = m) (hq : ps.length = q) (hr : Room k X.A) (hg : Gl X x) (hkw : SndK X B kws fk)
    (hall : (backToKw pos (keywordEach kws X.env)).all (·.1.isSome) = true := by rfl) (hks : (backToKw pos (keywordEach kws X.env)).filterMap (·.1) = ks := by rfl) (hdb : (x == ("__debug__" : Str)) = false := by decide)
    (hpl : ((backTo pos (starEach [] X.env)).any (·.1) || (backToKw pos (keywordEach kws X.env)).any (·.1.isNone)) = false := by rfl) :
    Snd X B (.Call (.Name x p) [] kws pos) (evCallD g 0 m q is ds evNil fk) := by
  subst hm hq
  obtain ⟨f, fd, dv, dvs, F, hm, hk, hdv, hra, hb⟩ := id h.ex
  intro w Q r hw
  refine ⟨fun pins s I => ?_⟩
  refine wpAny_Call_Name_kw (ld_glob I hg hm ?_ hdb)
  have wa : WK X kws w.sg w.H fun ys H2 => ∃ w2 : Wd, w2.H = H2 ∧ w2.sg = w.sg ∧ ∀ pins s ws, L2.Inv X pins w2.sg w2.H s → Vals ys ws → wpAny (model X.prog X.w) X.A (call (.ref f) [] (ks.zip ws)) (EP X pins w2.sg Q) X.xe s := by
    have q : (Pg.bind fk _ w.m).wp (PostE X.K w Q) (XW X.K B w) := wp_bind hw
    refine sndK_then hkw r q fun zs w2 ys e2 f2 r2 rz q2 => ?_
    exact ⟨w2, rfl, e2, fun pins s ws I rw => callD_end C h hr hm I .nil rw e2 f2 r2 .nil rz q2⟩
  refine PySem.W.callWith_KW0 (h₀ := X.base) I.ok.mod.kin hk hall ?_ hpl
  refine thn (wa.go pos pins s I) fun ws s2 ⟨zs, H2, I2, rz, w2, eH, eS, q2⟩ => ⟨I2.kIn, ?_⟩
  rw [hks]
  have z := q2 pins s2 ws (by rw [eS, eH]; exact I2) rz
  rw [eS] at z
  exact z
/-- a def with a star, no starred argument -/
theorem snd_callS {full : Bool} {g : Fn} {n m q : Nat} {is : List Nat} {ks : List Str} {ds : List PyData} {fa fk : Pg (List AV)} {kws : List Keyword} (C : Ctx X B) (h : HasS X k x ps pv full n ks is ds g) (hm : ks.length = m) (hq : ps.length + 1 = q) (hr : Room k X.A) (hg : Gl X x) (ha : SndA X B (e :: es) fa) (hkw : SndK X B kws fk)
    (hall : (backToKw pos (keywordEach kws X.env)).all (·.1.isSome) = true := by rfl) (hks : (backToKw pos (keywordEach kws X.env)).filterMap (·.1) = ks := by rfl) (hdb : (x == ("__debug__" : Str)) = false := by decide)
    (he : starEach (e :: es) X.env = (false, eval e X.env) :: starEach es X.env := by rfl) (hpl : ((backTo pos (starEach (e :: es) X.env)).any (·.1) || (backToKw pos (keywordEach kws X.env)).any (·.1.isNone)) = false := by rfl) :
    Snd X B (.Call (.Name x p) (e :: es) kws pos) (evCallS g full n m q is ds fa fk) := by
  subst hm hq
  obtain ⟨f, fd, dv, dvs, F, hm, hk, hdv, hra, hb⟩ := id h.ex
  intro w Q r hw
  refine ⟨fun pins s I => ?_⟩
  refine wpAny_Call_Name_kw (ld_glob I hg hm ?_ hdb)
  have wa : WA X (e :: es) w.sg w.H fun xs H1 => WK X kws w.sg H1 fun ys H2 => ∃ w2 : Wd, w2.H = H2 ∧ w2.sg = w.sg ∧ ∀ pins s us ws, L2.Inv X pins w2.sg w2.H s → Vals xs us → Vals ys ws → wpAny (model X.prog X.w) X.A (call (.ref f) us (ks.zip ws)) (EP X pins w2.sg Q) X.xe s := by
    refine sndA_then ha r hw fun vs w1 xs e1 f1 r1 rv q => ?_
    rw [← e1]
    refine sndK_then hkw r1 q fun zs w2 ys e2 f2 r2 rz q2 => ?_
    exact ⟨w2, rfl, e2, fun pins s us ws I ru rw => callS_end C h hr hm I ru rw (e2.trans e1) (f1.trans f2) r2 (rvs_fol f2 rv) rz q2⟩
  refine PySem.W.callWith_KW (h₀ := X.base) I.ok.mod.kin hk hall (thn (wa.go pos pins s I) fun us s1 ⟨vs, H1, I1, r1, q⟩ => ?_) hpl he
  refine thn (q.go pos pins s1 I1) fun ws s2 ⟨zs, H2, I2, rz, w2, eH, eS, q2⟩ => ⟨I2.kIn, ?_⟩
  rw [hks]
  have z := q2 pins s2 us ws (by rw [eS, eH]; exact I2) r1 rz
  rw [eS] at z
  exact z
theorem snd_callS0 {full : Bool} {g : Fn} {m q : Nat} {is : List Nat} {ks : List Str} {ds : List PyData} {fk : Pg (List AV)} {kws : List Keyword} (C : Ctx X B) (h : HasS X k x ps pv full 0 ks is ds g) (hm : ks.length = m) (hq : ps.length + 1 = q) (hr : Room k X.A) (hg : Gl X x) (hkw : SndK X B kws fk)
    (hall : (backToKw pos (keywordEach kws X.env)).all (·.1.isSome) = true := by rfl) (hks : (backToKw pos (keywordEach kws X.env)).filterMap (·.1) = ks := by rfl) (hdb : (x == ("__debug__" : Str)) = false := by decide)
    (hpl : ((backTo pos (starEach [] X.env)).any (·.1) || (backToKw pos (keywordEach kws X.env)).any (·.1.isNone)) = false := by rfl) :
    Snd X B (.Call (.Name x p) [] kws pos) (evCallS g full 0 m q is ds evNil fk) := by
  subst hm hq
  obtain ⟨f, fd, dv, dvs, F, hm, hk, hdv, hra, hb⟩ := id h.ex
  intro w Q r hw
  refine ⟨fun pins s I => ?_⟩
  refine wpAny_Call_Name_kw (ld_glob I hg hm ?_ hdb)
  have wa : WK X kws w.sg w.H fun ys H2 => ∃ w2 : Wd, w2.H = H2 ∧ w2.sg = w.sg ∧ ∀ pins s ws, L2.Inv X pins w2.sg w2.H s → Vals ys ws → wpAny (model X.prog X.w) X.A (call (.ref f) [] (ks.zip ws)) (EP X pins w2.sg Q) X.xe s := by
    have q : (Pg.bind fk _ w.m).wp (PostE X.K w Q) (XW X.K B w) := wp_bind hw
    refine sndK_then hkw r q fun zs w2 ys e2 f2 r2 rz q2 => ?_
    exact ⟨w2, rfl, e2, fun pins s ws I rw => callS_end C h hr hm I .nil rw e2 f2 r2 .nil rz q2⟩
  refine PySem.W.callWith_KW0 (h₀ := X.base) I.ok.mod.kin hk hall ?_ hpl
  refine thn (wa.go pos pins s I) fun ws s2 ⟨zs, H2, I2, rz, w2, eH, eS, q2⟩ => ⟨I2.kIn, ?_⟩
  rw [hks]
  have z := q2 pins s2 ws (by rw [eS, eH]; exact I2) rz
  rw [eS] at z
  exact z
/-- *e at an argument list's end -/
def starL : EV → Option (List AV)
  | .d (.list xs) => some (dAV xs)
  | .d (.tuple xs) => some (dAV xs)
  | .new (.lst xs) => some (dAV xs)
  | .pk _ (.lst xs) => some (dAV xs)
  | _ => none
def evStar (f : Pg EV) : Pg (List AV) := .bind f fun v => optP (starL v)
theorem sndA_star {f : Pg EV} {p' : Pos} (h : Snd X B e f) (hs : starEach [.Starred e p'] X.env = [(true, eval e X.env)] := by rfl) : SndA X B [.Starred e p'] (evStar f) := by
  intro w Q r hw
  refine wa_of (StX.pa_star pe_w pa_nil hs) ?_
  refine snd_then h r hw fun v w1 y e1 f1 r1 re h1 => ?_
  obtain ⟨as, ea, q⟩ := wp_opt h1
  have fin : ∀ {a : Addr} {vs : List V} {ds : List PyData}, (SqT X.K w1.H a vs ∨ SqL X.K w1.H a vs) → RA X.K w1.F ds vs → as = dAV ds → ∃ a' xs, V.ref a = V.ref a' ∧ (SqT X.K w1.H a' xs ∨ SqL X.K w1.H a' xs) ∧ Q (xs ++ []) w1.H := fun {a vs ds} hq ra e => by
    subst e
    refine ⟨a, vs, rfl, hq, ?_⟩
    rw [List.append_nil]
    exact q w1 vs rfl e1 f1 r1 (ra_rv ra)
  cases v with
  | cell n => cases ea
  | d d =>
    cases d <;> try (cases ea; done)
    · cases ea
      cases re with
      | lst hq ra => exact fin (.inr ((hq.mono r1.sub).sq)) ra rfl
    · cases ea
      cases re with
      | tup hq ra => exact fin (.inl (sqt_mono r1.sub hq)) ra rfl
  | new o =>
    cases o <;> try (cases ea; done)
    cases ea
    obtain ⟨a, rfl, ⟨vs, h1, h2⟩, _⟩ := re
    exact fin (.inr (LQ.of h1).sq) h2 rfl
  | pk i o =>
    cases o <;> try (cases ea; done)
    cases ea
    obtain ⟨g1, g2⟩ := re
    obtain ⟨z, g3, a, e0, ⟨vs, h1, h2⟩, _⟩ := r1.sl i _ g1
    rw [g2] at g3
    cases g3
    subst e0
    exact fin (.inr (LQ.of h1).sq) h2 rfl
theorem snd_callSS {full : Bool} {g : Fn} {n q : Nat} {is : List Nat} {ds : List PyData} {fa : Pg (List AV)} (C : Ctx X B) (h : HasS X k x ps pv full n [] is ds g) (hq : ps.length + 1 = q) (hr : Room k X.A) (hg : Gl X x) (ha : SndA X B (e :: es) fa)
    (hdb : (x == ("__debug__" : Str)) = false := by decide) (he : starEach (e :: es) X.env = (false, eval e X.env) :: starEach es X.env := by rfl) (hst : (backTo pos (starEach es X.env)).any (·.1) = true := by rfl) :
    Snd X B (.Call (.Name x p) (e :: es) [] pos) (evCallS g full n 0 q is ds fa evNil) := by
  subst hq
  obtain ⟨f, fd, dv, dvs, F, hm, hk, hdv, hra, hb⟩ := id h.ex
  intro w Q r hw
  refine ⟨fun pins s I => ?_⟩
  refine wpAny_Call_Name_kw (ld_glob I hg hm ?_ hdb)
  have wa : WA X (e :: es) w.sg w.H fun xs H1 => ∃ w2 : Wd, w2.H = H1 ∧ w2.sg = w.sg ∧ ∀ pins s us, L2.Inv X pins w2.sg w2.H s → Vals xs us → wpAny (model X.prog X.w) X.A (call (.ref f) us (([] : List Str).zip [])) (EP X pins w2.sg Q) X.xe s := by
    refine sndA_then ha r hw fun vs w1 xs e1 f1 r1 rv q => ?_
    exact ⟨w1, rfl, e1, fun pins s us I ru => callS_end (zs := []) (ys := []) (ws := []) C h hr hm I ru .nil e1 f1 r1 rv .nil (wp_bind q)⟩
  refine PySem.W.callWith_S2 (h₀ := X.base) I.ok.mod.kin hk (thn (wa.go pos pins s I) fun us s1 ⟨vs, H1, I1, r1, w2, eH, eS, q⟩ => ⟨I1.kIn, ?_⟩) he hst
  have z := q pins s1 us (by rw [eS, eH]; exact I1) r1
  rw [eS] at z
  exact z
end

/-! ### the module's facts -/
def FMD (K : PySem.W.Frag) (mg : Str → Option Value) (x : Str) (st : Stmt) (kws : List (Str × V)) : Prop := ∃ (f : Addr) (fd : FuncData), FunD K x x (defArgs st) (defBody st) (defScope st) [] kws f fd ∧ mg x = some (.ref f)
section
variable {P : Program} {w : World} {K : PySem.W.Frag} {mg : Str → Option Value} {base : Heap} {x pv : Str} {st : Stmt} {ps : List Str} {kws : List (Str × V)} {g : Fn} {j k q : Nat}
theorem hasD_of (h : FMD K mg x st kws) (hk : j ≤ k) (ok : ∀ {f : Addr} {fd : FuncData}, Fun K x x st f fd → FnG P w K mg base j f fd ps (spG K ps.length g)) (n : Nat) (ks : List Str) (ms : List (Str × V)) (is : List Nat) (ds : List PyData) (hne : kws ≠ []) (hms : ∀ q ∈ ms, q ∈ kws) (hds : ∀ F : Hp, RA K F ds (ms.map (·.2)))
    (hb : ∀ (D : Addr) (doc pm : Value) (an : Option Addr) (cdv ct : Value) (us mv ws : List Value), us.length = n → mv.length = ms.length → ws.length = ks.length →
      KwChain D ((ms.map (·.1)).zip mv) (bindArgs (PySem.W.fnOf x x (defArgs st) (defBody st) (defScope st) .none (.ref D) doc pm an cdv ct) ⟨us, ks.zip ws⟩) (ps.zip (pick is (us ++ ws ++ mv)))) :
    ∃ (f : Addr) (fd : FuncData) (dv : List Value) (dvs : List V), FnG P w K mg base k f fd ps (spG K ps.length g) ∧ mg x = some (.ref f) ∧ PySem.W.keepIn K (.ref f) = true ∧ Vals dvs dv ∧ (∀ F : Hp, RA K F ds dvs) ∧
      ∀ (s : Shared) (us ws : List Value), K.In s.heap → us.length = n → ws.length = ks.length → BindsTo s fd ⟨us, ks.zip ws⟩ (ps.zip (pick is (us ++ ws ++ dv))) := by
  obtain ⟨f, fd, F, hm⟩ := h
  obtain ⟨mv, rk, hb'⟩ := dbinds F n ks ms is hne hms hb
  exact ⟨f, fd, mv, ms.map (·.2), (ok (funD_fn F)).up hk, hm, F.kp, rk, hds, hb'⟩
theorem hasS_of {full : Bool} (h : FMD K mg x st kws) (hk : j ≤ k) (ok : ∀ {f : Addr} {fd : FuncData}, Fun K x x st f fd → FnG P w K mg base j f fd (ps ++ [pv]) (spG K (ps.length + 1) g)) (n : Nat) (ks : List Str) (ms : List (Str × V)) (is : List Nat) (ds : List PyData) (hne : kws ≠ []) (hms : ∀ q ∈ ms, q ∈ kws) (hds : ∀ F : Hp, RA K F ds (ms.map (·.2)))
    (hb : ∀ (D : Addr) (doc pm : Value) (an : Option Addr) (cdv ct : Value) (us mv ws rest : List Value), us.length = n → mv.length = ms.length → ws.length = ks.length → (full = true ∨ rest = []) →
      Chain D ((ms.map (·.1)).zip mv) (bindArgs (PySem.W.fnOf x x (defArgs st) (defBody st) (defScope st) .none (.ref D) doc pm an cdv ct) ⟨us ++ rest, ks.zip ws⟩) (newTuple rest >>= fun t => pure (ps.zip (pick is (us ++ ws ++ mv)) ++ [(pv, t)]))) :
    ∃ (f : Addr) (fd : FuncData) (dv : List Value) (dvs : List V), FnG P w K mg base k f fd (ps ++ [pv]) (spG K (ps.length + 1) g) ∧ mg x = some (.ref f) ∧ PySem.W.keepIn K (.ref f) = true ∧ Vals dvs dv ∧ (∀ F : Hp, RA K F ds dvs) ∧
      ∀ (s : Shared) (us ws rest : List Value), K.In s.heap → us.length = n → ws.length = ks.length → (full = true ∨ rest = []) → StarTo s fd ⟨us ++ rest, ks.zip ws⟩ (ps.zip (pick is (us ++ ws ++ dv))) pv rest := by
  obtain ⟨f, fd, F, hm⟩ := h
  obtain ⟨mv, rk, hb'⟩ := sbinds F n ks ms is hne hms hb
  exact ⟨f, fd, mv, ms.map (·.2), (ok (funD_fn F)).up hk, hm, F.kp, rk, hds, hb'⟩
/-- a star, no keyword-only parameters -/
def FMS (K : PySem.W.Frag) (mg : Str → Option Value) (x : Str) (st : Stmt) : Prop := ∃ (f : Addr) (fd : FuncData), Fun K x x st f fd ∧ mg x = some (.ref f)
theorem hasS0_of {full : Bool} (h : FMS K mg x st) (hk : j ≤ k) (ok : ∀ {f : Addr} {fd : FuncData}, Fun K x x st f fd → FnG P w K mg base j f fd (ps ++ [pv]) (spG K (ps.length + 1) g)) (n : Nat) (ks : List Str) (is : List Nat)
    (hb : ∀ (kV doc pm : Value) (an : Option Addr) (cdv ct : Value) (us ws rest : List Value), us.length = n → ws.length = ks.length → (full = true ∨ rest = []) →
      bindArgs (PySem.W.fnOf x x (defArgs st) (defBody st) (defScope st) .none kV doc pm an cdv ct) ⟨us ++ rest, ks.zip ws⟩ = (newTuple rest >>= fun t => pure (ps.zip (pick is (us ++ ws ++ [])) ++ [(pv, t)]))) :
    ∃ (f : Addr) (fd : FuncData) (dv : List Value) (dvs : List V), FnG P w K mg base k f fd (ps ++ [pv]) (spG K (ps.length + 1) g) ∧ mg x = some (.ref f) ∧ PySem.W.keepIn K (.ref f) = true ∧ Vals dvs dv ∧ (∀ F : Hp, RA K F [] dvs) ∧
      ∀ (s : Shared) (us ws rest : List Value), K.In s.heap → us.length = n → ws.length = ks.length → (full = true ∨ rest = []) → StarTo s fd ⟨us ++ rest, ks.zip ws⟩ (ps.zip (pick is (us ++ ws ++ dv))) pv rest := by
  obtain ⟨f, fd, F, hm⟩ := h
  refine ⟨f, fd, [], [], (ok F).up hk, hm, F.kp, .nil, fun _ => .nil, fun s us ws rest X l1 l2 l3 M A Q E hw => ?_⟩
  obtain ⟨oc, od, kV, doc, pm, an, cdv, ct, osl, rfl, _, _⟩ := F.ex
  rw [hb kV doc pm an cdv ct us ws rest l1 l2 l3]
  exact hw
theorem fmd_of {f D : Addr} {oc : Value} {od an : Option Addr} {osl : Array (Option Value)} {doc pm cdv ct : Value} (hm : mg x = some (.ref f)) (l : K.lookup f = some ⟨oc, od, .func (PySem.W.fnOf x x (defArgs st) (defBody st) (defScope st) .none (.ref D) doc pm an cdv ct), osl⟩)
    (c : PySem.W.codeIn K cdv x = true) (k : PySem.W.keepIn K (.ref f) = true) (h : ∀ q ∈ kws, ∃ u, PySem.W.nsIn K D q.1 = some (some u) ∧ RelV q.2 u) : FMD K mg x st kws :=
  ⟨f, _, ⟨⟨oc, od, .none, .ref D, doc, pm, an, cdv, ct, osl, rfl, l, c, .inl ⟨rfl, rfl⟩, .inr ⟨D, rfl, h⟩⟩, k⟩, hm⟩
theorem fms_of {f : Addr} {oc kV : Value} {od an : Option Addr} {osl : Array (Option Value)} {doc pm cdv ct : Value} (hm : mg x = some (.ref f)) (l : K.lookup f = some ⟨oc, od, .func (PySem.W.fnOf x x (defArgs st) (defBody st) (defScope st) .none kV doc pm an cdv ct), osl⟩)
    (c : PySem.W.codeIn K cdv x = true) (k : PySem.W.keepIn K (.ref f) = true) : FMS K mg x st := ⟨f, _, fun_mk l c k, hm⟩
theorem kw_nil {D : Addr} : ∀ q ∈ ([] : List (Str × V)), ∃ u, PySem.W.nsIn K D q.1 = some (some u) ∧ RelV q.2 u := fun q h => by cases h
theorem kw_cons {D : Addr} {y : Str} {v : V} {l : List (Str × V)} (h : ∃ u, PySem.W.nsIn K D y = some (some u) ∧ RelV v u) (t : ∀ q ∈ l, ∃ u, PySem.W.nsIn K D q.1 = some (some u) ∧ RelV q.2 u) : ∀ q ∈ (y, v) :: l, ∃ u, PySem.W.nsIn K D q.1 = some (some u) ∧ RelV q.2 u := fun q h' => by
  rcases List.mem_cons.mp h' with e | e
  · rw [e]
    exact h
  · exact t q e
end
end Ev

namespace Ev
open PySem PySem.Spec PyProof.Rows L2

/-! ### set(l), l a list of ints -/
/-- an empty set's object -/
abbrev set0 (w : World) : Obj := ⟨.type "set", none, .set #[] 0 (.fresh 0 0 (!w.params.followText "set-order")), #[]⟩
set_option maxHeartbeats 3200000 in
theorem call_set_lstI {P : Program} {w : World} {A : Around} {E : Value → Shared → Prop} {s : Shared} {l : Addr} {items : Array Value} (ns : List Int) {Q : Value → Shared → Prop} (free : A.handled = none) (isL : s.heap.IsList l items) (are : IntsAre items.toList ns) (few : ns.length + 1 < scanBound)
    (fin : ∀ (h1 : Heap) (tk c : Nat), SetR w h1 s.heap.objs.size (fun j => decide (j ∈ ns)) c → c ≤ ns.length → (∀ b o, s.heap.get? b = some o → h1.get? b = some o) → Q (.ref s.heap.objs.size) { s with heap := h1, toks := tk }) :
    wpAny (model P w) A (call (.type "set") [.ref l]) Q E s := by
  have size : items.size = ns.length := by have := are.length; rwa [Array.length_toList] at this
  obtain ⟨cc, tl, g1⟩ := F.called_set.mro; have g2 := F.called_set.made; have g3 := F.called_set.sub
  refine wpAny_call (codeAny_of_tree ?_); show wpAny _ _ (callAny (.type "set") _) _ _ _
  refine wpAny_pure ⟨Code.quiet_builtin _ (by decide +kernel), codeAny_builtin F.entry_type_call ?_⟩; rw [Around.under_plain (weight_type_call_type "set" [.ref l] []) rfl]
  have g4 := F.called_set.notType; have g5 := F.called_set.canCreate; have g6 := F.typeCall_set_1 (.ref l)
  repeat (any_goals (first | assumption | wp_step))
  let S := s.heap.objs.size; let hS := s.heap.push (set0 w)
  refine codeAny_mono (code_set_led1 (.ref l) (E := E) (Q₁ := fun o t => o = .ref S ∧ t = { s with heap := hS }) ⟨rfl, rfl⟩) fun r t hr => ?_
  match r, hr with
  | .error _, hr => exact hr
  | .ok .next, hr => exact hr.elim
  | .ok .brk, hr => exact hr.elim
  | .ok .cont, hr => exact hr.elim
  | .ok (.ret obj), hr =>
    obtain ⟨rfl, rfl⟩ := hr
    have at0 : hS.get? S = some (set0 w) := Heap.get?_push_size _ rfl
    have isT : Shared.TypeIs { s with heap := hS } (.ref S) "set" := ⟨_, at0, rfl⟩
    have g7 := F.called_set.init.lookup; have g8 := F.called_set.init.bind (.ref S)
    repeat (any_goals (first | assumption | wp_step))
    refine codeAny_mono (codeAny_call_builtin (R := wants (fun r t => r = .none ∧ ∃ h1 tk c, t = { s with heap := h1, toks := tk } ∧ SetR w h1 S (fun j => decide (j ∈ ns)) c ∧ c ≤ ns.length ∧ ∀ b o, s.heap.get? b = some o → h1.get? b = some o) E) F.called_set.init.plain F.entry_set_init (check_set_init_1 isT ?_)) fun r t hr => ?_
    · obtain ⟨⟨c1, d1, dt, sl⟩, hol, e1, nl, e2⟩ := id isL
      dsimp only at e1 e2; subst e1 e2
      have lS : l < S := Heap.lt_size hol
      have n1 := F.sub_list_set; have n2 := F.sub_list_frozenset; have n3 : (Value.type "list" == Value.type "dict") = false := by decide
      have hl1 : hS.IsList l items := ⟨_, Heap.get?_push_of_some _ hol, rfl, nl, rfl⟩
      have hol1 : hS.get? l = some { cls := .type "list", dict := d1, data := .seq items nl, slots := sl } := Heap.get?_push_of_some _ hol
      unfold Builtin.«set.__init__» noKeywords Builtin.Frozenset.updateFrom; generalize hPI : pyIter = PI
      wp_walk
      subst hPI; refine wpAny_pyIter_list hl1 (wpAny_bind (wpAny_runValue ?_))
      have zS : hS.objs.size = S + 1 := Heap.size_push ..
      have free3 : A.in1.in1.in1.handled = none := by simp [free]
      have n4 : l ≠ hS.objs.size := by rw [zS]; exact Nat.ne_of_lt (Nat.lt_succ_of_lt lS)
      have n5 : S ∉ [hS.objs.size, l] := by rw [zS]; simp only [List.mem_cons, List.not_mem_nil, or_false, not_or]; exact ⟨Nat.ne_of_lt (Nat.lt_succ_self _), Nat.ne_of_gt lS⟩
      have val : ∀ (i : Nat) (v : Value), items[i]? = some v → ∃ k t, ns[i]? = some k ∧ v = .int k t := fun i v hv => by
        have hi : i < ns.length := by rw [← size]; exact (Array.getElem?_eq_some_iff.mp hv).1
        obtain ⟨t, e⟩ := IntsAre.int_at are i v (by rw [Array.getElem?_toList]; exact hv)
        exact ⟨ns[i], t, List.getElem?_eq_getElem hi, by rw [e, List.getD_eq_getElem?_getD, List.getElem?_eq_getElem hi]; rfl⟩
      refine set_update_ints ((Walks.list free3 _ l n4 items).toS) S n5 ns size few val (items.size - 0) 0 _ (by omega) (Nat.zero_le _) ⟨⟨_, Heap.get?_push_size _ rfl, rfl, rfl⟩, (hl1.push _)⟩ ⟨0, Nat.le_refl 0, setR_new_at (Heap.get?_push_of_some _ at0)⟩ ?_
      rintro ⟨h1, g9, d9, tk, os⟩ c hm hc hR
      obtain rfl : g9 = s.gens := hm.gens
      obtain rfl : d9 = s.drawn := hm.drawn
      obtain rfl : os = s.os := hm.os
      show wpAny _ _ _ _ _ _; refine wpAny_pure ?_; show wpAny _ _ (ret Value.none) _ _ _
      refine wpAny_pure ⟨rfl, h1, tk, c, rfl, hR, size ▸ hc, fun b o e => ?_⟩
      have hb := Heap.lt_size e
      exact hm.heap b o (by rw [zS]; simp only [List.mem_cons, List.not_mem_nil, or_false, not_or]; exact ⟨Nat.ne_of_lt hb, Nat.ne_of_lt (Nat.lt_succ_of_lt hb)⟩) (Heap.get?_push_of_some _ (Heap.get?_push_of_some _ e))
    · match r, hr with
      | .error _, hr => exact hr
      | .ok .next, hr => exact hr.elim
      | .ok .brk, hr => exact hr.elim
      | .ok .cont, hr => exact hr.elim
      | .ok (.ret r), hr =>
        obtain ⟨rfl, h1, tk, c, rfl, q1, q2, q3⟩ := hr
        repeat (any_goals (first | assumption | wp_step))
        exact fin _ _ _ q1 q2 q3
end Ev

namespace Ev
open PySem PySem.Spec PyProof.Rows L2

/-! ### sorted(set(l)) of ints -/
/-- into an ascending list, once -/
def uins (x : Int) : List Int → List Int
  | [] => [x]
  | y :: ys => if x < y then x :: y :: ys else if x = y then y :: ys else y :: uins x ys
def usort (ns : List Int) : List Int := ns.foldr uins []
theorem mem_uins {x k : Int} : ∀ {ys : List Int}, k ∈ uins x ys ↔ k = x ∨ k ∈ ys
  | [] => by simp [uins]
  | y :: ys => by
    unfold uins
    split
    · simp
    · split
      · rename_i e
        subst e
        simp
      · simp only [List.mem_cons, mem_uins (ys := ys)]
        constructor
        · rintro (h | h | h)
          · exact .inr (.inl h)
          · exact .inl h
          · exact .inr (.inr h)
        · rintro (h | h | h)
          · exact .inr (.inl h)
          · exact .inl h
          · exact .inr (.inr h)
theorem uins_lt {x : Int} : ∀ {ys : List Int}, ys.Pairwise (· < ·) → (uins x ys).Pairwise (· < ·)
  | [], _ => by simp [uins]
  | y :: ys, h => by
    have h' := List.pairwise_cons.mp h
    unfold uins
    split
    · rename_i e
      refine List.pairwise_cons.mpr ⟨fun z hz => ?_, h⟩
      rcases List.mem_cons.mp hz with q | q
      · rw [q]; exact e
      · exact Int.lt_trans e (h'.1 z q)
    · split
      · exact h
      · refine List.pairwise_cons.mpr ⟨fun z hz => ?_, uins_lt h'.2⟩
        rcases mem_uins.mp hz with q | q
        · rw [q]; omega
        · exact h'.1 z q
@[simp] theorem mem_usort {k : Int} : ∀ {ns : List Int}, k ∈ usort ns ↔ k ∈ ns
  | [] => by simp [usort]
  | n :: ns => by
    show k ∈ uins n (usort ns) ↔ _
    rw [mem_uins, mem_usort, List.mem_cons]
theorem usort_lt : ∀ ns : List Int, (usort ns).Pairwise (· < ·)
  | [] => .nil
  | n :: ns => uins_lt (usort_lt ns)
theorem asc_ext : ∀ {ns ms : List Int}, ns.Pairwise (· < ·) → ms.Pairwise (· < ·) → (∀ k, k ∈ ns ↔ k ∈ ms) → ns = ms
  | [], [], _, _, _ => rfl
  | [], m :: ms, _, _, h => by simpa using (h m).mpr (by simp)
  | n :: ns, [], _, _, h => by simpa using (h n).mp (by simp)
  | n :: ns, m :: ms, h1, h2, h => by
    have a1 := List.pairwise_cons.mp h1
    have a2 := List.pairwise_cons.mp h2
    have e : n = m := by
      have b1 := (h n).mp (by simp)
      have b2 := (h m).mpr (by simp)
      rcases List.mem_cons.mp b1 with q | q
      · exact q
      · rcases List.mem_cons.mp b2 with q2 | q2
        · exact q2.symm
        · have := a1.1 _ q2
          have := a2.1 _ q
          omega
    subst e
    rw [asc_ext a1.2 a2.2 fun k => ?_]
    constructor
    · intro hk
      rcases List.mem_cons.mp ((h k).mp (List.mem_cons_of_mem _ hk)) with q | q
      · exact absurd (a1.1 k hk) (by omega)
      · exact q
    · intro hk
      rcases List.mem_cons.mp ((h k).mpr (List.mem_cons_of_mem _ hk)) with q | q
      · exact absurd (a2.1 k hk) (by omega)
      · exact q
theorem usort_the {ns ms : List Int} (g : ms.Pairwise (· < ·)) (h : ∀ k, k ∈ ms ↔ k ∈ ns) : ms = usort ns := asc_ext g (usort_lt ns) fun k => (h k).trans mem_usort.symm
section
variable {X : Cx} {B : XBt} {e : Expr} {pos p p2 pos2 : Pos} {f : Pg EV}
/-- set(l) -/
def rSetOfI (K : PySem.W.Frag) (w : World) : List V → Hp → VK → Prop := fun xs H Q => ∃ (a : Addr) (ns : List Int), xs = [.ref a] ∧ (SqL K H a (ns.map V.int) ∨ SqT K H a (ns.map V.int)) ∧ ns.length ≤ 4000 ∧ ∀ (p : Addr), H p = none → Q (.ref p) (upd H p (SetO w p (fun j => decide (j ∈ ns)) (usort ns).length))
theorem set_count {w : World} {h : Heap} {a : Addr} {ns : List Int} {c : Nat} (R : SetR w h a (fun j => decide (j ∈ ns)) c) : c = (usort ns).length := by
  obtain ⟨o, es, ep, t, _, _, _, _, nd, hm, _, _, hn, _⟩ := R
  have p : (es.toList.map keyOf).Perm (usort ns) := (List.perm_ext_iff_of_nodup nd ((usort_lt ns).imp fun h e => by rw [e] at h; omega)).mpr fun k => by
    rw [← hm k, mem_usort]
    simp
  have l := p.length_eq
  rw [List.length_map, Array.length_toList, hn] at l
  exact l
theorem cr_setOfI (hc : X.calm = true) : CallR X (.type "set") (rSetOfI X.K X.w) := by
  intro pins s sg H xs us Q I r ⟨a, ns, ex, hq, hl, q⟩
  subst ex
  rw [Vals.ref1 r]
  have few : ns.length + 1 < scanBound := by unfold scanBound; omega
  have fin : ∀ (h1 : Heap) (tk c : Nat), SetR X.w h1 s.heap.objs.size (fun j => decide (j ∈ ns)) c → c ≤ ns.length → (∀ b o, s.heap.get? b = some o → h1.get? b = some o) → EP X pins sg Q (.ref s.heap.objs.size) { s with heap := h1, toks := tk } := fun h1 tk c R hc k =>
    ⟨.ref s.heap.objs.size, upd H s.heap.objs.size (SetO X.w s.heap.objs.size (fun j => decide (j ∈ ns)) c), I.laid (t' := tk) k (Nat.le_refl _) (setO_new R), rfl, by
      have z := q _ (I.hok.fresh (Nat.le_refl s.heap.objs.size))
      rw [← set_count R] at z
      exact z⟩
  rcases hq with hq | hq
  · obtain ⟨its, rv, pl, hz⟩ := I.list hq
    exact call_set_lstI ns (I.ok.hd hc) pl.isList (by simpa using RZ.intsAre_vals rv) few fin
  · obtain ⟨its, rv, pl, hz⟩ := I.tuple hq
    exact call_set_tupI ns (I.ok.hd hc) pl (by simpa using RZ.intsAre_vals rv) few fin
def setS : PyData → Option EV
  | .list xs => match intsOf xs with
    | some ns => if (usort ns).length < 64 ∧ ns.length ≤ 4000 then some (.fresh ((usort ns).map .int)) else none
    | none => none
  | .tuple xs => match intsOf xs with
    | some ns => if (usort ns).length < 64 ∧ ns.length ≤ 4000 then some (.fresh ((usort ns).map .int)) else none
    | none => none
  | _ => none
def evSrtSet (f : Pg EV) : Pg EV := .bind f fun v => look (opnd v) fun x => optP (setS x)
theorem snd_srtSet {y z : Str} (C : Ctx X B) (h : Snd X B e f) (hg : Gl X y) (hm : X.mg y = none) (hv : bootBuiltins y = some (.builtin "sorted")) (hg2 : Gl X z) (hm2 : X.mg z = none) (hv2 : bootBuiltins z = some (.type "set"))
    (hn : y ≠ "__name__" := by decide) (hdb : (y == ("__debug__" : Str)) = false := by decide) (hn2 : z ≠ "__name__" := by decide) (hdb2 : (z == ("__debug__" : Str)) = false := by decide)
    (he : starEach [e] X.env = (false, eval e X.env) :: starEach [] X.env := by rfl) (he2 : starEach [.Call (.Name z p2) [e] [] pos2] X.env = (false, eval (.Call (.Name z p2) [e] [] pos2) X.env) :: starEach [] X.env := by rfl) :
    Snd X B (.Call (.Name y p) [.Call (.Name z p2) [e] [] pos2] [] pos) (evSrtSet f) := by
  intro w Q r hw
  refine we_of (pe_callB (cr_sortedSet C.calm) hg hm hv (pa_cons (pe_callTy (cr_setOfI C.calm) hg2 hm2 hv2 (pa_cons pe_w pa_nil he) hn2 hdb2 he rfl) pa_nil he2) hn hdb he2 rfl) ?_
  refine snd_then h r hw fun v w1 y e1 f1 r1 re h1 => ?_
  obtain ⟨x, ex, h1⟩ := look_ok h1
  have ro := (re.ro r1).rn r1 ex
  obtain ⟨u, eu, q⟩ := wp_opt h1
  have k := PostE.keep q e1 f1
  have fin : ∀ {xs : List PyData} {a : Addr} {vs : List V}, (match intsOf xs with
      | some ns => if (usort ns).length < 64 ∧ ns.length ≤ 4000 then some (EV.fresh ((usort ns).map .int)) else none
      | none => none) = some u → RA X.K w1.F xs vs → (SqL X.K w1.H a vs ∨ SqT X.K w1.H a vs) → rSetOfI X.K X.w [V.ref a] w1.H fun x H => rSortedSet X.w [x] H Q := fun {xs a vs} es ra hq => by
    cases ei : intsOf xs with
    | none =>
      rw [ei] at es
      cases es
    | some ns =>
      rw [ei] at es
      have es : (if (usort ns).length < 64 ∧ ns.length ≤ 4000 then some (EV.fresh ((usort ns).map .int)) else none) = some u := es
      split at es
      · rename_i hl
        cases es
        rw [intsOf_eq ei] at ra
        have ev := ra.intsV
        subst ev
        refine ⟨a, ns, rfl, hq, hl.2, fun p hp => ⟨p, _, _, rfl, upd_same, hl.1, fun ms q g1 g2 _ hq => ?_⟩⟩
        have hms : ms = usort ns := usort_the g1 fun k => (g2 k).trans (by simp)
        subst hms
        obtain ⟨r2, f2⟩ := lay r1 hp (SetO X.w p (fun j => decide (j ∈ ns)) (usort ns).length)
        have k2 : Keep X.K { w1 with H := upd w1.H p (SetO X.w p (fun j => decide (j ∈ ns)) (usort ns).length) } (.fresh ((usort ns).map .int)) Q := fun w' x em es f3 r3 re => k w' x em es (f2.trans f3) r3 re
        exact k2.lst r2 (.ints _) hq
      · cases es
  cases x with
  | list xs =>
    obtain ⟨a, vs, rfl, h1, h2⟩ := ro.lst r1.sub
    exact fin eu h2 (.inl h1.sq)
  | tuple xs =>
    obtain ⟨a, vs, rfl, h1, h2⟩ := ro.tup
    exact fin eu h2 (.inr (sqt_mono r1.sub h1))
  | _ => cases eu
/-! ### tuple(range(n)) -/
def tupRg : List OV → Option EV
  | [.d (.int j)] => if -(2 ^ 62) ≤ j ∧ j ≤ 16777216 then some (.d (.tuple (intsD 0 j.toNat))) else none
  | _ => none
def evTupRg (f : Pg EV) : Pg EV := .bind f fun v => look (opnd v) fun x => match x with
  | .int j => if -(2 ^ 62) ≤ j ∧ j ≤ 16777216 then .ret (.d (.tuple (intsD 0 j.toNat))) else .stuck
  | _ => .stuck
theorem rg_data {j : Int} : intsD 0 j.toNat = ((List.range j.toNat).map fun i : Nat => (0 : Int) + (i : Int)).map .int := by
  unfold intsD
  rw [List.map_map]
  rfl
theorem rgV_eq {j : Int} : rgV 0 j = ((List.range j.toNat).map fun i : Nat => (0 : Int) + (i : Int)).map V.int := by
  unfold rgV
  rw [List.map_map, Int.sub_zero]
  rfl
theorem snd_tupRg (C : Ctx X B) (h : Snd X B e f) (hg : Gl X "tuple") (hm : X.mg "tuple" = none) (hg2 : Gl X "range") (hm2 : X.mg "range" = none)
    (he : starEach [e] X.env = (false, eval e X.env) :: starEach [] X.env := by rfl) (he2 : starEach [.Call (.Name "range" p2) [e] [] pos2] X.env = (false, eval (.Call (.Name "range" p2) [e] [] pos2) X.env) :: starEach [] X.env := by rfl) :
    Snd X B (.Call (.Name "tuple" p) [.Call (.Name "range" p2) [e] [] pos2] [] pos) (evTupRg f) := by
  intro w Q r hw
  refine we_of (pe_tupRg C.calm hg hm (prg_1 hg2 hm2 pe_w he) he2) ?_
  refine snd_then h r hw fun v w1 y e1 f1 r1 re h1 => ?_
  obtain ⟨x, ex, h1⟩ := look_ok h1
  have ro := (re.ro r1).rn r1 ex
  cases x <;> try exact h1.elim
  rename_i j
  have h1 : ((if -(2 ^ 62) ≤ j ∧ j ≤ 16777216 then Pg.ret (EV.d (.tuple (intsD 0 j.toNat))) else .stuck) w1.m).wp (PostE X.K w Q) (XW X.K B w1) := h1
  split at h1
  · rename_i hj
    refine ⟨j, ro.int, ⟨by decide, by decide, hj.1, by omega, by omega⟩, fun q hq => ?_⟩
    have k : Keep X.K w1 (.d (.tuple (intsD 0 j.toNat))) Q := PostE.keep h1 e1 f1
    rw [rg_data] at k
    rw [rgV_eq]
    exact k.tup r1 (.ints _) hq
  · exact h1.elim
end
/-! ### rules of wishes -/
section
variable {m : Mem} {X : Exn → Mem → Prop} {E : EV → Mem → Prop} {P : List AV → Mem → Prop}
@[simp] theorem W_srtSet {f : Pg EV} : W (evSrtSet f) m X E ↔ W f m X fun v m1 => W (look (opnd v) fun x => optP (setS x)) m1 X E := by
  unfold evSrtSet
  simp only [W_bind]
@[simp] theorem setS_l {ns : List Int} : setS (.list (ns.map .int)) = if (usort ns).length < 64 ∧ ns.length ≤ 4000 then some (.fresh ((usort ns).map .int)) else none := by
  simp only [setS, intsOf_map]
@[simp] theorem setS_t {ns : List Int} : setS (.tuple (ns.map .int)) = if (usort ns).length < 64 ∧ ns.length ≤ 4000 then some (.fresh ((usort ns).map .int)) else none := by
  simp only [setS, intsOf_map]
theorem W_tupRg {f : Pg EV} : W (evTupRg f) m X E ↔ W f m X fun v m1 => W (look (opnd v) fun x => match x with
  | .int j => if -(2 ^ 62) ≤ j ∧ j ≤ 16777216 then .ret (.d (.tuple (intsD 0 j.toNat))) else .stuck
  | _ => .stuck) m1 X E := by
  unfold evTupRg
  simp only [W_bind]
@[simp] theorem W_callD {g : Fn} {n k q : Nat} {is : List Nat} {ds : List PyData} {fa fk : Pg (List AV)} : W (evCallD g n k q is ds fa fk) m X E ↔ W fa m X fun vs m1 => W fk m1 X fun zs m2 => W (if vs.length = n ∧ zs.length = k ∧ (pick is (vs ++ zs ++ dAV ds)).length = q then callS g (pick is (vs ++ zs ++ dAV ds)) else .stuck) m2 X E := by
  unfold evCallD
  simp only [W_bind]
@[simp] theorem W_callS' {full : Bool} {g : Fn} {n k q : Nat} {is : List Nat} {ds : List PyData} {fa fk : Pg (List AV)} : W (evCallS g full n k q is ds fa fk) m X E ↔ W fa m X fun vs m1 => W fk m1 X fun zs m2 => W (if (full = true ∨ vs.length = n) ∧ n ≤ vs.length ∧ zs.length = k ∧ (pick is (vs.take n ++ zs ++ dAV ds)).length + 1 = q then
  .bind (optP (restD (vs.drop n))) fun xs => callS g (pick is (vs.take n ++ zs ++ dAV ds) ++ [.d (.tuple xs)]) else .stuck) m2 X E := by
  unfold evCallS
  simp only [W_bind]
@[simp] theorem W_star {f : Pg EV} : W (evStar f) m X P ↔ W f m X fun v m1 => ∃ a, starL v = some a ∧ P a m1 := by
  unfold evStar
  simp only [W_bind, W_opt]
@[simp] theorem starL_dl {xs : List PyData} : starL (.d (.list xs)) = some (dAV xs) := rfl
@[simp] theorem starL_dt {xs : List PyData} : starL (.d (.tuple xs)) = some (dAV xs) := rfl
@[simp] theorem starL_n {xs : List PyData} : starL (.new (.lst xs)) = some (dAV xs) := rfl
@[simp] theorem starL_p {i : Nat} {xs : List PyData} : starL (.pk i (.lst xs)) = some (dAV xs) := rfl
@[simp] theorem dataOf_dAV : ∀ xs : List PyData, dataOf (dAV xs) = some xs
  | [] => rfl
  | x :: xs => by
    show dataOf (.d x :: dAV xs) = _
    rw [dataOf_cons, dataOf_dAV xs]
    rfl
end
end Ev

namespace Ev
open PySem PySem.Spec PyProof.Rows L2

/-! ### what the module's written part holds, read as data -/
def rdL (f : Value → Option PyData) : List Value → Option (List PyData)
  | [] => some []
  | u :: us => (f u).bind fun d => (rdL f us).map (d :: ·)
def rdK (K : PySem.W.Frag) : Nat → Value → Option PyData
  | _, .none => some .none
  | _, .bool b => some (.bool b)
  | _, .int i _ => some (.int i)
  | _, .str s _ => some (.str s)
  | n + 1, .ref a => (K.lookup a).bind fun o => match o.data with
    | .seq its _ => if o.cls == .type "tuple" && decide (its.size ≤ 1000) then (rdL (rdK K n) its.toList).map .tuple else none
    | _ => none
  | _, _ => none
theorem rdL_ok {K : PySem.W.Frag} {f : Value → Option PyData} (hf : ∀ u d, f u = some d → ∃ v, RelV v u ∧ ∀ F, R K F d v) : ∀ {us : List Value} {ds : List PyData}, rdL f us = some ds → ∃ vs, Vals vs us ∧ ∀ F, RA K F ds vs
  | [], ds, e => by
    cases e
    exact ⟨[], .nil, fun _ => .nil⟩
  | u :: us, ds, e => by
    unfold rdL at e
    cases e1 : f u with
    | none =>
      rw [e1] at e
      cases e
    | some d =>
      rw [e1] at e
      cases e2 : rdL f us with
      | none =>
        rw [e2] at e
        cases e
      | some es =>
        rw [e2] at e
        cases e
        obtain ⟨v, h1, h2⟩ := hf u d e1
        obtain ⟨vs, h3, h4⟩ := rdL_ok hf e2
        exact ⟨v :: vs, .cons h1 h3, fun F => .cons (h2 F) (h4 F)⟩
/-- a tuple of the written part -/
def KTup (K : PySem.W.Frag) (a : Addr) (ds : List PyData) : Prop := ∃ (o : Obj) (its : Array Value) (n : Nat) (vs : List V), K.lookup a = some o ∧ o.cls = .type "tuple" ∧ o.data = .seq its n ∧ its.size ≤ 1000 ∧ Vals vs its.toList ∧ ∀ F, RA K F ds vs
theorem rdK_tup {K : PySem.W.Frag} {n : Nat} {a : Addr} {d : PyData} (hf : ∀ u d, rdK K n u = some d → ∃ v, RelV v u ∧ ∀ F, R K F d v) (e : rdK K (n + 1) (.ref a) = some d) : ∃ ds, d = .tuple ds ∧ KTup K a ds := by
  have e : ((K.lookup a).bind fun o => match o.data with
    | .seq its _ => if o.cls == .type "tuple" && decide (its.size ≤ 1000) then (rdL (rdK K n) its.toList).map PyData.tuple else none
    | _ => none) = some d := e
  cases el : K.lookup a with
  | none =>
    rw [el] at e
    cases e
  | some o =>
    rw [el] at e
    have e : (match o.data with
      | .seq its _ => if o.cls == .type "tuple" && decide (its.size ≤ 1000) then (rdL (rdK K n) its.toList).map PyData.tuple else none
      | _ => none) = some d := e
    split at e
    · rename_i its m ed
      split at e
      · rename_i hc
        simp only [Bool.and_eq_true, decide_eq_true_eq] at hc
        cases e2 : rdL (rdK K n) its.toList with
        | none =>
          rw [e2] at e
          cases e
        | some ds =>
          rw [e2] at e
          cases e
          obtain ⟨vs, h3, h4⟩ := rdL_ok hf e2
          exact ⟨ds, rfl, o, its, m, vs, el, beq_iff_eq.mp hc.1, ed, hc.2, h3, h4⟩
      · cases e
    · cases e
theorem rdK_ok {K : PySem.W.Frag} : ∀ (n : Nat) (u : Value) (d : PyData), rdK K n u = some d → ∃ v, RelV v u ∧ ∀ F, R K F d v
  | n, .none, d, e => by
    cases n <;> (cases e; exact ⟨.non, rfl, fun _ => .non⟩)
  | n, .bool b, d, e => by
    cases n <;> (cases e; exact ⟨.bl b, rfl, fun _ => .bl b⟩)
  | n, .int i t, d, e => by
    cases n <;> (cases e; exact ⟨.int i, ⟨t, rfl⟩, fun _ => .int i⟩)
  | n, .str s t, d, e => by
    cases n <;> (cases e; exact ⟨.str s, ⟨t, rfl⟩, fun _ => .str s⟩)
  | 0, .ref a, d, e => by cases e
  | n + 1, .ref a, d, e => by
    obtain ⟨ds, rfl, o, its, m, vs, h1, h2, h3, h4, h5, h6⟩ := rdK_tup (rdK_ok n) e
    exact ⟨.ref a, rfl, fun F => .tup (.inr ⟨o, its, m, h1, h2, h3, by rw [sizeLine_eq]; omega, h5⟩) (h6 F)⟩
  | n, .float _ _, d, e => by cases n <;> cases e
  | n, .bytes _ _, d, e => by cases n <;> cases e
  | n, .type _, d, e => by cases n <;> cases e
  | n, .builtin _, d, e => by cases n <;> cases e
  | n, .ellipsis, d, e => by cases n <;> cases e
  | n, .notImplemented, d, e => by cases n <;> cases e
theorem gm_rd {K : PySem.W.Frag} {mg : Str → Option Value} {x : Str} {u : Value} {n : Nat} {d : PyData} (h : mg x = some u) (e : rdK K n u = some d) : GM K mg x d := by
  obtain ⟨v, h1, h2⟩ := rdK_ok n u d e
  exact ⟨v, u, h, h1, h2⟩
/-- a module's name that holds a written tuple -/
def GT (K : PySem.W.Frag) (mg : Str → Option Value) (x : Str) (ds : List PyData) : Prop := ∃ a, mg x = some (.ref a) ∧ KTup K a ds ∧ ∃ o, K.lookup a = some o ∧ o.dict = none
def noDict (K : PySem.W.Frag) (u : Value) : Bool := match u with
  | .ref a => match K.lookup a with
    | some o => o.dict.isNone
    | none => false
  | _ => false
theorem gt_rd {K : PySem.W.Frag} {mg : Str → Option Value} {x : Str} {u : Value} {n : Nat} {ds : List PyData} (h : mg x = some u) (e : rdK K (n + 1) u = some (.tuple ds)) (hd : noDict K u = true) : GT K mg x ds := by
  cases u with
  | ref a =>
    obtain ⟨ds', e1, k⟩ := rdK_tup (rdK_ok n) e
    cases e1
    unfold noDict at hd
    dsimp only at hd
    split at hd
    · rename_i o ho
      exact ⟨a, h, k, o, ho, by simpa using hd⟩
    · cases hd
  | _ => simp [noDict] at hd
end Ev

namespace Ev
open PySem PySem.Spec PyProof.Rows L2
section
variable {X : Cx} {B : XBt} {e o : Expr} {es : List Expr} {pos p : Pos} {f fo fa : Pg EV}
/-! ### TUP.index(e), TUP a written tuple of the module -/
def rTIndexD (K : PySem.W.Frag) : V → List V → Hp → VK → Prop := fun x xs H Q => ∃ (a : Addr) (y : V) (d : PyData) (ds : List PyData) (vs : List V) (j : Nat) (z : PyData), x = V.ref a ∧ xs = [y] ∧ SqT K H a vs ∧ DpAll K H vs ds ∧ Dp K H y d ∧
  PyData.canLayAll0 ds = true ∧ SeqAt.shaped d = true ∧ ds[j]? = some z ∧ PyData.eqv z d = true ∧ (∀ (m : Nat) (z' : PyData), m < j → ds[m]? = some z' → PyData.eqv z' d = false) ∧ Q (.int (j : Nat)) H
theorem mt_tindexD (hu : X.A.units + 65 < cLine) : MtR X "tuple.index" (rTIndexD X.K) := by
  intro pins s σ H x xs v us Q I rx rxs h
  obtain ⟨a, y, d, ds, vs, j, z, rfl, rfl, hq, ha, hy, hxs, sd, hz, hzj, hno, q⟩ := h
  cases rx
  cases rxs with
  | cons ry rt =>
    rename_i uy ut
    cases rt
    obtain ⟨bs, r1⟩ := Dp.reads I d y uy hy ry
    have hroom : X.A.units + 1 + min (PyData.depthAll ds) d.depth < cLine := in_room sd hu
    obtain ⟨its, rv, ⟨⟨cls, dd, data, sls⟩, ho, hc, n, hdt⟩, hlen⟩ := I.tuple hq
    simp only at hc hdt
    subst hc hdt
    obtain ⟨as, h4⟩ := Dp.readsAll I ds _ its ha rv
    have hn : its.length = ds.length := SeqAt.ReadsAll.length ds its as h4
    have hmap : its.map (SeqAt.readOf s.heap) = ds := SeqAt.readsAll_map ds its as hxs h4
    have hvl := rv.length
    have hsl := sizeLine_eq
    obtain ⟨hjd, _⟩ := List.getElem?_eq_some_iff.mp hz
    have hjl : j < its.length := by omega
    have hj : j < its.toArray.size := by simpa using hjl
    have at_ : ∀ (m : Nat) (hm : m < its.toArray.size) (z' : PyData), ds[m]? = some z' → SeqAt.readOf s.heap its.toArray[m] = z' := by
      intro m hm z' hz'
      have hml : m < its.length := by simpa using hm
      rw [← hmap, List.getElem?_map, List.getElem?_eq_getElem hml] at hz'
      have e1 : SeqAt.readOf s.heap its[m] = z' := Option.some.inj (show some (SeqAt.readOf s.heap its[m]) = some z' from hz')
      simpa using e1
    refine call_meets PySem.F.slot_tuple_index ⟨_, ho, rfl⟩ PySem.F.entry_tuple_index (PySem.F.args_tuple_index_2 _ _)
      (TI.tuple_indexAt a its.toArray n dd sls uy (fun u => PyData.eqv (SeqAt.readOf s.heap u) d) j hj ?_ ?_) ⟨ho, SeqAt.items_eqAt (vs := its.toArray) (show ReadsAll s.heap its.toArray.toList ds as from h4) r1 hxs (SeqAt.canLay_of_shaped sd) hroom, ?_⟩
    · show PyData.eqv (SeqAt.readOf s.heap its.toArray[j]) d = true
      rw [at_ j hj z hz]
      exact hzj
    · intro m hm hmj
      have hmd : m < ds.length := by omega
      have hz' : ds[m]? = some ds[m] := List.getElem?_eq_getElem hmd
      show PyData.eqv (SeqAt.readOf s.heap its.toArray[m]) d = false
      rw [at_ m hm _ hz']
      exact hno m _ hmj hz'
    · exact ⟨.int (j : Nat), H, I.tok _, ⟨_, rfl⟩, q⟩
/-- the first place of an equal one -/
def idxD (ds : List PyData) (d : PyData) : Option EV := if PyData.canLayAll0 ds && SeqAt.shaped d then (ds.findIdx? fun z => PyData.eqv z d).map fun j => .d (.int (j : Nat)) else none
theorem idxD_ok {ds : List PyData} {d : PyData} {v : EV} (h : idxD ds d = some v) : ∃ (j : Nat) (z : PyData), v = .d (.int (j : Nat)) ∧ PyData.canLayAll0 ds = true ∧ SeqAt.shaped d = true ∧ ds[j]? = some z ∧ PyData.eqv z d = true ∧ ∀ (m : Nat) (z' : PyData), m < j → ds[m]? = some z' → PyData.eqv z' d = false := by
  unfold idxD at h
  split at h
  · rename_i hc
    simp only [Bool.and_eq_true] at hc
    cases e : ds.findIdx? fun z => PyData.eqv z d with
    | none =>
      rw [e] at h
      cases h
    | some j =>
      rw [e] at h
      cases h
      obtain ⟨hj, h1, h2⟩ := List.findIdx?_eq_some_iff_getElem.mp e
      refine ⟨j, ds[j], rfl, hc.1, hc.2, List.getElem?_eq_getElem hj, h1, fun m z' hm hz => ?_⟩
      have hml : m < ds.length := by omega
      rw [List.getElem?_eq_getElem hml] at hz
      cases hz
      simpa using h2 m hm
  · cases h
def evIdxC (ds : List PyData) (f : Pg EV) : Pg EV := .bind f fun v => look (opnd v) fun d => optP (idxD ds d)
theorem RA.dpAll {K : PySem.W.Frag} {F : Hp} {ds : List PyData} {vs : List V} (h : RA K F ds vs) (c : PyData.canLayAll0 ds = true) : DpAll K F vs ds := RA.dp (Same.refl _) h c
def tGlobV (a : Addr) : TE := fun _ H Q => Q (.ref a) H
theorem pe_globV {x : Str} {a : Addr} (hg : Gl X x) (hm : X.mg x = some (.ref a)) (hdb : (x == ("__debug__" : Str)) = false := by decide) : PE X (.Name x p) (tGlobV a) :=
  ⟨fun pins s sg H Q I h => ld_glob I hg hm ⟨.ref a, H, I, rfl, h⟩ hdb⟩
theorem snd_idxC {x : Str} {ds : List PyData} {apos cpos np : Pos} (C : Ctx X B) (hg : Gl X x) (h : GT X.K X.mg x ds) (he : Snd X B e f) (hdb : (x == ("__debug__" : Str)) = false := by decide)
    (hbase : attributeBase (.Name x np) "index" X.env (eval (.Name x np) X.env) = eval (.Name x np) X.env := by rfl)
    (hfew : ((backTo cpos (starEach [e] X.env)).all (fun x => !x.1) && (backToKw cpos (keywordEach [] X.env)).all (fun x => x.1.isSome)
      && decide ([e].length + ([] : List Keyword).length + (if ([] : List Keyword).isEmpty then 0 else 1) < 30)) = true := by rfl)
    (hline : (apos.endLine == cpos.line) = true := by rfl) (hs : starEach [e] X.env = (false, eval e X.env) :: starEach [] X.env := by rfl) :
    Snd X B (.Call (.Attribute (.Name x np) "index" apos) [e] [] cpos) (evIdxC ds f) := by
  obtain ⟨a, hm, ⟨o, its, n, vs, k1, k2, k3, k4, k5, k6⟩, o', k7, k8⟩ := h
  rw [k1] at k7
  cases k7
  intro w Q r hw
  refine we_of (pe_bm PySem.F.plainAttrs_tuple PySem.F.slot_tuple_index PySem.F.type_tuple_index (mt_tindexD C.u65) (pe_globV hg hm hdb) (pa_cons pe_w pa_nil hs) hbase hfew hline hs rfl) ?_
  refine ⟨.inr (.inl ⟨rfl, o, k1, k2, k8⟩), ?_⟩
  refine snd_then he r hw fun v w1 y e1 f1 r1 re h1 => ?_
  obtain ⟨d, ed, h1⟩ := look_ok h1
  have ro := (re.ro r1).rn r1 ed
  obtain ⟨u, eu, q⟩ := wp_opt h1
  obtain ⟨j, z, rfl, c1, c2, c3, c4, c5⟩ := idxD_ok eu
  exact ⟨a, y, d, ds, vs, j, z, rfl, rfl, .inr ⟨o, its, n, k1, k2, k3, by rw [sizeLine_eq]; omega, k5⟩, (k6 w1.H).dpAll c1, ro.dp r1.sub (SeqAt.canLay_of_shaped c2), c1, c2, c3, c4, c5, q w1 _ rfl e1 f1 r1 (.int _)⟩
/-! ### l.index(e) -/
def evIdxL (fo f : Pg EV) : Pg EV := .bind fo fun u => look (opnd u) fun x0 => match x0 with
  | .list _ => .bind f fun v => look (opnd u) fun x => look (opnd v) fun d => match x with
    | .list ds => if SeqAt.shaped (.list ds) then optP (idxD ds d) else .stuck
    | _ => .stuck
  | _ => .stuck
theorem snd_idxL {apos cpos : Pos} (C : Ctx X B) (ho : Snd X B o fo) (he : Snd X B e f)
    (hbase : attributeBase o "index" X.env (eval o X.env) = eval o X.env := by rfl)
    (hfew : ((backTo cpos (starEach [e] X.env)).all (fun x => !x.1) && (backToKw cpos (keywordEach [] X.env)).all (fun x => x.1.isSome)
      && decide ([e].length + ([] : List Keyword).length + (if ([] : List Keyword).isEmpty then 0 else 1) < 30)) = true := by rfl)
    (hline : (apos.endLine == cpos.line) = true := by rfl) (hs : starEach [e] X.env = (false, eval e X.env) :: starEach [] X.env := by rfl) :
    Snd X B (.Call (.Attribute o "index" apos) [e] [] cpos) (evIdxL fo f) := by
  intro w Q r hw
  refine we_of (pe_bm PySem.F.plainAttrs_list PySem.F.slot_list_index PySem.F.type_list_index (mt_indexD C.u65) pe_w (pa_cons pe_w pa_nil hs) hbase hfew hline hs rfl) ?_
  refine snd_then ho r hw fun u w0 x e0 f0 r0 re0 h0 => ?_
  obtain ⟨x0, ex0, h0⟩ := look_ok h0
  have ro0 := (re0.ro r0).rn r0 ex0
  cases x0 <;> try exact h0.elim
  rename_i ys
  obtain ⟨a, us, rfl, g1, g2⟩ := ro0.lst r0.sub
  refine ⟨.inl ⟨rfl, us, g1.sq⟩, ?_⟩
  rw [← e0]
  refine snd_then he r0 h0 fun v w1 y e1 f1 r1 re h1 => ?_
  obtain ⟨x, ex, h1⟩ := look_ok h1
  obtain ⟨d, ed, h1⟩ := look_ok h1
  have rx := ((re0.ro r0).fol r0 f1).rn r1 ex
  have ro := (re.ro r1).rn r1 ed
  cases x with
  | list ds =>
    have h1 : ((if SeqAt.shaped (.list ds) then optP (idxD ds d) else .stuck : Pg EV) w1.m).wp (PostE X.K w Q) (XW X.K B w1) := h1
    split at h1
    · rename_i hsh
      obtain ⟨u, eu, q⟩ := wp_opt h1
      obtain ⟨j, z, rfl, c1, c2, c3, c4, c5⟩ := idxD_ok eu
      exact ⟨a, y, d, ds, j, z, rfl, rfl, rx.dp r1.sub (SeqAt.canLay_of_shaped hsh), ro.dp r1.sub (SeqAt.canLay_of_shaped c2), hsh, c2, c3, c4, c5, q w1 _ rfl (e1.trans e0) (f0.trans f1) r1 (.int _)⟩
    · exact h1.elim
  | _ => exact h1.elim
end
/-! ### dict(l), l a list of pairs -/
section
variable {X : Cx} {B : XBt}
def prsOf : List PyData → Option (List (PyData × PyData))
  | [] => some []
  | .tuple [k, v] :: r => if keyB k then (prsOf r).map ((k, v) :: ·) else none
  | _ => none
def mergeD (es more : List (PyData × PyData)) : List (PyData × PyData) := more.foldl (fun acc kv => dPut acc kv.1 kv.2) es
theorem RK.merge {K : PySem.W.Frag} {F : Hp} {more : List (PyData × PyData)} : ∀ {es : List (PyData × PyData)} {mvs kvs : List (Key × V)}, RK K F es kvs → RK K F more mvs → RK K F (mergeD es more) (mergeK kvs mvs) := by
  induction more with
  | nil =>
    intro es mvs kvs h g
    cases g
    exact h
  | cons p more ih =>
    intro es mvs kvs h g
    cases g with
    | @cons k d es' v kvs' hd t =>
      show RK K F (mergeD (dPut es (keyD k) d) more) (mergeK (putK kvs k v) kvs')
      exact ih (h.put hd k) t
theorem kV_of {K : PySem.W.Frag} {F : Hp} {kk : Key} {v : V} (h : R K F (keyD kk) v) : v = kV kk := by
  cases kk with
  | inl i =>
    cases (show R K F (.int i) v from h)
    rfl
  | inr i =>
    cases (show R K F (.str i) v from h)
    rfl
theorem prs_ok {K : PySem.W.Frag} {F H : Hp} (sm : Same F H) : ∀ {xs : List PyData} {ps : List (PyData × PyData)} {vs : List V}, RA K F xs vs → prsOf xs = some ps →
    ∃ (as : List Addr) (kvs : List (Key × V)), vs = as.map V.ref ∧ Paired (fun p kv => SqT K H p [kV kv.1, kv.2]) as kvs ∧ RK K F ps kvs
  | [], ps, vs, h, e => by
    cases h
    cases e
    exact ⟨[], [], rfl, .nil, .nil⟩
  | x :: xs, ps, _, .cons h t, e => by
    unfold prsOf at e
    split at e
    · rename_i q
      cases q
    · rename_i k v r q
      cases q
      split at e
      · rename_i hk
        cases e1 : prsOf xs with
        | none =>
          rw [e1] at e
          cases e
        | some qs =>
          rw [e1] at e
          cases e
          obtain ⟨as, kvs, h1, h2, h3⟩ := prs_ok sm t e1
          obtain ⟨kk, rfl⟩ := keyD_of hk
          cases h with
          | @tup a ws ds hq ra =>
            cases ra with
            | cons g1 g2 =>
              cases g2 with
              | cons g2 g3 =>
                cases g3
                rename_i y
                rw [kV_of g1] at hq
                exact ⟨a :: as, (kk, y) :: kvs, by rw [h1]; rfl, .cons (sqt_mono sm hq) h2, .cons g2 h3⟩
      · cases e
    · cases e
def gDict : List PyData → Option EV
  | [.list xs] => (prsOf xs).map fun ps => .new (.dic (mergeD [] ps))
  | _ => none
theorem ok_dict (C : Ctx X B) : BOk X (.type "dict") gDict := by
  intro w ds xs v Q r h e k
  cases h with
  | nil => cases e
  | @cons d x ds xs h t =>
    cases t with
    | cons _ _ => cases d <;> cases e
    | nil =>
      cases d <;> try (cases e; done)
      rename_i ys
      have e : (prsOf ys).map (fun ps => EV.new (.dic (mergeD [] ps))) = some v := e
      cases q : prsOf ys with
      | none =>
        rw [q] at e
        cases e
      | some ps =>
        rw [q] at e
        cases e
        obtain ⟨a, vs, rfl, h1, h2⟩ := h.lst r.sub
        obtain ⟨as, kvs, h3, h4, h5⟩ := prs_ok r.sub h2 q
        subst h3
        refine ⟨_, call_dictP C.calm, a, as, kvs, rfl, h1.sq, h4, fun p hp => ?_⟩
        exact k { w with H := upd w.H p (.dK (mergeK [] kvs)) } (.ref p) rfl rfl (lay r hp _).2 (lay r hp _).1 (lay_dic r hp (RK.merge .nil h5))
end
/-! ### zip(a, b), enumerate(l): what is walked -/
def zipD (xs ys : List PyData) : List PyData := List.zipWith (fun a b => .tuple [a, b]) xs ys
theorem zip_get {xs ys : List PyData} {i : Nat} {d : PyData} (h : (zipD xs ys)[i]? = some d) : ∃ a b, xs[i]? = some a ∧ ys[i]? = some b ∧ d = .tuple [a, b] := by
  unfold zipD at h
  rw [List.getElem?_zipWith] at h
  cases e1 : xs[i]? with
  | none =>
    rw [e1] at h
    cases h
  | some a =>
    cases e2 : ys[i]? with
    | none =>
      rw [e1, e2] at h
      cases h
    | some b =>
      rw [e1, e2] at h
      cases h
      exact ⟨a, b, rfl, rfl, rfl⟩
/-- a new pair, laid for good -/
theorem pair_laid {K : PySem.W.Frag} {w1 : Wd} {T : Addr} {x y : V} {d e : PyData} (r : Rep K w1) (hT : w1.H T = none) (hx : R K w1.F d x) (hy : R K w1.F e y) :
    ∃ w2 : Wd, w2.m = w1.m ∧ w2.sg = w1.sg ∧ w2.H = upd w1.H T (.tup [x, y]) ∧ FolE w1 w2 ∧ Rep K w2 ∧ R K w2.F (.tuple [d, e]) (.ref T) ∧ ∀ a, w2.F a ≠ none → w1.F a ≠ none ∨ w1.H a = none := by
  obtain ⟨r2, f2⟩ := layFix r hT (.tup [x, y])
  refine ⟨{ w1 with F := upd w1.F T (.tup [x, y]), H := upd w1.H T (.tup [x, y]) }, rfl, rfl, rfl, f2, r2, .tup (.inl (.inl upd_same)) (.cons (hx.mono f2.ext) (.cons (hy.mono f2.ext) .nil)), fun a h => ?_⟩
  by_cases q : a = T
  · rw [q]
    exact .inr hT
  · exact .inl (by
      have h : upd w1.F T (.tup [x, y]) a ≠ none := h
      rw [upd_ne q] at h
      exact h)
theorem iters_zipL {K : PySem.W.Frag} {w : Wd} {a b : Addr} {xs ys : List V} {ds es : List PyData} (ha : LQ K w.F a xs) (hb : LQ K w.F b ys) (ra : RA K w.F ds xs) (rb : RA K w.F es ys) : Iters K w (Itz K a b) (zipD ds es) := by
  intro w1 f r i
  have qa : SqL K w1.H a xs := ((ha.mono f.ext).mono r.sub).sq
  have qb : SqL K w1.H b ys := ((hb.mono f.ext).mono r.sub).sq
  refine ⟨fun d hd => ?_, fun hl => ⟨xs, ys, qa, qb, ?_⟩⟩
  · obtain ⟨d1, d2, h1, h2, rfl⟩ := zip_get hd
    obtain ⟨x, hx, rx⟩ := ra.get h1
    obtain ⟨y, hy, ry⟩ := rb.get h2
    refine ⟨⟨xs, ys, x, y, qa, qb, hx, hy⟩, fun v H' yl => ?_⟩
    obtain ⟨T, x', y', rfl, hT, rfl, g1, g2⟩ := yl
    have e1 := (g1 xs qa).symm.trans hx
    have e2 := (g2 ys qb).symm.trans hy
    cases e1
    cases e2
    exact pair_laid r hT (rx.mono f.ext) (ry.mono f.ext)
  · rw [← ra.len, ← rb.len]
    unfold zipD at hl
    rw [List.length_zipWith] at hl
    omega
theorem iters_zipT {K : PySem.W.Frag} {w : Wd} {a b : Addr} {xs ys : List V} {ds es : List PyData} (ha : SqT K w.F a xs) (hb : SqT K w.F b ys) (ra : RA K w.F ds xs) (rb : RA K w.F es ys) : Iters K w (RZ.ItzT K a b) (zipD ds es) := by
  intro w1 f r i
  have qa : SqT K w1.H a xs := sqt_mono r.sub (sqt_mono f.ext ha)
  have qb : SqT K w1.H b ys := sqt_mono r.sub (sqt_mono f.ext hb)
  refine ⟨fun d hd => ?_, fun hl => ⟨xs, ys, qa, qb, ?_⟩⟩
  · obtain ⟨d1, d2, h1, h2, rfl⟩ := zip_get hd
    obtain ⟨x, hx, rx⟩ := ra.get h1
    obtain ⟨y, hy, ry⟩ := rb.get h2
    refine ⟨⟨xs, ys, x, y, qa, qb, hx, hy⟩, fun v H' yl => ?_⟩
    obtain ⟨T, x', y', rfl, hT, rfl, g1, g2⟩ := yl
    have e1 := (g1 xs qa).symm.trans hx
    have e2 := (g2 ys qb).symm.trans hy
    cases e1
    cases e2
    exact pair_laid r hT (rx.mono f.ext) (ry.mono f.ext)
  · rw [← ra.len, ← rb.len]
    unfold zipD at hl
    rw [List.length_zipWith] at hl
    omega
def zipS : List AV → Option (List PyData)
  | [.d (.list xs), .d (.list ys)] => some (zipD xs ys)
  | [.d (.tuple xs), .d (.tuple ys)] => some (zipD xs ys)
  | _ => none
def evZip (fa : Pg (List AV)) : Pg (List PyData) := .bind fa fun vs => optP (zipS vs)
section
variable {X : Cx} {B : XBt} {e e2 : Expr} {p pos tpos : Pos} {elts : List Expr} {kk : Nat} {fa : Pg (List AV)}
theorem sndI_zip (hg : Gl X "zip") (hm : X.mg "zip" = none) (ha : SndA X B [e, e2] fa) (hs : starEach [e, e2] X.env = (false, eval e X.env) :: starEach [e2] X.env := by rfl) (hpl : (backTo pos (starEach [e2] X.env)).any (·.1) = false := by rfl) :
    SndI X B (.Tuple elts kk tpos) (.Call (.Name "zip" p) [e, e2] [] pos) (evZip fa) := by
  intro w Q r hw
  refine ⟨_, RZ.pi_zipA hg hm pa_w hs hpl, ?_⟩
  refine sndA_then ha r hw fun vs w1 xs e1 f1 r1 rv h1 => ?_
  obtain ⟨ds, ed, q⟩ := wp_opt h1
  unfold zipS at ed
  split at ed
  · rename_i us ws
    cases ed
    cases rv with
    | cons h t =>
      cases t with
      | cons h' t =>
        cases t
        cases h with
        | lst ha ra =>
          cases h' with
          | lst hb rb => exact ⟨_, _, _, _, rfl, .inl ⟨(ha.mono r1.sub).sq, (hb.mono r1.sub).sq, q w1 _ rfl e1 f1 r1 (iters_zipL ha hb ra rb)⟩⟩
  · rename_i us ws
    cases ed
    cases rv with
    | cons h t =>
      cases t with
      | cons h' t =>
        cases t
        cases h with
        | tup ha ra =>
          cases h' with
          | tup hb rb => exact ⟨_, _, _, _, rfl, .inr ⟨sqt_mono r1.sub ha, sqt_mono r1.sub hb, q w1 _ rfl e1 f1 r1 (iters_zipT ha hb ra rb)⟩⟩
  · cases ed
/-- enumerate of a list -/
def enumD (xs : List PyData) : List PyData := xs.mapIdx fun i x => .tuple [.int (i : Nat), x]
theorem iters_enum {K : PySem.W.Frag} {w : Wd} {a : Addr} {xs : List V} {ds : List PyData} (ha : LQ K w.F a xs) (ra : RA K w.F ds xs) : Iters K w (Ite K a) (enumD ds) := by
  intro w1 f r i
  have qa : SqL K w1.H a xs := ((ha.mono f.ext).mono r.sub).sq
  refine ⟨fun d hd => ?_, fun hl => ⟨xs, qa, ?_⟩⟩
  · unfold enumD at hd
    rw [List.getElem?_mapIdx] at hd
    cases e1 : ds[i]? with
    | none =>
      rw [e1] at hd
      cases hd
    | some d1 =>
      rw [e1] at hd
      cases hd
      obtain ⟨x, hx, rx⟩ := ra.get e1
      refine ⟨⟨xs, x, qa, hx⟩, fun v H' yl => ?_⟩
      obtain ⟨T, x', rfl, hT, rfl, g1⟩ := yl
      have e1 := (g1 xs qa).symm.trans hx
      cases e1
      exact pair_laid r hT (.int _) (rx.mono f.ext)
  · rw [← ra.len]
    unfold enumD at hl
    rw [List.length_mapIdx] at hl
    exact hl
def enumS : List AV → Option (List PyData)
  | [.d (.list xs)] => some (enumD xs)
  | _ => none
def evEnum (fa : Pg (List AV)) : Pg (List PyData) := .bind fa fun vs => optP (enumS vs)
theorem sndI_enum (hg : Gl X "enumerate") (hm : X.mg "enumerate" = none) (ha : SndA X B [e] fa) (hs : starEach [e] X.env = [(false, eval e X.env)] := by rfl) :
    SndI X B (.Tuple elts kk tpos) (.Call (.Name "enumerate" p) [e] [] pos) (evEnum fa) := by
  intro w Q r hw
  refine ⟨_, pi_enum hg hm pa_w hs, ?_⟩
  refine sndA_then ha r hw fun vs w1 xs e1 f1 r1 rv h1 => ?_
  obtain ⟨ds, ed, q⟩ := wp_opt h1
  unfold enumS at ed
  split at ed
  · cases ed
    cases rv with
    | cons h t =>
      cases t
      cases h with
      | lst ha ra => exact ⟨_, _, rfl, (ha.mono r1.sub).sq, q w1 _ rfl e1 f1 r1 (iters_enum ha ra)⟩
  · cases ed
end
end Ev

namespace Ev
open PySem PySem.Spec PyProof.Rows L2
/-! ### D.get(e, c), D a written dict of the module (keys texts) -/
def rdD (K : PySem.W.Frag) : List DictEntry → Option (List (Str × PyData))
  | [] => some []
  | en :: r => match en.key with
    | .str x _ => (rdK K 3 en.val).bind fun d => (rdD K r).map ((x, d) :: ·)
    | _ => none
theorem rdD_find {K : PySem.W.Frag} : ∀ {des : List DictEntry} {es : List (Str × PyData)}, rdD K des = some es → ∀ k : Str,
    (es.lookup k = none → findBy PySem.Value.isStrOf des.toArray k = none) ∧ ∀ d, es.lookup k = some d → ∃ u v, findBy PySem.Value.isStrOf des.toArray k = some u ∧ RelV v u ∧ ∀ F, R K F d v
  | [], es, e, k => by
    cases e
    exact ⟨fun _ => rfl, fun d h => by cases h⟩
  | en :: r, es, e, k => by
    unfold rdD at e
    split at e
    · rename_i x t ek
      cases e1 : rdK K 3 en.val with
      | none =>
        rw [e1] at e
        cases e
      | some d0 =>
        rw [e1] at e
        cases e2 : rdD K r with
        | none =>
          rw [e2] at e
          cases e
        | some fs =>
          rw [e2] at e
          cases e
          obtain ⟨h1, h2⟩ := rdD_find e2 k
          have ef : findBy PySem.Value.isStrOf (en :: r).toArray k = if x == k then some en.val else findBy PySem.Value.isStrOf r.toArray k := by
            unfold findBy
            rw [List.find?_toArray, List.find?_toArray, List.find?_cons, ek]
            show Option.map _ (match PySem.Value.isStrOf k (.str x t) with
              | true => some en
              | false => List.find? _ r) = _
            have : PySem.Value.isStrOf k (.str x t) = (x == k) := rfl
            rw [this]
            cases x == k <;> rfl
          rw [ef, List.lookup_cons]
          have bc : (k == x) = (x == k) := by
            cases q : x == k with
            | true =>
              rw [beq_iff_eq.mp q]
              simp
            | false =>
              rw [beq_eq_false_iff_ne] at q ⊢
              exact fun z => q z.symm
          rw [bc]
          cases q : x == k with
          | true =>
            obtain ⟨v, g1, g2⟩ := rdK_ok 3 _ _ e1
            exact ⟨fun z => (by cases z), fun d z => (by cases z; exact ⟨en.val, v, rfl, g1, g2⟩)⟩
          | false => exact ⟨h1, h2⟩
    · cases e
/-- a module's name that holds a written dict -/
def GD (w : World) (K : PySem.W.Frag) (mg : Str → Option Value) (x : Str) (es : List (Str × PyData)) : Prop := ∃ (a : Addr) (des : List DictEntry) (n : Nat), mg x = some (.ref a) ∧ K.lookup a = some ⟨.type "dict", none, .dict des.toArray n, #[]⟩ ∧ PySem.W.KeysLit w.params des ∧ (a == sysModules) = false ∧ rdD K des = some es
theorem gd_mk {w : World} {K : PySem.W.Frag} {mg : Str → Option Value} {x : Str} {es : List (Str × PyData)} {a : Addr} {des : List DictEntry} {n : Nat} (h : mg x = some (.ref a)) (l : K.lookup a = some ⟨.type "dict", none, .dict ⟨des⟩ n, #[]⟩) (k : PySem.W.KeysLit w.params des) (s : (a == sysModules) = false) (e : rdD K des = some es) : GD w K mg x es := ⟨a, des, n, h, l, k, s, e⟩
section
variable {X : Cx} {B : XBt} {e o c : Expr} {es : List Expr} {pos p : Pos} {f fo fa fc : Pg EV}
/-- the value, or else the other -/
def getC (es : List (Str × PyData)) (d z : PyData) : Option EV := match d with
  | .str k => some (.d ((es.lookup k).getD z))
  | _ => none
def evGetC (es : List (Str × PyData)) (f fc : Pg EV) : Pg EV := .bind f fun v => .bind fc fun u => look (opnd v) fun d => match u with
  | .d z => optP (getC es d z)
  | _ => .stuck
def tGetC (des : List DictEntry) (te tc : TE) : TE := fun σ H Q => te σ H fun y H1 => tc σ H1 fun z H2 => ∃ k v, y = .str k ∧ (∀ u, findBy PySem.Value.isStrOf des.toArray k = some u → RelV v u) ∧ (findBy PySem.Value.isStrOf des.toArray k = none → v = z) ∧ Q v H2
theorem pe_getC {x : Str} {a : Addr} {des : List DictEntry} {n : Nat} {apos cpos np : Pos} {te tc : TE} (hg : Gl X x) (hm : X.mg x = some (.ref a)) (kl : X.K.lookup a = some ⟨.type "dict", none, .dict des.toArray n, #[]⟩) (kk : PySem.W.KeysLit X.w.params des) (hs : (a == sysModules) = false)
    (he : PE X e te) (hc : PE X c tc) (m : M2 X (.Name x np) "get" apos e c cpos) (hdb : (x == ("__debug__" : Str)) = false) : PE X (.Call (.Attribute (.Name x np) "get" apos) [e, c] [] cpos) (tGetC des te tc) := by
  refine ⟨fun pins s σ H Q I h => ?_⟩
  refine wpAny_Call_method m.base m.few m.line PySem.F.plainAttrs_dict PySem.F.slot_dict_get PySem.F.type_dict_get (ld_glob I hg hm ?_ hdb)
  have hl := I.kIn a _ kl
  have hT : s.TypeIs (.ref a) "dict" := ⟨_, hl, rfl⟩
  refine ⟨hT, fun b q => ?_, ?_⟩
  · cases q
    exact ⟨_, hl, rfl⟩
  rw [m.trees]
  refine Calls.callWith_builtin rfl (Calls.evalArgs_plain (Calls.spliced_cons (thn (he.run pins s σ H _ I h) fun iv s2 ⟨y, H2, I2, ry, q2⟩ =>
    Calls.spliced_cons (thn (hc.run pins s2 σ H2 _ I2 q2) fun fv s3 ⟨z, H3, I3, rz, k, v, ey, g1, g2, q3⟩ => Calls.spliced_nil ?_))))
  subst ey
  obtain ⟨t, rfl⟩ := (show ∃ t, iv = Value.str k t from ry)
  have hm' := PySem.W.mapOf_K (prog := X.prog) (w := X.w) I3.kIn kl (by simpa using kk)
  refine call_meetsIn PySem.F.slot_dict_get hm'.typeIs PySem.F.entry_dict_get (PySem.F.args_dict_get_3 _ _ _) (meets_dict_get_default (strKind X.prog X.w) a (strKind_is X.prog X.w k t) hs fv) ⟨_, hm', ?_⟩
  cases ef : findBy PySem.Value.isStrOf des.toArray k with
  | none =>
    rw [g2 ef] at q3
    exact ⟨z, H3, I3.tok _, rz, q3⟩
  | some u => exact ⟨v, H3, I3.tok _, g1 u ef, q3⟩
theorem snd_getC {x : Str} {ds : List (Str × PyData)} {apos cpos np : Pos} (C : Ctx X B) (hg : Gl X x) (h : GD X.w X.K X.mg x ds) (he : Snd X B e f) (hc : Snd X B c fc) (hdb : (x == ("__debug__" : Str)) = false := by decide)
    (m : M2 X (.Name x np) "get" apos e c cpos := by exact ⟨rfl, rfl, rfl, rfl⟩) : Snd X B (.Call (.Attribute (.Name x np) "get" apos) [e, c] [] cpos) (evGetC ds f fc) := by
  obtain ⟨a, des, n, hm, kl, kk, hs, er⟩ := h
  intro w Q r hw
  refine we_of (pe_getC hg hm kl kk hs pe_w pe_w m hdb) ?_
  refine snd_then he r hw fun v w1 y e1 f1 r1 re h1 => ?_
  rw [← e1]
  refine snd_then hc r1 h1 fun u w2 z e2 f2 r2 re2 h2 => ?_
  obtain ⟨d, ed, h2⟩ := look_ok h2
  have ro := ((re.ro r1).fol r1 f2).rn r2 ed
  cases u <;> try exact h2.elim
  rename_i zd
  obtain ⟨ev, ee, q⟩ := wp_opt h2
  cases d <;> try (cases ee; done)
  rename_i k
  cases ee
  have er' := rdD_find er k
  cases el : ds.lookup k with
  | none =>
    rw [el] at q
    have g := er'.1 el
    exact ⟨k, z, ro.str, fun u hu => (by rw [g] at hu; cases hu), fun _ => rfl, q w2 z rfl (e2.trans e1) (f1.trans f2) r2 re2⟩
  | some d0 =>
    rw [el] at q
    obtain ⟨u, v', g1, g2, g3⟩ := er'.2 d0 el
    exact ⟨k, v', ro.str, fun u' hu => (by rw [g1] at hu; cases hu; exact g2), fun hu => (by rw [g1] at hu; cases hu), q w2 v' rfl (e2.trans e1) (f1.trans f2) r2 (g3 _)⟩
/-! ### {k: v, ..} -/
def SndPs (X : Cx) (B : XBt) (pos : Pos) (ks : List (Option Expr)) (vs : List Expr) (f : Pg (List (PyData × PyData))) : Prop := ∃ trs : List (TE × TE), PPs X pos ks vs trs ∧ ∀ (w : Wd) (Q : List (V × V) → Hp → Prop), Rep X.K w →
  (f w.m).wp (fun es m' => ∀ (w' : Wd) (kvs : List (Key × V)), w'.m = m' → w'.sg = w.sg → FolE w w' → Rep X.K w' → RK X.K w'.F es kvs → Q (kvs.map fun kv => (kV kv.1, kv.2)) w'.H) (XW X.K B w) → tPairs trs w.sg w.H Q
theorem sndPs_nil : SndPs X B pos [] [] (.ret []) := ⟨[], pps_nil, fun w Q r h => h w [] rfl rfl (FolE.refl w) r .nil⟩
def evConsP (fk fv : Pg EV) (g : Pg (List (PyData × PyData))) : Pg (List (PyData × PyData)) := .bind fk fun k => .bind (toA k) fun ka => .bind (needD ka) fun kd => if keyB kd then .bind fv fun v => .bind (toA v) fun va => .bind (needD va) fun vd => .bind g fun r => .ret ((kd, vd) :: r) else .stuck
theorem RK.mono' {K : PySem.W.Frag} {F F' : Hp} (e : Same F F') {es : List (PyData × PyData)} {kvs : List (Key × V)} (h : RK K F es kvs) : RK K F' es kvs := RK.mono e h
theorem sndPs_cons {ks : List (Option Expr)} {vs : List Expr} {g : Pg (List (PyData × PyData))} (hk : Snd X B e f) (hv : Snd X B o fo) (hr : SndPs X B pos ks vs g) : SndPs X B pos (some e :: ks) (o :: vs) (evConsP f fo g) := by
  obtain ⟨trs, pp, run⟩ := hr
  refine ⟨(WE X e, WE X o) :: trs, pps_cons pe_w pe_w pp, fun w Q r hw => ?_⟩
  show WE X e w.sg w.H _
  refine snd_then hk r hw fun k w1 x e1 f1 r1 re h1 => ?_
  obtain ⟨ka, w2, ea, e2, e3, f2, r2, rv⟩ := toA_ok r1 re
  have h2 := wp_bind h1
  rw [ea] at h2
  obtain ⟨kd, rfl, h3⟩ := needD_ok (wp_bind (show (Pg.bind (needD ka) _ w2.m).wp _ _ from h2))
  rw [← e3, ← e1, ← e2]
  split at h3
  · rename_i hkb
    obtain ⟨kk, rfl⟩ := keyD_of hkb
    have rv : R X.K w2.F (keyD kk) x := rv
    refine snd_then hv r2 (h3.imp (fun _ _ z => z) fun _ _ z => z.fol (f2.s r1)) fun v w3 y e4 f3 r3 re3 h4 => ?_
    obtain ⟨va, w4, ea4, e5, e6, f4, r4, rv4⟩ := toA_ok r3 re3
    have h5 := wp_bind h4
    rw [ea4] at h5
    obtain ⟨vd, rfl, h6⟩ := needD_ok (wp_bind (show (Pg.bind (needD va) _ w4.m).wp _ _ from h5))
    have rv4 : R X.K w4.F vd y := rv4
    rw [← e6, ← e4, ← e5]
    refine run w4 _ r4 ((wp_bind h6).imp (fun es m' q w5 kvs em e7 f5 r5 rk => ?_) fun _ _ z => z.fol (f4.s r3))
    subst em
    have q := q w5 ((kk, y) :: kvs) rfl (e7.trans (e5.trans (e4.trans (e2.trans e1)))) (f1.trans (f2.trans (f3.trans (f4.trans f5)))) r5 (.cons (rv4.mono f5.ext) rk)
    rw [kV_of rv]
    exact q
  · exact h3.elim
def evDisp (f : Pg (List (PyData × PyData))) : Pg EV := .bind (noThr f) fun es => if es.length ≤ 15 then .ret (.new (.dic (mergeD [] es))) else .stuck
theorem snd_disp {keys : List (Option Expr)} {values : List Expr} {fp : Pg (List (PyData × PyData))} (h : SndPs X B pos keys values fp) (hall : keys.all (·.isSome) = true := by rfl) (hl : keys.length = values.length := by rfl) (h0 : keys ≠ [] := by simp)
    (h15 : keys.length ≤ 15 := by decide) : Snd X B (.Dict keys values pos) (evDisp fp) := by
  obtain ⟨trs, pp, run⟩ := h
  intro w Q r hw
  refine we_of (pe_disp pp hall hl h0 h15) ?_
  intro p hp
  obtain ⟨rl, fl⟩ := lay r hp (.dK [])
  have fD : w.F p = none := r.noF hp
  generalize hZd : (fun a => w.Z a ∨ a = p) = Zd
  have zSub : ∀ a, w.Z a → Zd a := fun a h => by rw [← hZd]; exact .inl h
  have zD : Zd p := by rw [← hZd]; exact .inr rfl
  have zInv : ∀ a, Zd a → w.Z a ∨ a = p := fun a h => by rw [← hZd] at h; exact h
  have r0 : Rep X.K (reZ { w with H := upd w.H p (.dK []) } Zd) := reZ_more rl (fun a h => by
    rcases zInv a h with q | q
    · exact rl.zl a q
    · rw [q]
      show upd w.H p (.dK []) p ≠ none
      rw [upd_same]
      simp) (fun a h z => by
    rcases zInv a z with q | q
    · exact (rl.ownAt h).2.2.2 q
    · rw [q] at h
      exact (r.ownAt (show Own w p from h)).1 hp) fun d a hd z => by
    rcases zInv d z with q | q
    · exact q
    · rw [q] at hd
      have hd : upd w.H p (.dK []) p = some (.own a) := hd
      rw [upd_same] at hd
      cases hd
  have hw' := noThr_wp (wp_bind hw)
  refine run (reZ { w with H := upd w.H p (.dK []) } Zd) _ r0 (Res.wp.imp hw' (fun es m' q w' kvs em e1 f1 r1 rk => ?_) fun _ _ z => z.elim)
  have pro : p ∉ w.ro := fun z => r.roLive z hp
  have z' : w'.Z = Zd := f1.z
  have d1 : w'.H p = some (.dK []) := f1.frm p _ (show upd w.H p (.dK []) p = _ from upd_same) pro (by intro _ z; cases z)
  have d2 : p ∉ w'.ro := fun z => (f1.new p z).elim pro fun q => by
    have q : upd w.H p (.dK []) p = none := q
    rw [upd_same] at q
    cases q
  have d3 : w'.F p = none := Classical.byContradiction fun q => (f1.grow p q).elim (fun z => z fD) fun z => z zD
  have nO : ¬ Own w' p := fun z => (r1.ownAt z).2.2.2 (by rw [z']; exact zD)
  refine ⟨d1, kvs, rfl, ?_, ?_⟩
  · have q : ((if es.length ≤ 15 then .ret (.new (.dic (mergeD [] es))) else .stuck : Pg EV) m').wp (PostE X.K w Q) (XW X.K B w) := q
    split at q
    · rename_i hl
      rw [← rk.len]
      exact hl
    · exact q.elim
  have q : ((if es.length ≤ 15 then .ret (.new (.dic (mergeD [] es))) else .stuck : Pg EV) m').wp (PostE X.K w Q) (XW X.K B w) := q
  split at q
  · have r9 := poke (o := .dK (mergeK [] kvs)) r1 d3 d2 nO (fun {a d} z e => by rw [e, d1] at z; cases z) (fun C d vs z => by rw [d1] at z; cases z) ⟨_, d1, fun z => z⟩
    have r10 := reZ_rep r9 (Z := w.Z) fun a h => by
      show w'.Z a
      rw [z']
      exact zSub a h
    have fo : FolE w (reZ { w' with H := upd w'.H p (.dK (mergeK [] kvs)) } w.Z) := ⟨rfl, f1.t, f1.ext, f1.pre, fun a o h n k => by
      have na : a ≠ p := fun e => by rw [e, hp] at h; cases h
      show upd w'.H p (.dK (mergeK [] kvs)) a = some o
      rw [upd_ne na]
      exact f1.frm a o (by show upd w.H p (.dK []) a = some o; rw [upd_ne na]; exact h) n k, fun a h => (f1.new a h).imp id fun q => by
      by_cases na : a = p
      · rw [na]; exact hp
      · have q : upd w.H p (.dK []) a = none := q
        rw [upd_ne na] at q
        exact q, fun a h => by
      have na : a ≠ p := fun e => h (by rw [e]; exact hp)
      show upd w'.H p (.dK (mergeK [] kvs)) a ≠ none
      rw [upd_ne na]
      exact f1.liv a (by show upd w.H p (.dK []) a ≠ none; rw [upd_ne na]; exact h), fun a h => (f1.grow a h).imp id fun q z => q (zSub a z), fun a h => f1.own a h⟩
    exact q (reZ { w' with H := upd w'.H p (.dK (mergeK [] kvs)) } w.Z) (.ref p) em e1 fo r10 ⟨p, rfl, ⟨_, upd_same, RK.merge .nil rk⟩, d3, d2, fun z => r.zl p z hp, nO⟩
  · exact q.elim
end
end Ev

namespace Ev
open PySem PySem.Spec PyProof.Rows L2
section
variable {α β : Type} {m : Mem} {X : Exn → Mem → Prop} {P Q : α → Mem → Prop} {R : β → Mem → Prop} {E : EV → Mem → Prop} {F : Fl → Mem → Prop} {T : Bool → Mem → Prop} {D : List (PyData × PyData) → Mem → Prop} {L : List PyData → Mem → Prop}
@[simp] theorem W_idxC {ds : List PyData} {f : Pg EV} : W (evIdxC ds f) m X E ↔ W f m X fun v m1 => W (look (opnd v) fun d => optP (idxD ds d)) m1 X E := by
  unfold evIdxC
  simp only [W_bind]
@[simp] theorem W_idxL {fo f : Pg EV} : W (evIdxL fo f) m X E ↔ W fo m X fun u m0 => W (look (opnd u) fun x0 => match x0 with
    | .list _ => .bind f fun v => look (opnd u) fun x => look (opnd v) fun d => match x with
      | .list ds => if SeqAt.shaped (.list ds) then optP (idxD ds d) else .stuck
      | _ => .stuck
    | _ => .stuck) m0 X E := by
  unfold evIdxL
  rw [W_bind]
  try exact Iff.rfl
@[simp] theorem W_getCo {es : List (Str × PyData)} {f fc : Pg EV} : W (evGetC es f fc) m X E ↔ W f m X fun v m1 => W fc m1 X fun u m2 => W (look (opnd v) fun d => match u with
    | .d z => optP (getC es d z)
    | _ => .stuck) m2 X E := by
  unfold evGetC
  simp only [W_bind]
  try exact Iff.rfl
@[simp] theorem getC_s {es : List (Str × PyData)} {k : Str} {z : PyData} : getC es (.str k) z = some (.d ((es.lookup k).getD z)) := rfl
@[simp] theorem W_disp {f : Pg (List (PyData × PyData))} : W (evDisp f) m X E ↔ W f m noX fun es m1 => es.length ≤ 15 ∧ E (.new (.dic (mergeD [] es))) m1 := by
  unfold evDisp
  rw [W_bind, W_noThr]
  constructor
  · intro h
    refine h.mono fun es m1 q => ?_
    by_cases hl : es.length ≤ 15
    · rw [if_pos hl] at q
      exact ⟨hl, q.go⟩
    · rw [if_neg hl] at q
      exact q.go.elim
  · intro h
    refine h.mono fun es m1 ⟨hl, q⟩ => ?_
    rw [if_pos hl]
    exact ⟨q⟩
@[simp] theorem W_consP {fk fv : Pg EV} {g : Pg (List (PyData × PyData))} : W (evConsP fk fv g) m X D ↔ W fk m X fun k m1 => W (toA k) m1 X fun ka m2 => W (needD ka) m2 X fun kd m3 => W (if keyB kd then .bind fv fun v => .bind (toA v) fun va => .bind (needD va) fun vd => .bind g fun r => .ret ((kd, vd) :: r) else .stuck) m3 X D := by
  unfold evConsP
  simp only [W_bind]
@[simp] theorem keyB_s {s : Str} : keyB (.str s) = true := rfl
@[simp] theorem keyB_i {s : Int} : keyB (.int s) = true := rfl
@[simp] theorem mergeD_nil {es : List (PyData × PyData)} : mergeD es [] = es := rfl
@[simp] theorem mergeD_cons {es r : List (PyData × PyData)} {k v : PyData} : mergeD es ((k, v) :: r) = mergeD (dPut es k v) r := rfl
@[simp] theorem W_zip {fa : Pg (List AV)} : W (evZip fa) m X L ↔ W fa m X fun vs m1 => ∃ ds, zipS vs = some ds ∧ L ds m1 := by
  unfold evZip
  simp only [W_bind, W_opt]
@[simp] theorem zipS_l {xs ys : List PyData} : zipS [.d (.list xs), .d (.list ys)] = some (zipD xs ys) := rfl
@[simp] theorem zipS_t {xs ys : List PyData} : zipS [.d (.tuple xs), .d (.tuple ys)] = some (zipD xs ys) := rfl
@[simp] theorem zipD_nil1 {ys : List PyData} : zipD [] ys = [] := by simp [zipD]
@[simp] theorem zipD_nil2 {ys : List PyData} : zipD ys [] = [] := by simp [zipD]
@[simp] theorem zipD_cons {x y : PyData} {xs ys : List PyData} : zipD (x :: xs) (y :: ys) = .tuple [x, y] :: zipD xs ys := rfl
@[simp] theorem W_enum {fa : Pg (List AV)} : W (evEnum fa) m X L ↔ W fa m X fun vs m1 => ∃ ds, enumS vs = some ds ∧ L ds m1 := by
  unfold evEnum
  simp only [W_bind, W_opt]
@[simp] theorem enumS_l {xs : List PyData} : enumS [.d (.list xs)] = some (enumD xs) := rfl
@[simp] theorem gDict_l {xs : List PyData} : gDict [.list xs] = (prsOf xs).map fun ps => .new (.dic (mergeD [] ps)) := rfl
@[simp] theorem prsOf_nil : prsOf [] = some [] := rfl
@[simp] theorem prsOf_cons {k v : PyData} {r : List PyData} : prsOf (.tuple [k, v] :: r) = if keyB k then (prsOf r).map ((k, v) :: ·) else none := rfl
@[simp] theorem cmp_ltT {ns ms : List Int} : cmpS .Lt (.tuple (ns.map .int)) (.tuple (ms.map .int)) = some (ltL ns ms) := by
  simp only [cmpS, intsOf_map]
/-- a comprehension that leaves the slots as they were -/
theorem W_compG {is : List Nat} {g : PyData → Pg Unit} {t : Pg Bool} {e : Pg EV} {ds : List PyData} (b : PyData → Bool) (φ : PyData → PyData) (hl : ds.length < 16777216)
    (h : ∀ d, d ∈ ds → W (g d) m X fun _ m1 => W t m1 noX fun k m2 => k = b d ∧ if k = true then W e m2 noX fun v m3 => W (toA v) m3 X fun a m4 => a = .d (φ d) ∧ (⟨wipeL is m4.sl, m4.cs⟩ : Mem) = m else (⟨wipeL is m2.sl, m2.cs⟩ : Mem) = m)
    (hE : E (.fresh ((ds.filter b).map φ)) m) : W (compL is g t e ds []) m X E := by
  refine W_compL (fun ds' acc m' => ∃ pre, ds = pre ++ ds' ∧ acc = (pre.filter b).map φ ∧ m' = m) ⟨[], rfl, rfl, rfl⟩ ?_ ?_
  · rintro d ds' acc m' ⟨pre, e1, rfl, rfl⟩
    have hd : d ∈ ds := by rw [e1]; simp
    have la : ((pre.filter b).map φ).length < 16777216 := by
      rw [List.length_map]
      have h1 := List.length_filter_le b pre
      have h2 : pre.length ≤ ds.length := by rw [e1, List.length_append]; omega
      omega
    have e2 : ds = (pre ++ [d]) ++ ds' := by rw [e1]; simp
    refine (h d hd).mono fun _ m1 q => q.mono fun k m2 q => ?_
    obtain ⟨hk, q⟩ := q
    cases k with
    | true =>
      rw [if_pos rfl] at q ⊢
      refine q.mono fun v m3 q => q.mono fun a m4 q => ?_
      exact ⟨φ d, q.1, la, pre ++ [d], e2, by rw [List.filter_append, List.map_append, List.filter_cons, ← hk]; simp, q.2⟩
    | false =>
      rw [if_neg (by simp)] at q ⊢
      exact ⟨pre ++ [d], e2, by rw [List.filter_append, List.map_append, List.filter_cons, ← hk]; simp, q⟩
  · rintro acc m' ⟨pre, e1, rfl, rfl⟩
    rw [List.append_nil] at e1
    rw [← e1]
    exact hE
theorem cut_tail {x : PyData} {r : List PyData} : cutD (x :: r) (some 1) none = r := by
  unfold cutD
  rw [HT.sIx_none, show (1 : Int) = ((1 : Nat) : Int) from rfl, HT.sIx_nat]
  have e : min 1 (x :: r).length = 1 := by simp
  rw [e]
  simp
/-- data whose kind, and that of a tuple's items, is told -/
structure Kin (t : PyData) : Prop where
  k : kindly t = true
  i : ∀ xs x, t = .tuple xs → x ∈ xs → kindly x = true
theorem Fit.kin {k B : Nat} {d : PyData} (h : Fit k B d) : Kin d := ⟨h.kindly, fun xs x e hx => by
  subst e
  exact (h.tup_mem hx).kindly⟩
@[simp] theorem isI_n  : isI .none = false := rfl
@[simp] theorem isI_b {b : Bool} : isI (.bool b) = true := rfl
@[simp] theorem isI_i {i : Int} : isI (.int i) = true := rfl
@[simp] theorem isI_s {z : Str} : isI (.str z) = false := rfl
@[simp] theorem isI_l {xs : List PyData} : isI (.list xs) = false := rfl
@[simp] theorem isI_t {xs : List PyData} : isI (.tuple xs) = false := rfl
@[simp] theorem isI_d {es : List (PyData × PyData)} : isI (.dict es) = false := rfl
@[simp] theorem isB_n  : isB .none = false := rfl
@[simp] theorem isB_b {b : Bool} : isB (.bool b) = true := rfl
@[simp] theorem isB_i {i : Int} : isB (.int i) = false := rfl
@[simp] theorem isB_s {z : Str} : isB (.str z) = false := rfl
@[simp] theorem isB_l {xs : List PyData} : isB (.list xs) = false := rfl
@[simp] theorem isB_t {xs : List PyData} : isB (.tuple xs) = false := rfl
@[simp] theorem isB_d {es : List (PyData × PyData)} : isB (.dict es) = false := rfl
@[simp] theorem isS_n  : isS .none = false := rfl
@[simp] theorem isS_b {b : Bool} : isS (.bool b) = false := rfl
@[simp] theorem isS_i {i : Int} : isS (.int i) = false := rfl
@[simp] theorem isS_s {z : Str} : isS (.str z) = true := rfl
@[simp] theorem isS_l {xs : List PyData} : isS (.list xs) = false := rfl
@[simp] theorem isS_t {xs : List PyData} : isS (.tuple xs) = false := rfl
@[simp] theorem isS_d {es : List (PyData × PyData)} : isS (.dict es) = false := rfl
@[simp] theorem isL_n  : isL .none = false := rfl
@[simp] theorem isL_b {b : Bool} : isL (.bool b) = false := rfl
@[simp] theorem isL_i {i : Int} : isL (.int i) = false := rfl
@[simp] theorem isL_s {z : Str} : isL (.str z) = false := rfl
@[simp] theorem isL_l {xs : List PyData} : isL (.list xs) = true := rfl
@[simp] theorem isL_t {xs : List PyData} : isL (.tuple xs) = false := rfl
@[simp] theorem isL_d {es : List (PyData × PyData)} : isL (.dict es) = false := rfl
@[simp] theorem isT_n  : isT .none = false := rfl
@[simp] theorem isT_b {b : Bool} : isT (.bool b) = false := rfl
@[simp] theorem isT_i {i : Int} : isT (.int i) = false := rfl
@[simp] theorem isT_s {z : Str} : isT (.str z) = false := rfl
@[simp] theorem isT_l {xs : List PyData} : isT (.list xs) = false := rfl
@[simp] theorem isT_t {xs : List PyData} : isT (.tuple xs) = true := rfl
@[simp] theorem isT_d {es : List (PyData × PyData)} : isT (.dict es) = false := rfl
@[simp] theorem isD_n  : isD .none = false := rfl
@[simp] theorem isD_b {b : Bool} : isD (.bool b) = false := rfl
@[simp] theorem isD_i {i : Int} : isD (.int i) = false := rfl
@[simp] theorem isD_s {z : Str} : isD (.str z) = false := rfl
@[simp] theorem isD_l {xs : List PyData} : isD (.list xs) = false := rfl
@[simp] theorem isD_t {xs : List PyData} : isD (.tuple xs) = false := rfl
@[simp] theorem isD_d {es : List (PyData × PyData)} : isD (.dict es) = true := rfl
end
end Ev

namespace Ev
open PySem PySem.Spec PyProof.Rows L2
/-! ### what the reading leaves out: nothing is said of it -/
section
variable {X : Cx} {B : XBt} {e o c : Expr} {es : List Expr} {st : Stmt} {pos p : Pos} {f fo fa fc : Pg EV}
theorem snd_stuck : Snd X B e .stuck := fun w Q r h => h.elim
theorem sndS_stuck : SndS X B st .stuck := fun w D r h => h.elim
/-! ### C.f, a value of the class -/
def GA (K : PySem.W.Frag) (mg : Str → Option Value) (c f : Str) (d : PyData) : Prop := ∃ (C : Addr) (mc v : Value) (x : V), mg c = some (.ref C) ∧ PySem.W.readsIn K C mc = true ∧ PySem.W.findCls K (.ref C) mc f = some (.val v) ∧ PySem.W.handedIn v = true ∧ RelV x v ∧ ∀ F, R K F d x
theorem ga_mk {K : PySem.W.Frag} {mg : Str → Option Value} {c f : Str} {d : PyData} {C : Addr} {mc v : Value} {n : Nat} (h : mg c = some (.ref C)) (hr : PySem.W.readsIn K C mc = true) (hf : PySem.W.findCls K (.ref C) mc f = some (.val v)) (hh : PySem.W.handedIn v = true) (e : rdK K n v = some d) : GA K mg c f d := by
  obtain ⟨x, h1, h2⟩ := rdK_ok n v d e
  exact ⟨C, mc, v, x, h, hr, hf, hh, h1, h2⟩
theorem snd_cattr {x n : Str} {np : Pos} {d : PyData} (hg : Gl X x) (h : GA X.K X.mg x n d) (hdb : (x == ("__debug__" : Str)) = false := by decide)
    (hbase : attributeBase (.Name x np) n X.env (eval (.Name x np) X.env) = eval (.Name x np) X.env := by rfl) : Snd X B (.Attribute (.Name x np) n pos) (evC d) := by
  obtain ⟨C, mc, v, y, hm, hr, hf, hh, h1, h2⟩ := h
  intro w Q r hw
  exact ⟨fun pins s I => attr_of hbase (ld_glob I hg hm (PySem.W.cls_value I.kIn hr hf hh ⟨y, w.H, I.tok _, h1, hw w y rfl rfl (FolE.refl w) r (h2 _)⟩) hdb)⟩
/-! ### s.upper() -/
def evUp (f : Pg EV) : Pg EV := .bind f fun v => look (opnd v) fun x => match x with
  | .str a => if a.length ≤ 5592405 then .ret (.d (.str (Txt.upper a))) else .stuck
  | _ => .stuck
theorem snd_upper {apos : Pos} (ho : Snd X B o fo) (hbase : attributeBase o "upper" X.env (eval o X.env) = eval o X.env := by rfl) (hline : (apos.endLine == pos.line) = true := by rfl) : Snd X B (.Call (.Attribute o "upper" apos) [] [] pos) (evUp fo) := by
  intro w Q r hw
  refine we_of (pe_upper pe_w hbase hline) ?_
  refine snd_then ho r hw fun v w1 y e1 f1 r1 re h1 => ?_
  obtain ⟨x, ex, h1⟩ := look_ok h1
  have ro := (re.ro r1).rn r1 ex
  cases x <;> try exact h1.elim
  rename_i a
  have h1 : ((if a.length ≤ 5592405 then Pg.ret (EV.d (.str (Txt.upper a))) else .stuck) w1.m).wp (PostE X.K w Q) (XW X.K B w1) := h1
  split at h1
  · rename_i hl
    exact ⟨⟨a, ro.str⟩, a, ro.str, rfl, hl, h1 w1 _ rfl e1 f1 r1 (.str _)⟩
  · exact h1.elim
end
section
variable {m : Mem} {X : Exn → Mem → Prop} {E : EV → Mem → Prop}
@[simp] theorem W_upper {f : Pg EV} : W (evUp f) m X E ↔ W f m X fun v m1 => W (look (opnd v) fun x => match x with
    | .str a => if a.length ≤ 5592405 then .ret (.d (.str (Txt.upper a))) else .stuck
    | _ => .stuck) m1 X E := by
  unfold evUp
  rw [W_bind]
  try exact Iff.rfl
/-- data of a menu, shown -/
def fitOk (k B : Nat) (d : PyData) : Bool := plainD d && decide (d.depth ≤ k) && d.showable && decide (d.shown.length ≤ B)
theorem fit_of {k B : Nat} {d : PyData} (h : fitOk k B d = true) : Fit k B d := by
  simp only [fitOk, Bool.and_eq_true, decide_eq_true_eq] at h
  exact ⟨h.1.1.1, h.1.1.2, h.1.2, h.2⟩
theorem menuF {xs : List PyData} {v : Int} {P : PyData → Prop} (k B : Nat) (h0 : 0 ≤ v) (h1 : v < xs.length) (hx : xs.all (fitOk k B) = true) (h : ∀ d, d ∈ xs → Fit k B d → P d) : ∃ b, atI xs v = some b ∧ P b :=
  menu h0 h1 fun d hd => h d hd (fit_of (List.all_eq_true.mp hx d hd))
end
end Ev

namespace PySem.W
open PySem PySem.Spec PySem.Calls PyProof.Rows
section
variable {M : Model} {K : Frag}
theorem loopA {A : Around} {E : Value → Shared → Prop} {s : Shared} {β : Type} {f : Value → β → Sem (ForInStep β)} {u : β} : ∀ {cs : List Value}, (∀ c, c ∈ cs → ∀ (Q : ForInStep β → Shared → Prop), Q (.yield u) s → wpAny M A (f c u) Q E s) → ∀ {Q : β → Shared → Prop}, Q u s → wpAny M A (forIn cs u f) Q E s
  | [], _, Q, q => by
    rw [List.forIn_nil]
    exact wpAny_pure q
  | c :: cs, h, Q, q => by
    rw [List.forIn_cons]
    refine wpAny_bind (h c (List.mem_cons_self ..) _ ?_)
    exact loopA (fun c' hc => h c' (List.mem_cons_of_mem _ hc)) q
theorem loopB {A : Around} {E : Value → Shared → Prop} {s : Shared} {β : Type} {f : Value → β → Sem (ForInStep β)} {r0 r1 : β} {cls : Value} : ∀ {cs : List Value} {b : Bool}, exmAny K cls cs = some b → (∀ c, c ∈ cs → ∀ b, exmOne K cls c = some b → ∀ (Q : ForInStep β → Shared → Prop), Q (if b = true then .done r1 else .yield r0) s → wpAny M A (f c r0) Q E s) → ∀ {Q : β → Shared → Prop}, Q (if b = true then r1 else r0) s → wpAny M A (forIn cs r0 f) Q E s
  | [], b, e, _, Q, q => by
    have e : some false = some b := e
    cases e
    rw [List.forIn_nil]
    exact wpAny_pure q
  | c :: cs, b, e, h, Q, q => by
    obtain ⟨b1, d1, x1, y1, rfl⟩ := exmAny_cons e
    rw [List.forIn_cons]
    refine wpAny_bind (h c (List.mem_cons_self ..) b1 x1 _ ?_)
    cases b1 with
    | true => exact wpAny_pure q
    | false => exact loopB y1 (fun c' hc => h c' (List.mem_cons_of_mem _ hc)) q
theorem exmAny_mem {cls : Value} : ∀ {cs : List Value} {b : Bool}, exmAny K cls cs = some b → ∀ c, c ∈ cs → ∃ b, exmOne K cls c = some b
  | c :: cs, b, e, c', hc => by
    obtain ⟨b1, d1, x1, y1, _⟩ := exmAny_cons e
    rcases List.mem_cons.mp hc with rfl | hc
    · exact ⟨b1, x1⟩
    · exact exmAny_mem y1 c' hc
theorem exm_tupN {cs : List Value} {cls : Value} {tp e : Addr} {b : Bool} {h : Heap} (X : K.In h) (LT : Looks M h (typeOf (.ref e)) cls) (hp : h.get? tp = some { cls := .type "tuple", data := .seq cs.toArray }) (hx : exmAny K cls cs = some b) :
    Looks M h (excMatches (.ref e) (.ref tp)) b := by
  intro A Q E s k₀ q
  obtain ⟨hh, g, d, tk, os⟩ := s
  have k : ∀ b o, h.get? b = some o → hh.get? b = some o := k₀
  have LT0 : Looks M h (isInstance (.ref tp) (.type "tuple")) true := ((Looks.ld hp).andThen .now).andThen (Looks.of_pure isSubtype_tuple_tuple)
  have LT := LT.keeps k
  have LT0 := LT0.keeps k
  have hp' := k _ _ hp
  unfold excMatches
  refine wpAny_bind (LT0.at ?_)
  dsimp only
  rw [if_pos rfl]
  first
    | refine wpAny_bind (wpAny_seqItems hp' rfl ?_)
    | refine wpAny_bind (wpAny_bind (wpAny_seqItems hp' rfl (wpAny_pure ?_)))
  dsimp only [Option.getD_some, Option.getD]
  refine wpAny_bind (wpAny_pure (wpAny_bind (loopA (fun c hc Q' q' => ?_) ?_)))
  · obtain ⟨b1, x1⟩ := exmAny_mem hx c hc
    have e1 := (exm_cls (M := M) X x1).1.keeps k
    (repeat (first | simp only [Bool.not_true, Bool.false_eq_true, if_false, if_true] | lk)); exact q'
  · refine wpAny_bind (LT.at ?_)
    refine wpAny_bind (loopB (r1 := (some true, ())) hx (fun c hc b1 x1 Q' q' => ?_) ?_)
    · have e1 := (exm_cls (M := M) X x1).2.keeps k
      cases b1 with
      | true => (repeat (first | simp only [Bool.not_true, Bool.false_eq_true, if_false, if_true] | lk)); exact q'
      | false => (repeat (first | simp only [Bool.not_true, Bool.false_eq_true, if_false, if_true] | lk)); exact q'
    · cases b with
      | true => exact wpAny_pure q
      | false => exact wpAny_pure q
end
end PySem.W
namespace Ev
open PySem PySem.Spec PyProof.Rows L2
/-! ### except C as n: suite; the exception is tracked from there on -/
theorem track {X : Cx} {pins : List (Addr × Obj)} {σ : L2.St} {H : Hp} {s : Shared} {a : Addr} {o : HO} (I : L2.Inv X pins σ H s) (hn : H a = none) (h0 : X.s_0.heap.get? a = none) (hL : a ≠ X.env.locals) (hC : ∀ x c, X.env.cells.lookup x = some c → c ≠ a)
    (hp : ∀ p ∈ X.pn ++ pins, p.1 ≠ a) (new : ObjOk X.prog X.w (upd H a o) s.heap a o) : L2.Inv X pins σ (upd H a o) s := by
  have ne0 : ∀ b u, X.s_0.heap.get? b = some u → b ≠ a := fun b u e z => by
    rw [z, h0] at e
    cases e
  have neH : ∀ b u, H b = some u → b ≠ a := fun b u e z => by
    rw [z, hn] at e
    cases e
  refine ⟨I.ok, I.os, I.bare, ⟨I.base.keep, I.base.slot, fun b u e n hx => ?_, I.base.there, fun b xs e => ?_, fun b u xs e => ?_, fun b ps e => ?_⟩, I.loc, I.cell, ?_, fun x c e => ?_, fun p hm => ?_, ?_, I.len⟩
  · rw [upd_ne (ne0 b u e)]
    exact I.base.free b u e n hx
  · have q := I.base.tups b xs e
    rw [upd_ne (neH b _ q)]
    exact q
  · have q := I.base.frzs b u xs e
    rw [upd_ne (neH b _ q)]
    exact q
  · obtain ⟨m, q⟩ := I.base.tbls b ps e
    exact ⟨m, by rw [upd_ne (neH b _ q)]; exact q⟩
  · rw [upd_ne (Ne.symm hL)]
    exact I.free
  · rw [upd_ne (hC x c e)]
    exact I.freeC x c e
  · obtain ⟨e, n, r⟩ := I.pin p hm
    exact ⟨e, by rw [upd_ne (hp p hm)]; exact n, r⟩
  · exact I.hok.laidN (fun _ _ z => z) hn new
theorem excO_ok {P : Program} {w : World} {H : Hp} {h : Heap} {a : Addr} {cls : Value} {d : Option Addr} {oe : Obj} (e : h.get? a = some oe) (z : Zc cls d oe) (hf : ∃ vs, oe.data = .fields vs) : ObjOk P w H h a (excO a cls d) := by
  obtain ⟨vs, hd⟩ := hf
  exact ⟨⟨oe, vs, e, z, hd⟩, ⟨oe, e⟩, fun _ _ ⟨o, v, q, r⟩ k => ⟨o, v, k o q, r⟩⟩
theorem flying_mono {B : Heap} {l : List Env} {a : Addr} {Z : Obj → Prop} {h h' : Heap} (k : ∀ b o, h.get? b = some o → h'.get? b = some o) (f : HandSPX.FlyingZ B l a Z h) : HandSPX.FlyingZ B l a Z h' := by
  obtain ⟨k1, k2, k3, oe, vs, T, oT, ts, he, hz, hd, h1, hb, ht, hT, hd2, h3⟩ := f
  exact ⟨fun b o e => k b o (k1 b o e), k2, Heap.FunFrames.of_keeps (fun b o e _ => ⟨o, k b o e, rfl⟩) k3, oe, vs, T, oT, ts, k _ _ he, hz, hd, h1, hb, ht, k _ _ hT, hd2, h3⟩
/-- a handler's test: the type expression, what it says of the classes -/
def TestOk (X : Cx) (ty : Expr) (km : Value → Option Bool) : Prop := ∀ (a : Addr) (oe : Obj) (pn : List (Addr × Obj)) (σ : L2.St) (H : Hp) (s : Shared) (cls : Value) (b : Bool) (Q : Bool → Shared → Prop) (E1 E2 : Value → Shared → Prop),
  L2.Inv (X.suite a ((a, oe) :: pn)) [] σ H s → PySem.W.Looks (model X.prog X.w) s.heap (typeOf (.ref a)) cls → km cls = some b → (∀ h', (∀ q o, s.heap.get? q = some o → h'.get? q = some o) → Q b { s with heap := h' }) →
    wpAny (model X.prog X.w) (X.A.mark (some (.ref a))) (eval ty X.env) (fun c s1 => wpAny (model X.prog X.w) (X.A.mark (some (.ref a))) (excMatches (.ref a) c) Q E2 s1) E1 s
theorem name_eval {X : Cx} {x : Str} {c : Value} {np : Pos} (hc : Names X x c) {a : Addr} {oe : Obj} {pn : List (Addr × Obj)} {σ : L2.St} {H : Hp} {s : Shared} (S3 : L2.Inv (X.suite a ((a, oe) :: pn)) [] σ H s) {Q : Value → Shared → Prop} {E : Value → Shared → Prop} (q : Q c s) :
    wpAny (model X.prog X.w) (X.A.mark (some (.ref a))) (eval (.Name x np) X.env) Q E s := by
  obtain ⟨hg, hdbg, hm | ⟨hm, hv, hnn⟩⟩ := hc
  · exact ld_glob (X := X.suite a ((a, oe) :: pn)) S3 hg hm q hdbg
  · exact ld_blt (X := X.suite a ((a, oe) :: pn)) S3 hg hm hv q hnn hdbg
theorem test_one {X : Cx} {x : Str} {c : Value} {np : Pos} (hc : Names X x c) : TestOk X (.Name x np) (fun cls => PySem.W.exmOne X.K cls c) := fun a oe pn σ H s cls b Q E1 E2 S3 LT hb q =>
  name_eval hc S3 ((PySem.W.exm_one (M := model X.prog X.w) S3.kIn LT hb).here (q s.heap fun _ _ z => z))
/-- names in a row -/
inductive NmsV (X : Cx) : List Expr → List Value → Prop
  | nil : NmsV X [] []
  | cons {x : Str} {np : Pos} {c : Value} {es : List Expr} {us : List Value} : Names X x c → starEach (.Name x np :: es) X.env = (false, eval (.Name x np) X.env) :: starEach es X.env → NmsV X es us → NmsV X (.Name x np :: es) (c :: us)
theorem names_eval {X : Cx} {a : Addr} {oe : Obj} {pn : List (Addr × Obj)} {σ : L2.St} {H : Hp} {s : Shared} {E : Value → Shared → Prop} {pos : Pos} (S3 : L2.Inv (X.suite a ((a, oe) :: pn)) [] σ H s) : ∀ {es : List Expr} {us : List Value}, NmsV X es us → ∀ {Q : List Value → Shared → Prop}, Q us s → wpAny (model X.prog X.w) (X.A.mark (some (.ref a))) (spliced (backTo pos (starEach es X.env))) Q E s
  | _, _, .nil, Q, q => Calls.spliced_nil q
  | _, _, .cons hc hs t, Q, q => by
    rw [hs]
    show wpAny _ _ (spliced ((false, eval _ X.env) :: backTo pos (starEach _ X.env))) _ _ s
    exact Calls.spliced_cons (name_eval hc S3 (names_eval S3 t q))
theorem test_tup {X : Cx} {es : List Expr} {us : List Value} {k : Nat} {pos : Pos} (hc : NmsV X es us) (hl : us.length ≤ sizeLine) : TestOk X (.Tuple es k pos) (fun cls => PySem.W.exmAny X.K cls us) := fun a oe pn σ H s cls b Q E1 E2 S3 LT hb q => by
  refine wpAny_Tuple_spliced (names_eval S3 hc ⟨hl, ?_⟩)
  have kp : ∀ q o, s.heap.get? q = some o → (s.heap.push { cls := .type "tuple", data := .seq us.toArray }).get? q = some o := fun _ _ z => Heap.get?_push_of_some _ z
  exact (PySem.W.exm_tupN (M := model X.prog X.w) (S3.kIn.keeps kp) (LT.keeps kp) (Heap.get?_push_size s.heap rfl) hb).here (q _ kp)
/-- what is wished of an exception of the body -/
def wAsK (km : Value → Option Bool) (i : Nat) (ts : Addr → Value → Option Addr → TS) (Wout : WX) (D : Ends) : WX := fun cls d σ H =>
  ∃ b, km cls = some b ∧ (b = true → ∀ a, H a = none → ts a cls d { nx := fun σ' H' => H' a = none → D.nx (σ'.set i none) (upd H' a (excO a cls d)), rt := fun v H' => H' a = none → D.rt v (upd H' a (excO a cls d)), bk := fun σ' H' => False, ct := fun σ' H' => False } (σ.set i (some (.ref a))) H) ∧
    (b = false → Wout cls d σ H)
section
variable {X : Cx} {n : Str} {ty : Expr} {km : Value → Option Bool} {i : Nat} {body suite : List Stmt} {b₀ : Stmt} {np pos pos' : Pos} {tb : WX → TS} {ts : Addr → Value → Option Addr → TS} {Wout : WX}
theorem ps_try_asK (hs : X.stack = X.env :: X.outer) (hf : X.env.frame = some X.env.locals) (hex : X.ex = []) (hN : X.N.Nodup) (hi : X.N[i]? = some n) (hln : X.env.kindOf n = some .local) (hc : TestOk X ty km) (tk : Takes X Wout)
    (hb : ∀ (W : WX) (pn : List (Addr × Obj)) (xe : Value → Shared → Prop), Takes (X.tr pn xe) W → PassesOwn (model X.prog X.w) X.A X.env xe → PSs (X.tr pn xe) body (tb W))
    (hsu : ∀ (a : Addr) (oe : Obj) (cls : Value) (d : Option Addr) (pn : List (Addr × Obj)), Zc cls d oe → (∃ vs, oe.data = .fields vs) → PSs (X.suite a ((a, oe) :: pn)) (b₀ :: suite) (ts a cls d)) :
    PS X (.Try body [.ExceptHandler (some ty) (some n) (b₀ :: suite) pos'] [] [] pos) (fun D σ H => tb (wAsK km i ts Wout D) D σ H) := by
  refine ⟨fun pins s σ H D I h => ?_⟩
  have ok := I.ok
  have hfr : X.A.frames = some (X.env :: X.outer) := by rw [ok.frames, hs]
  have hloc : Loc X.env.scope n := .inl hln
  refine wpAny_Try_except ?_
  refine wpAny_mono ((hb (wAsK km i ts Wout D) (X.pn ++ pins) (fun e s₁ => wpAny (model X.prog X.w) X.A (noteFrame e X.env) (fun _ s₂ => wpAny (model X.prog X.w) X.A (setFlight e none) (fun _ s₃ =>
    wpAny (model X.prog X.w) X.A (handleBy e X.env [.ExceptHandler (some ty) (some n) (b₀ :: suite) pos']) (SP X pins D) X.xe s₃) X.xe s₂) X.xe s₁) (fun u s' xx => ?_) PassesOwn.looking).run [] s σ H D (I.toTry _) h) (fun f s1 hsp => ?_) (fun e s1 he => he)
  · -- the catch
    obtain ⟨a, B, sI, pins', σ', H', cls, d, rfl, J', nb, up, sky, na, os, ag, b, hb1, hyes, hno⟩ := xx
    have J : L2.Inv X pins σ' H' sI := J'.ofTry ok
    have Ba : B.get? a = none := by
      rcases sky with z | z | z
      · exact z.2.1
      · exact z.2.1
      · exact z.2.1
    have sky' : Sky B (X.env :: X.outer) a (Zc cls d) X.env.locals s'.heap := by rw [← hs]; exact sky
    show wpAny _ _ (noteFrame (.ref a) X.env) _ _ _
    refine Sky.land Zc.steady hfr hf sky' fun h3 fl3 up3 => ?_
    have J3 : L2.Inv X pins σ' H' { s' with heap := h3 } := J.landed nb fl3.1 (up.trans up3) os ag
    obtain ⟨oe3, vs3, he3, hz3, hd3⟩ := fl3.there
    have notFr : ∀ {h : Heap} {o : Obj} {vs : Array Value}, h.FunFrames B (X.env :: X.outer) → h.get? a = some o → o.data = .fields vs → a ∉ frs (X.env :: X.outer) := fun {h o vs} ff e dd hm => by
      obtain ⟨_, o', e', hnf⟩ := ff.mem hm
      rw [e] at e'; cases e'
      exact hnf _ dd
    have nfr := notFr fl3.2.2.1 he3 hd3
    have nL : a ≠ X.env.locals := fun z => nfr (List.mem_filterMap.mpr ⟨X.env, List.mem_cons_self, by rw [hf, z]⟩)
    have nF : a ∉ X.fs := fun hm => by
      obtain ⟨e, he, q⟩ := List.mem_filterMap.mp hm
      exact nfr (List.mem_filterMap.mpr ⟨e, List.mem_cons_of_mem _ he, q⟩)
    have sIa : sI.heap.get? a = none := by
      cases e : sI.heap.get? a with
      | none => rfl
      | some o =>
        have z := nb a o e (by rw [hs]; exact nfr)
        rw [Ba] at z
        cases z
    have s0a : X.s_0.heap.get? a = none := by
      cases e : X.s_0.heap.get? a with
      | none => rfl
      | some o =>
        obtain ⟨o', z⟩ := J.base.there a o e (by rw [hex]; simp)
        rw [sIa] at z
        cases z
    have cna : ∀ x c, X.env.cells.lookup x = some c → c ≠ a := fun x c e z => by
      obtain ⟨v, o, ho, _⟩ := J.cell x c e
      rw [z, sIa] at ho
      cases ho
    have pna : ∀ p ∈ X.pn ++ pins, p.1 ≠ a := fun p hp z => by
      obtain ⟨e, _⟩ := J.pin p hp
      rw [z, sIa] at e
      cases e
    have S3 := J3.suite he3 hd3 na nL nF
    refine wpAny_handleBy_cons (codeAny_handlers_test ?_) (by intro q; cases q)
    have LT : PySem.W.Looks (model X.prog X.w) h3 (typeOf (.ref a)) cls := fun A Q E s k q => wpAny_typeOf_ref (k _ _ he3) (by rw [hz3.1]; exact q)
    refine hc a oe3 (X.pn ++ pins) _ H' _ cls b _ _ _ S3 LT hb1 fun h3' k3' => ?_
    replace fl3 := flying_mono k3' fl3
    replace up3 : s'.heap.UpToSlots h3' := up3.trans (Heap.UpToSlots.of_keeps k3')
    cases b with
    | true =>
      refine codeAny_handlers_suite_as ?_
      refine HandSPX.lands_againZ fl3 fun h4 fl4 up4 => ?_
      have J4 : L2.Inv X pins σ' H' { s' with heap := h4 } := J.landed nb fl4.1 ((up.trans up3).trans up4) os ag
      obtain ⟨oe4, vs4, he4, hz4, hd4⟩ := fl4.there
      have S4 := J4.suite he4 hd4 na nL nF
      refine store_ok (X := X.suite a ((a, oe4) :: (X.pn ++ pins))) (v := .ref a) S4 hN hi hloc rfl (fun s5 S5 => ?_) (.inr hln)
      refine wpAny_mono ((hsu a oe4 cls d (X.pn ++ pins) hz4 ⟨_, hd4⟩).run [] s5 _ H' _ S5 (hyes rfl a na)) (fun f s6 hsp => ?_) (fun _ _ z => False.elim z)
      have aOf : ∀ {σ6 : L2.St} {H6 : Hp} {s7 : Shared}, L2.Inv (X.suite a ((a, oe4) :: (X.pn ++ pins))) [] σ6 H6 s7 → s7.heap.get? a = some oe4 ∧ H6 a = none := fun {σ6 H6 s7} S => by
        obtain ⟨e, n, _⟩ := S.pin (a, oe4) (List.mem_append_left _ List.mem_cons_self)
        exact ⟨e, n⟩
      have end_ : ∀ {σ6 : L2.St} {H6 : Hp} {Q : Shared → Prop}, L2.Inv (X.suite a ((a, oe4) :: (X.pn ++ pins))) [] σ6 H6 s6 → (∀ s7, L2.Inv X pins (σ6.set i none) (upd H6 a (excO a cls d)) s7 → Q s7) →
          wpAny (model X.prog X.w) X.A (do bindName X.env n .none; unbindBehindTheSuite X.env n pos') (fun _ s7 => Q s7) X.xe s6 := fun {σ6 H6 Q} S6 hq =>
        gone_ok (X := X.suite a ((a, oe4) :: (X.pn ++ pins))) S6 hN hi hln fun s7 S7 => hq s7 (by
          obtain ⟨e7, n7⟩ := aOf S7
          exact track (S7.unsuite ok) n7 s0a nL cna pna (excO_ok e7 hz4 ⟨_, hd4⟩))
      cases f with
      | next =>
        obtain ⟨σ6, H6, S6, q6⟩ := hsp
        exact end_ S6 fun s7 J7 => ⟨_, _, J7, q6 (aOf S6).2⟩
      | brk =>
        obtain ⟨σ6, H6, S6, q6⟩ := hsp
        exact q6.elim
      | cont =>
        obtain ⟨σ6, H6, S6, q6⟩ := hsp
        exact q6.elim
      | ret u =>
        obtain ⟨v6, σ6, H6, S6, r6, q6⟩ := hsp
        exact end_ S6 fun s7 J7 => ⟨_, _, _, J7, r6, q6 (aOf S6).2⟩
    | false =>
      show wpAny _ X.A (handleBy (.ref a) X.env []) _ _ _
      refine wpAny_handleBy_nil ?_
      obtain ⟨k1, k2, k3, oe, vs, T, oT, ts', he, hz, hd, h1, hr⟩ := id fl3
      unfold PySem.passOn
      refine wpAny_bind (wpAny_field he hd h1 ?_)
      rw [if_neg (show ¬ ((Value.ref T == Value.none) = true) from by simp)]
      have fin : wpAny (model X.prog X.w) X.A (setFlight (.ref a) X.env.frame) (fun _ s4 => wpAny (model X.prog X.w) X.A (throw (.ref a) : Sem Flow) (SP X pins D) X.xe s4) X.xe { s' with heap := h3' } := by
        rw [hf]
        refine HandSPX.setFlight_upZ fl3 fun h4 hh4 up4 => wpAny_throw (tk _ _ ?_)
        exact ⟨a, B, sI, pins, σ', H', cls, d, rfl, J, nb, (up.trans up3).trans up4, .inr (.inr (by rw [hs]; exact hh4)), na, os, ag, hno rfl⟩
      first
        | exact wpAny_bind (wpAny_pure (wpAny_bind fin))
        | exact wpAny_bind fin
  · cases f with
    | next =>
      obtain ⟨σ', H', J', q⟩ := hsp
      exact wpAny_execs_nil ⟨σ', H', J'.ofTry ok, q⟩
    | brk =>
      obtain ⟨σ', H', J', q⟩ := hsp
      exact ⟨σ', H', J'.ofTry ok, q⟩
    | cont =>
      obtain ⟨σ', H', J', q⟩ := hsp
      exact ⟨σ', H', J'.ofTry ok, q⟩
    | ret u =>
      obtain ⟨v, σ', H', J', r, q⟩ := hsp
      exact ⟨v, σ', H', J'.ofTry ok, r, q⟩
end
end Ev

namespace Ev
open PySem PySem.Spec PyProof.Rows L2
/-! ### own exceptions, made and raised -/
def xI (H : Hp) (a C d : Addr) (fs : List (Str × V)) : Hp := upd (upd H d (exd d fs)) a (exo a C (some d))
/-- what __init__ promises: it keeps its arguments as fields -/
def spI (K : PySem.W.Frag) (C : Addr) (fs : List Str) : Sp := fun vs H Q _ => ∃ (a : Addr) (ws : List V), vs = .ref a :: ws ∧ ws.length = fs.length ∧ OexC K C ∧ (∀ f, f ∈ fs → PySem.W.findIn K (.ref C) f = some none) ∧ H a = some (exo a C none) ∧
  ∀ d, H d = none → d ≠ a → Q .non (xI H a C d (fs.zip ws).reverse)
theorem spI_len {K : PySem.W.Frag} {C : Addr} {fs : List Str} : ∀ vs H Q E, spI K C fs vs H Q E → vs.length = ("self" :: fs : List Str).length := by
  rintro vs H Q E ⟨a, ws, rfl, h, _⟩
  simp [h]
section
variable {P : Program} {w : World} {K : PySem.W.Frag} {mg : Str → Option Value} {base : Heap} {C : Addr}
theorem init1 {f qual : Str} {st : Stmt} {fI : Addr} {fd : FuncData} {k : Nat} {p1 p2 p3 p4 : Pos} (F : Fun K "__init__" qual st fI fd) (S : FnScope ["self", f] ["self", f] (defScope st)) (hb : defBody st = [.Assign [.Attribute (.Name "self" p1) f p2] (.Name f p3) p4])
    (hs : (defScope st).names.lookup ("self" : Str) = some .local) (hf : (defScope st).names.lookup f = some .local) (hd : (f == ("__debug__" : Str)) = false) (hcd : (f == ("__classdict__" : Str)) = false) : FnOk P w K mg base (L2.CX P w) (k + 1) fI fd ["self", f] (spI K C [f]) := by
  refine F.okX S spI_len fun cdv A outer s H vs Q E hr hsp => ?_
  obtain ⟨a, ws, rfl, hl, T, hno, ea, q⟩ := hsp
  rw [hb]
  match ws, hl with
  | [y], _ =>
    refine ⟨_, pss_one (ps_ost (pe_var (i := 0) rfl (.inl hs)) (pe_var (i := 1) rfl (.inl hf) hd hcd) (by rfl)), y, rfl, .ref a, rfl, a, C, rfl, T, hno f (by simp), .inl ⟨ea, fun dx n ne => ?_⟩⟩
    exact q dx n ne
theorem init2 {f g qual : Str} {st : Stmt} {fI : Addr} {fd : FuncData} {k : Nat} {p1 p2 p3 p4 r1 r2 r3 r4 : Pos} (F : Fun K "__init__" qual st fI fd) (S : FnScope ["self", f, g] ["self", f, g] (defScope st)) (hb : defBody st = [.Assign [.Attribute (.Name "self" p1) f p2] (.Name f p3) p4, .Assign [.Attribute (.Name "self" r1) g r2] (.Name g r3) r4])
    (hs : (defScope st).names.lookup ("self" : Str) = some .local) (hf : (defScope st).names.lookup f = some .local) (hg : (defScope st).names.lookup g = some .local) (hd : (f == ("__debug__" : Str)) = false) (hcd : (f == ("__classdict__" : Str)) = false) (gd : (g == ("__debug__" : Str)) = false) (gcd : (g == ("__classdict__" : Str)) = false) :
    FnOk P w K mg base (L2.CX P w) (k + 1) fI fd ["self", f, g] (spI K C [f, g]) := by
  refine F.okX S spI_len fun cdv A outer s H vs Q E hr hsp => ?_
  obtain ⟨a, ws, rfl, hl, T, hno, ea, q⟩ := hsp
  rw [hb]
  match ws, hl with
  | [y, z], _ =>
    refine ⟨_, pss_cons (ps_ost (pe_var (i := 0) rfl (.inl hs)) (pe_var (i := 1) rfl (.inl hf) hd hcd) (by rfl)) (pss_one (ps_ost (pe_var (i := 0) rfl (.inl hs)) (pe_var (i := 2) rfl (.inl hg) gd gcd) (by rfl))), y, rfl, .ref a, rfl, a, C, rfl, T, hno f (by simp), .inl ⟨ea, fun dx n ne => ?_⟩⟩
    refine ⟨z, rfl, .ref a, rfl, a, C, rfl, T, hno g (by simp), .inr ⟨dx, [(f, y)], upd_same, ?_, by simp, ?_⟩⟩
    · rw [upd_ne ne, upd_same]
    · have e : upd (upd (upd H dx (exd dx [(f, y)])) a (exo a C (some dx))) dx (exd dx [(g, z), (f, y)]) = xI H a C dx [(g, z), (f, y)] := by
        funext b
        unfold xI
        by_cases h1 : b = dx
        · subst h1
          rw [upd_same, upd_ne ne, upd_same]
        · rw [upd_ne h1]
          by_cases h2 : b = a
          · subst h2
            rw [upd_same, upd_same]
          · rw [upd_ne h2, upd_ne h2, upd_ne h1, upd_ne h1]
      show Q .non _
      rw [e]
      exact q dx n ne
end
/-- an own exception class -/
def ExX (P : Program) (w : World) (K : PySem.W.Frag) (mg : Str → Option Value) (base : Heap) (k : Nat) (x : Str) (fs : List Str) : Prop :=
  ∃ (C fI : Addr) (fd : FuncData), mg x = some (.ref C) ∧ ClsN K x C ∧ OexC K C ∧ PySem.W.findIn K (.ref C) "__init__" = some (some (.ref fI)) ∧ PySem.W.typeIn K (.ref fI) = some (.type "function") ∧ (∀ f, f ∈ fs → PySem.W.findIn K (.ref C) f = some none) ∧
    FnOk P w K mg base (L2.CX P w) k fI fd ("self" :: fs) (spI K C fs) ∧ Binds K fd ("self" :: fs) []
def evRaise (x : Str) (fs : List Str) (fa : Pg (List AV)) : Pg Fl := .bind fa fun as => match dataOf as with
  | some ds => if ds.length = fs.length then (fun m => .thr ⟨x, (fs.zip ds).reverse⟩ m) else .stuck
  | none => .stuck
theorem rf_app {K : PySem.W.Frag} {F : Hp} : ∀ {fs gs : List (PyData × PyData)} {vs ws : List (Str × V)}, RF K F fs vs → RF K F gs ws → RF K F (fs ++ gs) (vs ++ ws)
  | _, _, _, _, .nil, h => h
  | _, _, _, _, .cons h t, g => .cons h (rf_app t g)
theorem rf_zip {K : PySem.W.Frag} {F : Hp} : ∀ {fs : List Str} {ds : List PyData} {vs : List V}, RA K F ds vs → RF K F (fieldsD (fs.zip ds).reverse) (fs.zip vs).reverse
  | [], _, _, _ => .nil
  | f :: fs, _, _, .nil => .nil
  | f :: fs, d :: ds, v :: vs, .cons h t => by
    rw [List.zip_cons_cons, List.zip_cons_cons, List.reverse_cons, List.reverse_cons]
    unfold fieldsD
    rw [List.map_append]
    exact rf_app (rf_zip t) (.cons h .nil)
section
variable {X : Cx} {B : XBt} {e : Expr} {es : List Expr} {fa : Pg (List AV)} {p pos pos' : Pos} {x : Str} {fs : List Str} {k : Nat}
theorem snd_raise (C : Ctx X B) (h : ExX X.prog X.w X.K X.mg X.base k x fs) (hr : Room (k + 1) X.A) (hz : fs.length ≤ 900) (hg : Gl X x) (ha : SndA X B (e :: es) fa)
    (hdb : (x == ("__debug__" : Str)) = false := by decide) (he : starEach (e :: es) X.env = (false, eval e X.env) :: starEach es X.env := by rfl) (hpl : (backTo pos (starEach es X.env)).any (·.1) = false := by rfl) :
    SndS X B (.Raise (some (.Call (.Name x p) (e :: es) [] pos)) none pos') (evRaise x fs fa) := by
  obtain ⟨D, fI, fd, hm, hc, T, iC, tI, hno, F, hb⟩ := h
  intro w En r hw
  refine ws_of (ps_raise C.calm C.tk (pmk_oex T iC tI F hr hb .nil (fun _ _ _ _ _ _ _ z => by
    obtain ⟨_, _, _, _, _, _, _, _, _, _, _, _, z⟩ := z
    exact z.elim) hg hm pa_w hdb he hpl)) ?_
  refine sndA_then ha r hw fun vs w1 xs e1 f1 r1 rv q => ?_
  cases ed : dataOf vs with
  | none =>
    rw [ed] at q
    exact q.elim
  | some ds =>
    rw [ed] at q
    dsimp only at q
    split at q
    · rename_i hl
      have ra := dataOf_ok rv ed
      have lx : xs.length = fs.length := by rw [← ra.len, hl]
      refine ⟨by omega, fun a hn => ⟨a, xs, by rw [List.append_nil], lx, T, hno, upd_same, fun d hd hda => ⟨rfl, d, (fs.zip xs).reverse, upd_same, ?_, ?_, ?_⟩⟩⟩
      · unfold xI
        rw [upd_ne hda, upd_same]
      · rw [upd_ne hda] at hd
        exact hd
      · rw [upd_ne hda] at hd
        have eH : upd (del (xI (upd w1.H a (exo a D none)) a D d (fs.zip xs).reverse) a) d (.xd (fs.zip xs).reverse) = upd w1.H d (.xd (fs.zip xs).reverse) := by
          funext b
          by_cases h1 : b = d
          · subst h1
            rw [upd_same, upd_same]
          · rw [upd_ne h1, upd_ne h1]
            by_cases h2 : b = a
            · subst h2
              rw [del_same, hn]
            · rw [del_ne h2]
              unfold xI
              rw [upd_ne h2, upd_ne h1, upd_ne h2]
        rw [eH]
        obtain ⟨r2, f2⟩ := layFix r1 hd (.xd (fs.zip xs).reverse)
        refine ⟨⟨x, (fs.zip ds).reverse⟩, _, r2, e1, rfl, ⟨D, hc, rfl, .inr ⟨d, _, rfl, upd_same, (rf_zip ra).mono f2.ext⟩⟩, q _ rfl (f2.s r1) r2⟩
    · exact q.elim
end

/-! ### try: body, except C as e: suite -/
def evTry (tb : List (Str × Bool)) (fx : Exn → Pg Fl) (fb : Pg Fl) : Pg Fl := fun m => match fb m with
  | .ok f m' => .ok f m'
  | .thr x m' => match tb.lookup x.cls with
    | some true => fx x m'
    | some false => .thr x m'
    | none => .bad
  | .bad => .bad
/-- what a handler's class says to the classes that may come -/
def TryC (K : PySem.W.Frag) (km : Value → Option Bool) (tb : List (Str × Bool)) : Prop := ∀ x b, tb.lookup x = some b → ∀ D, ClsN K x D → km (.ref D) = some b
theorem tryC_nil {K : PySem.W.Frag} {km : Value → Option Bool} : TryC K km [] := fun x b h => by cases h
theorem tryC_cons {K : PySem.W.Frag} {km : Value → Option Bool} {tb : List (Str × Bool)} {x : Str} {b : Bool} {D : Addr} (h : ClsN K x D) (e : km (.ref D) = some b) (t : TryC K km tb) : TryC K km ((x, b) :: tb) := fun y b' h' D' hD => by
  rw [List.lookup_cons] at h'
  cases q : y == x with
  | true =>
    rw [q] at h'
    cases h'
    have q := eq_of_beq q
    subst q
    rw [hD.one h]
    exact e
  | false =>
    rw [q] at h'
    exact t y b' h' D' hD
section
variable {X : Cx} {B : XBt} {n : Str} {ty : Expr} {km : Value → Option Bool} {i : Nat} {body suite : List Stmt} {b₀ : Stmt} {pos pos' : Pos} {fb : Pg Fl} {fx : Exn → Pg Fl} {tb : List (Str × Bool)}
def trB (X : Cx) (W : WX) : XBt := fun x w' => ∀ cls d, ExAt X.K w' x cls d → W cls d w'.sg w'.H
theorem ctx_tr (C : Ctx X B) {W : WX} {pn : List (Addr × Obj)} {xe : Value → Shared → Prop} (tk : Takes (X.tr pn xe) W) : Ctx (X.tr pn xe) (trB X W) :=
  ⟨C.calm, C.gd, C.rm, C.nd, C.sm, tk.imp fun cls d sg H ⟨x, w', _, es, eH, ex, b⟩ => by
    subst es eH
    exact b cls d ex⟩
/-- the body's wish, at every place where it may stand -/
def WBx (X : Cx) (sts : List Stmt) (W : WX) : TS := fun D sg H => Cl (∀ (pn : List (Addr × Obj)) (xe : Value → Shared → Prop), Takes (X.tr pn xe) W → PassesOwn (model X.prog X.w) X.A X.env xe → WB (X.tr pn xe) sts D sg H)
theorem pb_x {X : Cx} {sts : List Stmt} {W : WX} {pn : List (Addr × Obj)} {xe : Value → Shared → Prop} (tk : Takes (X.tr pn xe) W) (po : PassesOwn (model X.prog X.w) X.A X.env xe) : PSs (X.tr pn xe) sts (WBx X sts W) := ⟨fun pins s _ _ _ I h => (h.go pn xe tk po).go pins s I⟩
theorem try_core {ts : Addr → Value → Option Addr → TS} (hs : X.stack = X.env :: X.outer) (hf : X.env.frame = some X.env.locals) (hex : X.ex = []) (hi : X.N[i]? = some n) (hln : X.env.kindOf n = some .local) (hc : TestOk X ty km) (C : Ctx X B) (ht : TryC X.K km tb)
    (hsu : ∀ (a : Addr) (oe : Obj) (cls : Value) (d : Option Addr) (pn : List (Addr × Obj)), Zc cls d oe → (∃ vs, oe.data = .fields vs) → PSs (X.suite a ((a, oe) :: pn)) (b₀ :: suite) (ts a cls d))
    (hb : ∀ (pn : List (Addr × Obj)) (xe : Value → Shared → Prop) (B' : XBt), Ctx (X.tr pn xe) B' → PassesOwn (model X.prog X.w) X.A X.env xe → SndB (X.tr pn xe) B' body fb)
    (hx : ∀ (w : Wd) (D : Ends) (x : Exn) (cls : Value) (d : Option Addr) (a : Addr), Rep X.K w → ExAt X.K w x cls d → (fx x w.m).wp (PostS X.K w D) (XW X.K B w) → w.H a = none →
      ts a cls d { nx := fun σ' H' => H' a = none → D.nx (σ'.set i none) (upd H' a (excO a cls d)), rt := fun v H' => H' a = none → D.rt v (upd H' a (excO a cls d)), bk := fun σ' H' => False, ct := fun σ' H' => False } (w.sg.set i (some (.ref a))) w.H) :
    SndS X B (.Try body [.ExceptHandler (some ty) (some n) (b₀ :: suite) pos'] [] [] pos) (evTry tb fx fb) := by
  intro w D r hw
  refine ws_of (ps_try_asK (tb := WBx X body) hs hf hex C.nd hi hln hc C.tk (fun W pn xe tk po => pb_x tk po) hsu) ?_
  refine ⟨fun pn xe tk po => hb pn xe _ (ctx_tr C tk) po w D r ?_⟩
  unfold evTry at hw
  cases e : fb w.m with
  | bad =>
    rw [e] at hw
    exact hw.elim
  | ok f m' =>
    rw [e] at hw
    exact hw
  | thr y m' =>
    rw [e] at hw
    dsimp only at hw
    show XW X.K (trB X _) w y m'
    intro w' em f r' cls d ex
    subst em
    cases q : tb.lookup y.cls with
    | none =>
      rw [q] at hw
      exact hw.elim
    | some b =>
      rw [q] at hw
      have ex' := ex
      obtain ⟨E, hE, rfl, _⟩ := ex
      refine ⟨b, ht y.cls b q E hE, fun hb a ha => ?_, fun hb => ?_⟩
      · subst hb
        exact hx w' D y (.ref E) d a r' ex' (hw.imp (fun _ _ z => post_of z f) fun _ _ z => z.fol f) ha
      · subst hb
        have hw : XW X.K B w y w'.m := hw
        exact ⟨y, w', r', rfl, rfl, ex', hw w' rfl f r'⟩
/-- v = e, e the exception -/
def sxKeep (i j : Nat) : Exn → Pg Fl := fun x m => if i < m.sl.length then .ok .next { m with sl := (m.sl.set j (some (.d (exnD x.cls x.fs)))).set i none } else .bad
theorem exAt_R {K : PySem.W.Frag} {w : Wd} {x : Exn} {cls : Value} {d : Option Addr} {a : Addr} (h : ExAt K w x cls d) (ha : w.F a = some (excO a cls d)) : R K w.F (exnD x.cls x.fs) (.ref a) := by
  obtain ⟨C, h1, rfl, ⟨h2, rfl⟩ | ⟨dd, vs, rfl, h3, h4⟩⟩ := h
  · unfold exnD
    rw [h2]
    exact .exn0 h1 ha
  · exact .exn h1 ha h3 h4
theorem ExAt.fol {K : PySem.W.Frag} {w w' : Wd} {x : Exn} {cls : Value} {d : Option Addr} (h : ExAt K w x cls d) (f : Same w.F w'.F) : ExAt K w' x cls d := by
  obtain ⟨C, h1, h2, h | ⟨dd, vs, h3, h4, h5⟩⟩ := h
  · exact ⟨C, h1, h2, .inl h⟩
  · exact ⟨C, h1, h2, .inr ⟨dd, vs, h3, f _ _ h4, h5.mono f⟩⟩
def clrW (w : Wd) (i : Nat) : Wd := { w with m := { w.m with sl := w.m.sl.set i none }, sg := w.sg.set i none }
theorem clr_ok {K : PySem.W.Frag} {w : Wd} (r : Rep K w) (i : Nat) : Rep K (clrW w i) ∧ FolS w (clrW w i) := by
  have sl : ∀ (j : Nat) (v : SV), (w.m.sl.set i none)[j]? = some (some v) → j ≠ i ∧ w.m.sl[j]? = some (some v) := fun j v h => by
    rcases set_get h with ⟨_, q⟩ | q
    · cases q
    · exact q
  have sg : ∀ j, j ≠ i → (w.sg.set i none)[j]? = w.sg[j]? := fun j h => List.getElem?_set_ne (Ne.symm h)
  refine ⟨⟨r.sub, ?_, fun j v h => ?_, r.cs, r.ln, r.rf, r.nd, fun j k xs ys y h1 h2 h3 h4 => ?_, r.zl, r.oo, r.tb⟩, ⟨rfl, rfl, Same.refl _, ⟨[], (List.append_nil _).symm⟩, fun _ _ h _ _ _ => h, fun _ h => .inl h, fun _ h => h, fun _ h => .inl h⟩⟩
  · show (w.m.sl.set i none).length ≤ (w.sg.set i none).length
    rw [List.length_set, List.length_set]
    exact r.le
  · obtain ⟨n, h⟩ := sl j v h
    obtain ⟨y, q1, q2⟩ := r.sl j v h
    exact ⟨y, (sg j n).trans q1, q2⟩
  · obtain ⟨n1, h1⟩ := sl j _ h1
    obtain ⟨n2, h2⟩ := sl k _ h2
    exact r.ow j k xs ys y h1 h2 ((sg j n1).symm.trans h3) ((sg k n2).symm.trans h4)
theorem set_set3 {α : Type} {l : List α} {i j : Nat} {x y z : α} : ((l.set i x).set j y).set i z = (l.set j y).set i z := by
  refine List.ext_getElem? fun k => ?_
  simp only [List.getElem?_set, List.length_set]
  by_cases h : i = k
  · subst h
    simp
  · simp only [if_neg h]
theorem snd_try {v : Str} {j : Nat} {p1 p2 p3 : Pos} (hs : X.stack = X.env :: X.outer) (hf : X.env.frame = some X.env.locals) (hex : X.ex = []) (hi : X.N[i]? = some n) (hln : X.env.kindOf n = some .local) (hc : TestOk X ty km) (C : Ctx X B) (ht : TryC X.K km tb)
    (hj : X.N[j]? = some v) (hv : Loc X.env.scope v) (hfn : X.fn v = true ∨ X.env.scope.names.lookup v = some .local) (hvn : Vis X.env.scope n)
    (hb : ∀ (pn : List (Addr × Obj)) (xe : Value → Shared → Prop) (B' : XBt), Ctx (X.tr pn xe) B' → PassesOwn (model X.prog X.w) X.A X.env xe → SndB (X.tr pn xe) B' body fb)
    (hd : (n == ("__debug__" : Str)) = false := by decide) (hcd : (n == ("__classdict__" : Str)) = false := by decide) :
    SndS X B (.Try body [.ExceptHandler (some ty) (some n) [.Assign [.Name v p1] (.Name n p2) p3] pos'] [] [] pos) (evTry tb (sxKeep i j) fb) := by
  refine try_core (ts := fun _ _ _ => tAsg (tVar i) (gName j)) hs hf hex hi hln hc C ht (fun a oe cls d pn _ _ => pss_one (ps_set (X := X.suite a ((a, oe) :: pn)) C.nd hj hv (pe_var hi hvn hd hcd) (by rfl) hfn)) hb fun w D y cls d a r ex hw ha => ?_
  have hw : (sxKeep i j y w.m).wp _ _ := hw
  unfold sxKeep at hw
  split at hw
  · rename_i hl
    refine ⟨.ref a, List.getElem?_set_self (Nat.lt_of_lt_of_le hl r.le), fun _ => ?_⟩
    obtain ⟨r1, f1⟩ := layFix r ha (excO a cls d)
    have ex1 := ex.fol f1.ext
    obtain ⟨r2, f2⟩ := set_ok (i := j) (v := .d (exnD y.cls y.fs)) (x := .ref a) r1 (exAt_R ex1 upd_same) (fun _ _ e => by cases e)
    obtain ⟨r3, f3⟩ := clr_ok r2 i
    have q := hw (clrW (setW { w with F := upd w.F a (excO a cls d), H := upd w.H a (excO a cls d) } j (.d (exnD y.cls y.fs)) (.ref a)) i) rfl (((f1.s r).trans f2).trans f3) r3
    show D.nx (((w.sg.set i (some (.ref a))).set j (some (.ref a))).set i none) (upd w.H a (excO a cls d))
    rw [set_set3]
    exact q
  · exact hw.elim
end
section
variable {m : Mem} {X : Exn → Mem → Prop} {F : Fl → Mem → Prop}
@[simp] theorem W_raise {x : Str} {fs : List Str} {fa : Pg (List AV)} : W (evRaise x fs fa) m X F ↔ W fa m X fun vs m1 => ∃ ds, dataOf vs = some ds ∧ ds.length = fs.length ∧ X ⟨x, (fs.zip ds).reverse⟩ m1 := by
  unfold evRaise
  rw [W_bind]
  refine iff_of_eq (congrArg _ (funext fun vs => funext fun m1 => propext ?_))
  cases e : dataOf vs with
  | none => exact ⟨fun h => h.go.elim, fun ⟨_, z, _⟩ => by cases z⟩
  | some ds =>
    dsimp only
    by_cases h : ds.length = fs.length
    · rw [if_pos h]
      exact ⟨fun q => ⟨ds, rfl, h, q.go⟩, fun ⟨_, z, _, q⟩ => by cases z; exact ⟨q⟩⟩
    · rw [if_neg h]
      exact ⟨fun q => q.go.elim, fun ⟨_, z, q, _⟩ => by cases z; exact absurd q h⟩
@[simp] theorem W_try {tb : List (Str × Bool)} {fx : Exn → Pg Fl} {fb : Pg Fl} : W (evTry tb fx fb) m X F ↔ W fb m (fun x m1 => ∃ b, tb.lookup x.cls = some b ∧ (b = true → W (fx x) m1 X F) ∧ (b = false → X x m1)) F := by
  rw [W_iff, W_iff]
  unfold evTry
  cases e : fb m with
  | bad => exact Iff.rfl
  | ok f m' => exact Iff.rfl
  | thr x m' =>
    dsimp only
    show _ ↔ ∃ b, tb.lookup x.cls = some b ∧ _
    cases q : tb.lookup x.cls with
    | none => exact ⟨fun h => h.elim, fun ⟨_, z, _⟩ => by cases z⟩
    | some b =>
      cases b with
      | true => exact ⟨fun h => ⟨true, rfl, fun _ => ⟨h⟩, fun z => by cases z⟩, fun ⟨_, z, h, _⟩ => by cases z; exact (h rfl).go⟩
      | false => exact ⟨fun h => ⟨false, rfl, fun z => (by cases z), fun _ => h⟩, fun ⟨_, z, _, h⟩ => by cases z; exact h rfl⟩
@[simp] theorem W_keep {i j : Nat} {x : Exn} {sl : List (Option SV)} {cs : List Ob} : W (sxKeep i j x) ⟨sl, cs⟩ X F ↔ i < sl.length ∧ F .next ⟨(sl.set j (some (.d (exnD x.cls x.fs)))).set i none, cs⟩ := by
  rw [W_iff]
  unfold sxKeep
  dsimp only
  by_cases h : i < sl.length
  · rw [if_pos h]
    exact ⟨fun q => ⟨h, q⟩, fun q => q.2⟩
  · rw [if_neg h]
    exact ⟨fun q => q.elim, fun q => absurd q.1 h⟩
end
end Ev

namespace Ev
open PySem PySem.Spec PyProof.Rows L2
/-! ### isinstance, fields: caught exceptions as data -/
/-- what a class says, so that isinstance and fields of its exceptions may be asked -/
structure ExcF (K : PySem.W.Frag) (D : Addr) : Prop where
  cl : (PySem.W.clsIn K D).isSome = true
  hg : PySem.W.findIn K (.ref D) "__getattribute__" = some (some (.builtin "BaseException.__getattribute__"))
  hk : PySem.W.findIn K (.ref D) "__getattr__" = some none
  hs : PySem.W.subIn K (.ref D) (.type "BaseException") = some true
  ha : PySem.W.findIn K (.ref D) "__class__" = some (some (.builtin "object.__class__"))
  hn : PySem.W.specialIn K (.builtin "object.__class__") "__get__" = some (some (.builtin "getset_descriptor.__get__"))
  ht : PySem.W.takesIn K (.builtin "object.__class__") = some true
  hm : PySem.W.mroIn K D (.type "object") = some true
  hd : PySem.W.hasDictIn K D = true
def exnC : PyData → Option (Str × List (PyData × PyData))
  | .dict ((.none, .int i) :: (.none, .str c) :: fs) => if i = 0 then some (c, fs) else none
  | _ => none
theorem exnC_exn {c : Str} {fs : List (Str × PyData)} : exnC (exnD c fs) = some (c, fieldsD fs) := rfl
/-- a caught exception, by the heap -/
theorem exnC_R {K : PySem.W.Frag} {F : Hp} {d : PyData} {v : V} {c : Str} {fs : List (PyData × PyData)} (h : R K F d v) (e : exnC d = some (c, fs)) :
    ∃ (a C : Addr) (dd : Option Addr), v = .ref a ∧ ClsN K c C ∧ F a = some (excO a (.ref C) dd) ∧ ((dd = none ∧ fs = []) ∨ ∃ (x : Addr) (vs : List (Str × V)), dd = some x ∧ F x = some (.xd vs) ∧ RF K F fs vs) := by
  cases h with
  | non => cases e
  | bl b => cases e
  | int i => cases e
  | str x => cases e
  | lst _ _ => cases e
  | tup _ _ => cases e
  | dic _ h =>
    cases h with
    | nil => cases e
    | @cons k _ _ _ _ _ _ => cases k <;> cases e
  | ins _ _ _ h => cases e
  | cls _ => cases e
  | exn0 h1 h2 =>
    cases e
    exact ⟨_, _, _, rfl, h1, h2, .inl ⟨rfl, rfl⟩⟩
  | exn h1 h2 h3 h4 =>
    cases e
    exact ⟨_, _, _, rfl, h1, h2, .inr ⟨_, _, rfl, h3, h4⟩⟩
section
variable {X : Cx} {pins : List (Addr × Obj)} {σ : L2.St} {H : Hp} {s : Shared}
theorem exc_inst {a C : Addr} {dd : Option Addr} (I : L2.Inv X pins σ H s) (ha : H a = some (excO a (.ref C) dd)) (hd : dd = none ∨ ∃ (x : Addr) (vs : List (Str × V)), dd = some x ∧ H x = some (.xd vs)) :
    ∃ (ox : Obj) (od : Option Obj), PySem.W.InstAt s.heap a ox C od := by
  obtain ⟨⟨oe, vs, e1, ⟨z1, z2⟩, e3⟩, _, _⟩ := I.hok a _ ha
  have no : PySem.W.notCls oe = true := by unfold PySem.W.notCls; rw [e3] <;> rfl
  rcases hd with rfl | ⟨x, fs, rfl, hx⟩
  · exact ⟨oe, none, e1, z1, no, by rw [z2]; trivial⟩
  · obtain ⟨mA, hns, hr⟩ := (show ObjOk X.prog X.w H s.heap x (.xd fs) from I.hok x _ hx)
    obtain ⟨od, ho, hl⟩ := lookIn_ns hns
    exact ⟨oe, some od, e1, z1, no, by rw [z2]; exact ho⟩
end
/-- a value's type: a builtin one, or an own exception class -/
def KitH (K : PySem.W.Frag) (H : Hp) (x : V) (t : Value) : Prop := TyX K H x t ∨ ∃ (a D : Addr) (dd : Option Addr), x = .ref a ∧ t = .ref D ∧ ExcF K D ∧ H a = some (excO a (.ref D) dd) ∧ (dd = none ∨ ∃ (y : Addr) (vs : List (Str × V)), dd = some y ∧ H y = some (.xd vs))
theorem kith_of {X : Cx} {pins : List (Addr × Obj)} {σ : L2.St} {H : Hp} {s : Shared} {x : V} {u t : Value} (I : L2.Inv X pins σ H s) (rx : RelV x u) (ty : KitH X.K H x t) : ∃ P : Heap → Prop, PySem.W.KitX X.K u t P ∧ P s.heap ∧ u ≠ .builtin "__main__.__loader__#opaque" := by
  rcases ty with ty | ⟨a, D, dd, rfl, rfl, E, ha, hd⟩
  · exact kit_of I rx ty
  · cases (show u = Value.ref a from rx)
    obtain ⟨ox, od, J⟩ := exc_inst I ha hd
    exact ⟨_, PySem.W.kitx_exc (ox := ox) (od := od) E.cl E.hg E.hk E.hs E.ha E.hn E.ht E.hm, J, fun z => nomatch z⟩
theorem kit_one {K : PySem.W.Frag} {t u : Value} {b : Bool} (h : PySem.W.kitAny K t [u] = some b) : PySem.W.kitOne K t u = some b := by
  unfold PySem.W.kitAny at h
  split at h
  · rename_i e; cases h; exact e
  · rename_i e
    have h : some false = some b := h
    cases h
    exact e
  · cases h
/-- isinstance, one class or a tuple of classes -/
def rIsM (K : PySem.W.Frag) : List V → Hp → VK → Prop := fun xs H Q => ∃ (x c : V) (t : Value) (us : List Value) (b : Bool), xs = [x, c] ∧ KitH K H x t ∧ PySem.W.kitAny K t us = some b ∧ ((∃ u, us = [u] ∧ ClsV c u) ∨ ∃ (tp : Addr) (cs : List V), c = .ref tp ∧ H tp = some (.tup cs) ∧ Paired ClsV cs us) ∧ Q (.bl b) H
theorem call_isM {X : Cx} : CallR X (.builtin "isinstance") (rIsM X.K) := by
  intro pins s σ H xs us Q I r h
  obtain ⟨x, c, t, ws, b, rfl, ty, e, hc, q⟩ := h
  obtain ⟨u1, u2, rfl, r1, r2⟩ := vals2 r
  obtain ⟨P, Z, p, hx⟩ := kith_of I r1 ty
  rcases hc with ⟨u, rfl, k⟩ | ⟨tp, cs, rfl, hT, k⟩
  · have e2 := k.eq r2
    subst e2
    exact PySem.W.kia_one Z I.kIn p (kit_one e) hx fun tk => ⟨.bl b, H, I.tok tk, rfl, q⟩
  · cases (show u2 = Value.ref tp from r2)
    obtain ⟨_, its, rv, o, h1, h2, n, h3⟩ := (show ObjOk X.prog X.w H s.heap tp (.tup cs) from I.hok tp _ hT)
    have e3 := ClsV.all k rv
    subst e3
    obtain ⟨oc, od, dt, sl⟩ := o
    simp only at h2 h3
    subst h2 h3
    exact PySem.W.kia_tup Z I.kIn p h1 e hx fun tk => ⟨.bl b, H, I.tok tk, rfl, q⟩
/-- names of classes -/
inductive ClsL (X : Cx) : List Expr → List V → List Value → Prop
  | nil : ClsL X [] [] []
  | cons {e : Expr} {es : List Expr} {c : V} {cs : List V} {u : Value} {us : List Value} : PE X e (tC c) → ClsV c u → starEach (e :: es) X.env = (false, eval e X.env) :: starEach es X.env → ClsL X es cs us → ClsL X (e :: es) (c :: cs) (u :: us)
theorem ClsL.pa {X : Cx} : ∀ {es : List Expr} {cs : List V} {us : List Value}, ClsL X es cs us → PA X es (fun _ H Q => Q cs H)
  | _, _, _, .nil => pa_nil
  | _, _, _, .cons h _ hs t => pa_cons h t.pa hs
theorem ClsL.vs {X : Cx} : ∀ {es : List Expr} {cs : List V} {us : List Value}, ClsL X es cs us → Paired ClsV cs us
  | _, _, _, .nil => .nil
  | _, _, _, .cons _ k _ t => .cons k t.vs
/-- what isinstance answers: by the names of builtin types, by the names of exception classes -/
def IsiC (K : PySem.W.Frag) (us : List Value) (t1 : List (String × Bool)) (t2 : List (Str × Bool)) : Prop :=
  (∀ t b, t1.lookup t = some b → PySem.W.kitAny K (.type t) us = some b) ∧ ∀ c b, t2.lookup c = some b → ∀ D, ClsN K c D → ExcF K D ∧ PySem.W.kitAny K (.ref D) us = some b
def isMB (t1 : List (String × Bool)) (t2 : List (Str × Bool)) (x : PyData) : Option Bool := match exnC x with
  | some (c, _) => t2.lookup c
  | none => (tyName x).bind fun t => t1.lookup t
def evIsM (t1 : List (String × Bool)) (t2 : List (Str × Bool)) (f : Pg EV) : Pg EV := .bind f fun v => look (opnd v) fun x => optP ((isMB t1 t2 x).map fun b => EV.d (.bool b))
theorem isB_kit {X : Cx} {w : Wd} (s : Same w.F w.H) {us : List Value} {t1 : List (String × Bool)} {t2 : List (Str × Bool)} (hI : IsiC X.K us t1 t2) {x : PyData} {v : V} {b : Bool} (h : RN X.K w x v) (e : isMB t1 t2 x = some b) :
    ∃ t, KitH X.K w.H v t ∧ PySem.W.kitAny X.K t us = some b := by
  unfold isMB at e
  cases q : exnC x with
  | none =>
    rw [q] at e
    dsimp only at e
    cases q2 : tyName x with
    | none =>
      rw [q2] at e
      cases e
    | some t =>
      rw [q2] at e
      exact ⟨_, .inl (tyX_of s h q2), hI.1 t b e⟩
  | some p =>
    obtain ⟨c, fs⟩ := p
    rw [q] at e
    dsimp only at e
    obtain ⟨a, C, dd, rfl, hc, ha, hd⟩ := exnC_R (h.now s) q
    obtain ⟨E, hk⟩ := hI.2 c b e C hc
    refine ⟨_, .inr ⟨a, C, dd, rfl, rfl, E, ha, ?_⟩, hk⟩
    rcases hd with ⟨h1, _⟩ | ⟨y, vs, h1, h2, _⟩
    · exact .inl h1
    · exact .inr ⟨y, vs, h1, h2⟩
section
variable {X : Cx} {B : XBt} {e c : Expr} {es : List Expr} {f : Pg EV} {p1 p2 pos : Pos} {x : Str} {us : List Value} {t1 : List (String × Bool)} {t2 : List (Str × Bool)}
theorem snd_is1 {cs : List V} (h : Snd X B e f) (hg : Gl X x) (hm : X.mg x = none) (hv : bootBuiltins x = some (.builtin "isinstance")) (hI : IsiC X.K us t1 t2) (hc : ClsL X [c] cs us)
    (hn : x ≠ "__name__" := by decide) (hdb : (x == ("__debug__" : Str)) = false := by decide)
    (he : starEach [e, c] X.env = (false, eval e X.env) :: starEach [c] X.env := by rfl) (hpl : (backTo pos (starEach [c] X.env)).any (·.1) = false := by rfl) : Snd X B (.Call (.Name x p1) [e, c] [] pos) (evIsM t1 t2 f) := by
  intro w Q r hw
  refine we_of (pe_callB call_isM hg hm hv (pa_cons pe_w hc.pa he) hn hdb he hpl) ?_
  refine snd_then h r hw fun v w1 y e1 f1 r1 re h1 => ?_
  obtain ⟨d, ed, h1⟩ := look_ok h1
  obtain ⟨z, ez, q⟩ := wp_opt h1
  cases eb : isMB t1 t2 d with
  | none =>
    rw [eb] at ez
    cases ez
  | some b =>
    rw [eb] at ez
    cases ez
    obtain ⟨t, hk, ek⟩ := isB_kit r1.sub hI ((re.ro r1).rn r1 ed) eb
    cases hc with
    | cons _ k _ ht =>
      cases ht
      exact ⟨y, _, t, _, b, rfl, hk, ek, .inl ⟨_, rfl, k⟩, q w1 (.bl b) rfl e1 f1 r1 (.bl b)⟩
theorem snd_isT {cs : List V} {k : Nat} (h : Snd X B e f) (hg : Gl X x) (hm : X.mg x = none) (hv : bootBuiltins x = some (.builtin "isinstance")) (hI : IsiC X.K us t1 t2) (hc : ClsL X es cs us) (hl : cs.length ≤ sizeLine)
    (hn : x ≠ "__name__" := by decide) (hdb : (x == ("__debug__" : Str)) = false := by decide)
    (he : starEach [e, .Tuple es k p2] X.env = (false, eval e X.env) :: starEach [.Tuple es k p2] X.env := by rfl) (he2 : starEach [.Tuple es k p2] X.env = (false, eval (.Tuple es k p2) X.env) :: starEach [] X.env := by rfl)
    (hpl : (backTo pos (starEach [.Tuple es k p2] X.env)).any (·.1) = false := by rfl) : Snd X B (.Call (.Name x p1) [e, .Tuple es k p2] [] pos) (evIsM t1 t2 f) := by
  intro w Q r hw
  refine we_of (pe_callB call_isM hg hm hv (pa_cons pe_w (pa_cons (pe_tup hc.pa) pa_nil he2) he) hn hdb he hpl) ?_
  refine snd_then h r hw fun v w1 y e1 f1 r1 re h1 => ?_
  obtain ⟨d, ed, h1⟩ := look_ok h1
  obtain ⟨z, ez, q⟩ := wp_opt h1
  cases eb : isMB t1 t2 d with
  | none =>
    rw [eb] at ez
    cases ez
  | some b =>
    rw [eb] at ez
    cases ez
    refine ⟨hl, fun p hp => ?_⟩
    obtain ⟨r2, f2⟩ := layFix r1 hp (.tup cs)
    have ro := ((re.ro r1).rn r1 ed).now r1.sub
    have sm : Same w1.H (upd w1.H p (.tup cs)) := fun a u q => by rw [upd_ne (ne_of_none q hp)]; exact q
    obtain ⟨t, hk, ek⟩ := isB_kit (w := { w1 with F := upd w1.F p (.tup cs), H := upd w1.H p (.tup cs) }) (v := y) (x := d) r2.sub hI (by
      rcases ((re.ro r1).fol r1 f2) with _
      exact (((re.ro r1).fol r1 f2).rn r2 (by cases v <;> exact ed))) eb
    exact ⟨y, _, t, _, b, rfl, hk, ek, .inr ⟨p, cs, rfl, upd_same, hc.vs⟩, q { w1 with F := upd w1.F p (.tup cs), H := upd w1.H p (.tup cs) } (.bl b) rfl e1 (f1.trans f2) r2 (.bl b)⟩
/-! fields -/
def fGet (n : Str) : List (PyData × PyData) → Option PyData
  | (.str k, d) :: r => if n = k then some d else fGet n r
  | _ => none
theorem fGet_ok {K : PySem.W.Frag} {F : Hp} {n : Str} : ∀ {fs : List (PyData × PyData)} {vs : List (Str × V)} {d : PyData}, RF K F fs vs → fGet n fs = some d → ∃ v, vs.lookup n = some v ∧ R K F d v
  | _, _, _, .nil, h => by cases h
  | _, _, d, .cons (k := k) h t, e => by
    unfold fGet at e
    by_cases q : n = k
    · subst q
      rw [if_pos rfl] at e
      cases e
      exact ⟨_, by simp [List.lookup], h⟩
    · rw [if_neg q] at e
      obtain ⟨v, h1, h2⟩ := fGet_ok t e
      exact ⟨v, by rw [List.lookup_cons, show (n == k) = false from beq_eq_false_iff_ne.mpr q]; exact h1, h2⟩
/-- the classes whose exceptions may be asked for n -/
def XfL (K : PySem.W.Frag) (cl : List Str) (n : Str) : Prop := ∀ c, c ∈ cl → ∀ D, ClsN K c D → ExcF K D ∧ PySem.W.findIn K (.ref D) n = some none
def evXf (cl : List Str) (n : Str) (f : Pg EV) : Pg EV := .bind f fun v => look (opnd v) fun x => optP ((exnC x).bind fun p => if p.1 ∈ cl then (fGet n p.2).map .d else none)
theorem snd_xf {n : Str} {cl : List Str} (h : Snd X B e f) (hl : XfL X.K cl n) (hb : attributeBase e n X.env (eval e X.env) = eval e X.env := by rfl) : Snd X B (.Attribute e n pos) (evXf cl n f) := by
  intro w Q r hw
  refine we_of (t := fun σ H Q => WE X e σ H fun x H1 => ∃ (a C : Addr) (fs : List (Str × V)) (v : V) (dd : Addr), x = .ref a ∧ ExcF X.K C ∧ PySem.W.findIn X.K (.ref C) n = some none ∧ H1 a = some (excO a (.ref C) (some dd)) ∧ H1 dd = some (.xd fs) ∧ fs.lookup n = some v ∧ Q v H1) ⟨fun pins s σ H Q I h => ?_⟩ ?_
  · refine attr_of hb (thn (h.go pins s I) fun u s1 hh => ?_)
    obtain ⟨x, H1, I1, rx, a, C, fs, v, dd, rfl, E, hno, ha, hd, l, q⟩ := hh
    obtain rfl : u = Value.ref a := rx
    obtain ⟨⟨oe, vs, e1, ⟨z1, z2⟩, e3⟩, _, _⟩ := I1.hok a _ ha
    obtain ⟨mA, hns, hr⟩ := (show ObjOk X.prog X.w H1 s1.heap dd (.xd fs) from I1.hok dd _ hd)
    obtain ⟨od, ho, hl⟩ := lookIn_ns hns
    obtain ⟨u, hu, ru⟩ := RelO.some_of (v := v) (o := mA n) (by rw [← l]; exact hr n)
    have J : PySem.W.InstAt s1.heap a oe C (some od) := ⟨e1, z1, by unfold PySem.W.notCls; rw [e3] <;> rfl, by rw [z2]; exact ho⟩
    exact HandSPX.exc_get I1.kIn J E.hg E.hk E.hs (PySem.W.findObj_own E.hd hno rfl (by rw [hl, hu])) (handed_of ru) ⟨v, H1, I1.tok _, ru, q⟩
  · refine snd_then h r hw fun v w1 y e1 f1 r1 re h1 => ?_
    obtain ⟨d, ed, h1⟩ := look_ok h1
    obtain ⟨z, ez, q⟩ := wp_opt h1
    cases ex : exnC d with
    | none =>
      rw [ex] at ez
      cases ez
    | some p =>
      obtain ⟨c, fs⟩ := p
      rw [ex] at ez
      have ez : (if c ∈ cl then (fGet n fs).map EV.d else none) = some z := ez
      split at ez
      · rename_i hc
        cases eg : fGet n fs with
        | none =>
          rw [eg] at ez
          cases ez
        | some d1 =>
          rw [eg] at ez
          cases ez
          have ro : R X.K w1.F d y := by
            rcases (re.ro r1).rn r1 ed with ro | ⟨a, o, e2, _, oh⟩
            · exact ro
            · subst e2
              cases o with
              | lst xs => cases ex
              | dic es =>
                obtain ⟨kvs, _, rk⟩ := oh
                cases rk with
                | nil => cases ex
                | @cons k _ _ _ _ _ _ => cases k <;> cases ex
              | ins c fs => cases ex
          obtain ⟨a, C, dd, rfl, hcn, ha, ⟨_, hf⟩ | ⟨x, vs, rfl, hx, rf⟩⟩ := exnC_R ro ex
          · subst hf
            cases eg
          · obtain ⟨E, hno⟩ := hl c hc C hcn
            obtain ⟨v1, l, rv⟩ := fGet_ok rf eg
            exact ⟨a, C, vs, v1, x, rfl, E, hno, r1.sub _ _ ha, r1.sub _ _ hx, l, q w1 v1 rfl e1 f1 r1 rv⟩
      · cases ez
end
end Ev

namespace PySem
open Sem (wp)
section
theorem meets_enumerate_new1 {v : Value} {o : Obj} {H : Heap → Prop} (B : Begins v o H) :
    Meets (Builtin.«enumerate.__new__» ⟨[.type "enumerate", v], []⟩) (fun _ R s => H s.heap ∧
      R (.ok (.ret (.ref (s.heap.push o).objs.size))) { s with heap := (s.heap.push o).push { cls := .type "enumerate", data := .fields #[.none, .bool false, .ref s.heap.objs.size, rawInt 0, .none, .none] } }) :=
  .of_wp fun prog w A R s h => by
    obtain ⟨hp, g, d, tk, os⟩ := s; obtain ⟨h1, h⟩ := h
    have hsub := sub_enumerate
    have q1 : ∀ {A' : Around} {E : Value → Shared → Prop} {Q : Value → Shared → Prop}, Q (.ref hp.objs.size) ⟨hp.push o, g, d, tk, os⟩ → wpAny (model prog w) A' (pyIter v) Q E ⟨hp, g, d, tk, os⟩ :=
      fun q => B.iter prog w _ _ ⟨hp, g, d, tk, os⟩ _ h1 q
    wp_walk using q1
    refine wpAny_stack_any fun st => wpAny_pure ?_
    split
    · rename_i c _ _ _ _ _
      cases (c == Value.type "enumerate")
      · wp_walk using q1
        exact ⟨_, rfl, h⟩
      · wp_walk using q1
        exact ⟨_, rfl, h⟩
    · wp_walk using q1
      exact ⟨_, rfl, h⟩
variable {prog : Program} {w : World} {A : Around} {E : Value → Shared → Prop} {s : Shared}
theorem enum_endT {e it t : Addr} {i : Nat} {j : Int} {items : Array Value} {old : Value} {Q : Option Value → Shared → Prop} (hh : A.handled = none) (he : IsEnum s.heap e it j old) (hit : s.heap.IsTupleIter it t i) (ht : s.heap.IsTuple t items) (hx : items[i]? = none)
    (hQ : ∀ h', Heap.ExtBut it s.heap h' → Q none { s with heap := h' }) : wpAny (model prog w) A (pyNext (.ref e)) Q E s := by
  have hT : s.TypeIs (.ref e) "enumerate" := ⟨_, he, rfl⟩
  unfold pyNext
  refine wpAny_bind (wpAny_attempt (wpAny_callSpecial?_slot (name := Str.ofString "__next__") hT F.slot_enumerate_next
    (wpAny_call_entry F.slot_enumerate_next hT F.entry_enumerate_next ?_ (F.args_enumerate_next_1 _))))
  show wpAny _ _ (field (.ref e) 2 >>= _) _ _ _
  refine wpAny_bind (wpAny_field he rfl (x := .ref it) rfl ?_)
  refine wpAny_bind (wpAny_nextOf_tuple_end hh hit ht hx fun h' x he' hx' => ?_)
  obtain ⟨o, ho, hc⟩ := hx'
  refine wpAny_bind (wpAny_isInstance (T := "StopIteration") (b := true) ⟨o, ho, hc⟩ isSubtype_stop ?_)
  exact wpAny_pure (hQ _ he')
theorem enum_begins1 {v : Value} {o : Obj} {H : Heap → Prop} {Q : Value → Shared → Prop} (B : Begins v o H) (h1 : H s.heap)
    (h : ∀ h', IsEnum h' (s.heap.objs.size + 1) s.heap.objs.size 0 .none → h'.get? s.heap.objs.size = some o → h'.objs.size = s.heap.objs.size + 2 →
      (∀ b o, s.heap.get? b = some o → h'.get? b = some o) → Q (.ref (s.heap.objs.size + 1)) { s with heap := h' }) :
    wpAny (model prog w) A (call (.type "enumerate") [v]) Q E s := by
  refine callType_new F.called_enumerate (by decide) (F.typeCall_enumerate_1 _) (F.newCall_enumerate_1 _) (fun obj => F.args_object_init_2 obj _) F.entry_enumerate_new
    (meets_enumerate_new1 B) ⟨h1, ?_⟩
  have hz : (s.heap.push o).objs.size = s.heap.objs.size + 1 := Heap.size_push ..
  show _ ∧ _
  rw [hz]
  have he : IsEnum ((s.heap.push o).push { cls := .type "enumerate", data := .fields #[.none, .bool false, .ref s.heap.objs.size, rawInt 0, .none, .none] }) (s.heap.objs.size + 1) s.heap.objs.size 0 .none := by
    have := Heap.get?_push_size (s.heap.push o) (o := { cls := .type "enumerate", data := .fields #[.none, .bool false, .ref s.heap.objs.size, rawInt 0, .none, .none] }) rfl
    rw [hz] at this; exact this
  refine ⟨⟨_, he, rfl⟩, h _ he (Heap.get?_push_of_some _ (Heap.get?_push_size _ B.free)) (by rw [Heap.size_push, hz]) fun b o x => Heap.get?_push_of_some _ (Heap.get?_push_of_some _ x)⟩
end
end PySem
namespace Ev
open PySem PySem.Spec PyProof.Rows L2
/-! ### enumerate of a tuple -/
def IteT (K : PySem.W.Frag) (a : Addr) : It :=
  ⟨fun i H => ∃ (xs : List V) (x : V), SqT K H a xs ∧ xs[i]? = some x, fun i H v H' => ∃ T x, v = .ref T ∧ H T = none ∧ H' = upd H T (.tup [.int (i : Nat), x]) ∧ ∀ xs, SqT K H a xs → xs[i]? = some x, fun i H => ∃ xs : List V, SqT K H a xs ∧ xs.length ≤ i⟩
theorem turn_enumT {P : Program} {w : World} {K : PySem.W.Frag} {elts : List Expr} {kk : Nat} {tpos : Pos} (a e it : Addr) :
    Turn P w K (.Tuple elts kk tpos) (IteT K a) [e, it] e (fun i h => (∃ old, IsEnum h e it ((i : Nat) : Int) old) ∧ h.IsTupleIter it a i ∧ e ≠ it) where
  mem := by simp
  obj := fun i h st b hb => by
    obtain ⟨⟨old, he⟩, ⟨o, ho, hc, hd⟩, _⟩ := st
    have e' : b = e ∨ b = it := by simpa using hb
    rcases e' with z | z
    · rw [z]; exact ⟨_, he, fun v q => nomatch q⟩
    · rw [z]; exact ⟨o, ho, fun v q => by rw [hd] at q; cases q⟩
  keep := fun i h h' st k => let ⟨⟨old, he⟩, hi, hne⟩ := st; ⟨⟨old, k e (by simp) _ he⟩, hi.at fun o q => k it (by simp) o q, hne⟩
  item := by
    intro X hP hw hK hc i pins s σ H E I hf st hg
    subst hP hw hK
    obtain ⟨⟨old, he⟩, hit, hne⟩ := st
    obtain ⟨xs, x, hq, hx⟩ := hg
    obtain ⟨its, rv, p, hz⟩ := I.tuple hq
    obtain ⟨u, hu, ru⟩ := rv.get hx
    have hel : e < s.heap.objs.size := Heap.lt_size he
    have hil : it < s.heap.objs.size := by obtain ⟨_, q, _⟩ := hit; exact Heap.lt_size q
    have hp : s.heap.IsTuple a its.toArray := p
    have hai : a ≠ it := fun z => by
      obtain ⟨o1, e1, _, n, d1⟩ := hp
      obtain ⟨o2, e2, _, d2⟩ := hit
      rw [z, e2] at e1
      cases e1
      rw [d1] at d2
      cases d2
    have hea : e ≠ a := fun z => by
      obtain ⟨o1, e1, c1, _⟩ := hp
      have he' : s.heap.get? e = _ := he
      rw [z, e1] at he'
      cases he'
      exact absurd c1 (by simp)
    have hil2 : i < its.toArray.size := by
      have := (List.getElem?_eq_some_iff.mp hu).1
      simpa using this
    refine wpAny_pyNext_enum_itemD (Draws.tuple (show X.A.in1.handled = none from I.ok.hd hc) it a hai its.toArray) he ⟨hit, hp⟩ hil2 hne (by simp [hne, hea]) fun x' h' tk hP ho hst' hT hsz hk => ?_
    have hx' : x' = u := by
      have h1 : its.toArray[i]? = some x' := hP
      have h2 : its.toArray[i]? = some u := by simpa using hu
      rw [h1] at h2
      exact Option.some.inj h2
    subst hx'
    obtain ⟨hit', _⟩ := hst'
    refine ⟨_, rfl, wpAny_letOwnedTupleGo_enum (s := { s with heap := h', toks := tk + 1 }) ho fun h'' he' sb => ?_⟩
    have hT2 : h''.get? s.heap.objs.size = some { cls := .type "tuple", data := .seq #[.int i tk, x'] } := (sb.2 _ (Nat.ne_of_gt hel)).trans hT
    have new : ObjOk X.prog X.w (upd H s.heap.objs.size (.tup [.int (i : Nat), x])) h'' s.heap.objs.size (.tup [.int (i : Nat), x]) :=
      ⟨by show 2 ≤ sizeLine; decide, [.int i tk, x'], .cons ⟨_, rfl⟩ (.cons ru .nil), ⟨_, hT2, rfl, _, rfl⟩⟩
    have I1 : L2.Inv X pins σ (upd H s.heap.objs.size (.tup [.int (i : Nat), x])) { s with heap := h'', toks := tk + 1 } :=
      I.turnedNew (ch := [e, it]) (fun b ob hb q => (sb.2 b (fun z => hb (by simp [z]))).trans (hk b ob (fun z => hb (by simp [z])) (fun z => hb (by simp [z])) q)) hf (Nat.le_refl _) new
    refine ⟨.ref s.heap.objs.size, _, I1, rfl, ⟨_, x, rfl, I.hok.fresh (Nat.le_refl _), rfl, fun ys hy => by rw [I.tuple_inj hy hq]; exact hx⟩, ⟨⟨x', ?_⟩, hit'.at fun o q => (sb.2 it (Ne.symm hne)).trans q, hne⟩, fun b hb => ?_⟩
    · have e1 : ((i + 1 : Nat) : Int) = (i : Int) + 1 := by omega
      rw [e1]; exact he'
    · have hb' : b < s.heap.objs.size := by
        have e' : b = e ∨ b = it := by simpa using hb
        rcases e' with z | z
        · rw [z]; exact hel
        · rw [z]; exact hil
      rw [upd_ne (Nat.ne_of_lt hb')]
      exact (hf b hb).1
  done := by
    intro X hP hw hK hc i pins s σ H E I hf st hg
    subst hP hw hK
    obtain ⟨⟨old, he⟩, hit, hne⟩ := st
    obtain ⟨xs, hq, hx⟩ := hg
    obtain ⟨its, rv, p, hz⟩ := I.tuple hq
    obtain ⟨f0, f1, f2, f3, f4, f5⟩ := hf it (by simp)
    have hp : s.heap.IsTuple a its.toArray := p
    have hai : a ≠ it := fun z => by
      obtain ⟨o1, e1, _, n, d1⟩ := hp
      obtain ⟨o2, e2, _, d2⟩ := hit
      rw [z, e2] at e1
      cases e1
      rw [d1] at d2
      cases d2
    have hl := rv.length
    exact enum_endT (I.ok.hd hc) he hit hp (by simp; omega) fun h' eb => ⟨rfl, I.turned (t' := s.toks) (fun b o hb q => eb b o hb q) f0 f1 f3 f4 f5⟩
  self := fun A i s Q E st h => let ⟨⟨_, he⟩, _⟩ := st; wpAny_pyIter_enum he h
def iEnumT (K : PySem.W.Frag) (ta : TA) : TI := fun σ H R => ta σ H fun vs H1 => ∃ a xs, vs = [.ref a] ∧ ((SqT K H1 a xs ∧ R (IteT K a) H1) ∨ (SqL K H1 a xs ∧ R (Ite K a) H1))
theorem pi_enumT {X : Cx} {e : Expr} {ta : TA} {p pos tpos : Pos} {elts : List Expr} {kk : Nat} (hg : Gl X "enumerate") (hm : X.mg "enumerate" = none) (ha : PA X [e] ta) (hs : starEach [e] X.env = [(false, eval e X.env)] := by rfl) :
    PI X (.Tuple elts kk tpos) (.Call (.Name "enumerate" p) [e] [] pos) (iEnumT X.K ta) := by
  refine ⟨fun pins s σ H R I h => ?_⟩
  refine Call_ (ld_blt I hg hm boot_enumerate (PyProof.Rows.callWith_type1 (thn (ha.run pos pins s σ H _ I h) fun us s1 ⟨vs, H1, I1, r1, q1⟩ => ?_) hs rfl))
  obtain ⟨a, xs, ex, q1⟩ := q1
  subst ex
  cases r1 with
  | cons r rr =>
    cases rr
    cases r
    have fp : ∀ b, b ∈ [s1.heap.objs.size + 1, s1.heap.objs.size] → s1.heap.objs.size ≤ b := fun b hb => by
      have e' : b = s1.heap.objs.size + 1 ∨ b = s1.heap.objs.size := by simpa using hb
      rcases e' with z | z
      · rw [z]; exact Nat.le_add_right _ _
      · rw [z]; exact Nat.le_refl _
    rcases q1 with ⟨hq, q⟩ | ⟨hq, q⟩
    · obtain ⟨its, rv, p', hz⟩ := I1.tuple hq
      refine enum_begins1 (begins_tuple a its.toArray) (show s1.heap.IsTuple a its.toArray from p') fun h' he hit hsz hk => wpAny_pyIter_enum he ?_
      have I2 : L2.Inv X pins σ H1 { s1 with heap := h' } := I1.kept (t' := s1.toks) hk
      have hit' : h'.IsTupleIter s1.heap.objs.size a 0 := ⟨_, hit, rfl, rfl⟩
      exact ⟨s1.heap.objs.size + 1, [s1.heap.objs.size + 1, s1.heap.objs.size], _, _, H1, rfl, I2, turn_enumT a (s1.heap.objs.size + 1) s1.heap.objs.size, ⟨⟨.none, he⟩, hit', Nat.succ_ne_self _⟩, fun b hb => I1.fpOk (fp b hb) (I1.hok.fresh (fp b hb)), q⟩
    · obtain ⟨its, rv, p', hz⟩ := I1.list hq
      refine call_enumerate_list p'.isList fun h' he hit hsz hk => wpAny_pyIter_enum he ?_
      have I2 : L2.Inv X pins σ H1 { s1 with heap := h' } := I1.kept (t' := s1.toks) hk
      exact ⟨s1.heap.objs.size + 1, [s1.heap.objs.size + 1, s1.heap.objs.size], _, _, H1, rfl, I2, turn_enum a (s1.heap.objs.size + 1) s1.heap.objs.size, ⟨⟨.none, he⟩, hit, Nat.succ_ne_self _⟩, fun b hb => I1.fpOk (fp b hb) (I1.hok.fresh (fp b hb)), q⟩
theorem iters_enumT {K : PySem.W.Frag} {w : Wd} {a : Addr} {xs : List V} {ds : List PyData} (ha : SqT K w.F a xs) (ra : RA K w.F ds xs) : Iters K w (IteT K a) (enumD ds) := by
  intro w1 f r i
  have qa : SqT K w1.H a xs := sqt_mono r.sub (sqt_mono f.ext ha)
  refine ⟨fun d hd => ?_, fun hl => ⟨xs, qa, ?_⟩⟩
  · unfold enumD at hd
    rw [List.getElem?_mapIdx] at hd
    cases e1 : ds[i]? with
    | none =>
      rw [e1] at hd
      cases hd
    | some d1 =>
      rw [e1] at hd
      cases hd
      obtain ⟨x, hx, rx⟩ := ra.get e1
      refine ⟨⟨xs, x, qa, hx⟩, fun v H' yl => ?_⟩
      obtain ⟨T, x', rfl, hT, rfl, g1⟩ := yl
      have e1 := (g1 xs qa).symm.trans hx
      cases e1
      exact pair_laid r hT (.int _) (rx.mono f.ext)
  · rw [← ra.len]
    unfold enumD at hl
    rw [List.length_mapIdx] at hl
    exact hl
def enumS2 : List AV → Option (List PyData)
  | [.d (.list xs)] => some (enumD xs)
  | [.d (.tuple xs)] => some (enumD xs)
  | _ => none
def evEnum2 (fa : Pg (List AV)) : Pg (List PyData) := .bind fa fun vs => optP (enumS2 vs)
section
variable {X : Cx} {B : XBt} {e : Expr} {fa : Pg (List AV)} {p pos tpos : Pos} {elts : List Expr} {kk : Nat}
theorem sndI_enum2 (hg : Gl X "enumerate") (hm : X.mg "enumerate" = none) (ha : SndA X B [e] fa) (hs : starEach [e] X.env = [(false, eval e X.env)] := by rfl) :
    SndI X B (.Tuple elts kk tpos) (.Call (.Name "enumerate" p) [e] [] pos) (evEnum2 fa) := by
  intro w Q r hw
  refine ⟨_, pi_enumT hg hm pa_w hs, ?_⟩
  refine sndA_then ha r hw fun vs w1 xs e1 f1 r1 rv h1 => ?_
  obtain ⟨ds, ed, q⟩ := wp_opt h1
  unfold enumS2 at ed
  split at ed
  · cases ed
    cases rv with
    | cons h t =>
      cases t
      cases h with
      | lst ha ra => exact ⟨_, _, rfl, .inr ⟨(ha.mono r1.sub).sq, q w1 _ rfl e1 f1 r1 (iters_enum ha ra)⟩⟩
  · cases ed
    cases rv with
    | cons h t =>
      cases t
      cases h with
      | tup ha ra => exact ⟨_, _, rfl, .inl ⟨sqt_mono r1.sub ha, q w1 _ rfl e1 f1 r1 (iters_enumT ha ra)⟩⟩
  · cases ed
end
section
variable {m : Mem} {X : Exn → Mem → Prop}
@[simp] theorem W_enum2 {fa : Pg (List AV)} {P : List PyData → Mem → Prop} : W (evEnum2 fa) m X P ↔ W fa m X fun vs m1 => ∃ ds, enumS2 vs = some ds ∧ P ds m1 := by
  unfold evEnum2
  simp
@[simp] theorem enumS2_l {xs : List PyData} : enumS2 [.d (.list xs)] = some (enumD xs) := rfl
@[simp] theorem enumS2_t {xs : List PyData} : enumS2 [.d (.tuple xs)] = some (enumD xs) := rfl
variable {E : EV → Mem → Prop}
@[simp] theorem W_isM {t1 : List (String × Bool)} {t2 : List (Str × Bool)} {f : Pg EV} : W (evIsM t1 t2 f) m X E ↔ W f m X fun v m1 => W (look (opnd v) fun x => optP ((isMB t1 t2 x).map fun b => EV.d (.bool b))) m1 X E := by
  unfold evIsM
  rw [W_bind]
@[simp] theorem W_xf {cl : List Str} {n : Str} {f : Pg EV} : W (evXf cl n f) m X E ↔ W f m X fun v m1 => W (look (opnd v) fun x => optP ((exnC x).bind fun p => if p.1 ∈ cl then (fGet n p.2).map .d else none)) m1 X E := by
  unfold evXf
  rw [W_bind]
@[simp] theorem isMB_exn {t1 : List (String × Bool)} {t2 : List (Str × Bool)} {c : Str} {fs : List (Str × PyData)} : isMB t1 t2 (exnD c fs) = t2.lookup c := rfl
@[simp] theorem isMB_none {t1 : List (String × Bool)} {t2 : List (Str × Bool)} : isMB t1 t2 .none = t1.lookup "NoneType" := rfl
@[simp] theorem isMB_int {t1 : List (String × Bool)} {t2 : List (Str × Bool)} {i : Int} : isMB t1 t2 (.int i) = t1.lookup "int" := rfl
@[simp] theorem isMB_bool {t1 : List (String × Bool)} {t2 : List (Str × Bool)} {i : Bool} : isMB t1 t2 (.bool i) = t1.lookup "bool" := rfl
@[simp] theorem isMB_str {t1 : List (String × Bool)} {t2 : List (Str × Bool)} {i : Str} : isMB t1 t2 (.str i) = t1.lookup "str" := rfl
@[simp] theorem isMB_list {t1 : List (String × Bool)} {t2 : List (Str × Bool)} {i : List PyData} : isMB t1 t2 (.list i) = t1.lookup "list" := rfl
@[simp] theorem isMB_tuple {t1 : List (String × Bool)} {t2 : List (Str × Bool)} {i : List PyData} : isMB t1 t2 (.tuple i) = t1.lookup "tuple" := rfl
@[simp] theorem exnC_exnD {c : Str} {fs : List (Str × PyData)} : exnC (exnD c fs) = some (c, fieldsD fs) := rfl
@[simp] theorem fGet_cons {n k : Str} {d : PyData} {r : List (Str × PyData)} : fGet n (fieldsD ((k, d) :: r)) = if n = k then some d else fGet n (fieldsD r) := rfl
@[simp] theorem isNone_exn {c : Str} {fs : List (Str × PyData)} : isNoneD (exnD c fs) = false := rfl
@[simp] theorem cmp_isExn {c : Str} {fs : List (Str × PyData)} : cmpS .Is (exnD c fs) .none = some false := rfl
@[simp] theorem cmp_isNotExn {c : Str} {fs : List (Str × PyData)} : cmpS .IsNot (exnD c fs) .none = some true := rfl
end
/-! ### raise C() -/
def evRaise0 (x : Str) : Pg Fl := fun m => .thr ⟨x, []⟩ m
def ExX0 (K : PySem.W.Frag) (mg : Str → Option Value) (x : Str) : Prop :=
  ∃ C : Addr, mg x = some (.ref C) ∧ ClsN K x C ∧ PySem.W.keepIn K (.ref C) = true ∧ PySem.W.excIn K C [.type "ValueError", .type "Exception", .type "BaseException", .type "object"] "ValueError.__new__" = true ∧
    PySem.W.subIn K (.ref C) (.type "BaseException") = some true ∧ PySem.W.typeIn K (.ref C) = some (.type "type")
section
variable {X : Cx} {B : XBt} {x : Str} {p pos pos' : Pos}
theorem pmk_own0 {C : Addr} {bmB : List Value} {B newId initId : String} (F : ExcBaseFacts B newId initId bmB) (q : PySem.W.excIn X.K C bmB newId = true) (gC : X.mg x = some (.ref C)) (kC : PySem.W.keepIn X.K (.ref C) = true) (r : Raises X (.ref C)) (hg : Gl X x)
    (hdb : (x == ("__debug__" : Str)) = false := by decide) : PMk X (.Call (.Name x p) [] [] pos) (fun _ H Q => Q (.ref C) none H) := by
  intro pins s σ H Q I h
  refine wpAny_Call_Name_kw (ld_glob I hg gC ?_ hdb)
  refine PySem.W.callWith_K0 I.kIn kC ?_
  obtain ⟨bm, N, nm, qn, bs, hdct, sn, sub, ab, col, dd, k0, k1, k2, k3, k5, mN, hC, hN, hni, T⟩ := exc_obj I.kIn q
  refine wpAny_call_exc_subT F T hC hN hni (fun h' e hm => ?_) (by show 0 ≤ sizeLine; rw [sizeLine_eq]; omega)
  exact mk_of I hm r h (I.hok.gone hm.new)
theorem snd_raise0 (C : Ctx X B) (h : ExX0 X.K X.mg x) (hg : Gl X x) (hdb : (x == ("__debug__" : Str)) = false := by decide) :
    SndS X B (.Raise (some (.Call (.Name x p) [] [] pos)) none pos') (evRaise0 x) := by
  obtain ⟨D, hm, hc, kC, q, h1, h2⟩ := h
  intro w En r hw
  refine ws_of (ps_raise C.calm C.tk (pmk_own0 PySem.F.excBase_ValueError q hm kC (raises_own h1 h2) hg hdb)) ?_
  exact ⟨⟨x, []⟩, w, r, rfl, rfl, ⟨D, hc, rfl, .inl ⟨rfl, rfl⟩⟩, hw w rfl (FolS.refl w) r⟩
end
section
variable {m : Mem} {X : Exn → Mem → Prop} {F : Fl → Mem → Prop}
@[simp] theorem W_raise0 {x : Str} : W (evRaise0 x) m X F ↔ X ⟨x, []⟩ m := ⟨fun h => h.go, fun h => ⟨h⟩⟩
end
/-! ### facts of a module, by its names -/
/-- a name of a class: a builtin type, an own class -/
def NmC (mg : Str → Option Value) (n : Str) (u : Value) : Prop := (∃ T, mg n = none ∧ bootBuiltins n = some (.type T) ∧ u = .type T) ∨ ∃ C, mg n = some (.ref C) ∧ u = .ref C
def IsF (K : PySem.W.Frag) (mg : Str → Option Value) (ns : List Str) (t1 : List (String × Bool)) (t2 : List (Str × Bool)) : Prop := ∃ us, Paired (NmC mg) ns us ∧ IsiC K us t1 t2
inductive NmL (X : Cx) : List Expr → List Str → Prop
  | nil : NmL X [] []
  | cons {n : Str} {p : Pos} {es : List Expr} {ns : List Str} : Gl X n → (n == ("__debug__" : Str)) = false → n ≠ "__name__" → starEach (.Name n p :: es) X.env = (false, eval (.Name n p) X.env) :: starEach es X.env → NmL X es ns → NmL X (.Name n p :: es) (n :: ns)
theorem clsL_of {X : Cx} : ∀ {es : List Expr} {ns : List Str} {us : List Value}, NmL X es ns → Paired (NmC X.mg) ns us → ∃ cs, ClsL X es cs us ∧ cs.length = ns.length
  | _, _, _, .nil, .nil => ⟨[], .nil, rfl⟩
  | _, _, _, .cons hg hd hn hs t, .cons h r => by
    obtain ⟨cs, q, l⟩ := clsL_of t r
    rcases h with ⟨T, h1, h2, rfl⟩ | ⟨C, h1, rfl⟩
    · exact ⟨.ty T :: cs, .cons (pe_bltn hg h1 h2 rfl hn hd) (.ty T) hs q, by simp [l]⟩
    · exact ⟨.ref C :: cs, .cons (pe_glob hg h1 rfl hd) (.own C) hs q, by simp [l]⟩
section
variable {X : Cx} {B : XBt} {e c : Expr} {es : List Expr} {f : Pg EV} {p1 p2 pos : Pos} {x : Str} {ns : List Str} {t1 : List (String × Bool)} {t2 : List (Str × Bool)}
theorem snd_isa (h : Snd X B e f) (hg : Gl X "isinstance") (hm : X.mg "isinstance" = none) (hI : IsF X.K X.mg ns t1 t2) (hc : NmL X [c] ns)
    (he : starEach [e, c] X.env = (false, eval e X.env) :: starEach [c] X.env := by rfl) (hpl : (backTo pos (starEach [c] X.env)).any (·.1) = false := by rfl) : Snd X B (.Call (.Name "isinstance" p1) [e, c] [] pos) (evIsM t1 t2 f) := by
  obtain ⟨us, hp, hI⟩ := hI
  obtain ⟨cs, hc, _⟩ := clsL_of hc hp
  exact snd_is1 h hg hm rfl hI hc (by decide) (by decide) he hpl
theorem snd_isas {k : Nat} (h : Snd X B e f) (hg : Gl X "isinstance") (hm : X.mg "isinstance" = none) (hI : IsF X.K X.mg ns t1 t2) (hc : NmL X es ns) (hl : ns.length ≤ 1000)
    (he : starEach [e, .Tuple es k p2] X.env = (false, eval e X.env) :: starEach [.Tuple es k p2] X.env := by rfl) (he2 : starEach [.Tuple es k p2] X.env = (false, eval (.Tuple es k p2) X.env) :: starEach [] X.env := by rfl)
    (hpl : (backTo pos (starEach [.Tuple es k p2] X.env)).any (·.1) = false := by rfl) : Snd X B (.Call (.Name "isinstance" p1) [e, .Tuple es k p2] [] pos) (evIsM t1 t2 f) := by
  obtain ⟨us, hp, hI⟩ := hI
  obtain ⟨cs, hc, l⟩ := clsL_of hc hp
  exact snd_isT h hg hm rfl hI hc (by rw [l, sizeLine_eq]; omega) (by decide) (by decide) he he2 hpl
end
/-- the exception class that a name holds, its fields -/
def ExN (K : PySem.W.Frag) (x : Str) (fs : List Str) : Prop := ∃ D, ClsN K x D ∧ ExcF K D ∧ ∀ f, f ∈ fs → PySem.W.findIn K (.ref D) f = some none
theorem xfL_of {K : PySem.W.Frag} {cl : List Str} {n : Str} (h : ∀ c, c ∈ cl → ∃ fs, ExN K c fs ∧ n ∈ fs) : XfL K cl n := fun c hc D hD => by
  obtain ⟨fs, ⟨D', h1, h2, h3⟩, hn⟩ := h c hc
  rw [hD.one h1]
  exact ⟨h2, h3 n hn⟩
theorem isiC_mk {K : PySem.W.Frag} {us : List Value} {t1 : List (String × Bool)} {t2 : List (Str × Bool)} (h1 : ∀ p, p ∈ t1 → PySem.W.kitAny K (.type p.1) us = some p.2) (h2 : ∀ p, p ∈ t2 → ∃ D, ClsN K p.1 D ∧ ExcF K D ∧ PySem.W.kitAny K (.ref D) us = some p.2) : IsiC K us t1 t2 := by
  have mem : ∀ {α : Type} [BEq α] [LawfulBEq α] {l : List (α × Bool)} {a : α} {b : Bool}, l.lookup a = some b → (a, b) ∈ l := by
    intro α _ _ l a b h
    induction l with
    | nil => cases h
    | cons p l ih =>
      obtain ⟨k, c⟩ := p
      rw [List.lookup_cons] at h
      cases q : a == k with
      | true =>
        rw [q] at h
        cases h
        rw [eq_of_beq q]
        exact List.mem_cons_self
      | false =>
        rw [q] at h
        exact List.mem_cons_of_mem _ (ih h)
  refine ⟨fun t b h => h1 (t, b) (mem h), fun c b h D hD => ?_⟩
  obtain ⟨D', e1, e2, e3⟩ := h2 (c, b) (mem h)
  rw [hD.one e1]
  exact ⟨e2, e3⟩
/-- a handler's class, by its name -/
def TryF (K : PySem.W.Frag) (mg : Str → Option Value) (x : Str) (tb : List (Str × Bool)) : Prop := ∃ C : Addr, mg x = some (.ref C) ∧ TryC K (fun cls => PySem.W.exmOne K cls (.ref C)) tb
def TryT (K : PySem.W.Frag) (mg : Str → Option Value) (ns : List Str) (tb : List (Str × Bool)) : Prop := ∃ us, Paired (NmC mg) ns us ∧ us.length ≤ 1000 ∧ TryC K (fun cls => PySem.W.exmAny K cls us) tb
end Ev

namespace Ev
open PySem PySem.Spec PyProof.Rows L2
/-! ### what the printed texts say of classes -/
def memS (s : Stmt) (j : Nat) : Stmt := match s with
  | .ClassDef _ _ _ b _ _ _ _ _ _ _ => b.getD j (.Pass ⟨0, 0, 0, 0⟩)
  | _ => .Pass ⟨0, 0, 0, 0⟩
def oexB (K : PySem.W.Frag) (C : Addr) : Bool := (match K.lookup C with
  | some ⟨.type "type", _, .cls cd, sl⟩ => (match cd.mro, sl.toList with
    | .ref C' :: bm, [_, _, _, _, some (.builtin n), _] => C' == C && n == "ValueError.__new__" && !cd.hasDel && cd.hasDict && PySem.HandSPX.refsVE bm
    | _, _ => false)
  | _ => false) && decide (PySem.W.findIn K (.ref C) "__setattr__" = some (some (.builtin "object.__setattr__"))) && decide (PySem.W.subIn K (.ref C) (.type "BaseException") = some true) && decide (PySem.W.typeIn K (.ref C) = some (.type "type")) && PySem.W.keepIn K (.ref C)
theorem oexB_ok {K : PySem.W.Frag} {C : Addr} (h : oexB K C = true) : OexC K C := by
  unfold oexB at h
  simp only [Bool.and_eq_true, decide_eq_true_eq] at h
  obtain ⟨⟨⟨⟨h, h1⟩, h2⟩, h3⟩, h4⟩ := h
  refine ⟨?_, h1, h2, h3, h4⟩
  split at h
  · rename_i dd cd sl ho
    split at h
    · rename_i C' bm k0 k1 k2 k3 n k5 hm hs
      simp only [Bool.and_eq_true, beq_iff_eq, Bool.not_eq_true'] at h
      obtain ⟨⟨⟨⟨rfl, rfl⟩, hdel⟩, hdct⟩, ht⟩ := h
      obtain ⟨nm, bs, mro, ns, qn, hd, sn, sub, ab, col, del⟩ := cd
      dsimp only at hm hdel hdct
      subst hm hdel hdct
      have hsl : sl = #[k0, k1, k2, k3, some (.builtin "ValueError.__new__"), k5] := by
        obtain ⟨l⟩ := sl
        simp only at hs
        rw [hs]
      subst hsl
      exact ⟨nm, qn, ns, bs, bm, sn, sub, ab, col, dd, k0, k1, k2, k3, k5, ho, ht⟩
    · cases h
  · cases h
def initB (K : PySem.W.Frag) (C fI : Addr) (fs : List Str) : Bool := decide (PySem.W.typeIn K (.ref fI) = some (.type "function")) && fs.all fun f => decide (PySem.W.findIn K (.ref C) f = some none)
def ex0B (K : PySem.W.Frag) (C : Addr) : Bool := PySem.W.keepIn K (.ref C) && PySem.W.excIn K C [.type "ValueError", .type "Exception", .type "BaseException", .type "object"] "ValueError.__new__" && decide (PySem.W.subIn K (.ref C) (.type "BaseException") = some true) && decide (PySem.W.typeIn K (.ref C) = some (.type "type"))
def excB (K : PySem.W.Frag) (D : Addr) (fs : List Str) : Bool := (PySem.W.clsIn K D).isSome && decide (PySem.W.findIn K (.ref D) "__getattribute__" = some (some (.builtin "BaseException.__getattribute__"))) && decide (PySem.W.findIn K (.ref D) "__getattr__" = some none) && decide (PySem.W.subIn K (.ref D) (.type "BaseException") = some true) &&
  decide (PySem.W.findIn K (.ref D) "__class__" = some (some (.builtin "object.__class__"))) && decide (PySem.W.specialIn K (.builtin "object.__class__") "__get__" = some (some (.builtin "getset_descriptor.__get__"))) && decide (PySem.W.takesIn K (.builtin "object.__class__") = some true) &&
  decide (PySem.W.mroIn K D (.type "object") = some true) && PySem.W.hasDictIn K D && fs.all fun f => decide (PySem.W.findIn K (.ref D) f = some none)
theorem exN_mk {K : PySem.W.Frag} {x : Str} {D : Addr} {fs : List Str} (hx : ClsN K x D) (h : excB K D fs = true) : ExN K x fs := by
  unfold excB at h
  simp only [Bool.and_eq_true, decide_eq_true_eq, List.all_eq_true] at h
  obtain ⟨⟨⟨⟨⟨⟨⟨⟨⟨h1, h2⟩, h3⟩, h4⟩, h5⟩, h6⟩, h7⟩, h8⟩, h9⟩, h10⟩ := h
  exact ⟨D, hx, ⟨h1, h2, h3, h4, h5, h6, h7, h8, h9⟩, h10⟩
/-- an own exception class with its own __init__ -/
def XI (K : PySem.W.Frag) (mg : Str → Option Value) (x qual : Str) (st : Stmt) (fs : List Str) : Prop :=
  ∃ (C fI : Addr) (fd : FuncData), mg x = some (.ref C) ∧ ClsN K x C ∧ OexC K C ∧ PySem.W.findIn K (.ref C) "__init__" = some (some (.ref fI)) ∧ PySem.W.typeIn K (.ref fI) = some (.type "function") ∧ (∀ f, f ∈ fs → PySem.W.findIn K (.ref C) f = some none) ∧
    Fun K "__init__" qual st fI fd ∧ Binds K fd ("self" :: fs) []
theorem xi_mk {K : PySem.W.Frag} {mg : Str → Option Value} {x qual : Str} {st : Stmt} {fs : List Str} {C fI : Addr} {oc : Value} {od an : Option Addr} {osl : Array (Option Value)} {kV doc pm cdv ct : Value} (hm : mg x = some (.ref C)) (hx : ClsN K x C) (ho : oexB K C = true) (hi : PySem.W.findIn K (.ref C) "__init__" = some (some (.ref fI))) (hb : initB K C fI fs = true)
    (l : K.lookup fI = some ⟨oc, od, .func (PySem.W.fnOf "__init__" qual (defArgs st) (defBody st) (defScope st) .none kV doc pm an cdv ct), osl⟩) (c : PySem.W.codeIn K cdv qual = true) (k : PySem.W.keepIn K (.ref fI) = true)
    (hbn : ∀ (kV doc pm : Value) (an : Option Addr) (cdv ct : Value) (us : List Value), us.length = ("self" :: fs : List Str).length → bindArgs (PySem.W.fnOf "__init__" qual (defArgs st) (defBody st) (defScope st) .none kV doc pm an cdv ct) ⟨us, []⟩ = pure (("self" :: fs : List Str).zip us)) : XI K mg x qual st fs := by
  unfold initB at hb
  simp only [Bool.and_eq_true, decide_eq_true_eq, List.all_eq_true] at hb
  exact ⟨C, fI, _, hm, hx, oexB_ok ho, hi, hb.1, hb.2, fun_mk l c k, (fun_mk l c k).binds hbn⟩
theorem x0_mk {K : PySem.W.Frag} {mg : Str → Option Value} {x : Str} {C : Addr} (hm : mg x = some (.ref C)) (hx : ClsN K x C) (h : ex0B K C = true) : ExX0 K mg x := by
  unfold ex0B at h
  simp only [Bool.and_eq_true, decide_eq_true_eq] at h
  exact ⟨C, hm, hx, h.1.1.1, h.1.1.2, h.1.2, h.2⟩
section
variable {P : Program} {w : World} {K : PySem.W.Frag} {mg : Str → Option Value} {base : Heap} {x qual f g : Str} {st : Stmt} {k : Nat} {p1 p2 p3 p4 r1 r2 r3 r4 : Pos}
theorem exX1 (h : XI K mg x qual st [f]) (hk : 1 ≤ k) (S : FnScope ["self", f] ["self", f] (defScope st)) (hb : defBody st = [.Assign [.Attribute (.Name "self" p1) f p2] (.Name f p3) p4])
    (hs : (defScope st).names.lookup ("self" : Str) = some .local) (hf : (defScope st).names.lookup f = some .local) (hd : (f == ("__debug__" : Str)) = false) (hcd : (f == ("__classdict__" : Str)) = false) : ExX P w K mg base k x [f] := by
  obtain ⟨C, fI, fd, h1, h2, h3, h4, h5, h6, h7, h8⟩ := h
  exact ⟨C, fI, fd, h1, h2, h3, h4, h5, h6, (init1 h7 S hb hs hf hd hcd (k := 0)).mono hk, h8⟩
theorem exX2 (h : XI K mg x qual st [f, g]) (hk : 1 ≤ k) (S : FnScope ["self", f, g] ["self", f, g] (defScope st)) (hb : defBody st = [.Assign [.Attribute (.Name "self" p1) f p2] (.Name f p3) p4, .Assign [.Attribute (.Name "self" r1) g r2] (.Name g r3) r4])
    (hs : (defScope st).names.lookup ("self" : Str) = some .local) (hf : (defScope st).names.lookup f = some .local) (hg : (defScope st).names.lookup g = some .local) (hd : (f == ("__debug__" : Str)) = false) (hcd : (f == ("__classdict__" : Str)) = false) (gd : (g == ("__debug__" : Str)) = false) (gcd : (g == ("__classdict__" : Str)) = false) : ExX P w K mg base k x [f, g] := by
  obtain ⟨C, fI, fd, h1, h2, h3, h4, h5, h6, h7, h8⟩ := h
  exact ⟨C, fI, fd, h1, h2, h3, h4, h5, h6, (init2 h7 S hb hs hf hg hd hcd gd gcd (k := 0)).mono hk, h8⟩
end
theorem xfL_nil {K : PySem.W.Frag} {n : Str} : XfL K [] n := fun c h => by cases h
theorem xfL_cons {K : PySem.W.Frag} {c n : Str} {cl fs : List Str} (h : ExN K c fs) (hn : n ∈ fs) (t : XfL K cl n) : XfL K (c :: cl) n := fun c' hc D hD => by
  rcases List.mem_cons.mp hc with rfl | hc
  · obtain ⟨D', h1, h2, h3⟩ := h
    rw [hD.one h1]
    exact ⟨h2, h3 n hn⟩
  · exact t c' hc D hD
section
variable {X : Cx} {B : XBt} {x n v : Str} {i j : Nat} {body : List Stmt} {np p1 p2 p3 pos pos' : Pos} {fb : Pg Fl} {tb : List (Str × Bool)}
theorem snd_tryF (i j : Nat) (C : Ctx X B) (h : TryF X.K X.mg x tb) (hs : X.stack = X.env :: X.outer) (hf : X.env.frame = some X.env.locals) (hex : X.ex = []) (hi : X.N[i]? = some n) (hln : X.env.kindOf n = some .local) (hg : Gl X x)
    (hj : X.N[j]? = some v) (hv : Loc X.env.scope v) (hfn : X.fn v = true ∨ X.env.scope.names.lookup v = some .local) (hvn : Vis X.env.scope n)
    (hb : ∀ (pn : List (Addr × Obj)) (xe : Value → Shared → Prop) (B' : XBt), Ctx (X.tr pn xe) B' → PassesOwn (model X.prog X.w) X.A X.env xe → SndB (X.tr pn xe) B' body fb)
    (hdb : (x == ("__debug__" : Str)) = false := by decide) (hd : (n == ("__debug__" : Str)) = false := by decide) (hcd : (n == ("__classdict__" : Str)) = false := by decide) :
    SndS X B (.Try body [.ExceptHandler (some (.Name x np)) (some n) [.Assign [.Name v p1] (.Name n p2) p3] pos'] [] [] pos) (evTry tb (sxKeep i j) fb) := by
  obtain ⟨Cv, hm, ht⟩ := h
  exact snd_try hs hf hex hi hln (test_one ⟨hg, hdb, .inl hm⟩) C ht hj hv hfn hvn hb hd hcd
end
theorem nmsV_of {X : Cx} : ∀ {es : List Expr} {ns : List Str} {us : List Value}, NmL X es ns → Paired (NmC X.mg) ns us → NmsV X es us
  | _, _, _, .nil, .nil => .nil
  | _, _, _, .cons hg hd hn hs t, .cons h r => .cons ⟨hg, hd, by
      rcases h with ⟨T, h1, h2, rfl⟩ | ⟨C, h1, rfl⟩
      · exact .inr ⟨h1, h2, hn⟩
      · exact .inl h1⟩ hs (nmsV_of t r)
section
variable {X : Cx} {B : XBt} {n v : Str} {i j k : Nat} {es : List Expr} {ns : List Str} {body : List Stmt} {tpos p1 p2 p3 pos pos' : Pos} {fb : Pg Fl} {tb : List (Str × Bool)}
theorem snd_tryT (i j : Nat) (C : Ctx X B) (h : TryT X.K X.mg ns tb) (hs : X.stack = X.env :: X.outer) (hf : X.env.frame = some X.env.locals) (hex : X.ex = []) (hi : X.N[i]? = some n) (hln : X.env.kindOf n = some .local) (hg : NmL X es ns)
    (hj : X.N[j]? = some v) (hv : Loc X.env.scope v) (hfn : X.fn v = true ∨ X.env.scope.names.lookup v = some .local) (hvn : Vis X.env.scope n)
    (hb : ∀ (pn : List (Addr × Obj)) (xe : Value → Shared → Prop) (B' : XBt), Ctx (X.tr pn xe) B' → PassesOwn (model X.prog X.w) X.A X.env xe → SndB (X.tr pn xe) B' body fb)
    (hd : (n == ("__debug__" : Str)) = false := by decide) (hcd : (n == ("__classdict__" : Str)) = false := by decide) :
    SndS X B (.Try body [.ExceptHandler (some (.Tuple es k tpos)) (some n) [.Assign [.Name v p1] (.Name n p2) p3] pos'] [] [] pos) (evTry tb (sxKeep i j) fb) := by
  obtain ⟨us, hp, hl, ht⟩ := h
  exact snd_try hs hf hex hi hln (test_tup (nmsV_of hg hp) (by rw [sizeLine_eq]; omega)) C ht hj hv hfn hvn hb hd hcd
end
theorem isF_mk {K : PySem.W.Frag} {mg : Str → Option Value} {ns : List Str} {us : List Value} {t1 : List (String × Bool)} {t2 : List (Str × Bool)} (h : Paired (NmC mg) ns us) (h1 : (t1.all fun p => decide (PySem.W.kitAny K (.type p.1) us = some p.2)) = true) (h2 : ∀ p, p ∈ t2 → ∃ D, ClsN K p.1 D ∧ ExcF K D ∧ PySem.W.kitAny K (.ref D) us = some p.2) : IsF K mg ns t1 t2 :=
  ⟨us, h, isiC_mk (fun p hp => of_decide_eq_true (List.all_eq_true.mp h1 p hp)) h2⟩
theorem is2_nil {K : PySem.W.Frag} {us : List Value} : ∀ p : Str × Bool, p ∈ ([] : List (Str × Bool)) → ∃ D, ClsN K p.1 D ∧ ExcF K D ∧ PySem.W.kitAny K (.ref D) us = some p.2 := fun p h => by cases h
theorem is2_cons {K : PySem.W.Frag} {us : List Value} {c : Str} {b : Bool} {D : Addr} {fs : List Str} {t2 : List (Str × Bool)} (hc : ClsN K c D) (he : excB K D fs = true) (hk : PySem.W.kitAny K (.ref D) us = some b) (t : ∀ p : Str × Bool, p ∈ t2 → ∃ D, ClsN K p.1 D ∧ ExcF K D ∧ PySem.W.kitAny K (.ref D) us = some p.2) :
    ∀ p : Str × Bool, p ∈ (c, b) :: t2 → ∃ D, ClsN K p.1 D ∧ ExcF K D ∧ PySem.W.kitAny K (.ref D) us = some p.2 := fun p hp => by
  rcases List.mem_cons.mp hp with rfl | hp
  · obtain ⟨D', e1, e2, _⟩ := exN_mk hc he
    rw [e1.one hc] at e2
    exact ⟨D, hc, e2, hk⟩
  · exact t p hp
end Ev

namespace Ev
open PySem PySem.Spec PyProof.Rows L2
/-! ### except C: suite, the exception not named -/
def WBu (X : Cx) (sts : List Stmt) : TS := fun D sg H => Cl (∀ (a : Addr) (pn : List (Addr × Obj)), WB (X.suite a pn) sts D sg H)
theorem pb_u {X : Cx} {sts : List Stmt} {a : Addr} {pn : List (Addr × Obj)} : PSs (X.suite a pn) sts (WBu X sts) := ⟨fun pins s _ _ _ I h => (h.go a pn).go pins s I⟩
section
variable {X : Cx} {B : XBt} {x : Str} {body suite : List Stmt} {b₀ : Stmt} {np pos pos' : Pos} {fb fg : Pg Fl} {tb : List (Str × Bool)}
theorem snd_tryO (C : Ctx X B) (h : TryF X.K X.mg x tb) (hs : X.stack = X.env :: X.outer) (hf : X.env.frame = some X.env.locals) (hg : Gl X x)
    (hb : ∀ (pn : List (Addr × Obj)) (xe : Value → Shared → Prop) (B' : XBt), Ctx (X.tr pn xe) B' → PassesOwn (model X.prog X.w) X.A X.env xe → SndB (X.tr pn xe) B' body fb)
    (hsu : ∀ (a : Addr) (pn : List (Addr × Obj)), SndB (X.suite a pn) B (b₀ :: suite) fg)
    (hdb : (x == ("__debug__" : Str)) = false := by decide) :
    SndS X B (.Try body [.ExceptHandler (some (.Name x np)) none (b₀ :: suite) pos'] [] [] pos) (evTry tb (fun _ => fg) fb) := by
  obtain ⟨Cv, hm, ht⟩ := h
  intro w D r hw
  refine ws_of (ps_try_only (tb := WBx X body) (ts := fun _ _ _ => WBu X (b₀ :: suite)) hs hf ⟨hg, hdb, .inl hm⟩ C.tk (fun W pn xe tk po => pb_x tk po) (fun a oe cls d pn _ _ => pb_u)) ?_
  refine ⟨fun pn xe tk po => hb pn xe _ (ctx_tr C tk) po w D r ?_⟩
  unfold evTry at hw
  cases e : fb w.m with
  | bad =>
    rw [e] at hw
    exact hw.elim
  | ok f m' =>
    rw [e] at hw
    exact hw
  | thr y m' =>
    rw [e] at hw
    dsimp only at hw
    show XW X.K (trB X _) w y m'
    intro w' em f r' cls d ex
    subst em
    cases q : tb.lookup y.cls with
    | none =>
      rw [q] at hw
      exact hw.elim
    | some b =>
      rw [q] at hw
      have ex' := ex
      obtain ⟨E, hE, rfl, _⟩ := ex
      refine ⟨b, ht y.cls b q E hE, fun hb a ha => ?_, fun hb => ?_⟩
      · subst hb
        exact ⟨fun a' pn' => hsu a' pn' w' D r' (Res.wp.imp (r := fg w'.m) hw (fun _ _ z => post_of z f) fun _ _ z => z.fol f)⟩
      · subst hb
        have hw : XW X.K B w y w'.m := hw
        exact ⟨y, w', r', rfl, rfl, ex', hw w' rfl f r'⟩
end
end Ev

namespace Ev
open PySem PySem.Spec PyProof.Rows L2
/-! ### code that is called as a pure function: positional arguments, then keywords -/
def CodeP (P : Program) (w : World) (K : PySem.W.Frag) (mg : Str → Option Value) (base : Heap) (k : Nat) (f : Addr) (ks : List Str) (h : Fn) : Prop :=
  ∀ (A : Around) (outer : List Env) (s : Shared) (w0 : Wd) (us ws : List Value) (args : List AV) (xs ys : List V) (Q : VK) (E : XK), A.guards = some [] → Room k A → Env0 P w K mg base A outer s w0.H → w0.m.sl = [] → w0.sg = [] → (∀ a, w0.H a ≠ none → w0.Z a) → Rep K w0 →
    Paired (RV K w0) args (xs ++ ys) → Vals xs us → Vals ys ws → ys.length = ks.length → callW K h (fun x w' => ∀ cls d, ExAt K w' x cls d → E cls d w'.H) w0 args Q →
    codeAny (model P w) A (.call (.ref f) ⟨us, ks.zip ws⟩) (CR (L2.CX P w) outer P w w0.H s Q E) s
theorem CodeP.up {P : Program} {w : World} {K : PySem.W.Frag} {mg : Str → Option Value} {base : Heap} {j k : Nat} {f : Addr} {ks : List Str} {h : Fn} (F : CodeP P w K mg base j f ks h) (e : j ≤ k) : CodeP P w K mg base k f ks h :=
  fun A outer s w0 us ws args xs ys Q E hg hr => F A outer s w0 us ws args xs ys Q E hg (hr.mono e)
/-- a value that may be called in X -/
def CalV (X : Cx) (B : XBt) (u : Value) (ks : List Str) (h : Fn) : Prop :=
  ∀ (w : Wd) (pins : List (Addr × Obj)) (s : Shared) (us ws : List Value) (args : List AV) (xs ys : List V) (Q : VK), L2.Inv X pins w.sg w.H s → Rep X.K w → Paired (RV X.K w) args (xs ++ ys) → Vals xs us → Vals ys ws → ys.length = ks.length →
    (callS h args w.m).wp (PostE X.K w Q) (XW X.K B w) → wpAny (model X.prog X.w) X.A (call u us (ks.zip ws)) (EP X pins w.sg Q) X.xe s
section
variable {X : Cx} {B : XBt} {k : Nat} {f : Addr} {ks : List Str} {h : Fn}
theorem callW_of {w : Wd} {args : List AV} {Q : VK} (r : Rep X.K w) (hw : (callS h args w.m).wp (fun v m' => PostE X.K w Q v m') (XW X.K B w)) :
    callW X.K h (fun x w' => ∀ cls d, ExAt X.K w' x cls d → WXB X.K B cls d w.sg w'.H) (bare w) args Q := by
  refine (callS_ok hw).imp (fun v m' q w' x e1 e2 e3 f r' re => ?_) fun x m' q w' e1 e2 e3 f r' cls d ex => ?_
  · obtain ⟨r2, f2⟩ := back_ok r f r'
    exact q (back w w') x (by show (⟨w.m.sl, w'.m.cs⟩ : Mem) = _; rw [e2]) rfl f2 r2 (back_re r f e1 re)
  · obtain ⟨r2, f2⟩ := back_ok r f r'
    exact ⟨x, back w w', r2, rfl, rfl, ex, q (back w w') (by show (⟨w.m.sl, w'.m.cs⟩ : Mem) = _; rw [e2]) (f2.s r) r2⟩
theorem cal_def (C : Ctx X B) (F : CodeP X.prog X.w X.K X.mg X.base k f ks h) (hr : Room k X.A) : CalV X B (.ref f) ks h := by
  intro w pins s us ws args xs ys Q I r hv ru rw hl hw
  refine wpAny_call (codeAny_mono (F X.A X.stack s (bare w) us ws args xs ys Q (fun cls d H' => WXB X.K B cls d w.sg H') C.gd hr I.env0 rfl rfl (fun _ h => h) (bare_rep r) (bare_rv hv) ru rw hl (callW_of r hw)) fun r s' hq => ?_)
  match r, hq with
  | .error _, hq => exact pass_b C I hq
  | .ok (.ret u), hq => exact I.after hq
  | .ok .next, hq => exact (show False from hq).elim
  | .ok .brk, hq => exact (show False from hq).elim
  | .ok .cont, hq => exact (show False from hq).elim
end
/-! ### the forms of a def -/
/-- n positional arguments, m keywords, the defaults ds -/
def pD (n m q : Nat) (is : List Nat) (ds : List PyData) (g : Fn) : Fn := fun args => if args.length = n + m ∧ (pick is (args ++ dAV ds)).length = q then g (pick is (args ++ dAV ds)) else .stuck
section
variable {P : Program} {w : World} {K : PySem.W.Frag} {mg : Str → Option Value} {base : Heap} {k : Nat} {f : Addr} {ks ps : List Str} {fd : FuncData}
theorem codeP_D {n q : Nat} {is : List Nat} {ds : List PyData} {dv : List Value} {dvs : List V} {g : Fn} (F : FnG P w K mg base k f fd ps (spG K ps.length g)) (hq : ps.length = q) (hd : Vals dvs dv) (hra : ∀ F : Hp, RA K F ds dvs)
    (hb : ∀ (s : Shared) (us ws : List Value), K.In s.heap → us.length = n → ws.length = ks.length → BindsTo s fd ⟨us, ks.zip ws⟩ (ps.zip (pick is (us ++ ws ++ dv)))) : CodeP P w K mg base k f ks (pD n ks.length q is ds g) := by
  subst hq
  intro A outer s w0 us ws args xs ys Q E hg hr e0 z1 z2 hz r hv ru rw hl hc
  unfold callW pD at hc
  split at hc
  · rename_i hlen
    obtain ⟨l1, l2⟩ := hlen
    have lx : xs.length + ys.length = args.length := by
      rw [← List.length_append]
      exact (paired_len hv).symm
    have pv := paired_pick (paired_app hv (ra_rv (hra w0.F))) is
    have pu := paired_vals (paired_pick (paired_app (paired_app (vals_paired ru) (vals_paired rw)) (vals_paired hd)) is)
    exact F.go A outer s w0.H ⟨us, ks.zip ws⟩ _ _ Q E hg hr e0 (hb s us ws (e0.mod.kin.keeps fun b o e => (e0.bs b o e).1) (by rw [← ru.length]; omega) (by rw [← rw.length]; exact hl)) pu ⟨w0, _, z1, z2, rfl, hz, r, pv, l2, hc⟩
  · exact hc.elim
theorem re_reZ {w' : Wd} {Z : Addr → Prop} (hs : ∀ a, Z a → w'.Z a) : ∀ {v : EV} {x : V}, RE K w' v x → RE K (reZ w' Z) v x
  | .d _, _, h => h
  | .cell _, _, h => h
  | .pk _ _, _, h => h
  | .new o, _, ⟨a, e, h1, h3, h4, h5, h6⟩ => ⟨a, e, h1.keep (Same.refl _) (fun _ z => z) (fun _ z => z) (fun d _ z => hs d z), h3, h4, fun z => h5 (hs a z), h6⟩
/-- one thing more stands at the entry -/
theorem callW_more {g : Fn} {B : XBt} {w0 w3 : Wd} {args : List AV} {Q : VK} (r : Rep K w0) (em : w3.m = w0.m) (ero : w3.ro = w0.ro) (eF : Same w0.F w3.F) (eH : ∀ a o, w0.H a = some o → w3.H a = some o) (eG : ∀ a, w3.F a ≠ none → w0.F a ≠ none ∨ w0.H a = none) (hZ : ∀ a, w3.Z a ↔ w3.H a ≠ none) (eT : w3.T = w0.T)
    (hB : ∀ x w', B x (reZ w' w0.Z) → B x w') (hc : callW K g B w0 args Q) : callW K g B w3 args Q := by
  have hs : ∀ {a}, w0.Z a → w3.Z a := fun {a} z => (hZ a).mpr (by
    cases e : w0.H a with
    | none => exact absurd e (r.zl a z)
    | some u => rw [eH a u e]; simp)
  have nz : ∀ {a}, ¬ w3.Z a → ¬ w0.Z a := fun h z => h (hs z)
  have fo : ∀ {w' : Wd}, FolS w3 w' → FolS w0 (reZ w' w0.Z) := fun {w'} f => ⟨rfl, f.t.trans eT, eF.trans f.ext, by rw [← ero]; exact f.pre, fun a o h n z k => f.frm a o (eH a o h) (by rw [ero]; exact n) (hs z) k, fun a h => by
      rcases f.new a h with q | q
      · rw [ero] at q
        exact .inl q
      · exact .inr (nz q), fun a h => f.liv a (by
        cases e : w0.H a with
        | none => exact absurd e h
        | some u => rw [eH a u e]; simp), fun a h => by
      rcases f.grow a h with q | q
      · exact (eG a q).imp id fun e z => r.zl a z e
      · exact .inr (nz q)⟩
  unfold callW at hc ⊢
  rw [em]
  refine hc.imp (fun v m' q w' x e1 e2 e3 f r' re => ?_) fun x m' q w' e1 e2 e3 f r' => ?_
  · have sub : ∀ a, w0.Z a → w'.Z a := fun a z => by rw [f.z]; exact hs z
    exact q (reZ w' w0.Z) x e1 e2 e3 (fo f) (reZ_rep r' sub) (re_reZ sub re)
  · have sub : ∀ a, w0.Z a → w'.Z a := fun a z => by rw [f.z]; exact hs z
    exact hB x w' (q (reZ w' w0.Z) e1 e2 e3 (fo f) (reZ_rep r' sub))
/-- a star behind n positional ones -/
def pS (full : Bool) (n m q : Nat) (is : List Nat) (ds : List PyData) (g : Fn) : Fn := fun args =>
  if m ≤ args.length ∧ (full = true ∨ args.length - m = n) ∧ n ≤ args.length - m ∧ (pick is ((args.take (args.length - m)).take n ++ args.drop (args.length - m) ++ dAV ds)).length + 1 = q then
    .bind (optP (restD ((args.take (args.length - m)).drop n))) fun xs => g (pick is ((args.take (args.length - m)).take n ++ args.drop (args.length - m) ++ dAV ds) ++ [.d (.tuple xs)]) else .stuck
theorem codeP_S {full : Bool} {n q : Nat} {is : List Nat} {ds : List PyData} {dv : List Value} {dvs : List V} {g : Fn} {pv : Str} (F : FnG P w K mg base k f fd (ps ++ [pv]) (spG K (ps.length + 1) g)) (hq : ps.length + 1 = q) (hd : Vals dvs dv) (hra : ∀ F : Hp, RA K F ds dvs)
    (hb : ∀ (s : Shared) (us ws rest : List Value), K.In s.heap → us.length = n → ws.length = ks.length → (full = true ∨ rest = []) → StarTo s fd ⟨us ++ rest, ks.zip ws⟩ (ps.zip (pick is (us ++ ws ++ dv))) pv rest) : CodeP P w K mg base k f ks (pS full n ks.length q is ds g) := by
  subst hq
  intro A outer s w0 us ws args xs ys Q E hg hr e0 z1 z2 hz r hv ru rw hl hc
  unfold callW pS at hc
  split at hc
  · rename_i hlen
    obtain ⟨l0, lf, l1, l2⟩ := hlen
    have lx : xs.length + ys.length = args.length := by
      rw [← List.length_append]
      exact (paired_len hv).symm
    have la : args.length - ks.length = xs.length := by omega
    rw [la] at hc lf l1 l2
    obtain ⟨ds', ed, hc⟩ := wp_opt (wp_bind hc)
    have hvx : Paired (RV K w0) (args.take xs.length) xs := by
      have := paired_take xs.length hv
      rwa [List.take_left'] at this
      rfl
    have hvy : Paired (RV K w0) (args.drop xs.length) ys := by
      have := paired_drop xs.length hv
      rwa [List.drop_left'] at this
      rfl
    generalize hvs : args.take xs.length = vs at hc l2 ed hvx
    generalize hzs : args.drop xs.length = zs at hc l2 hvy
    unfold restD at ed
    cases eo : dataOf (vs.drop n) with
    | none =>
      rw [eo] at ed
      cases ed
    | some zs' =>
      rw [eo] at ed
      have ed : (if lenOk zs' then some zs' else none) = some ds' := ed
      split at ed
      · rename_i hlen
        cases ed
        have ra := dataOf_ok (paired_drop n hvx) eo
        have ru' := vals_paired ru
        have rest_rel := paired_vals (paired_drop n ru')
        have lu : us.length = xs.length := (paired_len ru').symm
        have hzr : (us.drop n).length ≤ sizeLine := by
          have := lenOk_le hlen ra
          have := rest_rel.length
          omega
        have hn : w0.H s.heap.objs.size = none := e0.hok.fresh (Nat.le_refl _)
        obtain ⟨r3, f3⟩ := layFix r hn (.tup (xs.drop n))
        have l3' : (pick is (vs.take n ++ zs ++ dAV ds)).length = ps.length := by omega
        have pv0 := paired_pick (paired_app (paired_app (paired_take n hvx) hvy) (ra_rv (hra w0.F))) is
        have pu := paired_vals (paired_pick (paired_app (paired_app (paired_take n ru') (vals_paired rw)) (vals_paired hd)) is)
        let w3u : Wd := { w0 with F := upd w0.F s.heap.objs.size (.tup (xs.drop n)), H := upd w0.H s.heap.objs.size (.tup (xs.drop n)) }
        let w3 : Wd := reZ w3u (fun a => w3u.H a ≠ none)
        have noOwn : ∀ a, ¬ Own w3u a := fun a ⟨i, o, h1, _⟩ => by
          have h1 : w0.m.sl[i]? = some (some (.ob o)) := h1
          rw [z1] at h1
          simp at h1
        have r3z : Rep K w3 := reZ_more r3 (fun a h => h) (fun a h => absurd h (noOwn a)) (fun d a h z => hz d (by
          have h : upd w0.H s.heap.objs.size (.tup (xs.drop n)) d = some (.own a) := h
          by_cases q : d = s.heap.objs.size
          · rw [q, upd_same] at h
            cases h
          · rw [upd_ne q] at h
            rw [h]
            simp))
        have pv3 : Paired (RV K w3) (pick is (vs.take n ++ zs ++ dAV ds) ++ [.d (.tuple ds')]) (pick is (xs.take n ++ ys ++ dvs) ++ [V.ref s.heap.objs.size]) := paired_app (rvs_fol (w' := w3u) f3 pv0) (.cons (layFix_tup r hn ra) .nil)
        have hc3 : callW K g (fun x w' => ∀ cls d, ExAt K w' x cls d → E cls d w'.H) w3 (pick is (vs.take n ++ zs ++ dAV ds) ++ [.d (.tuple ds')]) Q := callW_more (w0 := w0) r rfl rfl f3.ext (fun a o h => by
            show upd w0.H s.heap.objs.size (.tup (xs.drop n)) a = some o
            rw [upd_ne (ne_of_none h hn)]
            exact h) (fun a h => by
            have h : upd w0.F s.heap.objs.size (.tup (xs.drop n)) a ≠ none := h
            by_cases q : a = s.heap.objs.size
            · rw [q]
              exact .inr hn
            · rw [upd_ne q] at h
              exact .inl h) (fun a => Iff.rfl) rfl (fun _ _ z => z) hc
        have sp : spG K (ps.length + 1) g (pick is (xs.take n ++ ys ++ dvs) ++ [V.ref s.heap.objs.size]) w3.H Q E := ⟨w3, _, z1, z2, rfl, fun a h => h, r3z, pv3, by rw [List.length_append, l3'] <;> rfl, hc3⟩
        refine F.bnd A outer s w0.H ⟨us, ks.zip ws⟩ Q E hg hr e0 fun A' Ex Q' cont => ?_
        have hs := hb s (us.take n) ws (us.drop n) (e0.mod.kin.keeps fun b o e => (e0.bs b o e).1) (by rw [List.length_take]; omega) (by rw [← rw.length]; exact hl) (lf.imp id fun e => List.drop_eq_nil_of_le (by omega))
        rw [List.take_append_drop] at hs
        refine hs _ _ _ _ (wpAny_bind (wpAny_newTuple (wpAny_pure ?_) hzr))
        have hzx : (xs.drop n).length ≤ sizeLine := by
          rw [rest_rel.length]
          exact hzr
        have new : ObjOk P w (upd w0.H s.heap.objs.size (.tup (xs.drop n))) (s.heap.push ({ cls := .type "tuple", data := .seq (us.drop n).toArray } : Obj)) s.heap.objs.size (.tup (xs.drop n)) := ⟨hzx, us.drop n, rest_rel, ⟨_, Heap.get?_push_size _ rfl, rfl, _, rfl⟩⟩
        have un := StX.un_laid (fs := frs outer) (s := s) (o := ({ cls := .type "tuple", data := .seq (us.drop n).toArray } : Obj)) (u := .tup (xs.drop n)) hn
        have z := cont { s with heap := s.heap.push ({ cls := .type "tuple", data := .seq (us.drop n).toArray } : Obj) } w3.H (pick is (xs.take n ++ ys ++ dvs) ++ [V.ref s.heap.objs.size]) (pick is (us.take n ++ ws ++ dv) ++ [Value.ref s.heap.objs.size]) (StX.env0_laid e0 new) un rfl
          (fun e s' => StX.cxUp outer s w0.H _ _ _ e s' un (fun b o q => Heap.get?_push_of_some _ q) rfl) (pu.append (.cons rfl .nil)) (by rw [← paired_len pv3, List.length_append, List.length_append, l3'] <;> rfl) sp
        have lz : ps.length = (pick is (us.take n ++ ws ++ dv)).length := by
          rw [← l3', paired_len pv0]
          exact paired_len (vals_paired pu)
        rw [List.zip_append lz] at z
        exact z
      · cases ed
  · exact hc.elim
end
/-! ### C(..): a new instance, its __init__ -/
/-- the object is a shared one while __init__ runs -/
def mkF (c : Str) (h : Fn) : Fn := fun args m => match h (.cell m.cs.length :: args) ⟨[], m.cs ++ [.ins c []]⟩ with
  | .ok (.d .none) m' => if m'.cs.length = m.cs.length + 1 then (match m'.cs[m.cs.length]? with
    | some o => .ok (.new o) ⟨[], m'.cs.take m.cs.length⟩
    | none => .bad) else .bad
  | .thr x m' => if m'.cs.length = m.cs.length + 1 then .thr x ⟨[], m'.cs.take m.cs.length⟩ else .bad
  | _ => .bad
/-- with a new instance, shared -/
def instW (w : Wd) (Cc a dx : Addr) (c : Str) : Wd := { F := w.F, ro := w.ro ++ [a], m := ⟨[], w.m.cs ++ [.ins c []]⟩, sg := [], H := upd (upd w.H dx (.own a)) a (.ins Cc dx []), Z := fun b => upd (upd w.H dx (.own a)) a (.ins Cc dx []) b ≠ none, T := w.T }
section
variable {K : PySem.W.Frag} {w : Wd} {Cc a dx : Addr} {c : Str}
theorem inst_get (ha : w.H a = none) (hd : w.H dx = none) {b : Addr} {o : HO} (h : w.H b = some o) : (instW w Cc a dx c).H b = some o := by
  show upd (upd w.H dx (.own a)) a (.ins Cc dx []) b = some o
  rw [upd_ne (ne_of_none h ha), upd_ne (ne_of_none h hd)]
  exact h
theorem inst_a : (instW w Cc a dx c).H a = some (.ins Cc dx []) := upd_same
theorem inst_d (ne : dx ≠ a) : (instW w Cc a dx c).H dx = some (.own a) := by
  show upd (upd w.H dx (.own a)) a (.ins Cc dx []) dx = _
  rw [upd_ne ne, upd_same]
theorem inst_rep (r : Rep K w) (ha : w.H a = none) (hd : w.H dx = none) (ne : dx ≠ a) (hc : ClsN K c Cc) : Rep K (instW w Cc a dx c) := by
  have up : ∀ {b : Addr} {o : HO}, w.H b = some o → (instW w Cc a dx c).H b = some o := inst_get ha hd
  have ro_at : ∀ {n : Nat} {b : Addr}, w.ro[n]? = some b → (w.ro ++ [a])[n]? = some b := fun {n b} q => by
    rw [List.getElem?_append_left (List.getElem?_eq_some_iff.mp q).1]
    exact q
  have na : a ∉ w.ro := fun h => r.roLive h ha
  refine ⟨fun b o e => up (r.sub b o e), Nat.zero_le _, fun i v h => by simp [instW] at h, fun n o h => ?_, ?_, fun b hb => ?_, ?_, fun i j xs ys x h => by simp [instW] at h, fun b h => h, fun d b h => ?_, ⟨(TK _ w).go r.tb.1 fun _ _ e => up e, r.tb.2.1, tbl_upd (tbl_upd r.tb.2.2 (by intro _ z; cases z)) (by intro _ z; cases z)⟩⟩
  · have h : (w.m.cs ++ [Ob.ins c []])[n]? = some o := h
    by_cases hn : n < w.m.cs.length
    · rw [List.getElem?_append_left hn] at h
      obtain ⟨b, k1, k2⟩ := r.cs n o h
      exact ⟨b, ro_at k1, k2.keep (Same.refl _) (fun _ z => up z) (fun _ z => up z) (fun _ _ z => z)⟩
    · rw [List.getElem?_append_right (by omega)] at h
      have hz : n - w.m.cs.length = 0 := by
        have := (List.getElem?_eq_some_iff.mp h).1
        simp only [List.length_singleton] at this
        omega
      rw [hz] at h
      cases h
      refine ⟨a, ?_, Cc, dx, [], inst_a, inst_d ne, fun z => z, hc, .nil⟩
      show (w.ro ++ [a])[n]? = some a
      rw [List.getElem?_append_right (by rw [← r.ln]; omega), ← r.ln, hz]
      rfl
  · show (w.m.cs ++ [Ob.ins c []]).length = (w.ro ++ [a]).length
    rw [List.length_append, List.length_append, r.ln] <;> rfl
  · rcases List.mem_append.mp hb with q | q
    · exact r.rf b q
    · rw [List.mem_singleton.mp q]
      exact r.noF ha
  · exact List.nodup_append.mpr ⟨r.nd, by simp, fun b hb b' hb' e => by
      rw [List.mem_singleton.mp hb'] at e
      exact na (e ▸ hb)⟩
  · have h : upd (upd w.H dx (.own a)) a (.ins Cc dx []) d = some (.own b) := h
    by_cases q : d = a
    · rw [q, upd_same] at h
      cases h
    · rw [upd_ne q] at h
      by_cases q2 : d = dx
      · rw [q2, upd_same] at h
        cases h
        rw [q2]
        exact ⟨Cc, [], inst_a⟩
      · rw [upd_ne q2] at h
        obtain ⟨C', vs, e⟩ := r.oo d b h
        exact ⟨C', vs, up e⟩
theorem inst_rv {ha : w.H a = none} : ∀ {args : List AV} {xs : List V}, Paired (RV K w) args xs → Paired (RV K (instW w Cc a dx c)) args xs
  | _, _, .nil => .nil
  | .d _ :: _, _, .cons h t => .cons h (inst_rv (ha := ha) t)
  | .cell n :: _, _, .cons h t => .cons (by
      obtain ⟨b, e, q⟩ := h
      exact ⟨b, e, by
        show (w.ro ++ [a])[n]? = some b
        rw [List.getElem?_append_left (List.getElem?_eq_some_iff.mp q).1]
        exact q⟩) (inst_rv (ha := ha) t)
/-- the callee's world without the instance among the shared ones -/
def popW (w w' : Wd) : Wd := { F := w'.F, ro := w'.ro.take w.m.cs.length, m := ⟨[], w'.m.cs.take w.m.cs.length⟩, sg := [], H := w'.H, Z := fun b => w.H b ≠ none, T := w.T }
theorem pop_ok (r : Rep K w) (ha : w.H a = none) (hd : w.H dx = none) (ne : dx ≠ a) {w' : Wd} (f : FolS (instW w Cc a dx c) w') (r' : Rep K w') (e1 : w'.m.sl = []) (hl : w'.m.cs.length = w.m.cs.length + 1) :
    Rep K (popW w w') ∧ FolS (bare w) (popW w w') ∧ ∀ o, w'.m.cs[w.m.cs.length]? = some o → RE K (popW w w') (.new o) (.ref a) := by
  obtain ⟨t, et⟩ := f.pre
  have et : w'.ro = (w.ro ++ [a]) ++ t := et
  have tn : t = [] := by
    have h := r'.ln
    rw [et, List.length_append, List.length_append, ← r.ln, hl] at h
    cases t with
    | nil => rfl
    | cons x t => simp at h
  subst tn
  rw [List.append_nil] at et
  have ro' : w'.ro.take w.m.cs.length = w.ro := by
    rw [et, r.ln, List.take_left']
    rfl
  have na : a ∉ w.ro := fun h => r.roLive h ha
  have kp : ∀ b o, w.H b = some o → b ∉ w.ro → (∀ ps, o ≠ .tbl ps) → w'.H b = some o := fun b o h n k => f.frm b o (inst_get ha hd h) (fun q => by
    rcases List.mem_append.mp q with q | q
    · exact n q
    · rw [List.mem_singleton.mp q, ha] at h
      cases h) (some_ne (inst_get (c := c) (Cc := Cc) ha hd h)) k
  have lv : ∀ b, w.H b ≠ none → w'.H b ≠ none := fun b h => f.liv b (by
    cases e : w.H b with
    | none => exact absurd e h
    | some u => exact some_ne (inst_get (c := c) (Cc := Cc) ha hd e))
  have hdx : w'.H dx = some (.own a) := f.frm dx _ (inst_d ne) (fun q => by
    rcases List.mem_append.mp q with q | q
    · exact r.roLive q hd
    · exact ne (List.mem_singleton.mp q)) (some_ne (inst_d (c := c) (Cc := Cc) ne)) (by intro _ z; cases z)
  refine ⟨⟨r'.sub, Nat.zero_le _, fun i v h => by simp [popW] at h, fun n o h => ?_, ?_, fun b hb => ?_, ?_, fun i j xs ys x h => by simp [popW] at h, fun b h => lv b h, r'.oo, by have q := r'.tb; unfold TB TK at q ⊢; rw [show w'.T = w.T from f.t] at q; exact q⟩, ⟨rfl, rfl, f.ext, ⟨[], by show w'.ro.take w.m.cs.length = w.ro ++ []; rw [ro', List.append_nil]⟩, fun b o h n _ => kp b o h n, fun b h => ?_, lv, fun b h => ?_⟩, fun o ho => ?_⟩
  · have h : (w'.m.cs.take w.m.cs.length)[n]? = some o := h
    have hn : n < w.m.cs.length := by
      have := (List.getElem?_eq_some_iff.mp h).1
      rw [List.length_take] at this
      omega
    rw [List.getElem?_take_of_lt hn] at h
    obtain ⟨b, k1, k2⟩ := r'.cs n o h
    exact ⟨b, by show (w'.ro.take w.m.cs.length)[n]? = some b; rw [List.getElem?_take_of_lt hn]; exact k1, k2⟩
  · show (w'.m.cs.take w.m.cs.length).length = (w'.ro.take w.m.cs.length).length
    rw [List.length_take, List.length_take, r'.ln]
  · exact r'.rf b (List.mem_of_mem_take hb)
  · exact List.Nodup.sublist (List.take_sublist _ _) r'.nd
  · have h : b ∈ w'.ro.take w.m.cs.length := h
    rw [ro'] at h
    exact .inl h
  · rcases f.grow b h with q | q
    · exact .inl q
    · exact .inr fun z => q (by
        show (instW w Cc a dx c).H b ≠ none
        cases e : w.H b with
        | none => exact absurd e z
        | some u => exact some_ne (inst_get ha hd e))
  · obtain ⟨b, k1, k2⟩ := r'.cs _ o ho
    have eb : b = a := by
      rw [et, r.ln, List.getElem?_append_right (Nat.le_refl _), Nat.sub_self] at k1
      cases k1
      rfl
    subst eb
    refine ⟨b, rfl, ?_, r'.rf b (by rw [et]; simp), by show b ∉ w'.ro.take w.m.cs.length; rw [ro']; exact na, fun z => z ha, fun ⟨i, o, h1, _⟩ => by simp [popW] at h1⟩
    cases o with
    | lst xs => exact k2
    | dic es => exact k2
    | ins c' fs =>
      obtain ⟨C', dx', vs, h1, h2, _, h4, h5⟩ := k2
      obtain ⟨C2, vs2, e2⟩ := r'.oo dx b hdx
      rw [h1] at e2
      cases e2
      exact ⟨_, _, _, h1, h2, fun z => z hd, h4, h5⟩
end
section
variable {X : Cx} {B : XBt} {k : Nat} {Cc fI : Addr} {c : Str} {ks : List Str} {h : Fn}
theorem cal_mk (C : Ctx X B) (M : Mk X.K Cc fI) (hc : ClsN X.K c Cc) (F : CodeP X.prog X.w X.K X.mg X.base k fI ks h) (hr : Room (k + 1) X.A) : CalV X B (.ref Cc) ks (mkF c h) := by
  intro w pins s us ws args xs ys Q I r hv ru rw' hl hw
  have I2 := Inv.made (C := Cc) I
  have ha : w.H (s.heap.objs.size + 1) = none := I.hok.fresh (Nat.le_succ _)
  have hd : w.H s.heap.objs.size = none := I.hok.fresh (Nat.le_refl _)
  have ne : s.heap.objs.size ≠ s.heap.objs.size + 1 := Nat.ne_of_lt (Nat.lt_succ_self _)
  have r1 := inst_rep (c := c) r ha hd ne hc
  have hv1 : Paired (RV X.K (instW w Cc (s.heap.objs.size + 1) s.heap.objs.size c)) (.cell w.m.cs.length :: args) ((V.ref (s.heap.objs.size + 1) :: xs) ++ ys) := .cons ⟨_, rfl, by
    show (w.ro ++ [s.heap.objs.size + 1])[w.m.cs.length]? = _
    rw [r.ln, List.getElem?_append_right (Nat.le_refl _), Nat.sub_self]
    rfl⟩ (inst_rv (ha := ha) hv)
  have hcw : callW X.K h (fun x w' => ∀ cls d, ExAt X.K w' x cls d → WXB X.K B cls d w.sg w'.H) (instW w Cc (s.heap.objs.size + 1) s.heap.objs.size c) (.cell w.m.cs.length :: args) (fun v H3 => v = .non ∧ Q (.ref (s.heap.objs.size + 1)) H3) := by
    unfold callW
    have hw := callS_ok hw
    have em : (bare w).m = ⟨[], w.m.cs⟩ := rfl
    rw [em] at hw
    unfold mkF at hw
    dsimp only at hw
    show (h (.cell w.m.cs.length :: args) ⟨[], w.m.cs ++ [.ins c []]⟩).wp _ _
    cases e : h (.cell w.m.cs.length :: args) ⟨[], w.m.cs ++ [.ins c []]⟩ with
    | bad =>
      rw [e] at hw
      exact hw.elim
    | ok v m' =>
      rw [e] at hw
      show ∀ (w' : Wd) (x : V), w'.m.sl = [] → w'.m.cs = m'.cs → w'.sg = [] → _
      intro w' x e1 e2 e3 f r' re
      cases v with
      | new o => exact hw.elim
      | pk i o => exact hw.elim
      | cell n => exact hw.elim
      | d y =>
        cases y with
        | none =>
          dsimp only at hw
          split at hw
          · rename_i hlen
            split at hw
            · rename_i o ho
              obtain ⟨rp, fp, rn⟩ := pop_ok r ha hd ne f r' e1 (by rw [e2]; exact hlen)
              have rn := rn o (by rw [e2]; exact ho)
              obtain ⟨r2, f2⟩ := back_ok r fp rp
              cases re
              refine ⟨rfl, ?_⟩
              have q : PostE X.K w Q (.new o) ⟨w.m.sl, m'.cs.take w.m.cs.length⟩ := hw
              exact q (back w (popW w w')) (.ref (s.heap.objs.size + 1)) (by show (⟨w.m.sl, w'.m.cs.take w.m.cs.length⟩ : Mem) = _; rw [e2]) rfl f2 r2 (back_re r fp rfl rn)
            · exact hw.elim
          · exact hw.elim
        | _ => exact hw.elim
    | thr x m' =>
      rw [e] at hw
      show ∀ w' : Wd, w'.m.sl = [] → w'.m.cs = m'.cs → w'.sg = [] → _
      intro w' e1 e2 e3 f r' cls d ex
      dsimp only at hw
      split at hw
      · rename_i hlen
        obtain ⟨rp, fp, _⟩ := pop_ok r ha hd ne f r' e1 (by rw [e2]; exact hlen)
        obtain ⟨r2, f2⟩ := back_ok r fp rp
        have q : XW X.K B w x ⟨w.m.sl, m'.cs.take w.m.cs.length⟩ := hw
        exact ⟨x, back w (popW w w'), r2, rfl, rfl, ex, q (back w (popW w w')) (by show (⟨w.m.sl, w'.m.cs.take w.m.cs.length⟩ : Mem) = _; rw [e2]) (f2.s r) r2⟩
      · exact hw.elim
  refine wpAny_call (make_map (f := fI) I.kIn M.makes M.init (beq_iff_eq.mp M.fn) (codeAny_mono (F _ X.stack _ (instW w Cc (s.heap.objs.size + 1) s.heap.objs.size c) (.ref (s.heap.objs.size + 1) :: us) ws _ _ ys _ (fun cls d H' => WXB X.K B cls d w.sg H') C.gd (hr.make Cc us (ks.zip ws)) (I2.env0.make Cc us (ks.zip ws)) rfl rfl (fun _ h => h) r1 hv1 (.cons rfl ru) rw' hl hcw) fun r s' hq => ?_))
  cases r with
  | error e => exact pass_b C I2 hq
  | ok fl =>
    cases fl with
    | ret u =>
      obtain ⟨v, H', I3, rv, ev, q3⟩ := I2.after hq
      subst ev
      exact ⟨rv, ⟨V.ref (s.heap.objs.size + 1), H', I3, rfl, q3⟩⟩
    | next => exact False.elim hq
    | brk => exact False.elim hq
    | cont => exact False.elim hq
end
end Ev

namespace Ev
open PySem PySem.Spec PyProof.Rows L2
/-! ### instances as data: their fields read -/
def insC : PyData → Option (Str × List (PyData × PyData))
  | .dict ((.none, .str c) :: fs) => some (c, fs)
  | _ => none
@[simp] theorem insC_ins {c : Str} {fs : List (Str × PyData)} : insC (insD c fs) = some (c, fieldsD fs) := rfl
@[simp] theorem insC_dOf {c : Str} {fs : List (Str × PyData)} : insC (dOf (.ins c fs)) = some (c, fieldsD fs) := rfl
theorem insC_RN {K : PySem.W.Frag} {w : Wd} {d : PyData} {v : V} {c : Str} {fs : List (PyData × PyData)} (s : Same w.F w.H) (h : RN K w d v) (e : insC d = some (c, fs)) :
    ∃ (a C dx : Addr) (vs : List (Str × V)), v = .ref a ∧ ClsN K c C ∧ w.H a = some (.ins C dx vs) ∧ RF K w.F fs vs := by
  rcases h with h | ⟨a, o, e2, rfl, h⟩
  · cases h with
    | non => cases e
    | bl b => cases e
    | int i => cases e
    | str x => cases e
    | lst _ _ => cases e
    | tup _ _ => cases e
    | dic _ h =>
      cases h with
      | nil => cases e
      | @cons k _ _ _ _ _ _ => cases k <;> cases e
    | ins h1 h2 h3 h4 =>
      cases e
      exact ⟨_, _, _, _, rfl, h1, s _ _ h2, h4⟩
    | cls _ => cases e
    | exn0 _ _ => cases e
    | exn _ _ _ _ => cases e
  · subst e2
    cases o with
    | lst xs => cases e
    | dic es =>
      obtain ⟨kvs, _, rk⟩ := h
      cases rk with
      | nil => cases e
      | @cons k _ _ _ _ _ _ => cases k <;> cases e
    | ins c' fs' =>
      cases e
      obtain ⟨C, dx, vs, h1, _, _, h4, h5⟩ := h
      exact ⟨a, C, dx, vs, rfl, h4, h1, h5⟩
/-- the classes whose instances have the field n -/
def FlL (K : PySem.W.Frag) (cl : List Str) (n : Str) : Prop := ∀ c, c ∈ cl → ∀ D, ClsN K c D → L2.Cls K D ∧ L2.NoAttr K D n
theorem flL_nil {K : PySem.W.Frag} {n : Str} : FlL K [] n := fun c h => by cases h
theorem flL_cons {K : PySem.W.Frag} {c n : Str} {cl : List Str} {D : Addr} (hc : ClsN K c D) (h1 : L2.Cls K D) (h2 : L2.NoAttr K D n) (t : FlL K cl n) : FlL K (c :: cl) n := fun c' h D' hD => by
  rcases List.mem_cons.mp h with rfl | h
  · rw [hD.one hc]
    exact ⟨h1, h2⟩
  · exact t c' h D' hD
def evFld (cl : List Str) (n : Str) (f : Pg EV) : Pg EV := .bind f fun v => look (opnd v) fun x => optP ((insC x).bind fun p => if p.1 ∈ cl then (fGet n p.2).map .d else none)
section
variable {X : Cx} {B : XBt} {e o : Expr} {f fo fe : Pg EV} {pos p1 : Pos} {n : Str} {cl : List Str}
theorem snd_fld (h : Snd X B e f) (hl : FlL X.K cl n) (hb : attributeBase e n X.env (eval e X.env) = eval e X.env := by rfl) : Snd X B (.Attribute e n pos) (evFld cl n f) := by
  intro w Q r hw
  refine we_of (pe_fld pe_w hb) ?_
  refine snd_then h r hw fun v w1 y e1 f1 r1 re h1 => ?_
  obtain ⟨d, ed, h1⟩ := look_ok h1
  obtain ⟨z, ez, q⟩ := wp_opt h1
  cases ex : insC d with
  | none =>
    rw [ex] at ez
    cases ez
  | some p =>
    obtain ⟨c, fs⟩ := p
    rw [ex] at ez
    have ez : (if c ∈ cl then (fGet n fs).map EV.d else none) = some z := ez
    split at ez
    · rename_i hc
      cases eg : fGet n fs with
      | none =>
        rw [eg] at ez
        cases ez
      | some d1 =>
        rw [eg] at ez
        cases ez
        obtain ⟨a, C, dx, vs, rfl, hcn, ha, rf⟩ := insC_RN r1.sub ((re.ro r1).rn r1 ed) ex
        obtain ⟨k1, k2⟩ := hl c hc C hcn
        obtain ⟨v1, l, rv⟩ := fGet_ok rf eg
        exact ⟨a, C, dx, vs, v1, rfl, ha, k1, k2, l, q w1 v1 rfl e1 f1 r1 rv⟩
    · cases ez
/-! ### a field stored -/
def putD (f : Str) (v : PyData) : List (Str × PyData) → List (Str × PyData)
  | [] => [(f, v)]
  | (g, x) :: r => if g = f then (g, v) :: r else (g, x) :: putD f v r
theorem rf_put {K : PySem.W.Frag} {F : Hp} {g : Str} {d : PyData} {y : V} (h : R K F d y) : ∀ {fs : List (Str × PyData)} {vs : List (Str × V)}, RF K F (fieldsD fs) vs → RF K F (fieldsD (putD g d fs)) (putF g y vs)
  | [], _, .nil => .cons h .nil
  | (k, x) :: fs, (_, z) :: vs, .cons h1 t => by
    unfold putD putF
    by_cases q : k = g
    · rw [if_pos q, if_pos q]
      exact .cons h t
    · rw [if_neg q, if_neg q]
      exact .cons h1 (rf_put h (fs := fs) t)
def fset (cl : List Str) (n : Str) (d : PyData) : Ob → Option Ob
  | .ins c fs => if c ∈ cl ∧ fs.length < 900 then some (.ins c (putD n d fs)) else none
  | _ => none
/-- o.n = e -/
def evFset (cl : List Str) (n : Str) (fe fo : Pg EV) : Pg Fl := .bind fe fun v => .bind (toA v) fun a => .bind (needD a) fun d => .bind fo fun ov => .bind (getAt ov) fun ob => .bind (optP (fset cl n d ob)) fun ob' => .bind (putAt ov ob') fun _ => .ret .next
theorem snd_fset (he : Snd X B e fe) (ho : Snd X B o fo) (hl : FlL X.K cl n) (hs : swapsWith e (some (.Attribute o n p1)) pos.line X.env = pure false := by rfl) : SndS X B (.Assign [.Attribute o n p1] e pos) (evFset cl n fe fo) := by
  intro w D r hw
  refine ws_of (ps_fld pe_w pe_w hs) ?_
  refine snd_then he r hw fun v w1 y e1 f1 r1 re q1 => ?_
  obtain ⟨a, w2, ea, s2, h2, f2, r2, rv⟩ := toA_ok r1 re
  have q2 := wp_bind q1
  rw [ea] at q2
  obtain ⟨d, ed, q3⟩ := needD_ok (wp_bind q2)
  subst ed
  rw [← e1, ← s2, ← h2]
  have q3 : (Pg.bind fo _ w2.m).wp (PostS X.K w D) (XW X.K B w2) := q3.imp (fun _ _ z => z) fun _ _ z => z.fol (f2.s r1)
  refine snd_then ho r2 q3 fun ov w3 x e3 f3 r3 re3 q4 => ?_
  have rd : R X.K w3.F d y := rv.mono f3.ext
  obtain ⟨p, ob, rfl, hO, q5, next⟩ := at_ok r3 re3 r3 (FolE.refl w3) rfl (wp_bind q4)
  obtain ⟨ob', eo, q6⟩ := wp_opt (wp_bind q5)
  cases ob with
  | lst xs => cases eo
  | dic es => cases eo
  | ins c fs =>
    have eo : (if c ∈ cl ∧ fs.length < 900 then some (Ob.ins c (putD n d fs)) else none) = some ob' := eo
    split at eo
    · rename_i hc
      obtain ⟨hc, hz⟩ := hc
      cases eo
      obtain ⟨C, dx, vs, k1, k2, _, k4, k5⟩ := id hO
      obtain ⟨c1, c2⟩ := hl c hc C k4
      have lz : vs.length < 1000 := by
        rw [← k5.len]
        unfold fieldsD
        rw [List.length_map]
        omega
      refine ⟨p, C, dx, vs, rfl, k1, c1, c2, lz, ?_⟩
      have pd : dx ≠ p := fun z => by
        rw [z, k1] at k2
        cases k2
      obtain ⟨w4, eH, eS, r4, f4, q7⟩ := next (.ins c (putD n d fs)) (.ins C dx (putF n y vs)) (.inr fun C' d' vs' z => by
        rw [k1] at z
        cases z
        exact ⟨C, _, rfl⟩) (fun Z hZ => by
        obtain ⟨C', dx', vs', j1, j2, j3, j4, j5⟩ := hZ
        rw [k1] at j1
        cases j1
        exact ⟨C, dx, _, upd_same, by rw [upd_ne pd]; exact j2, j3, j4, rf_put rd j5⟩) (wp_bind q6)
      have q := q7 w4 rfl (((f1.trans f2).trans f3).s r |>.trans f4) r4
      rw [eH, eS, e3, s2] at q
      rw [s2]
      exact q
    · cases eo
end
section
variable {m : Mem} {X : Exn → Mem → Prop} {E : EV → Mem → Prop} {F : Fl → Mem → Prop}
@[simp] theorem W_fld {cl : List Str} {n : Str} {f : Pg EV} : W (evFld cl n f) m X E ↔ W f m X fun v m1 => W (look (opnd v) fun x => optP ((insC x).bind fun p => if p.1 ∈ cl then (fGet n p.2).map .d else none)) m1 X E := by
  unfold evFld
  rw [W_bind]
@[simp] theorem W_fset {cl : List Str} {n : Str} {fe fo : Pg EV} : W (evFset cl n fe fo) m X F ↔ W fe m X fun v m1 => W (toA v) m1 X fun a m2 => ∃ d, a = .d d ∧ W fo m2 X fun ov m3 => W (getAt ov) m3 X fun ob m4 => ∃ ob', fset cl n d ob = some ob' ∧ W (putAt ov ob') m4 X fun _ m5 => F .next m5 := by
  unfold evFset
  simp only [W_bind, W_opt, W_ret, W_needD]
@[simp] theorem fset_ins {cl : List Str} {n c : Str} {d : PyData} {fs : List (Str × PyData)} : fset cl n d (.ins c fs) = if c ∈ cl ∧ fs.length < 900 then some (.ins c (putD n d fs)) else none := rfl
@[simp] theorem putD_nil {n : Str} {d : PyData} : putD n d [] = [(n, d)] := rfl
@[simp] theorem putD_cons {n g : Str} {d x : PyData} {r : List (Str × PyData)} : putD n d ((g, x) :: r) = if g = n then (g, d) :: r else (g, x) :: putD n d r := rfl
end
end Ev

namespace PySem.W
open PySem PySem.Spec PySem.Calls PyProof.Rows
section
variable {M : Model} {A : Around} {E : Value → Shared → Prop} {s : Shared}
theorem ks_loneK {f : Value} {x : Sem Value} {pos : Pos} {keywords : List (Option Str × Sem Value)} {Q : Args → Shared → Prop} (hall : keywords.all (·.1.isSome) = true)
    (h : wpAny M A x (fun v s₁ => wpAny M A (evalAll (keywords.map (·.2))) (fun ks s₂ => StarOf M A E v (fun vs s₃ => Q ⟨vs, (keywords.filterMap (·.1)).zip ks⟩ s₃) s₂) E s₁) E s) :
    wpAny M A (evalArgs f true [(true, (do let v ← x; standAt pos; pure v))] keywords) Q E s := by
  unfold evalArgs
  first
    | refine wpAny_bind (wpAny_bind (wpAny_mono h (fun v s₁ h₁ => wpAny_bind (wpAny_standAt (wpAny_pure ?_))) fun _ _ x => x))
    | refine wpAny_bind (wpAny_bind (wpAny_bind (wpAny_mono h (fun v s₁ h₁ => wpAny_bind (wpAny_standAt (wpAny_pure (wpAny_pure ?_)))) fun _ _ x => x)))
  refine wpAny_holding ?_
  dsimp only
  rw [if_pos hall]
  refine wpAny_bind (wpAny_mono h₁ (fun ks s₂ h₂ => ?_) fun _ _ x => x)
  unfold StarOf at h₂
  refine wpAny_bind (wpAny_bind (wpAny_mono h₂ (fun b s₃ h₃ => ?_) fun _ _ x => x))
  obtain ⟨rfl, h₃⟩ := h₃
  have z := wpAny_holding (vs := ((keywords.filterMap (·.1)).zip ks).map (·.2)) (wpAny_mono h₃ (fun vs s₄ h₄ => (wpAny_pure h₄ : wpAny M A (pure (⟨vs, (keywords.filterMap (·.1)).zip ks⟩ : Args)) Q E s₄)) fun _ _ x => x)
  try simp only [Bool.false_eq_true, if_false]
  first
    | exact z
    | exact wpAny_bind (wpAny_pure z)
theorem ks_callK {f : Value} {first : List Value} {pos : Pos} {Q : Value → Shared → Prop} {P : Heap → Prop} {args : List (Bool × Sem Value)} {keywords : List (Option Str × Sem Value)} (hst : args.any (·.1) = true)
    (hk : ∀ h, P h → ∃ k, (k = Keeper.frame ∨ k = Keeper.machine ∨ k = Keeper.boundFrame) ∧ Looks M h (keeperOf f) k)
    (h : wpAny M A (evalArgs f true args keywords) (fun a s₁ => P s₁.heap ∧ wpAny M A (call f (first ++ a.pos) a.kw) Q E s₁) E s) : wpAny M A (callWith pos f first args keywords) Q E s := by
  unfold callWith
  refine wpAny_bind (wpAny_holding (wpAny_mono h (fun a s₁ h₁ => wpAny_bind (wpAny_standAt ?_)) fun _ _ x => x))
  obtain ⟨k, hk', L⟩ := hk _ h₁.1
  simp only [hst, Bool.true_or]
  refine wpAny_bind (L.here ?_)
  have tail : ∀ {t : Sem Value}, wpAny M A t Q E s₁ → wpAny M A (t >>= fun r => holding [r] point >>= fun _ => pure r) Q E s₁ :=
    fun ht => wpAny_bind (wpAny_mono ht (fun r s₂ hr => wpAny_bind (wpAny_holding (wpAny_point (wpAny_pure hr)))) fun _ _ x => x)
  have marked (mk : Value) : wpAny M A (callMarked mk f (first ++ a.pos) a.kw) Q E s₁ := by unfold callMarked; exact Calls.wpAny_keep h₁.2
  rcases hk' with rfl | rfl | rfl <;> dsimp only <;> first | exact tail (marked _) | exact tail (wpAny_operating h₁.2)
end
end PySem.W
namespace Ev
open PySem PySem.Spec PyProof.Rows L2
/-! ### arguments and keywords of a call -/
def WArgs (X : Cx) (es : List Expr) (kws : List Keyword) (ks : List Str) (σ : L2.St) (H : Hp) (G : List V → List V → Hp → Prop) : Prop :=
  Cl (∀ (f : Value) (pos : Pos) (pins : List (Addr × Obj)) (s : Shared), L2.Inv X pins σ H s → ∀ (Q : Args → Shared → Prop), (∀ us ws xs ys H2 s2, L2.Inv X pins σ H2 s2 → Vals xs us → Vals ys ws → G xs ys H2 → Q ⟨us, ks.zip ws⟩ s2) →
    wpAny (model X.prog X.w) X.A (evalArgs f true (backTo pos (starEach es X.env)) (backToKw pos (keywordEach kws X.env))) Q X.xe s)
structure SndAK (X : Cx) (B : XBt) (es : List Expr) (kws : List Keyword) (ks : List Str) (fa fk : Pg (List AV)) : Prop where
  go : ∀ {α : Type} {cont : List AV → List AV → Pg α} {P : α → Mem → Prop} {w : Wd} {G : List V → List V → Hp → Prop}, Rep X.K w → ((Pg.bind fa fun vs => Pg.bind fk fun zs => cont vs zs) w.m).wp P (XW X.K B w) →
    (∀ (vs zs : List AV) (w2 : Wd) (xs ys : List V), w2.sg = w.sg → FolE w w2 → Rep X.K w2 → Paired (RV X.K w2) vs xs → Paired (RV X.K w2) zs ys → (cont vs zs w2.m).wp P (XW X.K B w2) → G xs ys w2.H) → WArgs X es kws ks w.sg w.H G
section
variable {X : Cx} {B : XBt} {e o : Expr} {es : List Expr} {kws : List Keyword} {ks : List Str} {fa fk : Pg (List AV)} {f fo : Pg EV} {p p' apos pos : Pos} {x mn : Str}
theorem sndAK_ne (ha : SndA X B (e :: es) fa) (hk : SndK X B kws fk) (hall : ∀ pos, (backToKw pos (keywordEach kws X.env)).all (·.1.isSome) = true := by intro _; rfl) (hks : ∀ pos, (backToKw pos (keywordEach kws X.env)).filterMap (·.1) = ks := by intro _; rfl)
    (he : starEach (e :: es) X.env = (false, eval e X.env) :: starEach es X.env := by rfl) : SndAK X B (e :: es) kws ks fa fk := by
  refine ⟨fun {α cont P w G} r hw next => ⟨fun f pos pins s I Q hQ => ?_⟩⟩
  have wa : WA X (e :: es) w.sg w.H fun xs H1 => WK X kws w.sg H1 fun ys H2 => G xs ys H2 := sndA_then ha r hw fun vs w1 xs e1 f1 r1 rv q => by
    rw [← e1]
    exact sndK_then hk r1 q fun zs w2 ys e2 f2 r2 rz q2 => next vs zs w2 xs ys (e2.trans e1) (f1.trans f2) r2 (rvs_fol f2 rv) rz q2
  refine PyProof.Rows.evalArgs_kw2 (hall pos) (thn (wa.go pos pins s I) fun us s1 ⟨xs, H1, I1, r1, q⟩ => thn (q.go pos pins s1 I1) fun ws s2 ⟨ys, H2, I2, rz, g⟩ => ?_) he
  rw [hks pos]
  exact hQ us ws xs ys H2 s2 I2 r1 rz g
theorem sndAK_nil (hk : SndK X B kws fk) (hall : ∀ pos, (backToKw pos (keywordEach kws X.env)).all (·.1.isSome) = true := by intro _; rfl) (hks : ∀ pos, (backToKw pos (keywordEach kws X.env)).filterMap (·.1) = ks := by intro _; rfl) : SndAK X B [] kws ks evNil fk := by
  refine ⟨fun {α cont P w G} r hw next => ⟨fun f pos pins s I Q hQ => ?_⟩⟩
  have wa : WK X kws w.sg w.H fun ys H2 => G [] ys H2 := sndK_then hk r (show (Pg.bind fk (fun zs => cont [] zs) w.m).wp P (XW X.K B w) from wp_bind hw) fun zs w2 ys e2 f2 r2 rz q2 => next [] zs w2 [] ys e2 f2 r2 .nil rz q2
  refine PyProof.Rows.evalArgs_kw2_nil (hall pos) (thn (wa.go pos pins s I) fun ws s2 ⟨ys, H2, I2, rz, g⟩ => ?_)
  rw [hks pos]
  exact hQ [] ws [] ys H2 s2 I2 .nil rz g
/-- f(*e, k = ..) -/
def evStar1 (f : Pg EV) : Pg (List AV) := .bind f fun v => .bind (toA v) fun a => optP ((seqOf a).map dAV)
theorem sndAK_star (h : Snd X B e f) (hk : SndK X B kws fk) (hall : ∀ pos, (backToKw pos (keywordEach kws X.env)).all (·.1.isSome) = true := by intro _; rfl) (hks : ∀ pos, (backToKw pos (keywordEach kws X.env)).filterMap (·.1) = ks := by intro _; rfl)
    (hs : starEach [.Starred e p'] X.env = [(true, eval e X.env)] := by rfl) : SndAK X B [.Starred e p'] kws ks (evStar1 f) fk := by
  refine ⟨fun {α cont P w G} r hw next => ⟨fun f' pos pins s I Q hQ => ?_⟩⟩
  have wa : WE X e w.sg w.H fun y H1 => ∃ a vs, y = .ref a ∧ WK X kws w.sg H1 fun ys H2 => (SqT X.K H2 a vs ∨ SqL X.K H2 a vs) ∧ G vs ys H2 := by
    refine snd_then h r (wp_bind hw : (Pg.bind f _ w.m).wp _ _) fun v w1 y e1 f1 r1 re q => ?_
    obtain ⟨av, w1', ea, s1, h1, f1', r1', rv⟩ := toA_ok r1 re
    have q := wp_bind q
    rw [ea] at q
    obtain ⟨as, es, q⟩ := wp_opt q
    have fin : ∀ {a : Addr} {vs : List V} {ds : List PyData}, (SqT X.K w1'.F a vs ∨ LQ X.K w1'.F a vs) → RA X.K w1'.F ds vs → as = dAV ds → y = V.ref a → ∃ a' vs', y = V.ref a' ∧ WK X kws w.sg w1.H fun ys H2 => (SqT X.K H2 a' vs' ∨ SqL X.K H2 a' vs') ∧ G vs' ys H2 := fun {a vs ds} hq ra ed ey => by
      subst ed
      refine ⟨a, vs, ey, ?_⟩
      rw [← e1, ← s1, ← h1]
      have q : (Pg.bind fk (fun zs => cont (dAV ds) zs) w1'.m).wp P (XW X.K B w1') := q.imp (fun _ _ z => z) fun _ _ z => z.fol ((f1.trans f1').s r)
      refine sndK_then hk r1' q fun zs w2 ys e2 f2 r2 rz q2 => ⟨?_, next (dAV ds) zs w2 vs ys (e2.trans (s1.trans e1)) (f1.trans (f1'.trans f2)) r2 (rvs_fol f2 (ra_rv ra)) rz q2⟩
      rcases hq with hq | hq
      · exact .inl (sqt_mono r2.sub (sqt_mono f2.ext hq))
      · exact .inr ((hq.mono f2.ext).mono r2.sub).sq
    cases av with
    | cell n => cases es
    | d d =>
      cases d with
      | list xs =>
        cases es
        cases rv with
        | lst ha ra => exact fin (.inr ha) ra rfl rfl
      | tuple xs =>
        cases es
        cases rv with
        | tup ha ra => exact fin (.inl ha) ra rfl rfl
      | _ => cases es
  rw [hs]
  refine PySem.W.ks_loneK (hall pos) (thn (wa.go pins s I) fun u s1 ⟨y, H1, I1, ry, a, vs, ey, q⟩ => ?_)
  subst ey
  obtain rfl : u = Value.ref a := ry
  refine thn (q.go pos pins s1 I1) fun ws s2 ⟨ys, H2, I2, rz, hq, g⟩ => ?_
  refine StX.star_any I2 hq fun us s3 I3 ru => ?_
  rw [hks pos]
  exact hQ us ws vs ys H2 s3 I3 ru rz g
/-! ### x(..), x a name of the module -/
def evCalV (h : Fn) (m : Nat) (fa fk : Pg (List AV)) : Pg EV := .bind fa fun vs => .bind fk fun zs => if zs.length = m then callS h (vs ++ zs) else .stuck
theorem calV_end {h : Fn} {u : Value} {m : Nat} {w w2 : Wd} {vs zs : List AV} {xs ys : List V} {Q : VK} (cal : CalV X B u ks h) (hm : ks.length = m) (e2 : w2.sg = w.sg) (f2 : FolE w w2) (r2 : Rep X.K w2) (rv : Paired (RV X.K w2) vs xs) (rz : Paired (RV X.K w2) zs ys)
    (q : ((if zs.length = m then callS h (vs ++ zs) else .stuck : Pg EV) w2.m).wp (PostE X.K w Q) (XW X.K B w2)) : ∀ (pins : List (Addr × Obj)) (s : Shared) (us ws : List Value), L2.Inv X pins w.sg w2.H s → Vals xs us → Vals ys ws → wpAny (model X.prog X.w) X.A (call u us (ks.zip ws)) (EP X pins w.sg Q) X.xe s := by
  intro pins s us ws I ru rw'
  split at q
  · rename_i hl
    rw [← e2] at I ⊢
    exact cal w2 pins s us ws _ xs ys Q I r2 (paired_app rv rz) ru rw' (by rw [← paired_len rz, hl, hm]) (q.imp (fun v m' z w3 y em es f3 r3 re => z w3 y em (es.trans e2) (f2.trans f3) r3 re) fun _ _ z => z)
  · exact q.elim
theorem snd_calV {h : Fn} {a : Addr} {m : Nat} (cal : CalV X B (.ref a) ks h) (hg : Gl X x) (hx : X.mg x = some (.ref a)) (hk : PySem.W.keepIn X.K (.ref a) = true) (A : SndAK X B es kws ks fa fk) (hm : ks.length = m) (hdb : (x == ("__debug__" : Str)) = false := by decide)
    (hpl : ((backTo pos (starEach es X.env)).any (·.1) || (backToKw pos (keywordEach kws X.env)).any (·.1.isNone)) = false := by rfl) : Snd X B (.Call (.Name x p) es kws pos) (evCalV h m fa fk) := by
  intro w Q r hw
  refine ⟨fun pins s I => ?_⟩
  refine wpAny_Call_Name_kw (ld_glob I hg hx ?_ hdb)
  have wa := A.go (G := fun xs ys H2 => ∀ (pins : List (Addr × Obj)) (s : Shared) (us ws : List Value), L2.Inv X pins w.sg H2 s → Vals xs us → Vals ys ws → wpAny (model X.prog X.w) X.A (call (.ref a) us (ks.zip ws)) (EP X pins w.sg Q) X.xe s) r hw fun vs zs w2 xs ys e2 f2 r2 rv rz q => calV_end cal hm e2 f2 r2 rv rz q
  exact PySem.W.callWith_of (P := fun h => X.K.In h) hpl (PySem.W.keeps_K hk) (wa.go _ pos pins s I _ fun us ws xs ys H2 s2 I2 ru rw' g => ⟨I2.kIn, g pins s2 us ws I2 ru rw'⟩)
theorem snd_calVS {h : Fn} {a : Addr} {m : Nat} (cal : CalV X B (.ref a) ks h) (hg : Gl X x) (hx : X.mg x = some (.ref a)) (hk : PySem.W.keepIn X.K (.ref a) = true) (A : SndAK X B es kws ks fa fk) (hm : ks.length = m) (hdb : (x == ("__debug__" : Str)) = false := by decide)
    (hst : (backTo pos (starEach es X.env)).any (·.1) = true := by rfl) : Snd X B (.Call (.Name x p) es kws pos) (evCalV h m fa fk) := by
  intro w Q r hw
  refine ⟨fun pins s I => ?_⟩
  refine wpAny_Call_Name_kw (ld_glob I hg hx ?_ hdb)
  have wa := A.go (G := fun xs ys H2 => ∀ (pins : List (Addr × Obj)) (s : Shared) (us ws : List Value), L2.Inv X pins w.sg H2 s → Vals xs us → Vals ys ws → wpAny (model X.prog X.w) X.A (call (.ref a) us (ks.zip ws)) (EP X pins w.sg Q) X.xe s) r hw fun vs zs w2 xs ys e2 f2 r2 rv rz q => calV_end cal hm e2 f2 r2 rv rz q
  exact PySem.W.ks_callK (P := fun h => X.K.In h) hst (PySem.W.keeps_K hk) (wa.go _ pos pins s I _ fun us ws xs ys H2 s2 I2 ru rw' g => ⟨I2.kIn, g pins s2 us ws I2 ru rw'⟩)
end
end Ev

namespace Ev
open PySem PySem.Spec PyProof.Rows L2
/-! ### o.m(..), o an instance -/
theorem fGet_none {K : PySem.W.Frag} {F : Hp} {n : Str} : ∀ {fs : List (PyData × PyData)} {vs : List (Str × V)}, RF K F fs vs → fGet n fs = none → vs.lookup n = none
  | _, _, .nil, _ => rfl
  | _, _, .cons (k := k) h t, e => by
    unfold fGet at e
    by_cases q : n = k
    · rw [if_pos q] at e
      cases e
    · rw [if_neg q] at e
      rw [List.lookup_cons, show (n == k) = false from beq_eq_false_iff_ne.mpr q]
      exact fGet_none t e
def ovA : AV → OV
  | .d x => .d x
  | .cell n => .cell n
theorem rv_ro {K : PySem.W.Frag} {w : Wd} : ∀ {a : AV} {v : V}, RV K w a v → RO K w (ovA a) v
  | .d _, _, h => .inl h
  | .cell _, _, h => h
/-- what the object's class says of the method -/
def recv (n : Str) (tb : List (Str × Fn)) (a : AV) : Pg Fn := look (ovA a) fun x => optP ((insC x).bind fun p => if (fGet n p.2).isNone then tb.lookup p.1 else none)
def MthT (X : Cx) (B : XBt) (n : Str) (ks : List Str) (tb : List (Str × Fn)) : Prop := ∀ c h, tb.lookup c = some h → ∀ D, ClsN X.K c D → L2.Cls X.K D ∧ ∃ g, L2.Meth X.K D n g ∧ CalV X B (.ref g) ks h
theorem mthT_nil {X : Cx} {B : XBt} {n : Str} {ks : List Str} : MthT X B n ks [] := fun c h e => by cases e
theorem mthT_cons {X : Cx} {B : XBt} {n c : Str} {ks : List Str} {tb : List (Str × Fn)} {h : Fn} {D g : Addr} (hc : ClsN X.K c D) (h1 : L2.Cls X.K D) (h2 : L2.Meth X.K D n g) (h3 : CalV X B (.ref g) ks h) (t : MthT X B n ks tb) : MthT X B n ks ((c, h) :: tb) := fun c' h' e D' hD => by
  rw [List.lookup_cons] at e
  cases q : c' == c with
  | true =>
    rw [q] at e
    cases e
    have q := eq_of_beq q
    subst q
    rw [hD.one hc]
    exact ⟨h1, g, h2, h3⟩
  | false =>
    rw [q] at e
    exact t c' h' e D' hD
def evMeth (n : Str) (tb : List (Str × Fn)) (m : Nat) (fo : Pg EV) (fa fk : Pg (List AV)) : Pg EV := .bind fo fun v => .bind (toA v) fun a => .bind (recv n tb a) fun h => .bind fa fun vs => .bind fk fun zs => if zs.length = m then callS h (a :: (vs ++ zs)) else .stuck
section
variable {X : Cx} {B : XBt} {o : Expr} {es : List Expr} {kws : List Keyword} {ks : List Str} {fa fk : Pg (List AV)} {fo : Pg EV} {apos pos : Pos} {n : Str} {tb : List (Str × Fn)} {m : Nat}
theorem snd_meth {pl : Sem Bool} (ho : Snd X B o fo) (T : MthT X B n ks tb) (A : SndAK X B es kws ks fa fk) (hm : ks.length = m)
    (ht : eval (.Call (.Attribute o n apos) es kws pos) X.env = (do
      let ov ← eval o X.env
      standAt apos.atName
      let (f, first) ← holding [ov] (getMethod ov n pl)
      callWith pos f first (backTo pos (starEach es X.env)) (backToKw pos (keywordEach kws X.env))) := by rfl)
    (hpl : ((backTo pos (starEach es X.env)).any (·.1) || (backToKw pos (keywordEach kws X.env)).any (·.1.isNone)) = false := by rfl) : Snd X B (.Call (.Attribute o n apos) es kws pos) (evMeth n tb m fo fa fk) := by
  intro w Q r hw
  refine ⟨fun pins s I => ?_⟩
  have wa : WE X o w.sg w.H fun y H1 => ∃ a C dx fs g, y = .ref a ∧ H1 a = some (.ins C dx fs) ∧ L2.Cls X.K C ∧ L2.Meth X.K C n g ∧ fs.lookup n = none ∧
      WArgs X es kws ks w.sg H1 fun xs ys H2 => ∀ (pins : List (Addr × Obj)) (s : Shared) (us ws : List Value), L2.Inv X pins w.sg H2 s → Vals xs us → Vals ys ws → wpAny (model X.prog X.w) X.A (call (.ref g) (.ref a :: us) (ks.zip ws)) (EP X pins w.sg Q) X.xe s := by
    refine snd_then ho r hw fun v w1 y e1 f1 r1 re q => ?_
    obtain ⟨av, w2, ea, s2, h2, f2, r2, rv⟩ := toA_ok r1 re
    have q := wp_bind q
    rw [ea] at q
    obtain ⟨x, ex, q⟩ := look_ok (wp_bind q)
    obtain ⟨h, eh, q⟩ := wp_opt q
    cases ei : insC x with
    | none =>
      rw [ei] at eh
      cases eh
    | some p =>
      obtain ⟨c, fs⟩ := p
      rw [ei] at eh
      have eh : (if (fGet n fs).isNone then tb.lookup c else none) = some h := eh
      split at eh
      · rename_i hn
        obtain ⟨a, C, dx, vs, rfl, hcn, ha, rf⟩ := insC_RN r2.sub ((rv_ro rv).rn r2 ex) ei
        obtain ⟨k1, g, k2, cal⟩ := T c h eh C hcn
        rw [← e1, ← s2, ← h2]
        refine ⟨a, C, dx, vs, g, rfl, ha, k1, k2, fGet_none rf (Option.isNone_iff_eq_none.mp hn), ?_⟩
        have q : (Pg.bind fa (fun vs => .bind fk fun zs => if zs.length = m then callS h (av :: (vs ++ zs)) else .stuck) w2.m).wp (PostE X.K w Q) (XW X.K B w2) := q.imp (fun _ _ z => z) fun _ _ z => z.fol (f2.s r1)
        refine A.go r2 q fun vs' zs w3 xs ys e3 f3 r3 rv3 rz q3 => ?_
        intro pins s us ws I ru rw'
        split at q3
        · rename_i hl
          rw [← e3] at I ⊢
          exact cal w3 pins s (.ref a :: us) ws (av :: (vs' ++ zs)) (.ref a :: xs) ys Q I r3 (.cons (rv.fol f3) (paired_app rv3 rz)) (.cons rfl ru) rw' (by rw [← paired_len rz, hl, hm]) (q3.imp (fun v m' z w4 y em es f4 r4 re => z w4 y em (es.trans (e3.trans (s2.trans e1))) (f1.trans (f2.trans (f3.trans f4))) r4 re) fun _ _ z => z)
        · exact q3.elim
      · cases eh
  refine PySem.W.methodCall_KW (pl := pl) (thn (wa.go pins s I) fun u s1 ⟨y, H1, I1, ry, a, C, dx, fs, g, ey, ha, k1, k2, hl, q⟩ => ?_) ht
  subst ey
  obtain rfl : u = Value.ref a := ry
  refine getmeth_ok I1 ha k1 k2 hl ?_
  exact PySem.W.callWith_of (P := fun h => X.K.In h) (first := [.ref a]) hpl (PySem.W.keeps_K k2.kp) (q.go _ pos pins s1 I1 _ fun us ws xs ys H2 s2 I2 ru rw' g => ⟨I2.kIn, g pins s2 us ws I2 ru rw'⟩)
end
end Ev

namespace Ev
open PySem PySem.Spec PyProof.Rows L2
/-! ### e.n, a property -/
def recvP (tb : List (Str × Fn)) (a : AV) : Pg Fn := look (ovA a) fun x => optP ((insC x).bind fun p => tb.lookup p.1)
def PrpT (X : Cx) (k : Nat) (n : Str) (tb : List (Str × Fn)) : Prop := ∀ c h, tb.lookup c = some h → ∀ D, ClsN X.K c D → L2.Cls X.K D ∧ ∃ p g, L2.PropOf X.K D n p g ∧ CodeP X.prog X.w X.K X.mg X.base k g [] h
theorem prpT_nil {X : Cx} {k : Nat} {n : Str} : PrpT X k n [] := fun c h e => by cases e
theorem prpT_cons {X : Cx} {k : Nat} {n c : Str} {tb : List (Str × Fn)} {h : Fn} {D p g : Addr} (hc : ClsN X.K c D) (h1 : L2.Cls X.K D) (h2 : L2.PropOf X.K D n p g) (h3 : CodeP X.prog X.w X.K X.mg X.base k g [] h) (t : PrpT X k n tb) : PrpT X k n ((c, h) :: tb) := fun c' h' e D' hD => by
  rw [List.lookup_cons] at e
  cases q : c' == c with
  | true =>
    rw [q] at e
    cases e
    have q := eq_of_beq q
    subst q
    rw [hD.one hc]
    exact ⟨h1, p, g, h2, h3⟩
  | false =>
    rw [q] at e
    exact t c' h' e D' hD
def evProp (tb : List (Str × Fn)) (f : Pg EV) : Pg EV := .bind f fun v => .bind (toA v) fun a => .bind (recvP tb a) fun h => noThr (callS h [a])
section
variable {X : Cx} {B : XBt} {e : Expr} {f : Pg EV} {pos : Pos} {n : Str} {tb : List (Str × Fn)} {k : Nat}
theorem snd_prop (C : Ctx X B) (h : Snd X B e f) (T : PrpT X k n tb) (hr : Room (k + 1) X.A) (hb : attributeBase e n X.env (eval e X.env) = eval e X.env := by rfl) : Snd X B (.Attribute e n pos) (evProp tb f) := by
  intro w Q r hw
  refine ⟨fun pins s I => ?_⟩
  have wa : WE X e w.sg w.H fun y H1 => ∃ (a Cc dx p g : Addr) (fs : List (Str × V)) (h : Fn) (av : AV) (w2 : Wd), y = .ref a ∧ H1 a = some (.ins Cc dx fs) ∧ L2.Cls X.K Cc ∧ L2.PropOf X.K Cc n p g ∧ CodeP X.prog X.w X.K X.mg X.base k g [] h ∧ w2.sg = w.sg ∧ w2.H = H1 ∧ Rep X.K w2 ∧ RV X.K w2 av (.ref a) ∧
      (callS h [av] w2.m).wp (PostE X.K w2 Q) (fun _ _ => False) := by
    refine snd_then h r hw fun v w1 y e1 f1 r1 re q => ?_
    obtain ⟨av, w2, ea, s2, h2, f2, r2, rv⟩ := toA_ok r1 re
    have q := wp_bind q
    rw [ea] at q
    obtain ⟨x, ex, q⟩ := look_ok (wp_bind q)
    obtain ⟨h, eh, q⟩ := wp_opt q
    have q := noThr_wp q
    cases ei : insC x with
    | none =>
      rw [ei] at eh
      cases eh
    | some p =>
      obtain ⟨c, fs⟩ := p
      rw [ei] at eh
      have eh : tb.lookup c = some h := eh
      obtain ⟨a, D, dx, vs, rfl, hcn, ha, rf⟩ := insC_RN r2.sub ((rv_ro rv).rn r2 ex) ei
      obtain ⟨k1, p, g, k2, F⟩ := T c h eh D hcn
      exact ⟨a, D, dx, p, g, vs, h, av, w2, rfl, by rw [← h2]; exact ha, k1, k2, F, s2.trans e1, h2, r2, rv, q.imp (fun v m' z w3 y em es f3 r3 re => z w3 y em (es.trans (s2.trans e1)) (f1.trans (f2.trans f3)) r3 re) fun _ _ z => z⟩
  refine attr_of hb (thn (wa.go pins s I) fun u s1 ⟨y, H1, I1, ry, a, Cc, dx, p, g, fs, h, av, w2, ey, ea, c, hp, F, es, eH, r2, rv, q⟩ => ?_)
  subst ey eH
  obtain rfl : u = Value.ref a := ry
  rw [← es] at I1 ⊢
  obtain ⟨mA, O, _, _, _, _⟩ := ins_get I1.hok ea
  obtain ⟨od, J, _⟩ := O.look
  obtain ⟨rest, hrec⟩ := hp.rec_
  have I2 := I1.tok (s1.toks + 1)
  have hc : (PySem.W.clsIn X.K Cc).isSome = true := by
    obtain ⟨cd, hc, _⟩ := PySem.W.any_some c.hd
    rw [hc]
    rfl
  refine PySem.W.get_bind I1.kIn J (PySem.W.plainGet_of (c.get n)).1 (PySem.W.findObj_data hc hp.at_ hp.get hp.tak) (PySem.W.plainGet_of (c.get n)).2 (wpAny_call (PySem.W.prop_get (s := { s1 with toks := s1.toks + 1 }) I1.kIn hrec ?_))
  have cw : callW X.K h (fun x w' => ∀ cls d, ExAt X.K w' x cls d → (fun (_ : Value) (_ : Option Addr) (_ : Hp) => False) cls d w'.H) (bare w2) [av] Q := by
    refine (callS_ok q).imp (fun v m' q w' x e1 e2 e3 f r' re => ?_) fun x m' q => q.elim
    obtain ⟨r3, f3⟩ := back_ok r2 f r'
    exact q (back w2 w') x (by show (⟨w2.m.sl, w'.m.cs⟩ : Mem) = _; rw [e2]) rfl f3 r3 (back_re r2 f e1 re)
  refine codeAny_mono (F X.A.in1 X.stack { s1 with toks := s1.toks + 1 } (bare w2) [.ref a] [] [av] [.ref a] [] Q (fun _ _ _ => False) C.gd hr.in1 I2.env0.in1 rfl rfl (fun _ h => h) (bare_rep r2) (bare_rv (.cons rv .nil)) (.cons rfl .nil) .nil rfl cw) fun r s' hq => ?_
  cases r with
  | error er =>
    obtain ⟨_, _, _, _, _, _, _, _, _, _, _, _, z⟩ := (show L2.CX X.prog X.w X.stack w2.H { s1 with toks := s1.toks + 1 } (fun _ _ _ => False) er s' from hq)
    exact z.elim
  | ok fl =>
    cases fl with
    | ret u =>
      obtain ⟨v, H', I3, rv, q3⟩ := I2.after hq
      show wpAny _ _ (handedOut u) _ _ _
      rw [PySem.W.handedOut_of (handed_of rv)]
      exact wpAny_pure ⟨v, H', I3, rv, q3⟩
    | next => exact False.elim hq
    | brk => exact False.elim hq
    | cont => exact False.elim hq
end
section
variable {m : Mem} {X : Exn → Mem → Prop} {E : EV → Mem → Prop} {P : List AV → Mem → Prop}
@[simp] theorem W_recv {n : Str} {tb : List (Str × Fn)} {a : AV} {P : Fn → Mem → Prop} : W (recv n tb a) m X P ↔ W (look (ovA a) fun x => optP ((insC x).bind fun p => if (fGet n p.2).isNone then tb.lookup p.1 else none)) m X P := Iff.rfl
@[simp] theorem W_recvP {tb : List (Str × Fn)} {a : AV} {P : Fn → Mem → Prop} : W (recvP tb a) m X P ↔ W (look (ovA a) fun x => optP ((insC x).bind fun p => tb.lookup p.1)) m X P := Iff.rfl
@[simp] theorem ovA_d {x : PyData} : ovA (.d x) = .d x := rfl
@[simp] theorem ovA_c {n : Nat} : ovA (.cell n) = .cell n := rfl
@[simp] theorem W_meth {n : Str} {tb : List (Str × Fn)} {q : Nat} {fo : Pg EV} {fa fk : Pg (List AV)} : W (evMeth n tb q fo fa fk) m X E ↔ W fo m X fun v m1 => W (toA v) m1 X fun a m2 => W (recv n tb a) m2 X fun h m3 => W fa m3 X fun vs m4 => W fk m4 X fun zs m5 => W (if zs.length = q then callS h (a :: (vs ++ zs)) else .stuck) m5 X E := by
  unfold evMeth
  simp only [W_bind]
@[simp] theorem W_prop {tb : List (Str × Fn)} {f : Pg EV} : W (evProp tb f) m X E ↔ W f m X fun v m1 => W (toA v) m1 X fun a m2 => W (recvP tb a) m2 X fun h m3 => W (callS h [a]) m3 noX E := by
  unfold evProp
  simp only [W_bind, W_noThr]
@[simp] theorem W_calV {h : Fn} {q : Nat} {fa fk : Pg (List AV)} : W (evCalV h q fa fk) m X E ↔ W fa m X fun vs m1 => W fk m1 X fun zs m2 => W (if zs.length = q then callS h (vs ++ zs) else .stuck) m2 X E := by
  unfold evCalV
  simp only [W_bind]
@[simp] theorem W_star1 {f : Pg EV} : W (evStar1 f) m X P ↔ W f m X fun v m1 => W (toA v) m1 X fun a m2 => ∃ as, (seqOf a).map dAV = some as ∧ P as m2 := by
  unfold evStar1
  simp only [W_bind, W_opt]
end
end Ev

namespace Ev
open PySem PySem.Spec PyProof.Rows L2
/-! ### classes as values -/
def clsC : PyData → Option Str
  | .dict [(.none, .bool b), (.none, .str c)] => if b = true then some c else none
  | _ => none
@[simp] theorem clsC_cls {c : Str} : clsC (clsD c) = some c := rfl
theorem clsC_RN {K : PySem.W.Frag} {w : Wd} {d : PyData} {v : V} {c : Str} (h : RN K w d v) (e : clsC d = some c) : ∃ C, v = .ref C ∧ ClsN K c C := by
  rcases h with h | ⟨a, o, e2, rfl, h⟩
  · cases h with
    | non => cases e
    | bl b => cases e
    | int i => cases e
    | str x => cases e
    | lst _ _ => cases e
    | tup _ _ => cases e
    | dic _ h =>
      cases h with
      | nil => cases e
      | @cons k d es _ _ _ h2 =>
        cases h2 with
        | nil => cases k <;> cases d <;> cases e
        | @cons k2 d2 es2 _ _ _ h3 => cases k <;> cases e
    | ins h1 h2 h3 h4 => cases e
    | cls h1 =>
      cases e
      exact ⟨_, rfl, h1⟩
    | exn0 _ _ => cases e
    | exn _ _ _ _ => cases e
  · subst e2
    cases o with
    | lst xs => cases e
    | dic es =>
      obtain ⟨kvs, _, rk⟩ := h
      cases rk with
      | nil => cases e
      | @cons k _ _ _ _ _ _ => cases k <;> cases e
    | ins c' fs' => cases e
theorem gm_cls {K : PySem.W.Frag} {mg : Str → Option Value} {x : Str} {C : Addr} (h : mg x = some (.ref C)) (hc : ClsN K x C) : GM K mg x (clsD x) := ⟨.ref C, _, h, rfl, fun _ => .cls hc⟩
/-- a value whose code is called -/
def CalC (X : Cx) (B : XBt) (u : Value) (ks : List Str) (h : Fn) : Prop :=
  ∀ (w : Wd) (pins : List (Addr × Obj)) (s : Shared) (us ws : List Value) (args : List AV) (xs ys : List V) (Q : VK), L2.Inv X pins w.sg w.H s → Rep X.K w → Paired (RV X.K w) args (xs ++ ys) → Vals xs us → Vals ys ws → ys.length = ks.length →
    (callS h args w.m).wp (PostE X.K w Q) (XW X.K B w) → codeAny (model X.prog X.w) X.A (.call u ⟨us, ks.zip ws⟩) (wants (EP X pins w.sg Q) X.xe) s
theorem CalC.v {X : Cx} {B : XBt} {u : Value} {ks : List Str} {h : Fn} (c : CalC X B u ks h) : CalV X B u ks h := fun w pins s us ws args xs ys Q I r hv ru rw hl hw => wpAny_call (c w pins s us ws args xs ys Q I r hv ru rw hl hw)
theorem cal_code {X : Cx} {B : XBt} {k : Nat} {f : Addr} {ks : List Str} {h : Fn} (C : Ctx X B) (F : CodeP X.prog X.w X.K X.mg X.base k f ks h) (hr : Room k X.A) : CalC X B (.ref f) ks h := by
  intro w pins s us ws args xs ys Q I r hv ru rw hl hw
  refine codeAny_mono (F X.A X.stack s (bare w) us ws args xs ys Q (fun cls d H' => WXB X.K B cls d w.sg H') C.gd hr I.env0 rfl rfl (fun _ h => h) (bare_rep r) (bare_rv hv) ru rw hl (callW_of r hw)) fun r s' hq => ?_
  match r, hq with
  | .error _, hq => exact pass_b C I hq
  | .ok (.ret u), hq => exact I.after hq
  | .ok .next, hq => exact (show False from hq).elim
  | .ok .brk, hq => exact (show False from hq).elim
  | .ok .cont, hq => exact (show False from hq).elim
/-! ### C.m(..), m a classmethod -/
def CMthT (X : Cx) (B : XBt) (n : Str) (ks : List Str) (tb : List (Str × Fn)) : Prop := ∀ c h, tb.lookup c = some h → ∀ D, ClsN X.K c D → ∃ mc p g, ClX.CRead X.K D mc ∧ ClX.CMet X.K D mc n p g ∧ CalC X B (.ref g) ks h
def recvC (tb : List (Str × Fn)) (a : AV) : Pg Fn := look (ovA a) fun x => optP ((clsC x).bind fun c => tb.lookup c)
def evCMeth (tb : List (Str × Fn)) (m : Nat) (fo : Pg EV) (fa fk : Pg (List AV)) : Pg EV := .bind fo fun v => .bind (toA v) fun a => .bind (recvC tb a) fun h => .bind fa fun vs => .bind fk fun zs => if zs.length = m then callS h (a :: (vs ++ zs)) else .stuck
/-- a local name that holds a class, called -/
def ClsT (X : Cx) (B : XBt) (ks : List Str) (tb : List (Str × Fn)) : Prop := ∀ c h, tb.lookup c = some h → ∀ D, ClsN X.K c D → PySem.W.keepIn X.K (.ref D) = true ∧ CalV X B (.ref D) ks h
def evCalL (tb : List (Str × Fn)) (m : Nat) (fo : Pg EV) (fa fk : Pg (List AV)) : Pg EV := .bind fo fun v => .bind (toA v) fun a => .bind (recvC tb a) fun h => .bind fa fun vs => .bind fk fun zs => if zs.length = m then callS h (vs ++ zs) else .stuck
section
variable {X : Cx} {B : XBt} {o : Expr} {es : List Expr} {kws : List Keyword} {ks : List Str} {fa fk : Pg (List AV)} {fo : Pg EV} {p apos pos : Pos} {n x : Str} {tb : List (Str × Fn)} {m : Nat}
theorem recvC_ok {w : Wd} {a : AV} {v : V} {P : Fn → Mem → Prop} {E : Exn → Mem → Prop} (r : Rep X.K w) (rv : RV X.K w a v) (h : (recvC tb a w.m).wp P E) : ∃ c f C, tb.lookup c = some f ∧ v = .ref C ∧ ClsN X.K c C ∧ P f w.m := by
  obtain ⟨x, ex, q⟩ := look_ok h
  obtain ⟨f, ef, q⟩ := wp_opt q
  cases ec : clsC x with
  | none =>
    rw [ec] at ef
    cases ef
  | some c =>
    rw [ec] at ef
    obtain ⟨C, ev, hc⟩ := clsC_RN ((rv_ro rv).rn r ex) ec
    exact ⟨c, f, C, ef, ev, hc, q⟩
theorem snd_cmeth {pl : Sem Bool} (ho : Snd X B o fo) (T : CMthT X B n ks tb) (A : SndAK X B es kws ks fa fk) (hm : ks.length = m)
    (ht : eval (.Call (.Attribute o n apos) es kws pos) X.env = (do
      let ov ← eval o X.env
      standAt apos.atName
      let (f, first) ← holding [ov] (getMethod ov n pl)
      callWith pos f first (backTo pos (starEach es X.env)) (backToKw pos (keywordEach kws X.env))) := by rfl)
    (hpl : ((backTo pos (starEach es X.env)).any (·.1) || (backToKw pos (keywordEach kws X.env)).any (·.1.isNone)) = false := by rfl) : Snd X B (.Call (.Attribute o n apos) es kws pos) (evCMeth tb m fo fa fk) := by
  intro w Q r hw
  refine ⟨fun pins s I => ?_⟩
  have wa : WE X o w.sg w.H fun y H1 => ∃ C mc p g, y = .ref C ∧ ClX.CRead X.K C mc ∧ ClX.CMet X.K C mc n p g ∧
      WArgs X es kws ks w.sg H1 fun xs ys H2 => ∀ (pins : List (Addr × Obj)) (s : Shared) (us ws : List Value), L2.Inv X pins w.sg H2 s → Vals xs us → Vals ys ws → codeAny (model X.prog X.w) X.A (.call (.ref g) ⟨.ref C :: us, ks.zip ws⟩) (wants (EP X pins w.sg Q) X.xe) s := by
    refine snd_then ho r hw fun v w1 y e1 f1 r1 re q => ?_
    obtain ⟨av, w2, ea, s2, h2, f2, r2, rv⟩ := toA_ok r1 re
    have q := wp_bind q
    rw [ea] at q
    obtain ⟨c, h, C, eh, ey, hc, q⟩ := recvC_ok r2 rv (wp_bind q)
    subst ey
    obtain ⟨mc, p, g, k1, k2, cal⟩ := T c h eh C hc
    rw [← e1, ← s2, ← h2]
    refine ⟨C, mc, p, g, rfl, k1, k2, ?_⟩
    have q : (Pg.bind fa (fun vs => .bind fk fun zs => if zs.length = m then callS h (av :: (vs ++ zs)) else .stuck) w2.m).wp (PostE X.K w Q) (XW X.K B w2) := q.imp (fun _ _ z => z) fun _ _ z => z.fol (f2.s r1)
    refine A.go r2 q fun vs' zs w3 xs ys e3 f3 r3 rv3 rz q3 => ?_
    intro pins s us ws I ru rw'
    split at q3
    · rename_i hl
      rw [← e3] at I ⊢
      exact cal w3 pins s (.ref C :: us) ws (av :: (vs' ++ zs)) (.ref C :: xs) ys Q I r3 (.cons (rv.fol f3) (paired_app rv3 rz)) (.cons rfl ru) rw' (by rw [← paired_len rz, hl, hm]) (q3.imp (fun v m' z w4 y em es f4 r4 re => z w4 y em (es.trans (e3.trans (s2.trans e1))) (f1.trans (f2.trans (f3.trans f4))) r4 re) fun _ _ z => z)
    · exact q3.elim
  refine PySem.W.methodCall_KW (pl := pl) (thn (wa.go pins s I) fun u s1 ⟨y, H1, I1, ry, C, mc, p, g, ey, k1, k2, q⟩ => ?_) ht
  subst ey
  obtain rfl : u = Value.ref C := ry
  refine ClX.getmethcm_ok I1 k1 k2 fun s2 I2 => ?_
  refine PySem.W.callWith_of (P := PySem.W.MethP X.K s1.heap.objs.size g (.ref C)) (first := []) hpl (PySem.W.keeps_M k2.fi) (q.go _ pos _ s2 I2 _ fun us ws xs ys H2 s3 I3 ru rw' gg => ⟨⟨ClX.pin_at I3, I3.kIn⟩, ?_⟩)
  have z := wpAny_call (PySem.W.method_call (ClX.pin_at I3) (gg _ s3 us ws I3 ru rw'))
  exact thn z fun _ _ y => ClX.unpinE y
theorem snd_calL (ho : Snd X B (.Name x p) fo) (T : ClsT X B ks tb) (A : SndAK X B es kws ks fa fk) (hm : ks.length = m)
    (hpl : ((backTo pos (starEach es X.env)).any (·.1) || (backToKw pos (keywordEach kws X.env)).any (·.1.isNone)) = false ∨ (backTo pos (starEach es X.env)).any (·.1) = true := by first | exact .inl rfl | exact .inr rfl) : Snd X B (.Call (.Name x p) es kws pos) (evCalL tb m fo fa fk) := by
  intro w Q r hw
  refine ⟨fun pins s I => ?_⟩
  have wa : WE X (.Name x p) w.sg w.H fun y H1 => ∃ C, y = .ref C ∧ PySem.W.keepIn X.K (.ref C) = true ∧
      WArgs X es kws ks w.sg H1 fun xs ys H2 => ∀ (pins : List (Addr × Obj)) (s : Shared) (us ws : List Value), L2.Inv X pins w.sg H2 s → Vals xs us → Vals ys ws → wpAny (model X.prog X.w) X.A (call (.ref C) us (ks.zip ws)) (EP X pins w.sg Q) X.xe s := by
    refine snd_then ho r hw fun v w1 y e1 f1 r1 re q => ?_
    obtain ⟨av, w2, ea, s2, h2, f2, r2, rv⟩ := toA_ok r1 re
    have q := wp_bind q
    rw [ea] at q
    obtain ⟨c, h, C, eh, ey, hc, q⟩ := recvC_ok r2 rv (wp_bind q)
    subst ey
    obtain ⟨k1, cal⟩ := T c h eh C hc
    rw [← e1, ← s2, ← h2]
    refine ⟨C, rfl, k1, ?_⟩
    have q : (Pg.bind fa (fun vs => .bind fk fun zs => if zs.length = m then callS h (vs ++ zs) else .stuck) w2.m).wp (PostE X.K w Q) (XW X.K B w2) := q.imp (fun _ _ z => z) fun _ _ z => z.fol (f2.s r1)
    refine A.go r2 q fun vs' zs w3 xs ys e3 f3 r3 rv3 rz q3 => ?_
    intro pins s us ws I ru rw'
    split at q3
    · rename_i hl
      rw [← e3] at I ⊢
      exact cal w3 pins s us ws (vs' ++ zs) xs ys Q I r3 (paired_app rv3 rz) ru rw' (by rw [← paired_len rz, hl, hm]) (q3.imp (fun v m' z w4 y em es f4 r4 re => z w4 y em (es.trans (e3.trans (s2.trans e1))) (f1.trans (f2.trans (f3.trans f4))) r4 re) fun _ _ z => z)
    · exact q3.elim
  refine wpAny_Call_Name_kw (thn (wa.go pins s I) fun u s1 ⟨y, H1, I1, ry, C, ey, k1, q⟩ => ?_)
  subst ey
  obtain rfl : u = Value.ref C := ry
  rcases hpl with hpl | hst
  · exact PySem.W.callWith_of (P := fun h => X.K.In h) hpl (PySem.W.keeps_K k1) (q.go _ pos pins s1 I1 _ fun us ws xs ys H2 s2 I2 ru rw' g => ⟨I2.kIn, g pins s2 us ws I2 ru rw'⟩)
  · exact PySem.W.ks_callK (P := fun h => X.K.In h) hst (PySem.W.keeps_K k1) (q.go _ pos pins s1 I1 _ fun us ws xs ys H2 s2 I2 ru rw' g => ⟨I2.kIn, g pins s2 us ws I2 ru rw'⟩)
end
end Ev

namespace Ev
open PySem PySem.Spec PyProof.Rows L2
/-! ### a op b, by the class of a: both instances of one class -/
def OpT (X : Cx) (B : XBt) (op : Operator) (tb : List (Str × Fn)) : Prop := ∀ c h, tb.lookup c = some h → ∀ D, ClsN X.K c D → PySem.W.selfFirst X.K D = true ∧ ∃ g, PySem.W.findIn X.K (.ref D) (PySem.dunder op.info.2) = some (some (.ref g)) ∧ PySem.W.isFn X.K (.ref g) = true ∧ CalV X B (.ref g) [] h
theorem opT_nil {X : Cx} {B : XBt} {op : Operator} : OpT X B op [] := fun c h e => by cases e
theorem opT_cons {X : Cx} {B : XBt} {op : Operator} {c : Str} {tb : List (Str × Fn)} {h : Fn} {D g : Addr} (hc : ClsN X.K c D) (h1 : PySem.W.selfFirst X.K D = true) (h2 : PySem.W.findIn X.K (.ref D) (PySem.dunder op.info.2) = some (some (.ref g))) (h3 : PySem.W.isFn X.K (.ref g) = true) (h4 : CalV X B (.ref g) [] h) (t : OpT X B op tb) : OpT X B op ((c, h) :: tb) := fun c' h' e D' hD => by
  rw [List.lookup_cons] at e
  cases q : c' == c with
  | true =>
    rw [q] at e
    cases e
    have q := eq_of_beq q
    subst q
    rw [hD.one hc]
    exact ⟨h1, g, h2, h3, h4⟩
  | false =>
    rw [q] at e
    exact t c' h' e D' hD
def ownP (tb : List (Str × Fn)) (x y : PyData) : Option Fn := match insC x, insC y with
  | some p, some q => if p.1 = q.1 then tb.lookup p.1 else none
  | _, _ => none
/-- instances by the table, other data as binS does -/
def evBinO (op : Operator) (tb : List (Str × Fn)) (fa fb : Pg EV) : Pg EV := .bind fa fun v => .bind (toA v) fun a => .bind fb fun u => .bind (toA u) fun b => look (ovA a) fun x => look (ovA b) fun y =>
  if (insC x).isSome then .bind (optP (ownP tb x y)) fun h => callS h [a, b] else optP (binS op x y)
section
variable {X : Cx} {B : XBt} {ea eb : Expr} {fa fb : Pg EV} {pos : Pos} {op : Operator} {tb : List (Str × Fn)}
theorem snd_binO (ha : Snd X B ea fa) (hb : Snd X B eb fb) (T : OpT X B op tb) : Snd X B (.BinOp ea op eb pos) (evBinO op tb fa fb) := by
  intro w Q r hw
  refine ⟨fun pins s I => ?_⟩
  have wa : WE X ea w.sg w.H fun x H1 => WE X eb w.sg H1 fun y H2 => ∀ (pins : List (Addr × Obj)) (s : Shared) (u v : Value), L2.Inv X pins w.sg H2 s → RelV x u → RelV y v → wpAny (model X.prog X.w) X.A (binaryOp op u v) (EP X pins w.sg Q) X.xe s := by
    refine snd_then ha r hw fun v w1 x e1 f1 r1 re q => ?_
    obtain ⟨a, w2, ea', s2, h2, f2, r2, rv⟩ := toA_ok r1 re
    have q := wp_bind q
    rw [ea'] at q
    rw [← e1, ← s2, ← h2]
    have q : (Pg.bind fb _ w2.m).wp (PostE X.K w Q) (XW X.K B w2) := Res.wp.imp q (fun _ _ z => z) fun _ _ z => z.fol (f2.s r1)
    refine snd_then hb r2 q fun u w3 y e3 f3 r3 re3 q => ?_
    obtain ⟨b, w4, eb', s4, h4, f4, r4, rv4⟩ := toA_ok r3 re3
    have q := wp_bind q
    rw [eb'] at q
    intro pins s u' v' I ru rv'
    have ra4 : RV X.K w4 a x := (rv.fol f3).fol f4
    have q : (look (ovA a) _ w4.m).wp (PostE X.K w Q) (XW X.K B w4) := Res.wp.imp q (fun _ _ z => z) fun _ _ z => z.fol (f4.s r3)
    obtain ⟨dx, ex, q⟩ := look_ok q
    obtain ⟨dy, ey, q⟩ := look_ok q
    have sg4 : w4.sg = w.sg := s4.trans (e3.trans (s2.trans e1))
    have fol : FolE w w4 := f1.trans (f2.trans (f3.trans f4))
    have I : L2.Inv X pins w4.sg w4.H s := by rw [h4, s4, e3]; exact I
    have rx := (rv_ro ra4).rn r4 ex
    have ry := (rv_ro rv4).rn r4 ey
    have eS : w2.sg = w4.sg := (s4.trans e3).symm
    rw [eS]
    split at q
    · obtain ⟨h, eh, q⟩ := wp_opt (wp_bind q)
      unfold ownP at eh
      split at eh
      · rename_i p1 p2 i1 i2
        split at eh
        · rename_i hcc
          obtain ⟨c, fs⟩ := p1
          obtain ⟨c', fs'⟩ := p2
          have hcc : c = c' := hcc
          subst hcc
          obtain ⟨a1, C, d1, vs, rfl, hc1, ha1, _⟩ := insC_RN r4.sub rx i1
          obtain ⟨a2, C2, d2, vs2, rfl, hc2, ha2, _⟩ := insC_RN r4.sub ry i2
          have eC := hc2.one hc1
          subst eC
          obtain ⟨k1, g, k2, k3, cal⟩ := T c h eh C2 hc1
          obtain rfl : u' = Value.ref a1 := ru
          obtain rfl : v' = Value.ref a2 := rv'
          obtain ⟨mA, O, _⟩ := ins_get I.hok ha1
          obtain ⟨od, J, _⟩ := O.look
          obtain ⟨mA2, O2, _⟩ := ins_get I.hok ha2
          obtain ⟨od2, J2, _⟩ := O2.look
          obtain ⟨m, hF⟩ := I.fr
          refine PySem.W.binop_K hF I.ok.mod.kin J J2.type k1 k2 k3 ?_
          have z := cal w4 pins s [.ref a1, .ref a2] [] [a, b] [.ref a1, .ref a2] [] Q I r4 (.cons ra4 (.cons rv4 .nil)) (.cons rfl (.cons rfl .nil)) .nil rfl (q.imp (fun v m' z w5 y em es f5 r5 re => z w5 y em (es.trans sg4) (fol.trans f5) r5 re) fun _ _ z => z)
          exact wpAny_mono z (fun v' s' ⟨z', H', I', rz, qz⟩ => SlX.cmpback rz ⟨z', H', I', rz, qz⟩) fun _ _ x => x
        · cases eh
      · cases eh
    · obtain ⟨z, ez, q⟩ := wp_opt q
      exact op_any pins s w4.sg w4.H x y u' v' Q I ru rv' (bin_ok r4 rx ry ez (PostE.keep q sg4 fol))
  exact wpAny_BinOp (thn (wa.go pins s I) fun u s1 ⟨x, H1, I1, rx, q⟩ => thn (q.go pins s1 I1) fun v s2 ⟨y, H2, I2, ry, g⟩ => g pins s2 u v I2 rx ry)
/-! ### e.n, a constant of e's class -/
def ConT (X : Cx) (n : Str) (tb : List (Str × PyData)) : Prop := ∀ c d, tb.lookup c = some d → ∀ D, ClsN X.K c D → L2.Cls X.K D ∧ ∃ v u, L2.Con X.K D n v u ∧ ∀ F, R X.K F d v
def evCon (n : Str) (tb : List (Str × PyData)) (f : Pg EV) : Pg EV := .bind f fun v => look (opnd v) fun x => optP ((insC x).bind fun p => if (fGet n p.2).isNone then (tb.lookup p.1).map .d else none)
theorem snd_con {f : Pg EV} {n : Str} {tb : List (Str × PyData)} (h : Snd X B ea f) (T : ConT X n tb) (hb : attributeBase ea n X.env (eval ea X.env) = eval ea X.env := by rfl) : Snd X B (.Attribute ea n pos) (evCon n tb f) := by
  intro w Q r hw
  refine we_of (pe_con pe_w hb) ?_
  refine snd_then h r hw fun v w1 y e1 f1 r1 re h1 => ?_
  obtain ⟨d, ed, h1⟩ := look_ok h1
  obtain ⟨z, ez, q⟩ := wp_opt h1
  cases ex : insC d with
  | none =>
    rw [ex] at ez
    cases ez
  | some p =>
    obtain ⟨c, fs⟩ := p
    rw [ex] at ez
    have ez : (if (fGet n fs).isNone then (tb.lookup c).map EV.d else none) = some z := ez
    split at ez
    · rename_i hn
      cases eg : tb.lookup c with
      | none =>
        rw [eg] at ez
        cases ez
      | some d1 =>
        rw [eg] at ez
        cases ez
        obtain ⟨a, C, dx, vs, rfl, hcn, ha, rf⟩ := insC_RN r1.sub ((re.ro r1).rn r1 ed) ex
        obtain ⟨k1, v1, u1, k2, k3⟩ := T c d1 eg C hcn
        exact ⟨a, C, dx, vs, v1, u1, rfl, ha, k1, k2, fGet_none rf (Option.isNone_iff_eq_none.mp hn), q w1 v1 rfl e1 f1 r1 (k3 w1.F)⟩
    · cases ez
end
section
variable {m : Mem} {X : Exn → Mem → Prop} {E : EV → Mem → Prop}
@[simp] theorem W_binO {op : Operator} {tb : List (Str × Fn)} {fa fb : Pg EV} : W (evBinO op tb fa fb) m X E ↔ W fa m X fun v m1 => W (toA v) m1 X fun a m2 => W fb m2 X fun u m3 => W (toA u) m3 X fun b m4 => W (look (ovA a) fun x => look (ovA b) fun y => if (insC x).isSome then .bind (optP (ownP tb x y)) fun h => callS h [a, b] else optP (binS op x y)) m4 X E := by
  unfold evBinO
  simp only [W_bind]
@[simp] theorem W_con {n : Str} {tb : List (Str × PyData)} {f : Pg EV} : W (evCon n tb f) m X E ↔ W f m X fun v m1 => W (look (opnd v) fun x => optP ((insC x).bind fun p => if (fGet n p.2).isNone then (tb.lookup p.1).map .d else none)) m1 X E := by
  unfold evCon
  rw [W_bind]
@[simp] theorem W_recvC {tb : List (Str × Fn)} {a : AV} {P : Fn → Mem → Prop} : W (recvC tb a) m X P ↔ W (look (ovA a) fun x => optP ((clsC x).bind fun c => tb.lookup c)) m X P := Iff.rfl
@[simp] theorem W_cmeth {tb : List (Str × Fn)} {q : Nat} {fo : Pg EV} {fa fk : Pg (List AV)} : W (evCMeth tb q fo fa fk) m X E ↔ W fo m X fun v m1 => W (toA v) m1 X fun a m2 => W (recvC tb a) m2 X fun h m3 => W fa m3 X fun vs m4 => W fk m4 X fun zs m5 => W (if zs.length = q then callS h (a :: (vs ++ zs)) else .stuck) m5 X E := by
  unfold evCMeth
  simp only [W_bind]
@[simp] theorem W_calL {tb : List (Str × Fn)} {q : Nat} {fo : Pg EV} {fa fk : Pg (List AV)} : W (evCalL tb q fo fa fk) m X E ↔ W fo m X fun v m1 => W (toA v) m1 X fun a m2 => W (recvC tb a) m2 X fun h m3 => W fa m3 X fun vs m4 => W fk m4 X fun zs m5 => W (if zs.length = q then callS h (vs ++ zs) else .stuck) m5 X E := by
  unfold evCalL
  simp only [W_bind]
end
end Ev

namespace Ev
open PySem PySem.Spec PyProof.Rows L2
/-! ### what the printed texts say of a class's members -/
def RMeth (K : PySem.W.Frag) (n : Str) (D g : Addr) : Prop := L2.Meth K D n g
def RProp (K : PySem.W.Frag) (n : Str) (D g : Addr) : Prop := ∃ p, L2.PropOf K D n p g
def RCls (K : PySem.W.Frag) (n : Str) (D g : Addr) : Prop := ∃ mc p, ClX.CRead K D mc ∧ ClX.CMet K D mc n p g
def RMk (K : PySem.W.Frag) (mg : Str → Option Value) (c : Str) (D g : Addr) : Prop := L2.Mk K D g ∧ mg c = some (.ref D)
def ROp (K : PySem.W.Frag) (op : Operator) (D g : Addr) : Prop := PySem.W.selfFirst K D = true ∧ PySem.W.findIn K (.ref D) (PySem.dunder op.info.2) = some (some (.ref g)) ∧ PySem.W.isFn K (.ref g) = true
/-- a member as it stands in the module -/
def MemF (K : PySem.W.Frag) (c : Str) (R : Addr → Addr → Prop) (FF : Addr → FuncData → Prop) : Prop := ∃ D g fd, ClsN K c D ∧ L2.Cls K D ∧ R D g ∧ FF g fd
/-- .. with its code as a pure function -/
def MemC (P : Program) (w : World) (K : PySem.W.Frag) (mg : Str → Option Value) (base : Heap) (k : Nat) (c : Str) (R : Addr → Addr → Prop) (ks : List Str) (h : Fn) : Prop := ∃ D g, ClsN K c D ∧ L2.Cls K D ∧ R D g ∧ CodeP P w K mg base k g ks h
def FFp (K : PySem.W.Frag) (x qual : Str) (st : Stmt) (g : Addr) (fd : FuncData) : Prop := Fun K x qual st g fd
def FFd (K : PySem.W.Frag) (x qual : Str) (st : Stmt) (kws : List (Str × V)) (g : Addr) (fd : FuncData) : Prop := FunD K x qual (defArgs st) (defBody st) (defScope st) [] kws g fd
section
variable {P : Program} {w : World} {K : PySem.W.Frag} {mg : Str → Option Value} {base : Heap} {c x qual pv : Str} {R : Addr → Addr → Prop} {FF : Addr → FuncData → Prop} {st : Stmt} {ps ks : List Str} {kws : List (Str × V)} {g : Fn} {j k q : Nat} {f : Addr} {fd : FuncData}
theorem memC_of {h : Fn} (m : MemF K c R FF) (cp : ∀ {f : Addr} {fd : FuncData}, FF f fd → CodeP P w K mg base k f ks h) : MemC P w K mg base k c R ks h := by
  obtain ⟨D, g, fd, h1, h2, h3, h4⟩ := m
  exact ⟨D, g, h1, h2, h3, cp h4⟩
theorem funD_fun (F : FFd K x qual st kws f fd) : Fun K x qual st f fd := by
  obtain ⟨oc, od, dV, kV, doc, pm, an, cdv, ct, osl, e, lk, hcd, hD, hK⟩ := F.ex
  rcases hD with ⟨_, rfl⟩ | ⟨z, _⟩
  · exact ⟨⟨oc, od, kV, doc, pm, an, cdv, ct, osl, e, lk, hcd⟩, F.kp⟩
  · exact absurd rfl z
theorem cp_p (ok : ∀ {f : Addr} {fd : FuncData}, Fun K x qual st f fd → FnG P w K mg base j f fd ps (spG K ps.length g)) (hk : j ≤ k) (n : Nat) (is : List Nat) (hq : ps.length = q)
    (hb : ∀ (kV doc pm : Value) (an : Option Addr) (cdv ct : Value) (us ws : List Value), us.length = n → ws.length = ks.length → bindArgs (PySem.W.fnOf x qual (defArgs st) (defBody st) (defScope st) .none kV doc pm an cdv ct) ⟨us, ks.zip ws⟩ = pure (ps.zip (pick is (us ++ ws ++ [])))) (F : FFp K x qual st f fd) :
    CodeP P w K mg base k f ks (pD n ks.length q is [] g) := by
  refine codeP_D ((ok F).up hk) hq .nil (fun _ => .nil) fun s us ws _ l1 l2 => ?_
  obtain ⟨oc, od, kV, doc, pm, an, cdv, ct, osl, rfl, _, _⟩ := F.ex
  exact .of_eq (hb kV doc pm an cdv ct us ws l1 l2)
theorem cp_d (ok : ∀ {f : Addr} {fd : FuncData}, Fun K x qual st f fd → FnG P w K mg base j f fd ps (spG K ps.length g)) (hk : j ≤ k) (n : Nat) (ms : List (Str × V)) (is : List Nat) (ds : List PyData) (hne : kws ≠ []) (hms : ∀ q ∈ ms, q ∈ kws) (hds : ∀ F : Hp, RA K F ds (ms.map (·.2))) (hq : ps.length = q)
    (hb : ∀ (D : Addr) (doc pm : Value) (an : Option Addr) (cdv ct : Value) (us mv ws : List Value), us.length = n → mv.length = ms.length → ws.length = ks.length →
      KwChain D ((ms.map (·.1)).zip mv) (bindArgs (PySem.W.fnOf x qual (defArgs st) (defBody st) (defScope st) .none (.ref D) doc pm an cdv ct) ⟨us, ks.zip ws⟩) (ps.zip (pick is (us ++ ws ++ mv)))) (F : FFd K x qual st kws f fd) :
    CodeP P w K mg base k f ks (pD n ks.length q is ds g) := by
  obtain ⟨mv, rk, hb'⟩ := dbinds F n ks ms is hne hms hb
  exact codeP_D ((ok (funD_fun F)).up hk) hq rk hds hb'
theorem cp_s {full : Bool} (ok : ∀ {f : Addr} {fd : FuncData}, Fun K x qual st f fd → FnG P w K mg base j f fd (ps ++ [pv]) (spG K (ps.length + 1) g)) (hk : j ≤ k) (n : Nat) (ms : List (Str × V)) (is : List Nat) (ds : List PyData) (hne : kws ≠ []) (hms : ∀ q ∈ ms, q ∈ kws) (hds : ∀ F : Hp, RA K F ds (ms.map (·.2))) (hq : ps.length + 1 = q)
    (hb : ∀ (D : Addr) (doc pm : Value) (an : Option Addr) (cdv ct : Value) (us mv ws rest : List Value), us.length = n → mv.length = ms.length → ws.length = ks.length → (full = true ∨ rest = []) →
      Chain D ((ms.map (·.1)).zip mv) (bindArgs (PySem.W.fnOf x qual (defArgs st) (defBody st) (defScope st) .none (.ref D) doc pm an cdv ct) ⟨us ++ rest, ks.zip ws⟩) (newTuple rest >>= fun t => pure (ps.zip (pick is (us ++ ws ++ mv)) ++ [(pv, t)]))) (F : FFd K x qual st kws f fd) :
    CodeP P w K mg base k f ks (pS full n ks.length q is ds g) := by
  obtain ⟨mv, rk, hb'⟩ := sbinds F n ks ms is hne hms hb
  exact codeP_S ((ok (funD_fun F)).up hk) hq rk hds hb'
theorem cp_s0 {full : Bool} (ok : ∀ {f : Addr} {fd : FuncData}, Fun K x qual st f fd → FnG P w K mg base j f fd (ps ++ [pv]) (spG K (ps.length + 1) g)) (hk : j ≤ k) (n : Nat) (is : List Nat) (hq : ps.length + 1 = q)
    (hb : ∀ (kV doc pm : Value) (an : Option Addr) (cdv ct : Value) (us ws rest : List Value), us.length = n → ws.length = ks.length → (full = true ∨ rest = []) →
      bindArgs (PySem.W.fnOf x qual (defArgs st) (defBody st) (defScope st) .none kV doc pm an cdv ct) ⟨us ++ rest, ks.zip ws⟩ = (newTuple rest >>= fun t => pure (ps.zip (pick is (us ++ ws ++ [])) ++ [(pv, t)]))) (F : FFp K x qual st f fd) :
    CodeP P w K mg base k f ks (pS full n ks.length q is [] g) := by
  refine codeP_S ((ok F).up hk) hq .nil (fun _ => .nil) fun s us ws rest X l1 l2 l3 M A Q E hw => ?_
  obtain ⟨oc, od, kV, doc, pm, an, cdv, ct, osl, rfl, _, _⟩ := F.ex
  rw [hb kV doc pm an cdv ct us ws rest l1 l2 l3]
  exact hw
end
section
variable {X : Cx} {B : XBt} {k : Nat} {c n : Str} {ks : List Str} {h : Fn} {tb : List (Str × Fn)} {op : Operator}
theorem mthT_m (C : Ctx X B) (m : MemC X.prog X.w X.K X.mg X.base k c (RMeth X.K n) ks h) (hr : Room k X.A) (t : MthT X B n ks tb) : MthT X B n ks ((c, h) :: tb) := by
  obtain ⟨D, g, h1, h2, h3, h4⟩ := m
  exact mthT_cons h1 h2 h3 (cal_def C h4 hr) t
theorem prpT_m (m : MemC X.prog X.w X.K X.mg X.base k c (RProp X.K n) [] h) (t : PrpT X k n tb) : PrpT X k n ((c, h) :: tb) := by
  obtain ⟨D, g, h1, h2, ⟨p, h3⟩, h4⟩ := m
  exact prpT_cons h1 h2 h3 h4 t
theorem cmthT_nil : CMthT X B n ks [] := fun c h e => by cases e
theorem cmthT_m (C : Ctx X B) (m : MemC X.prog X.w X.K X.mg X.base k c (RCls X.K n) ks h) (hr : Room k X.A) (t : CMthT X B n ks tb) : CMthT X B n ks ((c, h) :: tb) := by
  obtain ⟨D, g, h1, h2, ⟨mc, p, h3, h5⟩, h4⟩ := m
  intro c' h' e D' hD
  rw [List.lookup_cons] at e
  cases q : c' == c with
  | true =>
    rw [q] at e
    cases e
    have q := eq_of_beq q
    subst q
    rw [hD.one h1]
    exact ⟨mc, p, g, h3, h5, cal_code C h4 hr⟩
  | false =>
    rw [q] at e
    exact t c' h' e D' hD
theorem opT_m (C : Ctx X B) (m : MemC X.prog X.w X.K X.mg X.base k c (ROp X.K op) [] h) (hr : Room k X.A) (t : OpT X B op tb) : OpT X B op ((c, h) :: tb) := by
  obtain ⟨D, g, h1, h2, ⟨h3, h5, h6⟩, h4⟩ := m
  exact opT_cons h1 h3 h5 h6 (cal_def C h4 hr) t
theorem clsT_nil : ClsT X B ks [] := fun c h e => by cases e
theorem clsT_m (C : Ctx X B) (m : MemC X.prog X.w X.K X.mg X.base k c (RMk X.K X.mg c) ks h) (hr : Room (k + 1) X.A) (t : ClsT X B ks tb) : ClsT X B ks ((c, mkF c h) :: tb) := by
  obtain ⟨D, g, h1, h2, ⟨h3, h5⟩, h4⟩ := m
  intro c' h' e D' hD
  rw [List.lookup_cons] at e
  cases q : c' == c with
  | true =>
    rw [q] at e
    cases e
    have q := eq_of_beq q
    subst q
    rw [hD.one h1]
    exact ⟨h3.kp, cal_mk C h3 h1 h4 hr⟩
  | false =>
    rw [q] at e
    exact t c' h' e D' hD
variable {es : List Expr} {kws : List Keyword} {fa fk : Pg (List AV)} {p pos : Pos} {m : Nat}
/-- C(..) -/
theorem snd_make (C : Ctx X B) (me : MemC X.prog X.w X.K X.mg X.base k c (RMk X.K X.mg c) ks h) (hr : Room (k + 1) X.A) (hg : Gl X c) (A : SndAK X B es kws ks fa fk) (hm : ks.length = m) (hdb : (c == ("__debug__" : Str)) = false := by decide)
    (hpl : ((backTo pos (starEach es X.env)).any (·.1) || (backToKw pos (keywordEach kws X.env)).any (·.1.isNone)) = false ∨ (backTo pos (starEach es X.env)).any (·.1) = true := by first | exact .inl rfl | exact .inr rfl) : Snd X B (.Call (.Name c p) es kws pos) (evCalV (mkF c h) m fa fk) := by
  obtain ⟨D, g, h1, h2, ⟨h3, h5⟩, h4⟩ := me
  rcases hpl with hpl | hst
  · exact snd_calV (cal_mk C h3 h1 h4 hr) hg h5 h3.kp A hm hdb hpl
  · exact snd_calVS (cal_mk C h3 h1 h4 hr) hg h5 h3.kp A hm hdb hst
end
/-- the field n of the instances of c -/
def FldN (K : PySem.W.Frag) (c n : Str) : Prop := ∃ D, ClsN K c D ∧ L2.Cls K D ∧ L2.NoAttr K D n
theorem flL_n {K : PySem.W.Frag} {c n : Str} {cl : List Str} (h : FldN K c n) (t : FlL K cl n) : FlL K (c :: cl) n := by
  obtain ⟨D, h1, h2, h3⟩ := h
  exact flL_cons h1 h2 h3 t
def ConN (K : PySem.W.Frag) (c n : Str) (d : PyData) : Prop := ∃ D, ClsN K c D ∧ L2.Cls K D ∧ ∃ v u, L2.Con K D n v u ∧ ∀ F, R K F d v
theorem conT_nil {X : Cx} {n : Str} : ConT X n [] := fun c h e => by cases e
theorem conT_n {X : Cx} {c n : Str} {d : PyData} {tb : List (Str × PyData)} (h : ConN X.K c n d) (t : ConT X n tb) : ConT X n ((c, d) :: tb) := by
  obtain ⟨D, h1, h2, h3⟩ := h
  intro c' h' e D' hD
  rw [List.lookup_cons] at e
  cases q : c' == c with
  | true =>
    rw [q] at e
    cases e
    have q := eq_of_beq q
    subst q
    rw [hD.one h1]
    exact ⟨h2, h3⟩
  | false =>
    rw [q] at e
    exact t c' h' e D' hD
end Ev

namespace Ev
open PySem PySem.Spec PyProof.Rows L2
/-! ### a def of the module, called with a star alone -/
def ModC (P : Program) (w : World) (K : PySem.W.Frag) (mg : Str → Option Value) (base : Heap) (k : Nat) (x : Str) (ks : List Str) (h : Fn) : Prop := ∃ f, mg x = some (.ref f) ∧ PySem.W.keepIn K (.ref f) = true ∧ CodeP P w K mg base k f ks h
section
variable {P : Program} {w : World} {K : PySem.W.Frag} {mg : Str → Option Value} {base : Heap} {x : Str} {st : Stmt} {k : Nat} {ks : List Str} {h : Fn}
theorem modC_s (m : FMS K mg x st) (cp : ∀ {f : Addr} {fd : FuncData}, FFp K x x st f fd → CodeP P w K mg base k f ks h) : ModC P w K mg base k x ks h := by
  obtain ⟨f, fd, F, e⟩ := m
  exact ⟨f, e, F.kp, cp F⟩
end
section
variable {X : Cx} {B : XBt} {k : Nat} {x : Str} {ks : List Str} {h : Fn} {es : List Expr} {kws : List Keyword} {fa fk : Pg (List AV)} {pos p : Pos} {m : Nat}
theorem snd_mod (C : Ctx X B) (me : ModC X.prog X.w X.K X.mg X.base k x ks h) (hr : Room k X.A) (hg : Gl X x) (A : SndAK X B es kws ks fa fk) (hm : ks.length = m) (hdb : (x == ("__debug__" : Str)) = false := by decide)
    (hpl : ((backTo pos (starEach es X.env)).any (·.1) || (backToKw pos (keywordEach kws X.env)).any (·.1.isNone)) = false ∨ (backTo pos (starEach es X.env)).any (·.1) = true := by first | exact .inl rfl | exact .inr rfl) : Snd X B (.Call (.Name x p) es kws pos) (evCalV h m fa fk) := by
  obtain ⟨f, h1, h2, h3⟩ := me
  rcases hpl with hpl | hst
  · exact snd_calV (cal_def C h3 hr) hg h1 h2 A hm hdb hpl
  · exact snd_calVS (cal_def C h3 hr) hg h1 h2 A hm hdb hst
end
/-! ### the facts of a class from the printed heap -/
section
variable {K : PySem.W.Frag} {c x qual : Str} {st : Stmt} {C f p D : Addr} {mc oc kV doc pm cdv ct : Value} {od an : Option Addr} {osl : Array (Option Value)} {kws : List (Str × V)} {rest : List Value} {n : Nat} {mg : Str → Option Value}
theorem ffp_of (l : K.lookup f = some ⟨oc, od, .func (PySem.W.fnOf x qual (defArgs st) (defBody st) (defScope st) .none kV doc pm an cdv ct), osl⟩) (cc : PySem.W.codeIn K cdv qual = true) (k : PySem.W.keepIn K (.ref f) = true) : FFp K x qual st f (PySem.W.fnOf x qual (defArgs st) (defBody st) (defScope st) .none kV doc pm an cdv ct) := fun_mk l cc k
theorem ffd_of (l : K.lookup f = some ⟨oc, od, .func (PySem.W.fnOf x qual (defArgs st) (defBody st) (defScope st) .none (.ref D) doc pm an cdv ct), osl⟩) (cc : PySem.W.codeIn K cdv qual = true) (k : PySem.W.keepIn K (.ref f) = true) (h : ∀ q ∈ kws, ∃ u, PySem.W.nsIn K D q.1 = some (some u) ∧ RelV q.2 u) :
    FFd K x qual st kws f (PySem.W.fnOf x qual (defArgs st) (defBody st) (defScope st) .none (.ref D) doc pm an cdv ct) := ⟨⟨oc, od, .none, .ref D, doc, pm, an, cdv, ct, osl, rfl, l, cc, .inl ⟨rfl, rfl⟩, .inr ⟨D, rfl, h⟩⟩, k⟩
theorem cls_mk (a : PySem.W.plainGet K C Str.empty = true) (b : PySem.W.hasDictIn K C = true) (d : PySem.W.plainOver K C = true) (e : PySem.W.findIn K (.ref C) "__setattr__" = some (some (.builtin "object.__setattr__"))) : L2.Cls K C := ⟨a, b, d, e⟩
theorem rmeth_mk (a : PySem.W.findIn K (.ref C) x = some (some (.ref f))) (b : PySem.W.isFn K (.ref f) = true) (k : PySem.W.keepIn K (.ref f) = true) : RMeth K x C f := ⟨a, b, k⟩
theorem rprop_mk (a : PySem.W.findIn K (.ref C) x = some (some (.ref p))) (r : PySem.W.recIn K p "property" = some (.ref f :: rest)) (b : PySem.W.specialIn K (.ref p) "__get__" = some (some (.builtin "property.__get__"))) (d : PySem.W.takesIn K (.ref p) = some true) : RProp K x C f := ⟨p, a, b, d, rest, r⟩
theorem rcls_mk (a : PySem.W.readsIn K C mc = true) (b : PySem.W.specialIn K (.ref C) "__getattribute__" = some (some (.builtin "type.__getattribute__"))) (d : PySem.W.findCls K (.ref C) mc x = some (.get (.builtin "classmethod.__get__") (.ref p) .none (.ref C))) (r : PySem.W.recIn K p "classmethod" = some (.ref f :: rest)) (e : PySem.W.fnIn K f = true) : RCls K x C f := ⟨mc, p, ⟨a, b⟩, d, ⟨rest, r⟩, e⟩
theorem rmk_mk (a : PySem.W.findIn K (.ref C) "__init__" = some (some (.ref f))) (b : PySem.W.isFn K (.ref f) = true) (d : PySem.W.makesIn K C = true) (e : PySem.W.keepIn K (.ref C) = true) (m : mg c = some (.ref C)) : RMk K mg c C f := ⟨⟨d, a, b, e⟩, m⟩
theorem rop_mk {op : Operator} (a : PySem.W.findIn K (.ref C) (PySem.dunder op.info.2) = some (some (.ref f))) (b : PySem.W.isFn K (.ref f) = true) (d : PySem.W.selfFirst K C = true) : ROp K op C f := ⟨d, a, b⟩
theorem fld_mk (z : PySem.W.nsIn K mainGlobals c = some (some (.ref C))) (k : L2.Cls K C) (a : PySem.W.findIn K (.ref C) x = some none) : FldN K c x := ⟨C, z, k, a⟩
theorem con_mk {u : Value} {d : PyData} (z : PySem.W.nsIn K mainGlobals c = some (some (.ref C))) (k : L2.Cls K C) (a : PySem.W.findIn K (.ref C) x = some (some u)) (e : rdK K n u = some d) (g : PySem.W.specialIn K u "__get__" = some none) (cp : PySem.W.copiedNames.contains x = false) : ConN K c x d := by
  obtain ⟨y, h1, h2⟩ := rdK_ok n u d e
  exact ⟨C, z, k, y, u, ⟨a, h1, g, cp⟩, h2⟩
end
end Ev

namespace Ev
open PySem PySem.Spec PyProof.Rows L2
/-! ### a value that waits while another is asked for -/
def holdE : EV → Pg EV
  | .pk i o => fun m => .ok (.d (dOf o)) (freezeM m i (dOf o))
  | v => .ret v
def kept : EV → Prop
  | .pk _ _ => False
  | _ => True
theorem holdE_ok {K : PySem.W.Frag} {w : Wd} (r : Rep K w) : ∀ {v : EV} {x : V}, RE K w v x → ∃ (v' : EV) (w' : Wd), holdE v w.m = .ok v' w'.m ∧ w'.sg = w.sg ∧ w'.H = w.H ∧ FolE w w' ∧ Rep K w' ∧ RE K w' v' x ∧ kept v'
  | .d y, x, h => ⟨.d y, w, rfl, rfl, rfl, FolE.refl w, r, h, trivial⟩
  | .cell n, x, h => ⟨.cell n, w, rfl, rfl, rfl, FolE.refl w, r, h, trivial⟩
  | .new o, x, h => ⟨.new o, w, rfl, rfl, rfl, FolE.refl w, r, h, trivial⟩
  | .pk i o, x, ⟨h1, h2⟩ => by
    obtain ⟨w', e1, e2, e3, f, r', q⟩ := freeze_ok r h1 h2
    exact ⟨.d (dOf o), w', by show Res.ok _ _ = _; rw [e1], e2, e3, f, r', q, trivial⟩
/-- the address that a new object stands at -/
def adN : EV → V → Addr → Prop
  | .new _, x, a => x = .ref a
  | _, _, _ => False
def wideZ (w : Wd) (v : EV) (x : V) : Wd := { w with Z := fun b => w.Z b ∨ adN v x b }
theorem wide_ok {K : PySem.W.Frag} {w : Wd} {v : EV} {x : V} (r : Rep K w) (h : RE K w v x) : Rep K (wideZ w v x) := by
  have nn : ∀ {a : Addr}, adN v x a → (∃ o, OH K w.F w.H w.Z a o) ∧ w.F a = none ∧ a ∉ w.ro ∧ ¬ Own w a := fun {a} z => by
    cases v with
    | new o =>
      obtain ⟨b, e, h1, h2, h3, h4, h5⟩ := h
      have z : x = .ref a := z
      rw [e] at z
      cases z
      exact ⟨⟨o, h1⟩, h2, h3, h5⟩
    | _ => exact z.elim
  refine ⟨r.sub, r.le, fun i s hs => ?_, r.cs, r.ln, r.rf, r.nd, r.ow, fun a z => ?_, r.oo, r.tb⟩
  · obtain ⟨y, h1, h2⟩ := r.sl i s hs
    refine ⟨y, h1, ?_⟩
    cases s with
    | d u => exact h2
    | cell n => exact h2
    | thk t => exact h2
    | ob o =>
      obtain ⟨b, e, q1, q2, q3, q4⟩ := h2
      refine ⟨b, e, q1.keep (Same.refl _) (fun _ z => z) (fun _ z => z) fun d hd z => ?_, q2, q3, fun z => ?_⟩
      · rcases z with z | z
        · exact z
        · obtain ⟨⟨o', g⟩, _⟩ := nn z
          exact absurd hd g.noOwn
      · rcases z with z | z
        · exact q4 z
        · subst e
          exact (nn z).2.2.2 ⟨i, o, hs, h1⟩
  · rcases z with z | z
    · exact r.zl a z
    · obtain ⟨⟨o', g⟩, _⟩ := nn z
      obtain ⟨u, hu⟩ := g.live
      show w.H a ≠ none
      rw [hu]
      simp
/-- back, the waiting value too -/
theorem wide_back {K : PySem.W.Frag} {w w2 : Wd} {v : EV} {x : V} (r : Rep K w) (h : RE K w v x) (hk : kept v) (f : FolE (wideZ w v x) w2) (r2 : Rep K w2) :
    Rep K { w2 with Z := w.Z } ∧ FolE w { w2 with Z := w.Z } ∧ RE K { w2 with Z := w.Z } v x ∧ ∀ (u : EV) (y : V), RE K w2 u y → RE K { w2 with Z := w.Z } u y ∧ ∀ a, adN v x a → ¬ adN u y a := by
  have sz : ∀ {b : Addr}, w.Z b → w2.Z b := fun {b} z => by
    rw [f.z]
    exact .inl z
  have ohz : ∀ {b : Addr} {o : Ob}, OH K w2.F w2.H w2.Z b o → OH K w2.F w2.H w.Z b o := fun h => h.keep (Same.refl _) (fun _ z => z) (fun _ z => z) fun _ _ z => sz z
  refine ⟨⟨r2.sub, r2.le, fun i s hs => ?_, r2.cs, r2.ln, r2.rf, r2.nd, r2.ow, fun a z => r2.zl a (sz z), r2.oo, r2.tb⟩,
    ⟨rfl, f.t, f.ext, f.pre, f.frm, f.new, f.liv, fun a q => (f.grow a q).imp id fun z z2 => z (.inl z2), f.own⟩, ?_, fun u y hu => ⟨?_, fun a z1 z2 => ?_⟩⟩
  · obtain ⟨y, h1, h2⟩ := r2.sl i s hs
    refine ⟨y, h1, ?_⟩
    cases s with
    | d u => exact h2
    | cell n => exact h2
    | thk t => exact h2
    | ob o =>
      obtain ⟨b, e, q1, q2, q3, q4⟩ := h2
      exact ⟨b, e, ohz q1, q2, q3, fun z => q4 (sz z)⟩
  · cases v with
    | d u => exact R.mono f.ext h
    | cell n =>
      obtain ⟨a, e, q⟩ := h
      exact ⟨a, e, f.at q⟩
    | pk i o => exact hk.elim
    | new o =>
      obtain ⟨a, e, h1, h2, h3, h4, h5⟩ := h
      obtain ⟨u, hu⟩ := h1.live
      refine ⟨a, e, h1.keep f.ext (fun u z => f.frm _ _ z h3 (h1.ntbl z)) (fun d z => f.frm _ _ z (r.noOwnDict z).1 (by intro _ q; cases q)) (fun _ _ z => z), Classical.byContradiction fun q => ?_, fun q => ?_, h4, fun q => h5 (f.own _ q)⟩
      · rcases f.grow a q with z | z
        · exact z h2
        · exact z (.inr e)
      · rcases f.new a q with z | z
        · exact h3 z
        · have z : w.H a = none := z
          rw [hu] at z
          cases z
  · cases u with
    | d y => exact hu
    | cell n => exact hu
    | pk i o => exact hu
    | new o =>
      obtain ⟨a, e, h1, h2, h3, h4, h5⟩ := hu
      exact ⟨a, e, ohz h1, h2, h3, fun z => h4 (sz z), h5⟩
  · cases u with
    | d y => exact z2.elim
    | cell n => exact z2.elim
    | pk i o => exact z2.elim
    | new o =>
      obtain ⟨b, e, h1, h2, h3, h4, h5⟩ := hu
      have z2 : y = .ref a := z2
      rw [e] at z2
      cases z2
      exact h4 (by rw [f.z]; exact .inr z1)
/-! ### x, y = a, b with local names -/
def toSV : EV → SV
  | .d x => .d x
  | .new o => .ob o
  | .cell n => .cell n
  | .pk _ o => .d (dOf o)
def setP (i : Nat) (v : EV) : Pg Unit := fun m => .ok () (setM m i (toSV v))
def evPar (i j : Nat) (fa fb : Pg EV) : Pg Fl := .bind fa fun v => .bind (holdE v) fun v' => .bind (noThr fb) fun u => .bind (holdE u) fun u' => .bind (setP i v') fun _ => .bind (setP j u') fun _ => .ret .next
theorem rs_of {K : PySem.W.Frag} {w : Wd} {v : EV} {x : V} (h : RE K w v x) (hk : kept v) : RS K w (toSV v) x := by
  cases v with
  | d y => exact h
  | cell n => exact h
  | pk i o => exact hk.elim
  | new o =>
    obtain ⟨a, e, h1, h2, h3, h4, h5⟩ := h
    exact ⟨a, e, h1, h2, h3, h4⟩
theorem rs_setW {K : PySem.W.Frag} {w : Wd} {i : Nat} {v s : SV} {x y : V} (h : RS K w s y) : RS K (setW w i v x) s y := by
  cases s <;> exact h
section
variable {m : Mem} {X : Exn → Mem → Prop} {F : Fl → Mem → Prop}
@[simp] theorem W_holdp {i : Nat} {o : Ob} {P : EV → Mem → Prop} : W (holdE (.pk i o)) m X P ↔ P (.d (dOf o)) (freezeM m i (dOf o)) := ⟨fun h => h.go, fun h => ⟨h⟩⟩
@[simp] theorem W_holdd {x : PyData} {P : EV → Mem → Prop} : W (holdE (.d x)) m X P ↔ P (.d x) m := ⟨fun h => h.go, fun h => ⟨h⟩⟩
@[simp] theorem W_holdn {o : Ob} {P : EV → Mem → Prop} : W (holdE (.new o)) m X P ↔ P (.new o) m := ⟨fun h => h.go, fun h => ⟨h⟩⟩
@[simp] theorem W_holdc {n : Nat} {P : EV → Mem → Prop} : W (holdE (.cell n)) m X P ↔ P (.cell n) m := ⟨fun h => h.go, fun h => ⟨h⟩⟩
@[simp] theorem toSV_d {x : PyData} : toSV (.d x) = .d x := rfl
@[simp] theorem toSV_n {o : Ob} : toSV (.new o) = .ob o := rfl
@[simp] theorem toSV_c {n : Nat} : toSV (.cell n) = .cell n := rfl
@[simp] theorem W_setP {i : Nat} {v : EV} {sl : List (Option SV)} {cs : List Ob} {P : Unit → Mem → Prop} : W (setP i v) ⟨sl, cs⟩ X P ↔ P () ⟨sl.set i (some (toSV v)), cs⟩ := ⟨fun h => h.go, fun h => ⟨h⟩⟩
@[simp] theorem W_par {i j : Nat} {fa fb : Pg EV} : W (evPar i j fa fb) m X F ↔ W fa m X fun v m1 => W (holdE v) m1 X fun v' m2 => W fb m2 noX fun u m3 => W (holdE u) m3 X fun u' m4 => W (setP i v') m4 X fun _ m5 => W (setP j u') m5 X fun _ m6 => F .next m6 := by
  unfold evPar
  simp only [W_bind, W_noThr, W_ret]
end
section
variable {X : Cx} {B : XBt} {a b : Expr} {pos : Pos} {fa fb : Pg EV}
theorem par_set {K : PySem.W.Frag} {w : Wd} {v u : EV} {x y : V} (r : Rep K w) (hv : RE K w v x) (hu : RE K w u y) (kv : kept v) (ku : kept u) (dis : ∀ a, adN v x a → ¬ adN u y a) (i j : Nat) :
    Rep K (setW (setW w i (toSV v) x) j (toSV u) y) ∧ FolS w (setW (setW w i (toSV v) x) j (toSV u) y) := by
  obtain ⟨r5, f5⟩ := set_ok (i := i) (v := toSV v) (x := x) r (rs_of hv kv) fun xs a e e' => by
    cases v with
    | d y => cases e
    | cell n => cases e
    | pk i o => exact kv.elim
    | new o =>
      obtain ⟨c, ec, _, _, _, _, h5⟩ := hv
      rw [e'] at ec
      cases ec
      exact h5
  obtain ⟨r6, f6⟩ := set_ok (i := j) (v := toSV u) (x := y) r5 (rs_setW (rs_of hu ku)) fun xs a e e' => by
    cases u with
    | d y => cases e
    | cell n => cases e
    | pk i o => exact ku.elim
    | new o =>
      obtain ⟨c, ec, _, _, _, _, h5⟩ := hu
      rw [e'] at ec
      cases ec
      rintro ⟨t, ys, z1, z2⟩
      rcases set_sl z1 with ⟨q1, q2, q3⟩ | ⟨q1, q2⟩
      · subst q1
        have z2 : (w.sg.set t (some x))[t]? = some (some (.ref a)) := z2
        rw [List.getElem?_set_self (Nat.lt_of_lt_of_le q3 r.le)] at z2
        cases z2
        cases v with
        | d y => cases q2
        | cell n => cases q2
        | pk i o => exact kv.elim
        | new o' => exact dis a rfl e'
      · have z2 : (w.sg.set i (some x))[t]? = some (some (.ref a)) := z2
        rw [List.getElem?_set_ne (Ne.symm q1)] at z2
        exact h5 ⟨t, ys, q2, z2⟩
  exact ⟨r6, f5.trans f6⟩
theorem par_go {i j : Nat} {w : Wd} {D : Ends} {Z : V → V → Hp → Prop} (ha : Snd X B a fa) (hb : Snd X B b fb) (r : Rep X.K w) (hww : (evPar i j fa fb w.m).wp (PostS X.K w D) (XW X.K B w))
    (fin : ∀ (w5 : Wd) (v u : EV) (x y : V), Rep X.K w5 → FolE w w5 → w5.sg = w.sg → RE X.K w5 v x → RE X.K w5 u y → kept v → kept u → (∀ a, adN v x a → ¬ adN u y a) → PostS X.K w D .next (setM (setM w5.m i (toSV v)) j (toSV u)) → Z x y w5.H) :
    WE X a w.sg w.H fun x H1 => WE X b w.sg H1 fun y H2 => Z x y H2 := by
  refine snd_then ha r hww fun v w1 xv e1 f1 r1 re h1 => ?_
  obtain ⟨v', w2, ev', s2, g2, f2, r2, re2, kv⟩ := holdE_ok r1 re
  have h1 := wp_bind h1
  rw [ev'] at h1
  have h1 : (Pg.bind (noThr fb) _ w2.m).wp (PostS X.K w D) (XW X.K B w1) := h1
  have h1 := noThr_wp (wp_bind h1)
  have r2z := wide_ok r2 re2
  rw [← e1, ← s2, ← g2]
  refine hb (wideZ w2 v' xv) _ r2z (Res.wp.imp h1 (fun u m' q w3 yv em es f3 r3 re3 => ?_) fun _ _ z => z.elim)
  subst em
  obtain ⟨u', w4, eu', s4, g4, f4, r4, re4, ku⟩ := holdE_ok r3 re3
  have q := wp_bind q
  rw [eu'] at q
  obtain ⟨rb, fb', rv, dis⟩ := wide_back r2 re2 kv (f3.trans f4) r4
  obtain ⟨ru, dis⟩ := dis u' yv re4
  have sg2 : w4.sg = w.sg := s4.trans (es.trans (s2.trans e1))
  have z := fin { w4 with Z := w2.Z } v' u' xv yv rb (f1.trans (f2.trans fb')) sg2 rv ru kv ku dis q
  have z : Z xv yv w4.H := z
  rw [g4] at z
  exact z
variable {x y : Str} {px py pt : Pos} {kt k2 : Nat} {pt2 : Pos}
theorem snd_par (i j : Nat) (C : Ctx X B) (hc : X.calm = true) (hi : X.N[i]? = some x) (hj : X.N[j]? = some y) (hij : i ≠ j)
    (hx : X.env.scope.names.lookup x = some .local) (hy : X.env.scope.names.lookup y = some .local) (ha : Snd X B a fa) (hb : Snd X B b fb)
    (hw : swappedStores [.Tuple [.Name x px, .Name y py] kt pt] (.Tuple [a, b] k2 pt2) X.env = pure (some [x, y]))
    (hs : swapsWithSole [.Tuple [.Name x px, .Name y py] kt pt] (.Tuple [a, b] k2 pt2) pos.line X.env = pure false := by rfl)
    (he : starEach [a, b] X.env = (false, eval a X.env) :: starEach [b] X.env := by rfl) (he2 : starEach [b] X.env = (false, eval b X.env) :: starEach [] X.env := by rfl) :
    SndS X B (.Assign [.Tuple [.Name x px, .Name y py] kt pt] (.Tuple [a, b] k2 pt2) pos) (evPar i j fa fb) := by
  intro w D r hww
  refine ws_of (ps_par hc C.nd hi hj hij hx hy (pa_cons pe_w (pa_cons pe_w pa_nil he2) he) hw hs) ?_
  refine par_go ha hb r hww fun w5 v u x y r5 f5 s5 hv hu kv ku dis q => ⟨x, y, rfl, ?_⟩
  obtain ⟨r6, f6⟩ := par_set r5 hv hu kv ku dis i j
  have z := q (setW (setW w5 i (toSV v) x) j (toSV u) y) rfl ((f5.s r).trans f6) r6
  have z : D.nx ((w5.sg.set i (some x)).set j (some y)) w5.H := z
  rw [s5] at z
  exact z
/-- the names captured: by a tuple that nothing holds -/
theorem snd_parT (i j : Nat) (C : Ctx X B) (hi : X.N[i]? = some x) (hj : X.N[j]? = some y) (hx : Loc X.env.scope x) (hy : Loc X.env.scope y) (ha : Snd X B a fa) (hb : Snd X B b fb)
    (hf : X.fn x = true ∨ X.env.scope.names.lookup x = some .local := by first | exact .inl rfl | exact .inr rfl | assumption) (hg : X.fn y = true ∨ X.env.scope.names.lookup y = some .local := by first | exact .inl rfl | exact .inr rfl | assumption)
    (hs : swapsWithSole [.Tuple [.Name x px, .Name y py] kt pt] (.Tuple [a, b] k2 pt2) pos.line X.env = pure false := by rfl)
    (hw : swappedStores [.Tuple [.Name x px, .Name y py] kt pt] (.Tuple [a, b] k2 pt2) X.env = pure none := by rfl)
    (h1 : (assignEach [.Tuple [.Name x px, .Name y py] kt pt] X.env).map (·.2) = [assign (.Tuple [.Name x px, .Name y py] kt pt) X.env] := by rfl)
    (he : starEach [a, b] X.env = (false, eval a X.env) :: starEach [b] X.env := by rfl) (he2 : starEach [b] X.env = (false, eval b X.env) :: starEach [] X.env := by rfl)
    (hn : (assignEach [.Name x px, .Name y py] X.env).length = 2 := by rfl) (hst : (assignEach [.Name x px, .Name y py] X.env).findIdx? (·.1) = none := by rfl)
    (hq : (assignEach [.Name x px, .Name y py] X.env).map (·.2) = assign (.Name x px) X.env :: (assignEach [.Name y py] X.env).map (·.2) := by rfl) (hq2 : (assignEach [.Name y py] X.env).map (·.2) = assign (.Name y py) X.env :: (assignEach [] X.env).map (·.2) := by rfl) :
    SndS X B (.Assign [.Tuple [.Name x px, .Name y py] kt pt] (.Tuple [a, b] k2 pt2) pos) (evPar i j fa fb) := by
  intro w D r hww
  refine ws_of (ps_asg (pe_tup (pa_cons pe_w (pa_cons pe_w pa_nil he2) he)) (pg_tup C.calm (pgs_cons (pg_name C.nd hi hx hf) (pgs_cons (pg_name C.nd hj hy hg) pgs_nil hq2) hq) hn hst) hs hw h1) ?_
  refine par_go ha hb r hww fun w5 v u x y r5 f5 s5 hv hu kv ku dis q => ⟨by show 2 ≤ sizeLine; decide, fun p hp => ?_⟩
  obtain ⟨rl, fl⟩ := lay r5 hp (.tup [x, y])
  have up : ∀ {v : EV} {x : V} {t : HO}, RE X.K w5 v x → kept v → RE X.K { w5 with H := upd w5.H p t } v x := fun {v x t} h k => by
    cases v with
    | d y => exact h
    | cell n => exact h
    | pk i o => exact k.elim
    | new o =>
      obtain ⟨a, e, h1, h2, h3, h4, h5⟩ := h
      have kp : ∀ b o, w5.H b = some o → upd w5.H p t b = some o := fun b o e => by rw [upd_ne (ne_of_none e hp)]; exact e
      exact ⟨a, e, h1.keep (Same.refl _) (fun u z => kp _ _ z) (fun d z => kp _ _ z) fun _ _ z => z, h2, h3, h4, h5⟩
  obtain ⟨r6, f6⟩ := par_set rl (up hv kv) (up hu ku) kv ku dis i j
  have z := q (setW (setW { w5 with H := upd w5.H p (.tup [x, y]) } i (toSV v) x) j (toSV u) y) rfl ((f5.s r).trans ((fl.s r5).trans f6)) r6
  have z : D.nx ((w5.sg.set i (some x)).set j (some y)) (upd w5.H p (.tup [x, y])) := z
  rw [s5] at z
  exact ⟨p, [x, y], rfl, .inl (.inl upd_same), rfl, x, [y], rfl, y, [], rfl, rfl, z⟩
/-- three at once, as data -/
def set3 (i j l : Nat) : List AV → Pg Fl
  | [x, y, z] => fun m => .ok .next (setM (setM (setM m i (toS x)) j (toS y)) l (toS z))
  | _ => .stuck
def evPar3 (i j l : Nat) (fa : Pg (List AV)) : Pg Fl := .bind fa (set3 i j l)
theorem snd_par3 {z : Str} {c : Expr} {pz : Pos} {f : Pg (List AV)} (i j l : Nat) (C : Ctx X B) (hc : X.calm = true) (hi : X.N[i]? = some x) (hj : X.N[j]? = some y) (hl : X.N[l]? = some z) (hij : i ≠ j) (hil : i ≠ l) (hjl : j ≠ l)
    (hx : X.env.scope.names.lookup x = some .local) (hy : X.env.scope.names.lookup y = some .local) (hz : X.env.scope.names.lookup z = some .local) (ha : SndA X B [a, b, c] f)
    (hw : swappedStores [.Tuple [.Name x px, .Name y py, .Name z pz] kt pt] (.Tuple [a, b, c] k2 pt2) X.env = pure (some [x, y, z]))
    (hs : swapsWithSole [.Tuple [.Name x px, .Name y py, .Name z pz] kt pt] (.Tuple [a, b, c] k2 pt2) pos.line X.env = pure false := by rfl) :
    SndS X B (.Assign [.Tuple [.Name x px, .Name y py, .Name z pz] kt pt] (.Tuple [a, b, c] k2 pt2) pos) (evPar3 i j l f) := by
  intro w D r hww
  refine ws_of (ps_par3 hc C.nd hi hj hl hij hil hjl hx hy hz pa_w hw hs) ?_
  refine sndA_then ha r hww fun vs w1 xs e1 f1 r1 rv h1 => ?_
  have tos : ∀ {v : AV} {u : V} {w : Wd}, RV X.K w v u → RS X.K w (toS v) u := fun {v u w} h => by cases v <;> exact h
  have noo : ∀ {v : AV} {o : Ob}, toS v ≠ .ob o := fun {v o} h => by cases v <;> cases h
  match vs, xs, rv, h1 with
  | [v1, v2, v3], [u1, u2, u3], .cons q1 (.cons q2 (.cons q3 .nil)), h1 =>
    obtain ⟨ra, fa⟩ := set_ok (i := i) (v := toS v1) (x := u1) r1 (tos q1) fun xs a e _ => absurd e noo
    obtain ⟨rb, fb⟩ := set_ok (i := j) (v := toS v2) (x := u2) ra (rs_setW (tos q2)) fun xs a e _ => absurd e noo
    obtain ⟨rc, fc⟩ := set_ok (i := l) (v := toS v3) (x := u3) rb (rs_setW (rs_setW (tos q3))) fun xs a e _ => absurd e noo
    have h1 : PostS X.K w D .next (setM (setM (setM w1.m i (toS v1)) j (toS v2)) l (toS v3)) := h1
    have z := h1 (setW (setW (setW w1 i (toS v1) u1) j (toS v2) u2) l (toS v3) u3) rfl ((f1.s r).trans (fa.trans (fb.trans fc))) rc
    have z : D.nx (((w1.sg.set i (some u1)).set j (some u2)).set l (some u3)) w1.H := z
    rw [e1] at z
    exact ⟨u1, u2, u3, rfl, z⟩
  | [], _, _, h1 => exact h1.elim
  | [_], _, _, h1 => exact h1.elim
  | [_, _], _, _, h1 => exact h1.elim
  | _ :: _ :: _ :: _ :: _, _, _, h1 => exact h1.elim
end
@[simp] theorem W_par3 {m : Mem} {X : Exn → Mem → Prop} {F : Fl → Mem → Prop} {i j l : Nat} {fa : Pg (List AV)} : W (evPar3 i j l fa) m X F ↔ W fa m X fun vs m1 => W (set3 i j l vs) m1 X F := by
  unfold evPar3
  rw [W_bind]
@[simp] theorem W_set3 {X : Exn → Mem → Prop} {F : Fl → Mem → Prop} {i j l : Nat} {x y z : AV} {sl : List (Option SV)} {cs : List Ob} : W (set3 i j l [x, y, z]) ⟨sl, cs⟩ X F ↔ F .next ⟨((sl.set i (some (toS x))).set j (some (toS y))).set l (some (toS z)), cs⟩ := ⟨fun h => h.go, fun h => ⟨h⟩⟩
end Ev

namespace Ev
open PySem PySem.Spec PyProof.Rows L2
/-! ### own special methods: ==, !=, in -/
/-- what a method answers -/
def Pb (K : PySem.W.Frag) (w : Wd) (Z : EV → V → Hp → Prop) : EV → Mem → Prop := fun r m' => ∀ (w' : Wd) (x : V), w'.m = m' → w'.sg = w.sg → FolE w w' → Rep K w' → RE K w' r x → Z r x w'.H
section
variable {X : Cx} {pins : List (Addr × Obj)} {sg : L2.St} {s : Shared} {k : Nat}
theorem sp_run {A : Around} {g : Addr} {h : Fn} {w : Wd} {args : List AV} {xs : List V} {us : List Value} {Z : EV → V → Hp → Prop} {E : Value → Shared → Prop} (F : CodeP X.prog X.w X.K X.mg X.base k g [] h) (hg : A.guards = some []) (hr : Room k A) (I : L2.Inv X pins sg w.H s) (e0 : Env0 X.prog X.w X.K X.mg X.base A X.stack s w.H)
    (r : Rep X.K w) (rv : Paired (RV X.K w) args xs) (ru : Vals xs us) (q : (callS h args w.m).wp (Pb X.K w Z) (fun _ _ => False)) :
    wpAny (model X.prog X.w) A (call (.ref g) us) (fun v s' => ∃ r x H', Inv X pins sg H' s' ∧ RelV x v ∧ Z r x H') E s := by
  have cw : callW X.K h (fun x w' => ∀ cls d, ExAt X.K w' x cls d → (fun (_ : Value) (_ : Option Addr) (_ : Hp) => False) cls d w'.H) (bare w) args (fun x H' => ∃ r, Z r x H') := by
    refine (callS_ok q).imp (fun v m' q w' x e1 e2 e3 f r' re => ?_) fun x m' q => q.elim
    obtain ⟨r3, f3⟩ := back_ok r f r'
    exact ⟨v, q (back w w') x (by show (⟨w.m.sl, w'.m.cs⟩ : Mem) = _; rw [e2]) rfl f3 r3 (back_re r f e1 re)⟩
  have rva : Paired (RV X.K (bare w)) args (xs ++ []) := by
    rw [List.append_nil]
    exact bare_rv rv
  refine wpAny_call (codeAny_mono (F A X.stack s (bare w) us [] args xs [] _ (fun _ _ _ => False) hg hr e0 rfl rfl (fun _ h => h) (bare_rep r) rva ru .nil rfl cw) fun r s' hq => ?_)
  cases r with
  | error er =>
    obtain ⟨_, _, _, _, _, _, _, _, _, _, _, _, z⟩ := (show L2.CX X.prog X.w X.stack w.H s (fun _ _ _ => False) er s' from hq)
    exact z.elim
  | ok fl =>
    cases fl with
    | ret u =>
      obtain ⟨v, H', I3, rv, r, q3⟩ := I.after hq
      exact ⟨r, v, H', I3, rv, q3⟩
    | next => exact False.elim hq
    | brk => exact False.elim hq
    | cont => exact False.elim hq
/-- a kind that is not below the class at D -/
def TyN (X : Cx) (H : Hp) (y : V) (D : Addr) : Prop := (∃ t, TyX X.K H y (.type t) ∧ PySem.W.notFirst X.K D (.type t) = true) ∨ ∃ b dy ws, y = .ref b ∧ H b = some (.ins D dy ws)
theorem nf_of {K : PySem.W.Frag} {D : Addr} {d : PyData} {t : String} (h : tyName d = some t) : PySem.W.notFirst K D (.type t) = true := by
  have go : ∀ t, t ∈ ["NoneType", "bool", "int", "str", "list", "tuple", "dict"] → (fastBuiltinMro t).map (·.all fun v => match v with | .type _ => true | _ => false) = some true := by decide +kernel
  have mem : t ∈ ["NoneType", "bool", "int", "str", "list", "tuple", "dict"] := by
    cases d with
    | dict es =>
      unfold tyName at h
      dsimp only at h
      split at h
      · cases h
        simp
      · cases h
    | _ => cases h; simp
  have h2 := go t mem
  obtain ⟨l, e, ha⟩ := Option.map_eq_some_iff.mp h2
  have : PySem.W.subIn K (.type t) (.ref D) = some false := by
    show (fastBuiltinMro t).map (·.contains (.ref D)) = some false
    rw [e]
    have : l.contains (.ref D) = false := by
      rw [Bool.eq_false_iff]
      intro hc
      have hm : Value.ref D ∈ l := by simpa using hc
      have := List.all_eq_true.mp ha _ hm
      simp at this
    exact congrArg some this
  unfold PySem.W.notFirst
  rw [this]
  simp
def rEqI (X : Cx) (k : Nat) (neg : Bool) : R2 := fun x y H Q => ∃ (a D dx : Addr) (fs : List (Str × V)) (g : Addr) (h : Fn) (av bv : AV) (w : Wd), x = .ref a ∧ w.H = H ∧ H a = some (.ins D dx fs) ∧ PySem.W.findIn X.K (.ref D) "__eq__" = some (some (.ref g)) ∧ PySem.W.isFn X.K (.ref g) = true ∧
  (neg = true → PySem.W.findIn X.K (.ref D) "__ne__" = some (some (.builtin "object.__ne__")) ∧ PySem.W.mroIn X.K D (.type "object") = some true) ∧ CodeP X.prog X.w X.K X.mg X.base k g [] h ∧ Rep X.K w ∧ RV X.K w av x ∧ RV X.K w bv y ∧ TyN X H y D ∧
  (callS h [av, bv] w.m).wp (Pb X.K w fun r x H' => ∃ kb, x = .bl kb ∧ Q (.bl (if neg then !kb else kb)) H') (fun _ _ => False)
theorem ty_look {x : V} {u : Value} {D : Addr} {H : Hp} (I : L2.Inv X pins sg H s) (rx : RelV x u) (h : TyN X H x D) : ∃ tb, PySem.W.Looks (model X.prog X.w) s.heap (typeOf u) tb ∧ PySem.W.notFirst X.K D tb = true := by
  rcases h with ⟨t, h1, h2⟩ | ⟨b, dy, ws, rfl, hb⟩
  · obtain ⟨P, kx, hp, _⟩ := kit_of I rx h1
    exact ⟨_, kx.ty _ _ I.kIn hp, h2⟩
  · obtain rfl : u = Value.ref b := rx
    obtain ⟨mA, O, _⟩ := ins_get I.hok hb
    obtain ⟨od, J, _⟩ := O.look
    exact ⟨_, J.type, by simp [PySem.W.notFirst]⟩
theorem op_eqI (C : Ctx X B) (hr : Room k X.A) : OpR X (compareOp .Eq) (rEqI X k false) := by
  intro pins s sg H x y v u Q I rx ry h
  obtain ⟨a, D, dx, fs, g, h, av, bv, w, rfl, rfl, ha, hs, hf, _, F, r, rv1, rv2, ty, q⟩ := h
  obtain rfl : v = Value.ref a := rx
  obtain ⟨mA, O, _⟩ := ins_get I.hok ha
  obtain ⟨od, J, _⟩ := O.look
  obtain ⟨m, hF⟩ := I.fr
  obtain ⟨tb, hb, hn⟩ := ty_look I ry ty
  show wpAny _ _ (richCompare .Eq (.ref a) u) _ _ _
  refine PySem.W.cmp_K (op := .Eq) hr.units0 hF I.ok.mod.kin J hb hn hs hf ?_
  refine wpAny_mono (sp_run (us := [.ref a, u]) (xs := [.ref a, y]) F C.gd hr I I.env0 r (.cons rv1 (.cons rv2 .nil)) (.cons rfl (.cons ry .nil)) q) (fun v' s' ⟨r', x', H', I', rl, kb, e, q⟩ => ?_) fun _ _ x => x
  subst e
  cases (show v' = Value.bool kb from rl)
  exact ⟨.bl kb, H', I', rfl, q⟩
/-! != by object's own -/
theorem ifBound_ne {A : Around} {E : Value → Shared → Prop} {x C : Addr} {ox : Obj} {od : Option Obj} {args : List Value} {Q : Option Value → Shared → Prop} (XK : X.K.In s.heap) (I : PySem.W.InstAt s.heap x ox C od) (hs : PySem.W.findIn X.K (.ref C) "__ne__" = some (some (.builtin "object.__ne__")))
    (h : wpAny (model X.prog X.w) A (call (.builtin "object.__ne__") (.ref x :: args)) (fun v => Q (some v)) E s) : wpAny (model X.prog X.w) A (callSpecialIfBound? (.ref x) "__ne__" args) Q E s := by
  simp only [callSpecialIfBound?, bindSpecialIfBound?]
  refine wpAny_holding (wpAny_bind (wpAny_bind (wpAny_bind (I.type.here ((PySem.W.looks_findIn XK hs).here ?_)))))
  refine wpAny_bind (wpAny_askSetting (wpAny_ite ?_))
  have fin : wpAny (model X.prog X.w) A (call (.builtin "object.__ne__") ([.ref x] ++ args) >>= fun v => pure (some v)) Q E s := wpAny_bind (wpAny_mono h (fun v s' h' => wpAny_pure h') fun _ _ h' => h')
  split
  · exact wpAny_bind (wpAny_of_eq (F.cmp_object.ne.bind _) (wpAny_pure (by exact fin)))
  · exact wpAny_tryCatch (wpAny_bind (wpAny_of_eq (F.cmp_object.ne.bind _) (wpAny_pure (by exact fin))))
theorem ne_entry {A : Around} {E : Value → Shared → Prop} {x C f : Addr} {y : Value} {ox : Obj} {od : Option Obj} (XK : X.K.In s.heap) (I : PySem.W.InstAt s.heap x ox C od) (hs : PySem.W.findIn X.K (.ref C) "__eq__" = some (some (.ref f))) (hf : PySem.W.isFn X.K (.ref f) = true) (hu : A.units < cLine) {Q : Fin → Shared → Prop}
    (hcall : wpAny (model X.prog X.w) A (call (.ref f) [.ref x, y]) (fun v s' => ∃ b, v = .bool b ∧ Q (.done (.ret (.bool (!b)))) s') E s) : wpAny (model X.prog X.w) A (Builtin.«object.__ne__» ⟨[.ref x, y], []⟩) Q E s := by
  unfold Builtin.«object.__ne__»
  repeat (first
    | with_reducible refine wpAny_cRoomFor hu ?_
    | (refine wpAny_bind (m := callSpecialIfBound? (.ref x) (Str.ofString "__eq__") [y])
        (PySem.W.ifBound_K XK I hs hf (wpAny_mono hcall (fun r s' hr => by
          obtain ⟨b, rfl, hq⟩ := hr
          repeat (first | exact hq | exact wpAny_pure hq | exact wpAny_truthy_bool hq | (refine wpAny_bind (m := truthy (.bool _)) (wpAny_truthy_bool ?_)) | wp_step)) fun _ _ e => e)))
    | wp_step)
theorem op_neI (C : Ctx X B) (hr : Room (k + 1) X.A) : OpR X (compareOp .NotEq) (rEqI X k true) := by
  intro pins s sg H x y v u Q I rx ry h
  obtain ⟨a, D, dx, fs, g, h, av, bv, w, rfl, rfl, ha, hs, hf, hne, FP, r, rv1, rv2, ty, q⟩ := h
  obtain ⟨hn1, hn2⟩ := hne rfl
  obtain rfl : v = Value.ref a := rx
  obtain ⟨mA, O, _⟩ := ins_get I.hok ha
  obtain ⟨od, J, _⟩ := O.look
  obtain ⟨tb, hb, hn⟩ := ty_look I ry ty
  have XK := I.kIn
  have one : wpAny (model X.prog X.w) X.A (tryCompare (.ref a) (cmpInfo .NotEq).2.1 u) (fun r s' => ∃ v, r = some v ∧ EP X pins sg Q v s') X.xe s := by
    show wpAny (model X.prog X.w) X.A (tryCompare (.ref a) "__ne__" u) _ _ s
    unfold tryCompare
    refine wpAny_bind (ifBound_ne XK J hn1 (wpAny_call (codeAny_call_builtin F.cmp_object.ne.plain F.cmpEntry_ne (PySem.W.check_slot F.cmpKind_ne F.cmpSplit_ne (J.type.andThen (PySem.W.looks_mroIn XK hn2)) (F.cmpArgs_ne _ _) (ne_entry XK J hs hf (hr.in1 (k := k)).units0 ?_)))))
    refine wpAny_mono (sp_run (us := [.ref a, u]) (xs := [.ref a, y]) FP C.gd hr.in1 I I.env0.in1 r (.cons rv1 (.cons rv2 .nil)) (.cons rfl (.cons ry .nil)) q) (fun v' s' ⟨r', x', H', I', rl, kb, e, q⟩ => ?_) fun _ _ x => x
    subst e
    cases (show v' = Value.bool kb from rl)
    refine ⟨kb, rfl, ?_⟩
    first
      | exact wpAny_pure ⟨_, rfl, .bl (!kb), H', I', rfl, q⟩
      | exact ⟨_, rfl, .bl (!kb), H', I', rfl, q⟩
  show wpAny _ _ (richCompare .NotEq (.ref a) u) _ _ _
  unfold richCompare
  simp only [oneThing_ref]
  refine wpAny_holding (wpAny_bind (wpAny_cRoomFor hr.units0 ?_))
  refine wpAny_bind (J.type.here (wpAny_bind (hb.here ?_)))
  split
  · rename_i qq
    have e : PySem.W.subIn X.K tb (.ref D) = some false := by
      rcases Bool.or_eq_true_iff.mp hn with e | e
      · rw [beq_iff_eq.mp e] at qq; simp at qq
      · exact beq_iff_eq.mp e
    refine wpAny_bind ((PySem.W.looks_subIn XK e).here ?_)
    simp only [Bool.false_eq_true, if_false]
    refine wpAny_bind (wpAny_mono one (fun r s' z => ?_) fun _ _ e => e)
    obtain ⟨v, rfl, hq⟩ := z
    exact wpAny_pure hq
  · refine wpAny_bind (wpAny_pure ?_)
    simp only [Bool.false_eq_true, if_false]
    refine wpAny_bind (wpAny_mono one (fun r s' z => ?_) fun _ _ e => e)
    obtain ⟨v, rfl, hq⟩ := z
    exact wpAny_pure hq
/-! x in t -/
def rInI (X : Cx) (k : Nat) (neg : Bool) : R2 := fun x y H Q => ∃ (a D dx : Addr) (fs : List (Str × V)) (g : Addr) (h : Fn) (av bv : AV) (w : Wd), y = .ref a ∧ w.H = H ∧ H a = some (.ins D dx fs) ∧ PySem.W.findIn X.K (.ref D) "__contains__" = some (some (.ref g)) ∧ PySem.W.isFn X.K (.ref g) = true ∧
  CodeP X.prog X.w X.K X.mg X.base k g [] h ∧ Rep X.K w ∧ RV X.K w av x ∧ RV X.K w bv y ∧
  (callS h [bv, av] w.m).wp (Pb X.K w fun r x H' => ∃ kb, x = .bl kb ∧ Q (.bl (if neg then !kb else kb)) H') (fun _ _ => False)
theorem op_inI (C : Ctx X B) (hr : Room k X.A) : OpR X (compareOp .In) (rInI X k false) := by
  intro pins s sg H x y v u Q I rx ry h
  obtain ⟨a, D, dx, fs, g, h, av, bv, w, rfl, rfl, ha, hs, hf, F, r, rv1, rv2, q⟩ := h
  obtain rfl : u = Value.ref a := ry
  obtain ⟨mA, O, _⟩ := ins_get I.hok ha
  obtain ⟨od, J, _⟩ := O.look
  obtain ⟨m, hF⟩ := I.fr
  refine PySem.W.in_K hF I.ok.mod.kin J hs hf ?_
  refine wpAny_mono (sp_run (us := [.ref a, v]) (xs := [.ref a, x]) F C.gd hr I I.env0 r (.cons rv2 (.cons rv1 .nil)) (.cons rfl (.cons rx .nil)) q) (fun v' s' ⟨r', x', H', I', rl, kb, e, q⟩ => ?_) fun _ _ x => x
  subst e
  cases (show v' = Value.bool kb from rl)
  exact wpAny_truthy_bool ⟨.bl kb, H', I', rfl, q⟩
theorem op_notInI (C : Ctx X B) (hr : Room k X.A) : OpR X (compareOp .NotIn) (rInI X k true) := by
  intro pins s sg H x y v u Q I rx ry h
  obtain ⟨a, D, dx, fs, g, h, av, bv, w, rfl, rfl, ha, hs, hf, F, r, rv1, rv2, q⟩ := h
  obtain rfl : u = Value.ref a := ry
  obtain ⟨mA, O, _⟩ := ins_get I.hok ha
  obtain ⟨od, J, _⟩ := O.look
  obtain ⟨m, hF⟩ := I.fr
  refine PySem.W.notIn_K hF I.ok.mod.kin J hs hf ?_
  refine wpAny_mono (sp_run (us := [.ref a, v]) (xs := [.ref a, x]) F C.gd hr I I.env0 r (.cons rv2 (.cons rv1 .nil)) (.cons rfl (.cons rx .nil)) q) (fun v' s' ⟨r', x', H', I', rl, kb, e, q⟩ => ?_) fun _ _ x => x
  subst e
  cases (show v' = Value.bool kb from rl)
  exact wpAny_truthy_bool ⟨.bl (!kb), H', I', rfl, q⟩
end
end Ev

namespace Ev
open PySem PySem.Spec PyProof.Rows L2
/-! ### comparisons, own ones of instances too -/
/-- an instance is data from here on -/
def holdI : EV → Pg EV
  | .pk i (.ins c fs) => fun m => .ok (.d (insD c fs)) (freezeM m i (insD c fs))
  | .new (.ins c fs) => .ret (.d (insD c fs))
  | v => .ret v
theorem holdI_ok {K : PySem.W.Frag} {w : Wd} (r : Rep K w) : ∀ {v : EV} {x : V}, RE K w v x → ∃ (v' : EV) (w' : Wd), holdI v w.m = .ok v' w'.m ∧ w'.sg = w.sg ∧ w'.H = w.H ∧ FolE w w' ∧ Rep K w' ∧ RE K w' v' x
  | .d y, x, h => ⟨.d y, w, rfl, rfl, rfl, FolE.refl w, r, h⟩
  | .cell n, x, h => ⟨.cell n, w, rfl, rfl, rfl, FolE.refl w, r, h⟩
  | .new (.lst l), x, h => ⟨.new (.lst l), w, rfl, rfl, rfl, FolE.refl w, r, h⟩
  | .new (.dic l), x, h => ⟨.new (.dic l), w, rfl, rfl, rfl, FolE.refl w, r, h⟩
  | .pk i (.lst l), x, h => ⟨.pk i (.lst l), w, rfl, rfl, rfl, FolE.refl w, r, h⟩
  | .pk i (.dic l), x, h => ⟨.pk i (.dic l), w, rfl, rfl, rfl, FolE.refl w, r, h⟩
  | .new (.ins c fs), x, h => by
    obtain ⟨a, w', e1, e2, e3, f, r', q⟩ := toA_ok r (v := .new (.ins c fs)) h
    have e1 : Res.ok (AV.d (insD c fs)) w.m = .ok a w'.m := e1
    cases a with
    | cell n => cases e1
    | d y =>
      injection e1 with e4 e5
      cases e4
      exact ⟨.d (insD c fs), w', by show Res.ok _ _ = _; rw [e5], e2, e3, f, r', q⟩
  | .pk i (.ins c fs), x, ⟨h1, h2⟩ => by
    obtain ⟨w', e1, e2, e3, f, r', q⟩ := freeze_ok r h1 h2
    exact ⟨.d (insD c fs), w', by show Res.ok _ _ = _; rw [e1]; rfl, e2, e3, f, r', q⟩
def dA : EV → Option AV
  | .d x => some (.d x)
  | .cell n => some (.cell n)
  | _ => none
theorem dA_ok {K : PySem.W.Frag} {w : Wd} {v : EV} {x : V} {a : AV} (h : RE K w v x) (e : dA v = some a) : RV K w a x := by
  cases v with
  | d y => cases e; exact h
  | cell n => cases e; exact h
  | new o => cases e
  | pk i o => cases e
def callB (h : Fn) (args : List AV) (neg : Bool) : Pg Bool := .bind (noThr (callS h args)) fun r => match r with
  | .d (.bool b) => .ret (if neg then !b else b)
  | _ => .stuck
def isOwnC (op : CmpOp) (x y : PyData) : Bool := match op with
  | .Eq => (insC x).isSome
  | .NotEq => (insC x).isSome
  | .In => (insC y).isSome
  | .NotIn => (insC y).isSome
  | _ => false
def ownC (op : CmpOp) (tb : List (Str × Fn)) (x y : PyData) : Option Fn := match op with
  | .In => (insC y).bind fun p => tb.lookup p.1
  | .NotIn => (insC y).bind fun p => tb.lookup p.1
  | _ => (insC x).bind fun p => if (tyName y).isSome || decide ((insC y).map (·.1) = some p.1) then tb.lookup p.1 else none
def swpO : CmpOp → Bool
  | .In => true
  | .NotIn => true
  | _ => false
def negO : CmpOp → Bool
  | .NotEq => true
  | .NotIn => true
  | _ => false
def cmpI (op : CmpOp) (tb : List (Str × Fn)) (v u : EV) : Pg Bool := look (opnd v) fun x => look (opnd u) fun y =>
  if isOwnC op x y then .bind (optP (ownC op tb x y)) fun h => .bind (optP (dA v)) fun a => .bind (optP (dA u)) fun b => callB h (if swpO op then [b, a] else [a, b]) (negO op)
  else optP (cmpS op x y)
def evCmpI (op : CmpOp) (tb : List (Str × Fn)) (fa fb : Pg EV) : Pg Bool := .bind fa fun v => .bind (holdI v) fun v' => .bind fb fun u => .bind (holdI u) fun u' => cmpI op tb v' u'
def CmpT (X : Cx) (k : Nat) (op : CmpOp) (tb : List (Str × Fn)) : Prop := ∀ c h, tb.lookup c = some h → ∀ D, ClsN X.K c D → ∃ g, PySem.W.findIn X.K (.ref D) (if swpO op then "__contains__" else "__eq__") = some (some (.ref g)) ∧ PySem.W.isFn X.K (.ref g) = true ∧
  (op = .NotEq → PySem.W.findIn X.K (.ref D) "__ne__" = some (some (.builtin "object.__ne__")) ∧ PySem.W.mroIn X.K D (.type "object") = some true) ∧ CodeP X.prog X.w X.K X.mg X.base k g [] h
theorem callB_ok {K : PySem.W.Frag} {h : Fn} {args : List AV} {neg : Bool} {w : Wd} {P : Bool → Mem → Prop} {E : Exn → Mem → Prop} (q : (callB h args neg w.m).wp P E) : (callS h args w.m).wp (Pb K w fun r x H' => ∃ kb, x = .bl kb ∧ ∃ w' : Wd, w'.H = H' ∧ w'.sg = w.sg ∧ FolE w w' ∧ Rep K w' ∧ P (if neg then !kb else kb) w'.m) (fun _ _ => False) := by
  refine (noThr_wp (wp_bind q)).imp (fun r m' q w' x em es f r' re => ?_) fun _ _ z => z
  subst em
  cases r with
  | d y =>
    cases y with
    | bool b =>
      cases re
      exact ⟨b, rfl, w', rfl, es, f, r', q⟩
    | _ => exact q.elim
  | _ => exact q.elim
section
variable {X : Cx} {B : XBt} {a b : Expr} {fa fb : Pg EV} {pos : Pos} {tb : List (Str × Fn)} {k : Nat}
theorem cmpI_ok {op : CmpOp} {w : Wd} {v u : EV} {x y : V} {Q : VK} {P : Bool → Mem → Prop} (C : Ctx X B) (hr : Room (k + 1) X.A) (T : CmpT X k op tb) (r : Rep X.K w) (o1 : RO X.K w (opnd v) x) (o2 : RO X.K w (opnd u) y) (hv : ∀ a, dA v = some a → RV X.K w a x) (hu : ∀ a, dA u = some a → RV X.K w a y)
    (h : (cmpI op tb v u w.m).wp P (XW X.K B w)) (q : ∀ (kb : Bool) (w' : Wd), w'.sg = w.sg → FolE w w' → Rep X.K w' → P kb w'.m → Q (.bl kb) w'.H) : anyR X (compareOp op) x y w.H Q := by
  obtain ⟨dx, ex, h⟩ := look_ok h
  obtain ⟨dy, ey, h⟩ := look_ok h
  have r1 := o1.rn r ex
  have r2 := o2.rn r ey
  split at h
  · rename_i ho
    obtain ⟨g, eg, h⟩ := wp_opt (wp_bind h)
    obtain ⟨av, ea, h⟩ := wp_opt (wp_bind h)
    obtain ⟨bv, eb, h⟩ := wp_opt (wp_bind h)
    have ra := hv av ea
    have rb := hu bv eb
    have z := callB_ok (K := X.K) h
    have eqs : ∀ {c : Str} {fs : List (PyData × PyData)}, insC dx = some (c, fs) → ((tyName dy).isSome || decide ((insC dy).map (·.1) = some c)) = true → ∃ (ad D d1 : Addr) (vs : List (Str × V)), x = .ref ad ∧ ClsN X.K c D ∧ w.H ad = some (.ins D d1 vs) ∧ TyN X w.H y D := fun {c fs} i1 hc => by
      obtain ⟨ad, D, d1, vs, rfl, hcn, ha, _⟩ := insC_RN r.sub r1 i1
      refine ⟨ad, D, d1, vs, rfl, hcn, ha, ?_⟩
      rcases Bool.or_eq_true_iff.mp hc with z | z
      · obtain ⟨t, et⟩ := Option.isSome_iff_exists.mp z
        exact .inl ⟨t, tyX_of r.sub r2 et, nf_of et⟩
      · have z := of_decide_eq_true z
        obtain ⟨⟨c', fs'⟩, i2, e⟩ := Option.map_eq_some_iff.mp z
        have e : c' = c := e
        subst e
        obtain ⟨ad2, D2, d2, vs2, rfl, hcn2, ha2, _⟩ := insC_RN r.sub r2 i2
        rw [hcn2.one hcn] at ha2
        exact .inr ⟨ad2, d2, vs2, rfl, ha2⟩
    cases op with
    | Eq =>
      obtain ⟨⟨c, fs⟩, i1, eg⟩ := Option.bind_eq_some_iff.mp eg
      split at eg
      · rename_i hc
        obtain ⟨ad, D, d1, vs, rfl, hcn, ha, ty⟩ := eqs i1 hc
        obtain ⟨gd, t1, t2, t3, t4⟩ := T c g eg D hcn
        refine ⟨_, op_eqI C (hr.mono (Nat.le_succ _)), ad, D, d1, vs, gd, g, av, bv, w, rfl, rfl, ha, t1, t2, (fun z => by cases z), t4, r, ra, rb, ty, ?_⟩
        exact z.imp (fun rr m' zz w' xx em es f rp re => by
          obtain ⟨kb, e, w2, e2, e3, f2, r2, q2⟩ := zz w' xx em es f rp re
          exact ⟨kb, e, e2 ▸ q _ w2 e3 f2 r2 q2⟩) fun _ _ z => z
      · cases eg
    | NotEq =>
      obtain ⟨⟨c, fs⟩, i1, eg⟩ := Option.bind_eq_some_iff.mp eg
      split at eg
      · rename_i hc
        obtain ⟨ad, D, d1, vs, rfl, hcn, ha, ty⟩ := eqs i1 hc
        obtain ⟨gd, t1, t2, t3, t4⟩ := T c g eg D hcn
        refine ⟨_, op_neI C hr, ad, D, d1, vs, gd, g, av, bv, w, rfl, rfl, ha, t1, t2, (fun _ => t3 rfl), t4, r, ra, rb, ty, ?_⟩
        exact z.imp (fun rr m' zz w' xx em es f rp re => by
          obtain ⟨kb, e, w2, e2, e3, f2, r2, q2⟩ := zz w' xx em es f rp re
          exact ⟨kb, e, e2 ▸ q _ w2 e3 f2 r2 q2⟩) fun _ _ z => z
      · cases eg
    | In =>
      obtain ⟨⟨c, fs⟩, i1, eg⟩ := Option.bind_eq_some_iff.mp eg
      obtain ⟨ad, D, d1, vs, rfl, hcn, ha, _⟩ := insC_RN r.sub r2 i1
      obtain ⟨gd, t1, t2, t3, t4⟩ := T c g eg D hcn
      refine ⟨_, op_inI C (hr.mono (Nat.le_succ _)), ad, D, d1, vs, gd, g, av, bv, w, rfl, rfl, ha, t1, t2, t4, r, ra, rb, ?_⟩
      exact z.imp (fun rr m' zz w' xx em es f rp re => by
        obtain ⟨kb, e, w2, e2, e3, f2, r2, q2⟩ := zz w' xx em es f rp re
        exact ⟨kb, e, e2 ▸ q _ w2 e3 f2 r2 q2⟩) fun _ _ z => z
    | NotIn =>
      obtain ⟨⟨c, fs⟩, i1, eg⟩ := Option.bind_eq_some_iff.mp eg
      obtain ⟨ad, D, d1, vs, rfl, hcn, ha, _⟩ := insC_RN r.sub r2 i1
      obtain ⟨gd, t1, t2, t3, t4⟩ := T c g eg D hcn
      refine ⟨_, op_notInI C (hr.mono (Nat.le_succ _)), ad, D, d1, vs, gd, g, av, bv, w, rfl, rfl, ha, t1, t2, t4, r, ra, rb, ?_⟩
      exact z.imp (fun rr m' zz w' xx em es f rp re => by
        obtain ⟨kb, e, w2, e2, e3, f2, r2, q2⟩ := zz w' xx em es f rp re
        exact ⟨kb, e, e2 ▸ q _ w2 e3 f2 r2 q2⟩) fun _ _ z => z
    | _ => cases ho
  · obtain ⟨kb, ez, hq⟩ := wp_opt h
    exact cmp_ok C r r1 r2 ez (q kb w rfl (FolE.refl w) r hq)
theorem cmpI_go {op : CmpOp} {w : Wd} {Q : VK} {P : Bool → Mem → Prop} (C : Ctx X B) (hr : Room (k + 1) X.A) (T : CmpT X k op tb) (ha : Snd X B a fa) (hb : Snd X B b fb) (r : Rep X.K w) (h : (evCmpI op tb fa fb w.m).wp P (XW X.K B w))
    (q : ∀ (kb : Bool) (w' : Wd), w'.sg = w.sg → FolE w w' → Rep X.K w' → P kb w'.m → Q (.bl kb) w'.H) : WE X a w.sg w.H fun x H1 => WE X b w.sg H1 fun y H2 => anyR X (compareOp op) x y H2 Q := by
  refine snd_then ha r h fun v w1 x e1 f1 r1 re h1 => ?_
  obtain ⟨v', w2, ev, s2, g2, f2, r2, re2⟩ := holdI_ok r1 re
  have h1 := wp_bind h1
  rw [ev] at h1
  have h1 : (Pg.bind fb _ w2.m).wp P (XW X.K B w1) := h1
  have h1 : (Pg.bind fb _ w2.m).wp P (XW X.K B w2) := Res.wp.imp h1 (fun _ _ z => z) fun _ _ z => z.fol (f2.s r1)
  rw [← e1, ← s2, ← g2]
  refine snd_then hb r2 h1 fun u w3 y e3 f3 r3 re3 h2 => ?_
  obtain ⟨u', w4, eu, s4, g4, f4, r4, re4⟩ := holdI_ok r3 re3
  have h2 := wp_bind h2
  rw [eu] at h2
  have h2 : (cmpI op tb v' u' w4.m).wp P (XW X.K B w3) := h2
  have h2 : (cmpI op tb v' u' w4.m).wp P (XW X.K B w4) := Res.wp.imp h2 (fun _ _ z => z) fun _ _ z => z.fol (f4.s r3)
  rw [← g4]
  refine cmpI_ok C hr T r4 (((re2.ro r2).fol r2 f3).fol r3 f4) (re4.ro r4) (fun a ea => ?_) (fun a ea => dA_ok re4 ea) h2 fun kb w' es f rp hp => q kb w' ?_ ?_ rp hp
  · exact ((dA_ok re2 ea).fol f3).fol f4
  · exact es.trans (s4.trans (e3.trans (s2.trans e1)))
  · exact f1.trans (f2.trans (f3.trans (f4.trans f)))
theorem sndT_cmpI {op : CmpOp} (C : Ctx X B) (hr : Room (k + 1) X.A) (T : CmpT X k op tb) (ha : Snd X B a fa) (hb : Snd X B b fb) (hm : behindInMarks op b = false := by rfl) : SndT X B (.Compare a [op] [b] pos) (evCmpI op tb fa fb) := by
  intro w Q r h
  refine wt_of (pt_cmpR op_any pe_w pe_w hm) ?_
  exact cmpI_go C hr T ha hb r h fun kb w' es f rp hp => ⟨kb, rfl, hp w' rfl es f rp⟩
theorem snd_cmpI {op : CmpOp} (C : Ctx X B) (hr : Room (k + 1) X.A) (T : CmpT X k op tb) (ha : Snd X B a fa) (hb : Snd X B b fb) (hm : behindInMarks op b = false := by rfl) : Snd X B (.Compare a [op] [b] pos) (asV (evCmpI op tb fa fb)) := by
  intro w Q r h
  refine we_of (pe_cmpR op_any pe_w pe_w hm) ?_
  have h := wp_bind h
  exact cmpI_go C hr T ha hb r h fun kb w' es f rp hp => hp w' (.bl kb) rfl es f rp (.bl kb)
end
/-! rules -/
section
variable {m : Mem} {X : Exn → Mem → Prop} {T : Bool → Mem → Prop}
@[simp] theorem W_holdId {x : PyData} {P : EV → Mem → Prop} : W (holdI (.d x)) m X P ↔ P (.d x) m := ⟨fun h => h.go, fun h => ⟨h⟩⟩
@[simp] theorem W_holdIc {n : Nat} {P : EV → Mem → Prop} : W (holdI (.cell n)) m X P ↔ P (.cell n) m := ⟨fun h => h.go, fun h => ⟨h⟩⟩
@[simp] theorem W_holdIl {l : List PyData} {P : EV → Mem → Prop} : W (holdI (.new (.lst l))) m X P ↔ P (.new (.lst l)) m := ⟨fun h => h.go, fun h => ⟨h⟩⟩
@[simp] theorem W_holdIdi {l : List (PyData × PyData)} {P : EV → Mem → Prop} : W (holdI (.new (.dic l))) m X P ↔ P (.new (.dic l)) m := ⟨fun h => h.go, fun h => ⟨h⟩⟩
@[simp] theorem W_holdIpl {i : Nat} {l : List PyData} {P : EV → Mem → Prop} : W (holdI (.pk i (.lst l))) m X P ↔ P (.pk i (.lst l)) m := ⟨fun h => h.go, fun h => ⟨h⟩⟩
@[simp] theorem W_holdIpd {i : Nat} {l : List (PyData × PyData)} {P : EV → Mem → Prop} : W (holdI (.pk i (.dic l))) m X P ↔ P (.pk i (.dic l)) m := ⟨fun h => h.go, fun h => ⟨h⟩⟩
@[simp] theorem W_holdIi {c : Str} {fs : List (Str × PyData)} {P : EV → Mem → Prop} : W (holdI (.new (.ins c fs))) m X P ↔ P (.d (insD c fs)) m := ⟨fun h => h.go, fun h => ⟨h⟩⟩
@[simp] theorem W_holdIpi {i : Nat} {c : Str} {fs : List (Str × PyData)} {P : EV → Mem → Prop} : W (holdI (.pk i (.ins c fs))) m X P ↔ P (.d (insD c fs)) (freezeM m i (insD c fs)) := ⟨fun h => h.go, fun h => ⟨h⟩⟩
@[simp] theorem W_cmpI {op : CmpOp} {tb : List (Str × Fn)} {fa fb : Pg EV} : W (evCmpI op tb fa fb) m X T ↔ W fa m X fun v m1 => W (holdI v) m1 X fun v' m2 => W fb m2 X fun u m3 => W (holdI u) m3 X fun u' m4 => W (cmpI op tb v' u') m4 X T := by
  unfold evCmpI
  simp only [W_bind]
@[simp] theorem W_cmpI2 {op : CmpOp} {tb : List (Str × Fn)} {v u : EV} : W (cmpI op tb v u) m X T ↔ W (look (opnd v) fun x => look (opnd u) fun y =>
  if isOwnC op x y then .bind (optP (ownC op tb x y)) fun h => .bind (optP (dA v)) fun a => .bind (optP (dA u)) fun b => callB h (if swpO op then [b, a] else [a, b]) (negO op)
  else optP (cmpS op x y)) m X T := Iff.rfl
@[simp] theorem W_callB {h : Fn} {args : List AV} {neg : Bool} : W (callB h args neg) m X T ↔ W (callS h args) m noX fun r m1 => ∃ b, r = .d (.bool b) ∧ T (if neg then !b else b) m1 := by
  unfold callB
  rw [W_bind, W_noThr]
  constructor
  · intro hh
    refine hh.mono fun r m1 q => ?_
    cases r with
    | d y =>
      cases y with
      | bool b => exact ⟨b, rfl, q.go⟩
      | _ => exact q.go.elim
    | _ => exact q.go.elim
  · intro hh
    refine hh.mono fun r m1 ⟨b, e, q⟩ => ?_
    subst e
    exact ⟨q⟩
@[simp] theorem dA_d {x : PyData} : dA (.d x) = some (.d x) := rfl
@[simp] theorem dA_c {n : Nat} : dA (.cell n) = some (.cell n) := rfl
end
end Ev

namespace Ev
open PySem PySem.Spec PyProof.Rows L2
/-! ### len(t), bool(t) of instances with a length of their own -/
section
variable {prog : Program} {w : World} {A : Around} {E : Value → Shared → Prop} {s : Shared} {K : PySem.W.Frag} {a C g : Addr} {ox : Obj} {od : Option Obj}
def LenBack (Q : Value → Shared → Prop) (v : Value) (s' : Shared) : Prop := ∃ (n : Int) (t : Tok), v = .int n t ∧ 0 ≤ n ∧ n < 2 ^ 63 ∧ ∀ (t' : Tok) (tk : Nat), Q (.int n t') { s' with toks := tk }
theorem len_bodyI {Q : Value → Shared → Prop} (X : K.In s.heap) (I : PySem.W.InstAt s.heap a ox C od) (hs : PySem.W.findIn K (.ref C) "__len__" = some (some (.ref g))) (hf : PySem.W.isFn K (.ref g) = true) (h : wpAny (model prog w) A (call (.ref g) [.ref a]) (LenBack Q) E s) :
    wpAny (model prog w) A (Builtin.«len» ⟨[.ref a], []⟩) (fun fin s' => ∃ r, fin = .done (.ret r) ∧ Q r s') E s := by
  unfold Builtin.«len»
  refine wpAny_bind (m := oneArg "len" _) (wpAny_pure ?_)
  refine wpAny_bind (m := callSpecial? (.ref a) (Str.ofString "__len__")) (PySem.W.special_fn X I hs (beq_iff_eq.mp hf) (wpAny_mono h (fun v s' hv => ?_) fun _ _ z => z))
  obtain ⟨n, t, rfl, h0, h1, hq⟩ := hv
  refine wpAny_bind (wpAny_holding (wpAny_pure ?_))
  refine wpAny_bind (wpAny_letGo ?_)
  show wpAny _ _ (if n < 0 then _ else _) _ _ _
  rw [if_neg (by omega)]
  show wpAny _ _ (if n ≥ 2 ^ 63 then _ else _) _ _ _
  rw [if_neg (by omega)]
  exact wpAny_bind (wpAny_mkInt (wpAny_pure ⟨_, rfl, hq _ _⟩))
theorem truthy_I {Q : Bool → Shared → Prop} (X : K.In s.heap) (I : PySem.W.InstAt s.heap a ox C od) (hb : PySem.W.findIn K (.ref C) "__bool__" = some none) (hs : PySem.W.findIn K (.ref C) "__len__" = some (some (.ref g))) (hf : PySem.W.isFn K (.ref g) = true)
    (h : wpAny (model prog w) A.in1 (call (.ref g) [.ref a]) (fun v s' => ∃ (n : Int) (t : Tok), v = .int n t ∧ 0 ≤ n ∧ n < 2 ^ 63 ∧ ∀ (tk : Nat), Q (n != 0) { s' with toks := tk }) E s) : wpAny (model prog w) A (truthy (.ref a)) Q E s := by
  have key : wpAny (model prog w) A (runValue (.builtin "len" ⟨[.ref a], []⟩)) (fun r s' => ∃ n t, r = .int n t ∧ Q (n != 0) s') E s := by
    refine wpAny_runValue (codeAny_builtin entry_len ?_)
    rw [Around.under_plainId plain_len _]
    refine wpAny_mono (len_bodyI (Q := fun r s' => ∃ n t, r = .int n t ∧ Q (n != 0) s') X I hs hf (wpAny_mono h (fun v s' hv => ?_) fun _ _ z => z)) (fun fin s' h' => by obtain ⟨r, rfl, hq⟩ := h'; exact hq) fun _ _ e => e
    obtain ⟨n, t, rfl, h0, h1, hq⟩ := hv
    exact ⟨n, t, rfl, h0, h1, fun t' tk => ⟨n, t', rfl, hq tk⟩⟩
  have hsp : ∀ {Q' : Option Value → Shared → Prop}, Q' (some (.ref g)) s → wpAny (model prog w) A (specialOf (.ref a) "__len__") Q' E s := fun q => by
    unfold specialOf
    exact wpAny_bind (I.type.here ((PySem.W.looks_findIn X hs).here q))
  have no : ∀ {Q' : Option Value → Shared → Prop}, Q' none s → wpAny (model prog w) A (callSpecial? (.ref a) (Str.ofString "__bool__") []) Q' E s := fun q => by
    unfold callSpecial? specialOf
    exact wpAny_bind (wpAny_bind (I.type.here ((PySem.W.looks_findIn X hb).here (wpAny_pure q))))
  unfold truthy
  first
    | refine wpAny_bind (no ?_)
    | refine wpAny_bind (wpAny_pure (wpAny_bind (no ?_)))
  first
    | refine wpAny_bind (hsp ?_)
    | refine wpAny_bind (wpAny_pure (wpAny_bind (hsp ?_)))
  first
    | exact wpAny_bind (wpAny_mono key (fun r s' h' => by obtain ⟨n, t, rfl, hq⟩ := h'; exact wpAny_pure hq) fun _ _ e => e)
    | exact wpAny_bind (wpAny_pure (wpAny_bind (wpAny_mono key (fun r s' h' => by obtain ⟨n, t, rfl, hq⟩ := h'; exact wpAny_pure hq) fun _ _ e => e)))
theorem bool_I {Q : Value → Shared → Prop} (h : wpAny (model prog w) A.in1.in1 (truthy (.ref a)) (fun b s' => Q (.bool b) s') E s) : wpAny (model prog w) A (call (.type "bool") [.ref a]) Q E s := by
  refine callType_codes (T := "bool") (Bi := Builtin.«object.__init__») (Q₁ := fun r s₁ => ∃ b, r = Value.bool b ∧ Q r s₁) PySem.F.called_bool (PySem.F.typeCall_bool_1 _) PySem.F.entry_object_init ?_ ?_
  · refine codeAny_of_tree ?_
    show wpAny _ A.in1.in1 (do checkBuiltinCall "bool.__new__" ⟨[.type "bool", .ref a], []⟩; again (.builtin "bool.__new__" ⟨[.type "bool", .ref a], []⟩)) _ _ s
    refine wpAny_bind (wpAny_of_eq (PySem.F.newCall_bool_1 _) (wpAny_pure ⟨plainId_quiet (by decide +kernel) _, codeAny_builtin PySem.F.entry_bool_new ?_⟩))
    rw [Around.under_plainId (by decide +kernel) _]
    have tr : ∀ {Q' : Bool → Shared → Prop}, (∀ b s', Q (.bool b) s' → Q' b s') → wpAny (model prog w) A.in1.in1 (truthy (.ref a)) Q' E s := fun k => wpAny_mono h (fun b s' hq => k b s' hq) fun _ _ z => z
    clear h
    obtain ⟨hp, gg, d, tk, os⟩ := s
    have f1 := PySem.F.conv_sub_bool
    unfold Builtin.«bool.__new__»
    repeat (any_goals (first | assumption | (with_reducible refine tr ?_) | wp_step))
    exact fun b s' hq => wpAny_pure ⟨b, rfl, hq⟩
  · rintro obj s₁ ⟨b, rfl, hq⟩
    exact ⟨rfl, PySem.F.args_object_init_2 _ _, object_init_meets PySem.F.called_bool.init.lookup PySem.F.called_bool.made (by decide) prog w A.in1 _ s₁ ⟨rfl, rfl, hq⟩⟩
end
section
variable {X : Cx} {B : XBt} {e : Expr} {fa : Pg EV} {pos p : Pos} {tb : List (Str × Fn)} {k : Nat} {x : Str}
/-- len and truth of instances -/
def LenT (X : Cx) (k : Nat) (tb : List (Str × Fn)) : Prop := ∀ c h, tb.lookup c = some h → ∀ D, ClsN X.K c D → ∃ g, PySem.W.findIn X.K (.ref D) "__len__" = some (some (.ref g)) ∧ PySem.W.findIn X.K (.ref D) "__bool__" = some none ∧ PySem.W.isFn X.K (.ref g) = true ∧ CodeP X.prog X.w X.K X.mg X.base k g [] h
def rLenI (X : Cx) (k : Nat) (bl : Bool) : List V → Hp → VK → Prop := fun xs H Q => ∃ (a D dx : Addr) (fs : List (Str × V)) (g : Addr) (h : Fn) (av : AV) (w : Wd), xs = [.ref a] ∧ w.H = H ∧ H a = some (.ins D dx fs) ∧ PySem.W.findIn X.K (.ref D) "__len__" = some (some (.ref g)) ∧ PySem.W.findIn X.K (.ref D) "__bool__" = some none ∧ PySem.W.isFn X.K (.ref g) = true ∧
  CodeP X.prog X.w X.K X.mg X.base k g [] h ∧ Rep X.K w ∧ RV X.K w av (.ref a) ∧ (callS h [av] w.m).wp (Pb X.K w fun r x H' => ∃ n : Int, x = .int n ∧ 0 ≤ n ∧ n < 2 ^ 63 ∧ Q (if bl then .bl (n != 0) else .int n) H') (fun _ _ => False)
theorem call_lenI (C : Ctx X B) (hr : Room (k + 1) X.A) : CallR X (.builtin "len") (rLenI X k false) := by
  intro pins s sg H xs us Q I r h
  obtain ⟨a, D, dx, fs, g, h, av, w, rfl, rfl, ha, hs, hb, hf, FP, rw, rv, q⟩ := h
  obtain ⟨u, rfl, ru⟩ := r.one
  obtain rfl : u = Value.ref a := ru
  obtain ⟨mA, O, _⟩ := ins_get I.hok ha
  obtain ⟨od, J, _⟩ := O.look
  refine Calls.call_function_entry kind_len plain_len entry_len (args_len1 _) (len_bodyI (Q := fun v s' => EP X pins sg Q v s') I.kIn J hs hf ?_)
  refine wpAny_mono (sp_run (us := [.ref a]) (xs := [.ref a]) FP C.gd hr.in1 I I.env0.in1 rw (.cons rv .nil) (.cons rfl .nil) q) (fun v' s' ⟨r', x', H', I', rl, n, e, h0, h1, q⟩ => ?_) fun _ _ x => x
  subst e
  obtain ⟨t, rfl⟩ := (show ∃ t, v' = Value.int n t from rl)
  exact ⟨n, t, rfl, h0, h1, fun t' tk => ⟨.int n, H', I'.tok tk, ⟨t', rfl⟩, q⟩⟩
theorem call_boolI (C : Ctx X B) (hr : Room (k + 3) X.A) : CallR X (.type "bool") (rLenI X k true) := by
  intro pins s sg H xs us Q I r h
  obtain ⟨a, D, dx, fs, g, h, av, w, rfl, rfl, ha, hs, hb, hf, FP, rw, rv, q⟩ := h
  obtain ⟨u, rfl, ru⟩ := r.one
  obtain rfl : u = Value.ref a := ru
  obtain ⟨mA, O, _⟩ := ins_get I.hok ha
  obtain ⟨od, J, _⟩ := O.look
  have hr3 : Room k X.A.in1.in1.in1 := (Room.in1 (Room.in1 hr)).in1
  refine bool_I (truthy_I I.kIn J hb hs hf ?_)
  refine wpAny_mono (sp_run (us := [.ref a]) (xs := [.ref a]) FP C.gd hr3 I I.env0.in1.in1.in1 rw (.cons rv .nil) (.cons rfl .nil) q) (fun v' s' ⟨r', x', H', I', rl, n, e, h0, h1, q⟩ => ?_) fun _ _ x => x
  subst e
  obtain ⟨t, rfl⟩ := (show ∃ t, v' = Value.int n t from rl)
  exact ⟨n, t, rfl, h0, h1, fun tk => ⟨.bl (n != 0), H', I'.tok tk, rfl, q⟩⟩
def lenR (bl : Bool) : EV → Pg EV
  | .d (.int n) => if 0 ≤ n ∧ n < 9223372036854775808 then .ret (.d (if bl then .bool (n != 0) else .int n)) else .stuck
  | _ => .stuck
def gBool : List PyData → Option EV
  | [.int i] => some (.d (.bool (i != 0)))
  | [.bool b] => some (.d (.bool b))
  | [.list xs] => some (.d (.bool (!xs.isEmpty)))
  | _ => none
theorem ok_bool : BOk X (.type "bool") gBool := by
  intro w ds xs v Q r h e k
  cases h with
  | nil => cases e
  | @cons d x ds xs h t =>
    cases t with
    | cons _ _ => cases d <;> cases e
    | nil =>
      cases d <;> try (cases e; done)
      · cases e
        rw [h.bl]
        exact ⟨_, call_bool1, .inr ⟨_, rfl, k.here r (.bl _)⟩⟩
      · cases e
        rw [h.int]
        exact ⟨_, call_bool1, .inl ⟨_, rfl, k.here r (.bl _)⟩⟩
      · rename_i ys
        cases e
        obtain ⟨a, vs, rfl, h1, h2⟩ := h.lst r.sub
        refine ⟨_, call_boolL, a, vs, rfl, h1.sq, ?_⟩
        have e : vs.isEmpty = ys.isEmpty := by cases h2 <;> rfl
        rw [e]
        exact k.here r (.bl _)
/-- len (bl = false), bool (bl = true) -/
def evLenI (bl : Bool) (tb : List (Str × Fn)) (fa : Pg EV) : Pg EV := .bind fa fun v => .bind (holdI v) fun v' => look (opnd v') fun x =>
  if (insC x).isSome then .bind (optP ((insC x).bind fun p => tb.lookup p.1)) fun h => .bind (optP (dA v')) fun a => .bind (noThr (callS h [a])) (lenR bl) else optP (if bl then gBool [x] else gLen [x])
theorem lenI_go {bl : Bool} {w : Wd} {Q : VK} {f : Value} {g : List PyData → Option EV} (hg : g = if bl then gBool else gLen) (hb : BOk X f g) (hc : CallR X f (rLenI X k bl)) (T : LenT X k tb) (ha : Snd X B e fa) (r : Rep X.K w) (h : (evLenI bl tb fa w.m).wp (PostE X.K w Q) (XW X.K B w)) :
    WE X e w.sg w.H fun x H1 => ∃ rr, CallR X f rr ∧ rr [x] H1 Q := by
  refine snd_then ha r h fun v w1 x e1 f1 r1 re h1 => ?_
  obtain ⟨v', w2, ev, s2, g2, f2, r2, re2⟩ := holdI_ok r1 re
  have h1 := wp_bind h1
  rw [ev] at h1
  obtain ⟨dx, ex, h1⟩ := look_ok h1
  have ro := (re2.ro r2).rn r2 ex
  rw [← g2]
  have po : ∀ {z : EV} {m : Mem}, PostE X.K w Q z m → PostE X.K w2 Q z m := fun q w' y em es f rp re => q w' y em (es.trans (s2.trans e1)) (f1.trans (f2.trans f)) rp re
  split at h1
  · obtain ⟨hh, eh, h1⟩ := wp_opt (wp_bind h1)
    obtain ⟨av, ea, h1⟩ := wp_opt (wp_bind h1)
    obtain ⟨⟨c, fs⟩, i1, eg⟩ := Option.bind_eq_some_iff.mp eh
    obtain ⟨ad, D, d1, vs, rfl, hcn, hd, _⟩ := insC_RN r2.sub ro i1
    obtain ⟨gd, t1, t2, t3, t4⟩ := T c hh eg D hcn
    refine ⟨_, hc, ad, D, d1, vs, gd, hh, av, w2, rfl, rfl, hd, t1, t2, t3, t4, r2, dA_ok re2 ea, ?_⟩
    refine (noThr_wp (wp_bind h1)).imp (fun rr m' q w' y em es f rp rre => ?_) fun _ _ z => z
    subst em
    cases rr with
    | d z =>
      cases z with
      | int n =>
        have q : ((if 0 ≤ n ∧ n < 9223372036854775808 then Pg.ret (EV.d (if bl then .bool (n != 0) else .int n)) else Pg.stuck) w'.m).wp (PostE X.K w Q) (XW X.K B w1) := q
        split at q
        · rename_i hn
          cases rre
          refine ⟨n, rfl, hn.1, by omega, ?_⟩
          cases bl with
          | true => exact po q w' _ rfl es f rp (.bl _)
          | false => exact po q w' _ rfl es f rp (.int _)
        · exact q.elim
      | _ => exact q.elim
    | _ => exact q.elim
  · have h1 : (optP (g [dx]) w2.m).wp (PostE X.K w Q) (XW X.K B w1) := by
      rw [hg]
      cases bl <;> exact h1
    obtain ⟨z, ez, q⟩ := wp_opt h1
    exact hb w2 [dx] [x] z Q r2 (.cons ro .nil) ez (PostE.keep (po q) rfl (FolE.refl _))
theorem snd_lenI (C : Ctx X B) (hr : Room (k + 3) X.A) (T : LenT X k tb) (hg : Gl X "len") (hm : X.mg "len" = none) (ha : Snd X B e fa) (he : starEach [e] X.env = (false, eval e X.env) :: starEach [] X.env := by rfl) (hpl : (backTo pos (starEach [] X.env)).any (·.1) = false := by rfl) :
    Snd X B (.Call (.Name "len" p) [e] [] pos) (evLenI false tb fa) := fun w Q r hw => we_of (pe_callB anyC hg hm rfl (pa_cons pe_w pa_nil he) (by decide) (by decide) he hpl) (lenI_go rfl ok_len (call_lenI C (hr.mono (by omega))) T ha r hw)
theorem snd_boolI (C : Ctx X B) (hr : Room (k + 3) X.A) (T : LenT X k tb) (hg : Gl X "bool") (hm : X.mg "bool" = none) (ha : Snd X B e fa) (he : starEach [e] X.env = (false, eval e X.env) :: starEach [] X.env := by rfl) (hpl : (backTo pos (starEach [] X.env)).any (·.1) = false := by rfl) :
    Snd X B (.Call (.Name "bool" p) [e] [] pos) (evLenI true tb fa) := fun w Q r hw => we_of (pe_callTy anyC hg hm rfl (pa_cons pe_w pa_nil he) (by decide) (by decide) he hpl) (lenI_go rfl ok_bool (call_boolI C hr) T ha r hw)
end
section
variable {m : Mem} {X : Exn → Mem → Prop} {E : EV → Mem → Prop}
@[simp] theorem gBool_i {i : Int} : gBool [.int i] = some (.d (.bool (i != 0))) := rfl
@[simp] theorem gBool_b {b : Bool} : gBool [.bool b] = some (.d (.bool b)) := rfl
@[simp] theorem gBool_l {xs : List PyData} : gBool [.list xs] = some (.d (.bool (!xs.isEmpty))) := rfl
@[simp] theorem W_lenR {bl : Bool} {n : Int} : W (lenR bl (.d (.int n))) m X E ↔ (0 ≤ n ∧ n < 9223372036854775808) ∧ E (.d (if bl then .bool (n != 0) else .int n)) m := by
  show W (if 0 ≤ n ∧ n < 9223372036854775808 then Pg.ret _ else Pg.stuck) m X E ↔ _
  rw [W_if, W_ret, W_stuck]
  exact ⟨fun ⟨h1, h2⟩ => (by
    by_cases q : 0 ≤ n ∧ n < 9223372036854775808
    · exact ⟨q, h1 q⟩
    · exact (h2 q).elim), fun ⟨h1, h2⟩ => ⟨fun _ => h2, fun z => (z h1).elim⟩⟩
@[simp] theorem W_lenI {bl : Bool} {tb : List (Str × Fn)} {fa : Pg EV} : W (evLenI bl tb fa) m X E ↔ W fa m X fun v m1 => W (holdI v) m1 X fun v' m2 => W (look (opnd v') fun x =>
  if (insC x).isSome then .bind (optP ((insC x).bind fun p => tb.lookup p.1)) fun h => .bind (optP (dA v')) fun a => .bind (noThr (callS h [a])) (lenR bl) else optP (if bl then gBool [x] else gLen [x])) m2 X E := by
  unfold evLenI
  simp only [W_bind]
end
end Ev

namespace Ev
open PySem PySem.Spec PyProof.Rows L2
/-! ### the tables of special methods, from the module's facts -/
def REq (K : PySem.W.Frag) (D g : Addr) : Prop := PySem.W.findIn K (.ref D) "__eq__" = some (some (.ref g)) ∧ PySem.W.isFn K (.ref g) = true ∧ PySem.W.findIn K (.ref D) "__ne__" = some (some (.builtin "object.__ne__")) ∧ PySem.W.mroIn K D (.type "object") = some true
def RCon (K : PySem.W.Frag) (D g : Addr) : Prop := PySem.W.findIn K (.ref D) "__contains__" = some (some (.ref g)) ∧ PySem.W.isFn K (.ref g) = true
def RLen (K : PySem.W.Frag) (D g : Addr) : Prop := PySem.W.findIn K (.ref D) "__len__" = some (some (.ref g)) ∧ PySem.W.isFn K (.ref g) = true ∧ PySem.W.findIn K (.ref D) "__bool__" = some none
section
variable {K : PySem.W.Frag} {C f : Addr}
theorem req_mk (a : PySem.W.findIn K (.ref C) "__eq__" = some (some (.ref f))) (b : PySem.W.isFn K (.ref f) = true) (d : PySem.W.findIn K (.ref C) "__ne__" = some (some (.builtin "object.__ne__"))) (e : PySem.W.mroIn K C (.type "object") = some true) : REq K C f := ⟨a, b, d, e⟩
theorem rcon_mk (a : PySem.W.findIn K (.ref C) "__contains__" = some (some (.ref f))) (b : PySem.W.isFn K (.ref f) = true) : RCon K C f := ⟨a, b⟩
theorem rlen_mk (a : PySem.W.findIn K (.ref C) "__len__" = some (some (.ref f))) (b : PySem.W.isFn K (.ref f) = true) (d : PySem.W.findIn K (.ref C) "__bool__" = some none) : RLen K C f := ⟨a, b, d⟩
end
section
variable {X : Cx} {B : XBt} {k : Nat} {op : CmpOp} {c : Str} {tb : List (Str × Fn)} {h : Fn}
theorem cmpT_nil : CmpT X k op [] := fun c h e => by cases e
theorem cmpT_eq (ho : swpO op = false) (m : MemC X.prog X.w X.K X.mg X.base k c (REq X.K) [] h) (t : CmpT X k op tb) : CmpT X k op ((c, h) :: tb) := by
  obtain ⟨D, g, h1, h2, ⟨a1, a2, a3, a4⟩, h4⟩ := m
  intro c' h' e D' hD
  rw [List.lookup_cons] at e
  cases q : c' == c with
  | true =>
    rw [q] at e
    cases e
    have q := eq_of_beq q
    subst q
    rw [hD.one h1]
    exact ⟨g, by rw [ho]; exact a1, a2, fun _ => ⟨a3, a4⟩, h4⟩
  | false =>
    rw [q] at e
    exact t c' h' e D' hD
theorem cmpT_in (ho : swpO op = true) (m : MemC X.prog X.w X.K X.mg X.base k c (RCon X.K) [] h) (t : CmpT X k op tb) : CmpT X k op ((c, h) :: tb) := by
  obtain ⟨D, g, h1, h2, ⟨a1, a2⟩, h4⟩ := m
  intro c' h' e D' hD
  rw [List.lookup_cons] at e
  cases q : c' == c with
  | true =>
    rw [q] at e
    cases e
    have q := eq_of_beq q
    subst q
    rw [hD.one h1]
    exact ⟨g, by rw [ho]; exact a1, a2, (fun z => by subst z; cases ho), h4⟩
  | false =>
    rw [q] at e
    exact t c' h' e D' hD
theorem lenT_nil : LenT X k [] := fun c h e => by cases e
theorem lenT_m (m : MemC X.prog X.w X.K X.mg X.base k c (RLen X.K) [] h) (t : LenT X k tb) : LenT X k ((c, h) :: tb) := by
  obtain ⟨D, g, h1, h2, ⟨a1, a2, a3⟩, h4⟩ := m
  intro c' h' e D' hD
  rw [List.lookup_cons] at e
  cases q : c' == c with
  | true =>
    rw [q] at e
    cases e
    have q := eq_of_beq q
    subst q
    rw [hD.one h1]
    exact ⟨g, a1, a3, a2, h4⟩
  | false =>
    rw [q] at e
    exact t c' h' e D' hD
end
end Ev

namespace Ev
open PySem PySem.Spec PyProof.Rows L2
/-! ### isinstance against own classes, instances among what is asked -/
structure InsF (K : PySem.W.Frag) (D : Addr) : Prop where
  cl : L2.Cls K D
  ha : PySem.W.findIn K (.ref D) "__class__" = some (some (.builtin "object.__class__"))
  hn : PySem.W.specialIn K (.builtin "object.__class__") "__get__" = some (some (.builtin "getset_descriptor.__get__"))
  ht : PySem.W.takesIn K (.builtin "object.__class__") = some true
  hm : PySem.W.mroIn K D (.type "object") = some true
def insB (K : PySem.W.Frag) (D : Addr) : Bool := decide (PySem.W.findIn K (.ref D) "__class__" = some (some (.builtin "object.__class__"))) && decide (PySem.W.specialIn K (.builtin "object.__class__") "__get__" = some (some (.builtin "getset_descriptor.__get__"))) &&
  decide (PySem.W.takesIn K (.builtin "object.__class__") = some true) && decide (PySem.W.mroIn K D (.type "object") = some true)
theorem insF_mk {K : PySem.W.Frag} {D : Addr} (c : L2.Cls K D) (h : insB K D = true) : InsF K D := by
  unfold insB at h
  simp only [Bool.and_eq_true, decide_eq_true_eq] at h
  exact ⟨c, h.1.1.1, h.1.1.2, h.1.2, h.2⟩
def IsiN (K : PySem.W.Frag) (us : List Value) (t3 : List (Str × Bool)) : Prop := ∀ c b, t3.lookup c = some b → ∀ D, ClsN K c D → InsF K D ∧ PySem.W.kitAny K (.ref D) us = some b
theorem isiN_nil {K : PySem.W.Frag} {us : List Value} : IsiN K us [] := fun c b h => by cases h
theorem isiN_cons {K : PySem.W.Frag} {us : List Value} {c : Str} {b : Bool} {D : Addr} {t3 : List (Str × Bool)} (hc : ClsN K c D) (f : InsF K D) (hk : PySem.W.kitAny K (.ref D) us = some b) (t : IsiN K us t3) : IsiN K us ((c, b) :: t3) := fun c' b' e D' hD => by
  rw [List.lookup_cons] at e
  cases q : c' == c with
  | true =>
    rw [q] at e
    cases e
    have q := eq_of_beq q
    subst q
    rw [hD.one hc]
    exact ⟨f, hk⟩
  | false =>
    rw [q] at e
    exact t c' b' e D' hD
def isMN (t1 : List (String × Bool)) (t2 t3 : List (Str × Bool)) (x : PyData) : Option Bool := match insC x with
  | some p => t3.lookup p.1
  | none => isMB t1 t2 x
def evIsN (t1 : List (String × Bool)) (t2 t3 : List (Str × Bool)) (f : Pg EV) : Pg EV := .bind f fun v => look (opnd v) fun x => optP ((isMN t1 t2 t3 x).map fun b => EV.d (.bool b))
theorem isN_kit {X : Cx} {w : Wd} (s : Same w.F w.H) {us : List Value} {t1 : List (String × Bool)} {t2 t3 : List (Str × Bool)} (hI : IsiC X.K us t1 t2) (hN : IsiN X.K us t3) {x : PyData} {v : V} {b : Bool} (h : RN X.K w x v) (e : isMN t1 t2 t3 x = some b) :
    ∃ t, KitH X.K w.H v t ∧ PySem.W.kitAny X.K t us = some b := by
  unfold isMN at e
  cases q : insC x with
  | none =>
    rw [q] at e
    exact isB_kit s hI h e
  | some p =>
    obtain ⟨c, fs⟩ := p
    rw [q] at e
    obtain ⟨a, D, dx, vs, rfl, hc, ha, _⟩ := insC_RN s h q
    obtain ⟨E, hk⟩ := hN c b e D hc
    exact ⟨_, .inl (.base (.ins ha E.cl E.ha E.hn E.ht E.hm)), hk⟩
def IsFN (K : PySem.W.Frag) (mg : Str → Option Value) (ns : List Str) (t1 : List (String × Bool)) (t2 t3 : List (Str × Bool)) : Prop := ∃ us, Paired (NmC mg) ns us ∧ IsiC K us t1 t2 ∧ IsiN K us t3
theorem isFN_mk {K : PySem.W.Frag} {mg : Str → Option Value} {ns : List Str} {us : List Value} {t1 : List (String × Bool)} {t2 t3 : List (Str × Bool)} (h : Paired (NmC mg) ns us) (h1 : (t1.all fun p => decide (PySem.W.kitAny K (.type p.1) us = some p.2)) = true) (h2 : ∀ p, p ∈ t2 → ∃ D, ClsN K p.1 D ∧ ExcF K D ∧ PySem.W.kitAny K (.ref D) us = some p.2) (h3 : IsiN K us t3) : IsFN K mg ns t1 t2 t3 :=
  ⟨us, h, isiC_mk (fun p hp => of_decide_eq_true (List.all_eq_true.mp h1 p hp)) h2, h3⟩
section
variable {X : Cx} {B : XBt} {e c : Expr} {f : Pg EV} {p1 pos : Pos} {ns : List Str} {t1 : List (String × Bool)} {t2 t3 : List (Str × Bool)}
theorem snd_isan (h : Snd X B e f) (hg : Gl X "isinstance") (hm : X.mg "isinstance" = none) (hI : IsFN X.K X.mg ns t1 t2 t3) (hc : NmL X [c] ns)
    (he : starEach [e, c] X.env = (false, eval e X.env) :: starEach [c] X.env := by rfl) (hpl : (backTo pos (starEach [c] X.env)).any (·.1) = false := by rfl) : Snd X B (.Call (.Name "isinstance" p1) [e, c] [] pos) (evIsN t1 t2 t3 f) := by
  obtain ⟨us, hp, hI, hN⟩ := hI
  obtain ⟨cs, hc, _⟩ := clsL_of hc hp
  intro w Q r hw
  refine we_of (pe_callB call_isM hg hm rfl (pa_cons pe_w hc.pa he) (by decide) (by decide) he hpl) ?_
  refine snd_then h r hw fun v w1 y e1 f1 r1 re h1 => ?_
  obtain ⟨d, ed, h1⟩ := look_ok h1
  obtain ⟨z, ez, q⟩ := wp_opt h1
  cases eb : isMN t1 t2 t3 d with
  | none =>
    rw [eb] at ez
    cases ez
  | some b =>
    rw [eb] at ez
    cases ez
    obtain ⟨t, hk, ek⟩ := isN_kit r1.sub hI hN ((re.ro r1).rn r1 ed) eb
    cases hc with
    | cons _ k _ ht =>
      cases ht
      exact ⟨y, _, t, _, b, rfl, hk, ek, .inl ⟨_, rfl, k⟩, q w1 (.bl b) rfl e1 f1 r1 (.bl b)⟩
end
@[simp] theorem W_isN {m : Mem} {X : Exn → Mem → Prop} {E : EV → Mem → Prop} {t1 : List (String × Bool)} {t2 t3 : List (Str × Bool)} {f : Pg EV} : W (evIsN t1 t2 t3 f) m X E ↔ W f m X fun v m1 => W (look (opnd v) fun x => optP ((isMN t1 t2 t3 x).map fun b => EV.d (.bool b))) m1 X E := by
  unfold evIsN
  rw [W_bind]
end Ev

namespace Ev
open PySem PySem.Spec PyProof.Rows L2
/-! ### defs with defaults of positional parameters (and keyword-only ones) -/
structure FunA (K : PySem.W.Frag) (x qual : Str) (st : Stmt) (f : Addr) (fd : FuncData) : Prop where
  ex : ∃ (oc : Value) (od : Option Addr) (dV kV doc pm : Value) (an : Option Addr) (cdv ct : Value) (osl : Array (Option Value)),
    fd = PySem.W.fnOf x qual (defArgs st) (defBody st) (defScope st) dV kV doc pm an cdv ct ∧ K.lookup f = some ⟨oc, od, .func fd, osl⟩ ∧ PySem.W.codeIn K cdv qual = true
section
variable {P : Program} {w : World} {K : PySem.W.Frag} {mg : Str → Option Value} {base : Heap}
theorem fun_gA {x qual : Str} {st : Stmt} {f : Addr} {fd : FuncData} {N ps : List Str} {k : Nat} {fb : Pg Fl} (F : FunA K x qual st f fd) (S : FnScope N ps (defScope st)) (sm : SM base)
    (hbody : ∀ (cdv : Value) (A : Around) (outer : List Env) (s : Shared) (H : Hp) (E : XK) (B : XBt), Ctx (cxOf (L2.CX P w) P w K mg base N qual (defScope st) f cdv A outer s H E) B → PassesOwn (model P w) (cxOf (L2.CX P w) P w K mg base N qual (defScope st) f cdv A outer s H E).A (cxOf (L2.CX P w) P w K mg base N qual (defScope st) f cdv A outer s H E).env (cxOf (L2.CX P w) P w K mg base N qual (defScope st) f cdv A outer s H E).xe →
      Room k (cxOf (L2.CX P w) P w K mg base N qual (defScope st) f cdv A outer s H E).A →
      SndB (cxOf (L2.CX P w) P w K mg base N qual (defScope st) f cdv A outer s H E) B (defBody st) fb) : FnG P w K mg base (k + 1) f fd ps (spG K ps.length (runFn N.length fb)) := by
  obtain ⟨oc, od, dV, kV, doc, pm, an, cdv, ct, osl, rfl, lk, hcd⟩ := F.ex
  refine ⟨spG_len rfl, fun A outer s H args Q E hg hr e0 hb => ?_⟩
  refine StX.run_bnd (k := k) lk hcd S hr e0 hb fun s2 H2 vs hsp rm => ?_
  obtain ⟨w0, as, z1, z2, z3, zz, r0, rv, hn, hc⟩ := hsp
  subst z3
  let B : XBt := fun x w' => ∀ cls d, ExAt K w' x cls d → E cls d w'.H
  have C : Ctx (cxOf (L2.CX P w) P w K mg base N qual (defScope st) f cdv A outer s2 w0.H E) B := ⟨rfl, hg, rm.mono (Nat.zero_le _), S.nd, sm, (takes_of rfl rfl rfl rfl).imp fun cls d sg H ⟨x, w', _, _, eH, ex, b⟩ => eH ▸ b cls d ex⟩
  have body := hbody cdv A outer s2 w0.H E B C (passes_of rfl) rm
  have re := entry_rep (N := N) r0 rv
  have hw : (fb (entry N w0 as vs).m).wp (PostS K (entry N w0 as vs) { nx := fun _ H' => Q .non H', rt := Q }) (XW K B (entry N w0 as vs)) := by
    refine (endR_ok (r := fb ⟨startS N.length as, w0.m.cs⟩) hc).imp (fun fl m' q w' em fol r' => ?_) fun x m' q w' em fol r' => ?_
    · subst em
      have fo : FolS w0 { w' with m := ⟨[], w'.m.cs⟩, sg := [] } := ⟨fol.z, fol.t, fol.ext, fol.pre, fol.frm, fol.new, fol.liv, fol.grow⟩
      cases fl with
      | next => exact q { w' with m := ⟨[], w'.m.cs⟩, sg := [] } .non rfl rfl rfl fo (out_rep r') .non
      | brk => exact q.elim
      | cont => exact q.elim
      | ret v => exact fun x re => q { w' with m := ⟨[], w'.m.cs⟩, sg := [] } x rfl rfl rfl fo (out_rep r') (out_re r' re)
    · subst em
      exact fun cls d ex => q { w' with m := ⟨[], w'.m.cs⟩, sg := [] } rfl rfl rfl ⟨fol.z, fol.t, fol.ext, fol.pre, fol.frm, fol.new, fol.liv, fol.grow⟩ (out_rep r') cls d ex
  exact ⟨_, pb_w, body (entry N w0 as vs) _ re hw⟩
end
/-- a def of the module with both kinds of defaults -/
def FME (K : PySem.W.Frag) (mg : Str → Option Value) (x : Str) (st : Stmt) (dvs : List V) (kws : List (Str × V)) : Prop := ∃ (f : Addr) (fd : FuncData), FunD K x x (defArgs st) (defBody st) (defScope st) dvs kws f fd ∧ mg x = some (.ref f)
section
variable {P : Program} {w : World} {K : PySem.W.Frag} {mg : Str → Option Value} {base : Heap} {x : Str} {st : Stmt} {ps : List Str} {dvs : List V} {kws : List (Str × V)} {g : Fn} {j k q : Nat}
theorem funE_fn {f : Addr} {fd : FuncData} (F : FunD K x x (defArgs st) (defBody st) (defScope st) dvs kws f fd) : FunA K x x st f fd := by
  obtain ⟨oc, od, dV, kV, doc, pm, an, cdv, ct, osl, e, lk, hcd, _, _⟩ := F.ex
  exact ⟨oc, od, dV, kV, doc, pm, an, cdv, ct, osl, e, lk, hcd⟩
theorem hasE_of (h : FME K mg x st dvs kws) (hk : j ≤ k) (ok : ∀ {f : Addr} {fd : FuncData}, FunA K x x st f fd → FnG P w K mg base j f fd ps (spG K ps.length g)) (n : Nat) (ks : List Str) (ms : List (Str × V)) (is : List Nat) (dp dm : List PyData) (hd : dvs ≠ []) (hne : kws ≠ []) (hms : ∀ q ∈ ms, q ∈ kws)
    (hdp : ∀ F : Hp, RA K F dp dvs) (hds : ∀ F : Hp, RA K F dm (ms.map (·.2)))
    (hb : ∀ (T D : Addr) (doc pm : Value) (an : Option Addr) (cdv ct : Value) (us its mv ws : List Value), us.length = n → its.length = dvs.length → mv.length = ms.length → ws.length = ks.length →
      ∃ kk, bindArgs (PySem.W.fnOf x x (defArgs st) (defBody st) (defScope st) (.ref T) (.ref D) doc pm an cdv ct) ⟨us, ks.zip ws⟩ = seqItems? (.ref T) >>= kk ∧ KwChain D ((ms.map (·.1)).zip mv) (kk (some its.toArray)) (ps.zip (pick is (us ++ ws ++ (its ++ mv))))) :
    ∃ (f : Addr) (fd : FuncData) (dv : List Value) (dvs' : List V), FnG P w K mg base k f fd ps (spG K ps.length g) ∧ mg x = some (.ref f) ∧ PySem.W.keepIn K (.ref f) = true ∧ Vals dvs' dv ∧ (∀ F : Hp, RA K F (dp ++ dm) dvs') ∧
      ∀ (s : Shared) (us ws : List Value), K.In s.heap → us.length = n → ws.length = ks.length → BindsTo s fd ⟨us, ks.zip ws⟩ (ps.zip (pick is (us ++ ws ++ dv))) := by
  obtain ⟨f, fd, F, hm⟩ := h
  have F' := funE_fn F
  obtain ⟨oc, od, dV, kV, doc, pm, an, cdv, ct, osl, rfl, lk, hcd, hD, hK⟩ := F.ex
  rcases hD with ⟨e, _⟩ | ⟨_, T, o, its, m, rfl, lT, oT, rT⟩
  · exact absurd e hd
  · rcases hK with e | ⟨D, rfl, hq⟩
    · exact absurd e hne
    · obtain ⟨mv, hl, rk, hks⟩ := kwd_vals (ms := ms) fun q hm => hq q (hms q hm)
      refine ⟨f, _, its ++ mv, dvs ++ ms.map (·.2), (ok F').up hk, hm, F.kp, rT.append rk, fun F => (hdp F).app (hds F), fun s us ws X l1 l2 => BindsTo.of_looks fun M => ?_⟩
      obtain ⟨kk, e1, e2⟩ := hb T D doc pm an cdv ct us its mv ws l1 rT.length.symm hl l2
      rw [e1]
      exact looks_items X lT oT (KwChain.looks X hks e2)
theorem fme_of {f D T : Addr} {oc : Value} {od an : Option Addr} {osl : Array (Option Value)} {doc pm cdv ct : Value} {o : Obj} {its : List Value} {m : Nat} (hm : mg x = some (.ref f)) (l : K.lookup f = some ⟨oc, od, .func (PySem.W.fnOf x x (defArgs st) (defBody st) (defScope st) (.ref T) (.ref D) doc pm an cdv ct), osl⟩)
    (c : PySem.W.codeIn K cdv x = true) (k : PySem.W.keepIn K (.ref f) = true) (hd : dvs ≠ []) (lT : K.lookup T = some o) (oT : o.data = .seq its.toArray m) (rT : Vals dvs its) (h : ∀ q ∈ kws, ∃ u, PySem.W.nsIn K D q.1 = some (some u) ∧ RelV q.2 u) : FME K mg x st dvs kws :=
  ⟨f, _, ⟨⟨oc, od, .ref T, .ref D, doc, pm, an, cdv, ct, osl, rfl, l, c, .inr ⟨hd, T, o, its, m, rfl, lT, oT, rT⟩, .inr ⟨D, rfl, h⟩⟩, k⟩, hm⟩
end
section
variable {P : Program} {w : World} {K : PySem.W.Frag} {mg : Str → Option Value} {base : Heap}
theorem fun_nA {x qual : Str} {st : Stmt} {f : Addr} {fd : FuncData} {N ps : List Str} {k n m : Nat} {fb : Pg Fl} (F : FunA K x qual st f fd) (S : FnScope N ps (defScope st)) (sm : SM base) (hn : N.length = n) (hm : ps.length = m)
    (hbody : ∀ (cdv : Value) (A : Around) (outer : List Env) (s : Shared) (H : Hp) (E : XK) (B : XBt), Ctx (cxOf (L2.CX P w) P w K mg base N qual (defScope st) f cdv A outer s H E) B → PassesOwn (model P w) (cxOf (L2.CX P w) P w K mg base N qual (defScope st) f cdv A outer s H E).A (cxOf (L2.CX P w) P w K mg base N qual (defScope st) f cdv A outer s H E).env (cxOf (L2.CX P w) P w K mg base N qual (defScope st) f cdv A outer s H E).xe →
      Room k (cxOf (L2.CX P w) P w K mg base N qual (defScope st) f cdv A outer s H E).A →
      SndB (cxOf (L2.CX P w) P w K mg base N qual (defScope st) f cdv A outer s H E) B (defBody st) fb) : FnG P w K mg base (k + 1) f fd ps (spG K m (runFn n fb)) := by
  subst hn hm
  exact fun_gA F S sm hbody
end
/-! ### o.pop(e) as a value, o a shared list -/
def isLC : EV → Pg Unit
  | .cell c => fun m => match m.cs[c]? with
    | some (.lst _) => .ok () m
    | _ => .bad
  | _ => .stuck
def popC : EV → EV → Pg EV
  | .cell c, .d (.int n) => fun m => match m.cs[c]? with
    | some (.lst xs) => if 0 ≤ n ∧ n < 9223372036854775808 then (match xs[n.toNat]? with
        | some d => .ok (.d d) { m with cs := m.cs.set c (.lst (xs.eraseIdx n.toNat)) }
        | none => .bad) else .bad
    | _ => .bad
  | _, _ => .stuck
def evPopC (fo f : Pg EV) : Pg EV := .bind fo fun o => .bind (isLC o) fun _ => .bind f fun v => popC o v
theorem RA.eraseIdx {K : PySem.W.Frag} {F : Hp} {ds : List PyData} {vs : List V} (a : RA K F ds vs) (n : Nat) : RA K F (ds.eraseIdx n) (vs.eraseIdx n) := by
  rw [List.eraseIdx_eq_take_drop_succ, List.eraseIdx_eq_take_drop_succ]
  exact (a.take _).app (a.drop _)
section
variable {X : Cx} {B : XBt} {o e : Expr} {fo f : Pg EV}
theorem snd_popC {p2 p3 : Pos} (ho : Snd X B o fo) (he : Snd X B e f)
    (hbase : attributeBase o "pop" X.env (eval o X.env) = eval o X.env := by rfl)
    (hfew : ((backTo p3 (starEach [e] X.env)).all (fun x => !x.1) && (backToKw p3 (keywordEach [] X.env)).all (fun x => x.1.isSome) && decide ([e].length + ([] : List Keyword).length + (if ([] : List Keyword).isEmpty then 0 else 1) < 30)) = true := by rfl)
    (hline : (p2.endLine == p3.line) = true := by rfl) (hst : starEach [e] X.env = (false, eval e X.env) :: starEach [] X.env := by rfl) :
    Snd X B (.Call (.Attribute o "pop" p2) [e] [] p3) (evPopC fo f) := by
  intro w Q r hw
  refine we_of (pe_bm PySem.F.plainAttrs_list PySem.F.slot_list_pop PySem.F.type_list_pop mt_popAt pe_w (pa_cons pe_w pa_nil hst) hbase hfew hline hst rfl) ?_
  refine snd_then ho r hw fun u w0 x e0 f0 r0 re0 h0 => ?_
  cases u with
  | new _ => exact h0.elim
  | pk _ _ => exact h0.elim
  | d _ => exact h0.elim
  | cell c =>
    obtain ⟨a, rfl, hp⟩ := re0
    have h0 := wp_bind h0
    unfold isLC at h0
    dsimp only at h0
    split at h0
    · rename_i xs0 g0
      obtain ⟨a', hp', us, k0, _⟩ := r0.cs c _ g0
      rw [hp] at hp'
      cases hp'
      refine ⟨.inl ⟨rfl, us, .inl (.inl k0)⟩, ?_⟩
      rw [← e0]
      have h0 : (Pg.bind f (fun v => popC (.cell c) v) w0.m).wp (PostE X.K w Q) (XW X.K B w0) := h0
      refine snd_then he r0 h0 fun v w1 y e1 f1 r1 re h1 => ?_
      cases v with
      | new _ => exact h1.elim
      | pk _ _ => exact h1.elim
      | cell _ => exact h1.elim
      | d z =>
        cases z <;> try exact h1.elim
        rename_i n
        have h1 : ((match w1.m.cs[c]? with
          | some (.lst xs) => if 0 ≤ n ∧ n < 9223372036854775808 then (match xs[n.toNat]? with
            | some d => .ok (.d d) { w1.m with cs := w1.m.cs.set c (.lst (xs.eraseIdx n.toNat)) }
            | none => .bad) else .bad
          | _ => .bad) : Res EV).wp (PostE X.K w Q) (XW X.K B w1) := h1
        split at h1
        · rename_i xs g1
          split at h1
          · rename_i hn
            split at h1
            · rename_i d hx
              obtain ⟨a2, hp2, vs, g5, g6⟩ := r1.cs c _ g1
              have hp1 := f1.at hp
              rw [hp1] at hp2
              cases hp2
              obtain ⟨v', hv', rv⟩ := g6.get hx
              obtain ⟨r3, f3⟩ := cell_ok (o' := .lst (xs.eraseIdx n.toNat)) (u := .lst (vs.eraseIdx n.toNat)) r1 g1 hp1 ⟨_, upd_same, g6.eraseIdx _⟩ (.inl fun _ _ z => by cases z)
              cases re
              have hlt := (List.getElem?_eq_some_iff.mp hv').1
              refine ⟨a, vs, n, n.toNat, v', rfl, rfl, g5, by omega, by omega, ?_, hv', ?_⟩
              · have h0 : ¬ n < 0 := by omega
                have h2 : (decide (0 ≤ n) && decide (n < (vs.length : Int))) = true := by
                  rw [Bool.and_eq_true, decide_eq_true_iff, decide_eq_true_iff]
                  omega
                simp only [seqIndex?, h0, if_false, h2, if_true]
              exact h1 { w1 with m := { w1.m with cs := w1.m.cs.set c (.lst (xs.eraseIdx n.toNat)) }, H := upd w1.H a (.lst (vs.eraseIdx n.toNat)) } v' rfl (e1.trans e0) ((f0.trans f1).trans f3) r3 rv
            · exact h1.elim
          · exact h1.elim
        · exact h1.elim
    · exact h0.elim
end
@[simp] theorem W_evPopC {fo f : Pg EV} {m : Mem} {X : Exn → Mem → Prop} {F : EV → Mem → Prop} : W (evPopC fo f) m X F ↔ W fo m X fun o m1 => W (isLC o) m1 X fun _ m2 => W f m2 X fun v m3 => W (popC o v) m3 X F := by
  unfold evPopC
  simp only [W_bind]
end Ev

namespace Ev
open PySem PySem.Spec PyProof.Rows L2
/-! ### a lambda without parameters, handed to a def that calls it -/
/-- a() in the def that got the thunk t in slot i -/
noncomputable def evAct (i : Nat) (t : Thk) (th : Pg EV) : Pg EV := fun m => open Classical in if m.sl[i]? = some (some (.thk t)) then th m else .bad
def keepD : Option SV → Option SV
  | some (.d x) => some (.d x)
  | some (.cell n) => some (.cell n)
  | _ => none
/-- the lambda's body over the slots as they were -/
def thunk (sl : List (Option SV)) (fl : Pg EV) : Pg EV := fun m => match fl ⟨sl, m.cs⟩ with
  | .ok v m' => .ok (outE v) ⟨m.sl, m'.cs⟩
  | .thr x m' => .thr x ⟨m.sl, m'.cs⟩
  | .bad => .bad
theorem thunk_ok {sl : List (Option SV)} {fl : Pg EV} {m : Mem} {P : EV → Mem → Prop} {E : Exn → Mem → Prop} (h : (thunk sl fl m).wp P E) : (fl ⟨sl, m.cs⟩).wp (fun v m' => P (outE v) ⟨m.sl, m'.cs⟩) (fun x m' => E x ⟨m.sl, m'.cs⟩) := by
  unfold thunk at h
  cases q : fl ⟨sl, m.cs⟩ with
  | ok v m' => rw [q] at h; exact h
  | thr x m' => rw [q] at h; exact h
  | bad => rw [q] at h; exact h
def capR (K : PySem.W.Frag) (F : Hp) (ro : List Addr) : SV → V → Prop
  | .d y, x => R K F y x
  | .cell n, x => ∃ a, x = .ref a ∧ ro[n]? = some a
  | _, _ => False
/-- what is known of the captured slots -/
def capP (K : PySem.W.Frag) (sl : List (Option SV)) (sg : L2.St) : Hp → List Addr → Prop := fun F ro => ∀ (i : Nat) (v : SV), sl[i]? = some (some v) → ∃ x, sg[i]? = some (some x) ∧ capR K F ro v x
theorem capP_mono {K : PySem.W.Frag} {sl : List (Option SV)} {sg : L2.St} (F F' : Hp) (ro ro' : List Addr) (s : ∀ b o, F b = some o → F' b = some o) (p : ∃ t, ro' = ro ++ t) (h : capP K sl sg F ro) : capP K sl sg F' ro' := fun i v e => by
  obtain ⟨x, h1, h2⟩ := h i v e
  refine ⟨x, h1, ?_⟩
  cases v with
  | d y => exact R.mono (fun b o e => s b o e) h2
  | cell n =>
    obtain ⟨a, e1, e2⟩ := h2
    obtain ⟨t, e3⟩ := p
    refine ⟨a, e1, ?_⟩
    rw [e3, List.getElem?_append_left (List.getElem?_eq_some_iff.mp e2).1]
    exact e2
  | ob o => exact h2
  | thk t => exact h2
theorem cap_of {K : PySem.W.Frag} {w : Wd} (r : Rep K w) : capP K (w.m.sl.map keepD) w.sg w.F w.ro := fun i v e => by
  rw [List.getElem?_map] at e
  cases es : w.m.sl[i]? with
  | none => rw [es] at e; cases e
  | some o =>
    rw [es] at e
    have e : keepD o = some v := Option.some.inj e
    cases o with
    | none => cases e
    | some sv =>
      obtain ⟨x, h1, h2⟩ := r.sl i sv es
      cases sv with
      | d y => cases e; exact ⟨x, h1, h2⟩
      | cell n => cases e; exact ⟨x, h1, h2⟩
      | ob o => cases e
      | thk t => cases e
/-- the world in which the body runs -/
def lamW (w : Wd) (sl : List (Option SV)) (sg : L2.St) : Wd := { F := w.F, ro := w.ro, m := ⟨sl, w.m.cs⟩, sg := sg, H := w.H, Z := fun b => w.H b ≠ none, T := w.T }
theorem lamW_rep {K : PySem.W.Frag} {w : Wd} (r : Rep K w) {sl : List (Option SV)} {sg : L2.St} (hl : sl.length ≤ sg.length) (h : capP K sl sg w.F w.ro) : Rep K (lamW w sl sg) := by
  have no : ∀ {i : Nat} {o : Ob}, sl[i]? ≠ some (some (.ob o)) := fun {i o} e => by
    obtain ⟨x, _, h2⟩ := h i _ e
    exact h2
  refine ⟨r.sub, hl, fun i v e => ?_, r.cs, r.ln, r.rf, r.nd, fun i j xs ys x e _ _ _ => absurd e no, fun a z => z, r.oo, r.tb⟩
  obtain ⟨x, h1, h2⟩ := h i v e
  refine ⟨x, h1, ?_⟩
  cases v with
  | d y => exact h2
  | cell n => exact h2
  | ob o => exact h2.elim
  | thk t => exact h2.elim
section
variable {X : Cx} {pins : List (Addr × Obj)} {sg0 : L2.St} {H0 : Hp} {s0 : Shared}
/-- the call of the thunk -/
theorem snd_act {CXg : CXT} {Eg : XK} {Ng : List Str} {qg : Str} {scg : Scope} {g : Addr} {cdg pm ctv : Value} {params : Arguments} {body : Expr} {scope : Scope} {k : Nat} {a : Str} {pn : List (Addr × Obj)} {xe : Value → Shared → Prop} {Bx B : XBt} {t : Thk} {sl : List (Option SV)} {fl : Pg EV} {p1 p2 : Pos}
    (C0 : Ctx X Bx) (I0 : L2.Inv X pins sg0 H0 s0) (L : LamX.LamS X.env.scope scope) (hf : s0.heap.get? t.f = some (PySem.W.kla_obj "<lambda>" (X.env.qual ++ "<lambda>") params body scope (cloFrom X.env.cells scope.names []) pm t.c ctv)) (hfn : H0 t.f = none) (hfr : t.f ∉ frs X.stack)
    (hbind : bindArgs (PySem.W.kla_fn "<lambda>" (X.env.qual ++ "<lambda>") params body scope (cloFrom X.env.cells scope.names []) pm (.ref t.c) ctv) ⟨[], []⟩ = pure [])
    (hq : t.q = X.env.qual ++ "<lambda>") (hP : t.P = capP X.K sl sg0) (hl : sl.length ≤ sg0.length)
    (CY : Ctx ((cxOf CXg X.prog X.w X.K X.mg X.base Ng qg scg g cdg X.A X.stack s0 H0 Eg).tr pn xe) B) (hr : Room (k + 1) (X.A.deeper (envOfC qg scg s0.heap.objs.size g cdg)))
    (hbody : ∀ (A : Around) (outer : List Env) (s : Shared) (H : Hp) (E : XK) (B' : XBt), Ctx (LamX.lamCx X A outer s H E scope t.f t.c) B' → Room k (LamX.lamCx X A outer s H E scope t.f t.c).A → Snd (LamX.lamCx X A outer s H E scope t.f t.c) B' body fl)
    (hN : Ng[0]? = some a) (hv : Vis scg a) (hd : (a == ("__debug__" : Str)) = false := by decide) (hcd : (a == ("__classdict__" : Str)) = false := by decide) :
    Snd ((cxOf CXg X.prog X.w X.K X.mg X.base Ng qg scg g cdg X.A X.stack s0 H0 Eg).tr pn xe) B (.Call (.Name a p1) [] [] p2) (evAct 0 t (thunk sl fl)) := by
  intro w Q r hw
  unfold evAct at hw
  split at hw
  · rename_i e
    obtain ⟨x, hx, hxf, hcap, hco⟩ := r.sl 0 _ e
    subst hxf
    rw [hP] at hcap
    refine ⟨fun pinsZ sZ IZ => ?_⟩
    refine wpAny_Call_Name_kw (thn ((pe_var (pos := p1) (i := 0) hN hv hd hcd).run pinsZ sZ w.sg w.H (fun v H1 => v = .ref t.f ∧ H1 = w.H) IZ ⟨.ref t.f, hx, rfl, rfl⟩) fun u s1 ⟨v, H1, I1, rl1, ev, eH⟩ => ?_)
    subst ev eH
    obtain rfl : u = Value.ref t.f := rl1
    have atF := I1.base.keep t.f _ hf hfn hfr fun z => nomatch (show t.f ∈ ([] : List Addr) from z)
    refine PySem.W.callWith_F0 ⟨_, _, _, _, atF⟩ ?_
    obtain ⟨⟨oc, us, tok, hoc, hdc, hvc⟩, _, _⟩ := I1.hok t.c _ (hco _ r.tb.1.1)
    rw [hq] at hvc
    have rl : Rep X.K (lamW w sl sg0) := lamW_rep r hl hcap
    have go : codeAny (model X.prog X.w) (X.A.deeper (envOfC qg scg s0.heap.objs.size g cdg)) (.call (.ref t.f) ⟨[], []⟩) (CR (L2.CX X.prog X.w) (envOfC qg scg s0.heap.objs.size g cdg :: X.stack) X.prog X.w w.H s1 Q fun cls d H' => WXB X.K B cls d w.sg H') s1 := by
      refine PySem.W.kla_callFunE hr.depth atF rfl L.co L.gen rfl ⟨t.c, oc, us, tok, rfl, hoc, hdc, hvc⟩ ?_
      rw [hbind]
      refine wpAny_pure (wpAny_newFunctionEnv (fun y hy => (L.own y hy).2) (fun y hy => absurd hy (by simp)) (fun h1 ns sb => ⟨I1.nolimit.fresh _ sb, ?_⟩) L.kind)
      have kp : ∀ b o, s1.heap.get? b = some o → h1.get? b = some o := fun b o z => sb.extBut b o (Nat.ne_of_lt (Heap.lt_size z)) (Heap.get?_push_of_some _ z)
      have J := LamX.lam_start2 (E := fun cls d H' => WXB X.K B cls d w.sg H') (f := t.f) (c' := t.c) (tk := s1.toks + ([] : List (Str × Value)).length) I0 L I1.env0 hr.hd I1.base ns kp
      have CL : Ctx (LamX.lamCx X (X.A.deeper (envOfC qg scg s0.heap.objs.size g cdg)) (envOfC qg scg s0.heap.objs.size g cdg :: X.stack) s1 w.H (fun cls d H' => WXB X.K B cls d w.sg H') scope t.f t.c) fun x w' => ∀ cls d, ExAt X.K w' x cls d → WXB X.K B cls d w.sg w'.H :=
        ⟨rfl, C0.gd, (hr.deeper _).mono (Nat.zero_le _), C0.nd, C0.sm, (takes_of rfl rfl rfl rfl).imp fun cls d sg H ⟨x, w', _, _, eH, ex, b⟩ => eH ▸ b cls d ex⟩
      have fin : ∀ {w' : Wd}, FolS (lamW w sl sg0) w' → Rep X.K w' → Rep X.K (back w { w' with m := ⟨[], w'.m.cs⟩, sg := [] }) ∧ FolE w (back w { w' with m := ⟨[], w'.m.cs⟩, sg := [] }) ∧ FolS (bare w) { w' with m := ⟨[], w'.m.cs⟩, sg := [] } := fun {w'} f r' => by
        have fb : FolS (bare w) { w' with m := ⟨[], w'.m.cs⟩, sg := [] } := ⟨f.z, f.t, f.ext, f.pre, f.frm, f.new, f.liv, f.grow⟩
        obtain ⟨q1, q2⟩ := back_ok (show Rep X.K w from r) fb (out_rep r')
        exact ⟨q1, q2, fb⟩
      have hwl : (fl (lamW w sl sg0).m).wp (PostE X.K (lamW w sl sg0) Q) (XW X.K (fun x w' => ∀ cls d, ExAt X.K w' x cls d → WXB X.K B cls d w.sg w'.H) (lamW w sl sg0)) := by
        refine (thunk_ok hw).imp (fun v m' z w' x em _ f r' re => ?_) fun x m' z w' em f r' cls d ex => ?_
        · subst em
          obtain ⟨q1, q2, fb⟩ := fin (f.s rl) r'
          exact z (back w { w' with m := ⟨[], w'.m.cs⟩, sg := [] }) x rfl rfl q2 q1 (back_re (show Rep X.K w from r) fb rfl (out_re r' re))
        · subst em
          obtain ⟨q1, q2, fb⟩ := fin f r'
          exact ⟨x, back w { w' with m := ⟨[], w'.m.cs⟩, sg := [] }, q1, rfl, rfl, ex, z (back w { w' with m := ⟨[], w'.m.cs⟩, sg := [] }) rfl (q2.s r) q1⟩
      refine PySem.W.kla_codeExpr (wpAny_mono ((hbody _ _ _ _ _ _ CL (hr.deeper _) (lamW w sl sg0) Q rl hwl).go [] _ J) (fun v s' hq => ?_) fun e s' hq => hq)
      obtain ⟨w', H', J', rv, q⟩ := hq
      exact ⟨w', H', J'.os, J'.bare, J'.base, J'.hok, rv, q⟩
    refine wpAny_call (codeAny_mono go fun r' s' hq => ?_)
    match r', hq with
    | .error _, hq => exact pass_b CY I1 hq
    | .ok (.ret u), hq => exact I1.after hq
    | .ok .next, hq => exact (show False from hq).elim
    | .ok .brk, hq => exact (show False from hq).elim
    | .ok .cont, hq => exact (show False from hq).elim
  · exact hw.elim
end
end Ev
namespace Ev
open PySem PySem.Spec PyProof.Rows L2
/-! ### the making of a lambda: which heap is told afterwards -/
section
variable {X : Cx} {pins : List (Addr × Obj)} {sg : L2.St} {H : Hp} {s : Shared}
/-- either nothing more is told, or the table has one row more and the new code object is told -/
inductive Made (H : Hp) (P : Addr) (q : Str) (c' : Addr) : Hp → Prop where
  | hit (h : H c' = some (LamX.CodeO c' q)) : Made H P q c' H
  | miss (ps ps' : Array Value) (h : H P = some (.tbl ps)) (n : H c' = none) : Made H P q c' (upd (upd H P (.tbl ps')) c' (LamX.CodeO c' q))
theorem lam_made {c P : Addr} {q : Str} {params : Arguments} {body : Expr} {scope : Scope} {pos : Pos} {E : Value → Shared → Prop} {Q : Value → Shared → Prop} (I : L2.Inv X pins sg H s) (TB : LamX.TabB X.base X.mg c P) (code : X.env.code = .ref c) (eq : q = X.env.qual ++ "<lambda>")
    (tab : LamX.TabS H P q) (nodef : defaultsOf params X.env = ([], [])) (cells : ∀ y ∈ scope.names, y.2 = .free → ∃ c, X.env.cells.lookup y.1 = some c)
    (next : ∀ (f c' : Addr) (pm ctv : Value) (H1 : Hp) (s' : Shared), L2.Inv X pins sg H1 s' → Made H P q c' H1 → LamX.TabS H1 P q →
      s'.heap.get? f = some (PySem.W.kla_obj "<lambda>" q params body scope (cloFrom X.env.cells scope.names []) pm c' ctv) → H1 f = none → f ∉ frs X.stack → Q (.ref f) s') :
    wpAny (model X.prog X.w) X.A (eval (.Lambda params body scope pos) X.env) Q E s := by
  subst eq
  obtain ⟨ps, tP, tri, tall⟩ := tab
  have oP : s.heap.get? P = some (PySem.W.tabObj ps) := I.hok P _ tP
  have up : ∀ f, s.heap.objs.size ≤ f → f ∉ frs X.stack := fun f le z => by
    rcases List.mem_cons.mp (I.stkSub _ z) with e | e
    · exact absurd (e ▸ I.lt) (Nat.not_lt_of_le le)
    · exact I.nofs le e
  refine PySem.W.kla_eval nodef ?_
  cases at_ : codeAmong pos ps.toList with
  | some cv =>
    obtain ⟨c', rfl, told⟩ := tall pos cv at_
    refine PySem.W.kla_makeFunctionHit (closure_ok cells) I.ok.glob (I.mod.glob.keeps I.bk) code (TB.code.keeps I.bk) oP tri at_ (TB.bm.keeps I.bk) fun ctv h' tk old size => ?_
    exact next h'.objs.size c' ((X.mg "__name__").getD .none) ctv H _ (I.kept fun b o z => Heap.get?_push_of_some _ (old b o z)) (.hit told) ⟨ps, tP, tri, tall⟩ (Heap.get?_push_size _ rfl) (I.hok.fresh size) (up _ size)
  | none =>
    refine PySem.W.kla_makeFunction (closure_ok cells) I.ok.glob (I.mod.glob.keeps I.bk) code (TB.code.keeps I.bk) oP tri at_ TB.gP (TB.bm.keeps I.bk) fun c' ctv h' tk old ge lt rec_ new => ?_
    obtain ⟨c2, oc, us, tok, e2, hoc, hd, hv⟩ := rec_
    cases e2
    have nC : H c' = none := I.hok.fresh ge
    have nPc : P ≠ c' := ne_of_none tP nC
    have size : s.heap.objs.size ≤ h'.objs.size := Nat.le_trans ge (Nat.le_of_lt lt)
    have J := LamX.inv_table (t' := tk) (more := #[rawInt pos.line, rawInt pos.col, .ref c']) (h' := h'.push (PySem.W.kla_obj "<lambda>" (X.env.qual ++ "<lambda>") params body scope (cloFrom X.env.cells scope.names []) ((X.mg "__name__").getD .none) c' ctv)) I tP
      (fun b o n z => Heap.get?_push_of_some _ (old b o n z)) (Heap.get?_push_of_some _ new) ge ⟨oc, us, tok, Heap.get?_push_of_some _ hoc, hd, hv⟩
    have rows : (ps ++ #[rawInt pos.line, rawInt pos.col, Value.ref c']).toList = ps.toList ++ [rawInt pos.line, rawInt pos.col, .ref c'] := by simp
    refine next h'.objs.size c' ((X.mg "__name__").getD .none) ctv _ _ J (.miss ps _ tP nC) ⟨_, by rw [upd_ne nPc, upd_same], by rw [rows]; exact PySem.TriplesOk_snoc _ _ _ _ tri, fun p' cv among => ?_⟩ (Heap.get?_push_size _ rfl) ?_ (up _ size)
    · rw [rows] at among
      rcases LamX.among_app _ tri among with z | z
      · obtain ⟨c0, e1, e2⟩ := tall p' cv z
        refine ⟨c0, e1, ?_⟩
        rw [upd_ne (ne_of_none e2 nC), upd_ne (fun y => by rw [y, tP] at e2; exact LamX.codeO_ne _ (Option.some.inj e2).symm)]
        exact e2
      · exact ⟨c', z, upd_same⟩
    · rw [upd_ne (Nat.ne_of_gt lt), upd_ne (Nat.ne_of_gt (Nat.lt_of_lt_of_le (Heap.lt_size oP) size))]
      exact I.hok.fresh size
end
end Ev

namespace Ev
open PySem PySem.Spec PyProof.Rows L2
/-! ### f(lambda: e) -/
def frz1 (i : Nat) : Pg Unit := fun m => match m.sl[i]? with
  | some (some (.ob o)) => .ok () (freezeM m i (dOf o))
  | _ => .ok () m
/-- the own objects of these slots stay as they are from here on -/
def frzs : List Nat → Pg Unit
  | [] => .ret ()
  | i :: is => .bind (frz1 i) fun _ => frzs is
theorem frz1_ok {K : PySem.W.Frag} {w : Wd} (r : Rep K w) (i : Nat) : ∃ w' : Wd, frz1 i w.m = .ok () w'.m ∧ w'.sg = w.sg ∧ w'.H = w.H ∧ FolE w w' ∧ Rep K w' := by
  have no : (∀ o, w.m.sl[i]? ≠ some (some (.ob o))) → frz1 i w.m = .ok () w.m := fun h => by
    unfold frz1
    split
    · rename_i o e
      exact absurd e (h o)
    · rfl
  by_cases h : ∃ o, w.m.sl[i]? = some (some (.ob o))
  · obtain ⟨o, e⟩ := h
    obtain ⟨x, hx, _⟩ := r.sl i _ e
    obtain ⟨w', e1, e2, e3, f, r', _⟩ := freeze_ok r e hx
    refine ⟨w', ?_, e2, e3, f, r'⟩
    unfold frz1
    rw [e, e1]
  · exact ⟨w, no fun o e => h ⟨o, e⟩, rfl, rfl, FolE.refl w, r⟩
theorem frzs_ok {K : PySem.W.Frag} : ∀ (is : List Nat) {w : Wd}, Rep K w → ∃ w' : Wd, frzs is w.m = .ok () w'.m ∧ w'.sg = w.sg ∧ w'.H = w.H ∧ FolE w w' ∧ Rep K w'
  | [], w, r => ⟨w, rfl, rfl, rfl, FolE.refl w, r⟩
  | i :: is, w, r => by
    obtain ⟨w1, a1, a2, a3, f1, r1⟩ := frz1_ok r i
    obtain ⟨w2, b1, b2, b3, f2, r2⟩ := frzs_ok is r1
    refine ⟨w2, ?_, b2.trans a2, b3.trans a3, f1.trans f2, r2⟩
    show (Pg.bind (frz1 i) fun _ => frzs is) w.m = _
    unfold Pg.bind
    rw [a1]
    exact b1
def startT (n : Nat) (t : Thk) : List (Option SV) := some (.thk t) :: List.replicate (n - 1) none
noncomputable def runT (n : Nat) (pf : Thk → Pg EV → Pg Fl) (fl : Pg EV) (m : Mem) (t : Thk) : Res EV := endR (pf t (thunk (m.sl.map keepD) fl) ⟨startT n t, m.cs⟩)
def onM (sl : List (Option SV)) : Res EV → Res EV
  | .ok v m' => .ok v ⟨sl, m'.cs⟩
  | .thr x m' => .thr x ⟨sl, m'.cs⟩
  | .bad => .bad
/-- the call: the same for all thunks -/
noncomputable def callT (n : Nat) (pf : Thk → Pg EV → Pg Fl) (fl : Pg EV) : Pg EV := fun m => open Classical in if h : ∃ r, ∀ t, runT n pf fl m t = r then onM m.sl h.choose else .bad
noncomputable def evLam (n : Nat) (caps : List Nat) (pf : Thk → Pg EV → Pg Fl) (fl : Pg EV) : Pg EV := .bind (frzs caps) fun _ => callT n pf fl
theorem callT_ok {n : Nat} {pf : Thk → Pg EV → Pg Fl} {fl : Pg EV} {m : Mem} {P : EV → Mem → Prop} {E : Exn → Mem → Prop} (h : (callT n pf fl m).wp P E) (t : Thk) : (runT n pf fl m t).wp (fun v m' => P v ⟨m.sl, m'.cs⟩) fun x m' => E x ⟨m.sl, m'.cs⟩ := by
  unfold callT at h
  split at h
  · rename_i q
    rw [q.choose_spec t]
    revert h
    cases q.choose <;> exact id
  · exact h.elim
def codeI (c : Nat) (q : Str) : CInv := ⟨fun H => H c = some (LamX.CodeO c q), fun H H' h e => e _ _ h⟩
section
variable {K : PySem.W.Frag} {w : Wd} {P c' : Addr} {q : Str} {H1 : Hp}
theorem Made.code (M : Made w.H P q c' H1) : H1 c' = some (LamX.CodeO c' q) := by
  cases M with
  | hit h => exact h
  | miss ps ps' h n => exact upd_same
theorem Made.keep (M : Made w.H P q c' H1) {b : Addr} {o : HO} (e : w.H b = some o) (n : ∀ ps, o ≠ .tbl ps) : H1 b = some o := by
  cases M with
  | hit h => exact e
  | miss ps ps' h nc =>
    rw [upd_ne (ne_of_none e nc), upd_ne (fun z => n ps (by rw [z, h] at e; exact (Option.some.inj e).symm))]
    exact e
theorem Made.live (M : Made w.H P q c' H1) {b : Addr} (e : w.H b ≠ none) : H1 b ≠ none := by
  cases M with
  | hit h => exact e
  | miss ps ps' h nc =>
    by_cases z : b = c'
    · rw [z, upd_same]; simp
    · rw [upd_ne z]
      by_cases y : b = P
      · rw [y, upd_same]; simp
      · rw [upd_ne y]; exact e
theorem Made.tbl (M : Made w.H P q c' H1) (hp : ∃ q, (P, q) ∈ tabL K) (h3 : ∀ b ps, w.H b = some (.tbl ps) → ∃ q, (b, q) ∈ tabL K) (b : Addr) (ps : Array Value) (e : H1 b = some (.tbl ps)) : ∃ q, (b, q) ∈ tabL K := by
  cases M with
  | hit h => exact h3 b ps e
  | miss ps0 ps' h nc =>
    by_cases z : b = c'
    · rw [z, upd_same] at e
      exact absurd (Option.some.inj e) (LamX.codeO_ne ps)
    · rw [upd_ne z] at e
      by_cases y : b = P
      · rw [y]; exact hp
      · rw [upd_ne y] at e; exact h3 b ps e
/-- the world of the def that gets the lambda -/
def madeW (w : Wd) (H1 : Hp) (c' : Addr) (q : Str) (sl : List (Option SV)) (sg : L2.St) : Wd := { F := w.F, ro := w.ro, m := ⟨sl, w.m.cs⟩, sg := sg, H := H1, Z := fun b => H1 b ≠ none, T := w.T.and (codeI c' q) }
theorem made_rep (r : Rep K w) (M : Made w.H P q c' H1) (hp : ∃ q, (P, q) ∈ tabL K) (T1 : LamX.Tabs (tabL K) H1) {n : Nat} {t : Thk} (hf : t.c = c') (hq : t.q = q) (hP : t.P w.F w.ro) {sg : L2.St} (hs : sg[0]? = some (some (.ref t.f))) (hn : (startT n t).length ≤ sg.length) : Rep K (madeW w H1 c' q (startT n t) sg) := by
  have only : ∀ {i : Nat} {v : SV}, (startT n t)[i]? = some (some v) → i = 0 ∧ v = .thk t := fun {i v} e => by
    cases i with
    | zero =>
      have e : some (some (SV.thk t)) = some (some v) := e
      injection e with e
      injection e with e
      exact ⟨rfl, e.symm⟩
    | succ i =>
      have e : (List.replicate (n - 1) (none : Option SV))[i]? = some (some v) := e
      rw [List.getElem?_replicate] at e
      split at e <;> cases e
  refine ⟨fun b o e => M.keep (r.sub b o e) fun ps z => r.tb.2.1 b ps (by rw [show w.F b = some o from e, z]), hn, fun i v e => ?_, fun i o e => ?_, r.ln, r.rf, r.nd, fun i j xs ys x e _ _ _ => ?_, fun a z => z, fun d a e => ?_, ⟨⟨?_, M.code⟩, T1⟩, r.tb.2.1, M.tbl hp r.tb.2.2⟩
  · obtain ⟨rfl, rfl⟩ := only e
    exact ⟨_, hs, rfl, hP, fun H h => by rw [hf, hq]; exact h.2⟩
  · obtain ⟨a, h1, h2⟩ := r.cs i o e
    exact ⟨a, h1, h2.keep (Same.refl _) (fun u z => M.keep z (h2.ntbl z)) (fun d z => M.keep z (by intro _ y; cases y)) fun _ _ z => z⟩
  · cases (only e).2
  · have e : H1 d = some (.own a) := e
    cases M with
    | hit h =>
      obtain ⟨C, vs, z⟩ := r.oo d a e
      exact ⟨C, vs, z⟩
    | miss ps ps' h nc =>
      have dn : d ≠ c' := fun z => by rw [z, upd_same] at e; unfold LamX.CodeO at e; cases e
      rw [upd_ne dn] at e
      have dp : d ≠ P := fun z => by rw [z, upd_same] at e; cases e
      rw [upd_ne dp] at e
      obtain ⟨C, vs, z⟩ := r.oo d a e
      exact ⟨C, vs, (Made.miss (q := q) ps ps' h nc : Made w.H P q c' _).keep z (by intro _ y; cases y)⟩
  · exact w.T.st _ _ r.tb.1.1 fun b p e => M.keep e (by intro _ y; cases y)
end
section
variable {X : Cx} {B : XBt}
/-- back from the def that got the lambda -/
def homeW (w w' : Wd) : Wd := { F := w'.F, ro := w'.ro, m := ⟨[], w'.m.cs⟩, sg := [], H := w'.H, Z := fun b => w.H b ≠ none, T := w.T }
theorem home_ok {K : PySem.W.Frag} {w : Wd} {P c' : Addr} {q : Str} {H1 : Hp} {sl : List (Option SV)} {sg : L2.St} (M : Made w.H P q c' H1) {w' : Wd} (f : FolS (madeW w H1 c' q sl sg) w') (r' : Rep K w') :
    Rep K (homeW w w') ∧ FolS (bare w) (homeW w w') := by
  have hT : w.T.P w'.H := by
    have z := r'.tb.1.1
    have e : w'.T = w.T.and (codeI c' q) := f.t
    have z : w'.T.P w'.H := z
    rw [e] at z
    exact z.1
  refine ⟨⟨r'.sub, Nat.zero_le _, fun i v h => by simp [homeW] at h, r'.cs, r'.ln, r'.rf, r'.nd, fun i j xs ys x h => by simp [homeW] at h, fun a h => f.liv a (M.live h), r'.oo, ⟨⟨hT, r'.tb.1.2⟩, r'.tb.2⟩⟩, ⟨rfl, rfl, f.ext, f.pre, fun a o h n z k => f.frm a o (M.keep h k) n (M.live z) k, fun a h => (f.new a h).imp id fun z y => z (M.live y), fun a h => f.liv a (M.live h), fun a h => (f.grow a h).imp id fun z y => z (M.live y)⟩⟩
theorem home_re {K : PySem.W.Frag} {w : Wd} {P c' : Addr} {q : Str} {H1 : Hp} {sl : List (Option SV)} {sg : L2.St} (M : Made w.H P q c' H1) {w' : Wd} (f : FolS (madeW w H1 c' q sl sg) w') (r' : Rep K w') {v : EV} {x : V} (h : RE K w' v x) : RE K (homeW w w') (outE v) x := by
  have h2 := re_reZ (Z := fun b => w.H b ≠ none) (fun a z => by
    have e : ({ w' with m := ⟨[], w'.m.cs⟩, sg := [] } : Wd).Z = fun b => H1 b ≠ none := f.z
    rw [e]
    exact M.live z) (out_re r' h)
  cases v <;> exact h2
theorem snd_lam {x a : Str} {st : Stmt} {g : Addr} {fd : FuncData} {Ng : List Str} {n k : Nat} {c P : Addr} {params : Arguments} {body : Expr} {scope : Scope} {lpos p pos : Pos} {caps : List Nat} {pf : Thk → Pg EV → Pg Fl} {fl : Pg EV}
    (C : Ctx X B) (hg : Gl X x) (hm : X.mg x = some (.ref g)) (F : Fun X.K x x st g fd) (hb : L2.Binds X.K fd [a] []) (Sg : FnScope Ng [a] (defScope st)) (hn : Ng.length = n) (hNg : Ng[0]? = some a) (hva : Vis (defScope st) a)
    (ht : PySem.W.tabIn X.K "law" = some (c, P)) (hcode : X.env.code = .ref c) (hqual : X.env.qual ++ "<lambda>" = lamQ "law") (TG : TabG X.K X.mg X.base)
    (hr : Room (k + 2) X.A) (L : LamX.LamS X.env.scope scope) (hdef : defaultsOf params X.env = ([], []))
    (hbind : ∀ (q : Str) (cl : List (Str × Addr)) (pm cv ctv : Value), bindArgs (PySem.W.kla_fn "<lambda>" q params body scope cl pm cv ctv) ⟨[], []⟩ = pure [])
    (hbody : ∀ (A : Around) (outer : List Env) (s : Shared) (H : Hp) (E : XK) (f c' : Addr) (B' : XBt), Ctx (LamX.lamCx X A outer s H E scope f c') B' → Room k (LamX.lamCx X A outer s H E scope f c').A → Snd (LamX.lamCx X A outer s H E scope f c') B' body fl)
    (hdefn : ∀ (cdv : Value) (s : Shared) (H : Hp) (E : XK) (B' : XBt) (t : Thk) (th : Pg EV), Ctx (cxOf (L2.CX X.prog X.w) X.prog X.w X.K X.mg X.base Ng x (defScope st) g cdv X.A X.stack s H E) B' →
      PassesOwn (model X.prog X.w) (cxOf (L2.CX X.prog X.w) X.prog X.w X.K X.mg X.base Ng x (defScope st) g cdv X.A X.stack s H E).A (cxOf (L2.CX X.prog X.w) X.prog X.w X.K X.mg X.base Ng x (defScope st) g cdv X.A X.stack s H E).env (cxOf (L2.CX X.prog X.w) X.prog X.w X.K X.mg X.base Ng x (defScope st) g cdv X.A X.stack s H E).xe →
      Room (k + 1) (cxOf (L2.CX X.prog X.w) X.prog X.w X.K X.mg X.base Ng x (defScope st) g cdv X.A X.stack s H E).A →
      (∀ (pn : List (Addr × Obj)) (xe : Value → Shared → Prop) (B2 : XBt) (p1 p2 : Pos), Ctx ((cxOf (L2.CX X.prog X.w) X.prog X.w X.K X.mg X.base Ng x (defScope st) g cdv X.A X.stack s H E).tr pn xe) B2 → Snd ((cxOf (L2.CX X.prog X.w) X.prog X.w X.K X.mg X.base Ng x (defScope st) g cdv X.A X.stack s H E).tr pn xe) B2 (.Call (.Name a p1) [] [] p2) (evAct 0 t th)) →
      SndB (cxOf (L2.CX X.prog X.w) X.prog X.w X.K X.mg X.base Ng x (defScope st) g cdv X.A X.stack s H E) B' (defBody st) (pf t th))
    (hdb : (x == ("__debug__" : Str)) = false := by decide) (hd : (a == ("__debug__" : Str)) = false := by decide) (hcd : (a == ("__classdict__" : Str)) = false := by decide) :
    Snd X B (.Call (.Name x p) [.Lambda params body scope lpos] [] pos) (evLam n caps pf fl) := by
  intro w Q r hw
  obtain ⟨w1, ew, e1, e2, f1, r1⟩ := frzs_ok caps r
  have hw := wp_bind hw
  rw [ew] at hw
  have hw : (callT n pf fl w1.m).wp (PostE X.K w Q) (XW X.K B w) := hw
  have inL : (P, X.env.qual ++ "<lambda>") ∈ tabL X.K := by
    rw [hqual]
    unfold tabL lamNames
    simp [ht]
  rw [← e1, ← e2]
  refine ⟨fun pins s I => ?_⟩
  obtain ⟨oc, od, kV, doc, pm0, an, cdv, ct, osl, efd, lk, hcg⟩ := F.ex
  subst efd
  refine wpAny_Call_Name_kw (ld_glob I hg hm (PySem.W.callWith_K (h₀ := X.base) I.ok.mod.kin F.kp ?_ (by rfl) (by rfl)) hdb)
  refine Calls.spliced_cons (lam_made (q := X.env.qual ++ "<lambda>") I (TG c P ht) hcode rfl (r1.tb.1.2 _ inL) hdef (L.has I.ok) fun f c' pm ctv H1 s' I1 M T1 hf hfn hfr => ?_)
  refine Calls.spliced_nil ⟨I1.kIn, ?_⟩
  have Tl : LamX.Tabs (tabL X.K) H1 := fun p' hp => by
    have e : p' = (P, X.env.qual ++ "<lambda>") := by
      rw [hqual]
      unfold tabL lamNames at hp
      simpa [ht] using hp
    rw [e]
    exact T1
  have go : codeAny (model X.prog X.w) X.A (.call (.ref g) ⟨[.ref f], []⟩) (CR (L2.CX X.prog X.w) X.stack X.prog X.w H1 s' Q fun cls d H' => WXB X.K B cls d w1.sg H') s' := by
    refine LamX.run_ofS (N := Ng) (ps := [a]) (us := [.ref f]) (vs := [.ref f]) lk hcg Sg hr I1.env0 (hb s' [.ref f] I1.kIn rfl) (.cons rfl .nil) rfl fun hr' => ?_
    let t : Thk := ⟨f, c', X.env.qual ++ "<lambda>", capP X.K (w1.m.sl.map keepD) w1.sg, capP_mono⟩
    have hrun := callT_ok hw t
    have len1 : (w1.m.sl.map keepD).length ≤ w1.sg.length := by rw [List.length_map]; exact r1.le
    have n0 : 0 < n := by
      rw [← hn]
      exact (List.getElem?_eq_some_iff.mp hNg).1
    have rg : Rep X.K (madeW w1 H1 c' (X.env.qual ++ "<lambda>") (startT n t) (L2.start Ng [.ref f])) := made_rep r1 M ⟨_, inL⟩ Tl rfl rfl (cap_of r1) rfl (by
      unfold startT L2.start
      simp only [List.length_cons, List.length_replicate, List.length_append, List.length_map, List.length_nil]
      omega)
    have CG : Ctx (cxOf (L2.CX X.prog X.w) X.prog X.w X.K X.mg X.base Ng x (defScope st) g cdv X.A X.stack s' H1 fun cls d H' => WXB X.K B cls d w1.sg H') fun x w' => ∀ cls d, ExAt X.K w' x cls d → WXB X.K B cls d w1.sg w'.H :=
      ⟨rfl, C.gd, hr'.mono (Nat.zero_le _), Sg.nd, C.sm, (takes_of rfl rfl rfl rfl).imp fun cls d sg H ⟨x, w', _, _, eH, ex, b⟩ => eH ▸ b cls d ex⟩
    have bd := hdefn cdv s' H1 _ _ t (thunk (w1.m.sl.map keepD) fl) CG (passes_of rfl) hr' fun pn xe B2 p1 p2 C2 => snd_act C I1 L hf hfn hfr (hbind _ _ _ _ _) rfl rfl len1 C2 hr' (fun A outer s H E B' C' hk => hbody A outer s H E f c' B' C' hk) hNg hva hd hcd
    refine ⟨_, pb_w, bd (madeW w1 H1 c' (X.env.qual ++ "<lambda>") (startT n t) (L2.start Ng [.ref f])) _ rg ?_⟩
    refine (endR_ok (r := pf t (thunk (w1.m.sl.map keepD) fl) ⟨startT n t, w1.m.cs⟩) hrun).imp (fun fl' m' q w' em fo r' => ?_) fun y m' q w' em fo r' => ?_
    · subst em
      obtain ⟨q1, q2⟩ := home_ok M fo r'
      obtain ⟨q3, q4⟩ := back_ok r1 q2 q1
      cases fl' with
      | next => exact q (back w1 (homeW w1 w')) .non rfl e1 (f1.trans q4) q3 .non
      | brk => exact q.elim
      | cont => exact q.elim
      | ret v => exact fun x re => q (back w1 (homeW w1 w')) x rfl e1 (f1.trans q4) q3 (back_re r1 q2 rfl (home_re M fo r' re))
    · subst em
      obtain ⟨q1, q2⟩ := home_ok M fo r'
      obtain ⟨q3, q4⟩ := back_ok r1 q2 q1
      exact fun cls d ex => ⟨y, back w1 (homeW w1 w'), q3, rfl, rfl, ex, q (back w1 (homeW w1 w')) rfl ((f1.trans q4).s r) q3⟩
  refine wpAny_call (codeAny_mono go fun r' s2 hq => ?_)
  match r', hq with
  | .error _, hq => exact pass_b C I1 hq
  | .ok (.ret u), hq => exact I1.after hq
  | .ok .next, hq => exact (show False from hq).elim
  | .ok .brk, hq => exact (show False from hq).elim
  | .ok .cont, hq => exact (show False from hq).elim
end
end Ev
namespace Ev
open PySem PySem.Spec PyProof.Rows L2
/-- walk_G, as the printed tail asks for it -/
theorem walk_GL {l : PySem.W.OpenLaw} {n k : Nat} {q : Program} {loose : List Str} {XP : (Str → Option Value) → Heap → Prop} {YP : World → Heap → Prop} {d : DefRec} {K : Params → PySem.W.Frag} {x : Str} {g : Fn}
    (hi : importsNone q = true) (hn : l.most = some n) (hn2 : n ≤ sizeLine) (hdf : d.params.defaults = []) (hr : Room k callerA)
    (hY : ∀ (w : World) (h : Heap), YP w h → (K w.params).In h)
    (hd : ((recsOf q).find? fun e : DefRec => e.name == ("law" : Str)).isSome = true) (hto : ∀ w : World, tabOut (K w.params) = true)
    (F : ∀ (w : World) (mg : Str → Option Value) (fa : Addr) (h : Heap), (K w.params).In h → h.Ns mainGlobals mg → mg d.name = some (.ref fa) →
      ∃ fd : FuncData, (∀ (s : Shared) (u : Value), BindsTo s fd ⟨[u], []⟩ [(x, u)]) ∧
        ∀ base : Heap, (K w.params).In base → base.Ns mainGlobals mg → SM base → TabG (K w.params) mg base → FnG l.prog w (K w.params) mg base k fa fd [x] (spG (K w.params) 1 g))
    (law : LawG n g) : PySem.W.WalkO q loose XP YP l.row.toRowW d [] (fun f vs => PySem.call f vs) := by
  obtain ⟨d', e⟩ := Option.isSome_iff_exists.mp hd
  exact walk_G hi hn hn2 hdf hr hY e hto F law
end Ev
namespace Ev
open PySem PySem.Spec PyProof.Rows L2
section
variable {m : Mem} {X : Exn → Mem → Prop} {P : EV → Mem → Prop}
/-! ### W of these -/
@[simp] theorem W_act {i : Nat} {t : Thk} {th : Pg EV} {sl : List (Option SV)} {cs : List Ob} (h : sl[i]? = some (some (.thk t))) : W (evAct i t th) ⟨sl, cs⟩ X P ↔ W th ⟨sl, cs⟩ X P := by
  have e : evAct i t th ⟨sl, cs⟩ = th ⟨sl, cs⟩ := by
    unfold evAct
    exact if_pos h
  exact ⟨fun z => ⟨by have := z.go; rw [e] at this; exact this⟩, fun z => ⟨by rw [e]; exact z.go⟩⟩
theorem W_thunk {sl : List (Option SV)} {fl : Pg EV} : W (thunk sl fl) m X P ↔ W fl ⟨sl, m.cs⟩ (fun x m' => X x ⟨m.sl, m'.cs⟩) fun v m' => P (outE v) ⟨m.sl, m'.cs⟩ := by
  constructor
  · exact fun h => ⟨thunk_ok h.go⟩
  · intro h
    have h := h.go
    refine ⟨?_⟩
    unfold thunk
    cases q : fl ⟨sl, m.cs⟩ with
    | ok v m' => rw [q] at h; exact h
    | thr x m' => rw [q] at h; exact h
    | bad => rw [q] at h; exact h
/-- the call of a def with a lambda: for each thunk the very same end -/
theorem W_lam {n : Nat} {caps : List Nat} {pf : Thk → Pg EV → Pg Fl} {fl : Pg EV} : W (evLam n caps pf fl) m X P ↔ W (frzs caps) m X fun _ m1 => W (callT n pf fl) m1 X P := by
  unfold evLam
  rw [W_bind]
theorem W_callT {n : Nat} {pf : Thk → Pg EV → Pg Fl} {fl : Pg EV} {v : EV} {cs' : List Ob}
    (h : ∀ t, W (pf t (thunk (m.sl.map keepD) fl)) ⟨startT n t, m.cs⟩ noX fun f m' => m'.cs = cs' ∧ match f with
      | .ret u => outE u = v
      | .next => v = .d .none
      | _ => False) (hP : P v ⟨m.sl, cs'⟩) : W (callT n pf fl) m X P := by
  have all : ∀ t, runT n pf fl m t = .ok v ⟨[], cs'⟩ := fun t => by
    have z := (h t).go
    unfold runT
    cases q : pf t (thunk (m.sl.map keepD) fl) ⟨startT n t, m.cs⟩ with
    | bad => rw [q] at z; exact z.elim
    | thr x m' => rw [q] at z; exact z.elim
    | ok f m' =>
      rw [q] at z
      obtain ⟨z1, z2⟩ := z
      cases f with
      | next => cases z2; cases z1; rfl
      | brk => exact z2.elim
      | cont => exact z2.elim
      | ret u => cases z2; cases z1; rfl
  refine ⟨?_⟩
  unfold callT
  have ex : ∃ r, ∀ t, runT n pf fl m t = r := ⟨_, all⟩
  rw [dif_pos ex]
  have t0 : Thk := ⟨0, 0, "", fun _ _ => True, fun _ _ _ _ _ _ _ => trivial⟩
  have e : ex.choose = .ok v ⟨[], cs'⟩ := (ex.choose_spec t0).symm.trans (all t0)
  rw [e]
  exact hP
end
end Ev
namespace Ev
open PySem PySem.Spec PyProof.Rows L2
section
variable {X : Cx} {B : XBt}
/-- snd_lam, the def told by the module's fact -/
theorem snd_lamF {x a : Str} {st : Stmt} {Ng : List Str} {n k : Nat} {c P : Addr} {params : Arguments} {body : Expr} {scope : Scope} {lpos p pos : Pos} {caps : List Nat} {pf : Thk → Pg EV → Pg Fl} {fl : Pg EV}
    (C : Ctx X B) (hg : Gl X x) (h : FM X.K X.mg x st [a]) (Sg : FnScope Ng [a] (defScope st)) (hn : Ng.length = n) (hNg : Ng[0]? = some a) (hva : Vis (defScope st) a)
    (ht : PySem.W.tabIn X.K "law" = some (c, P)) (hcode : X.env.code = .ref c) (hqual : X.env.qual ++ "<lambda>" = lamQ "law") (TG : TabG X.K X.mg X.base)
    (hr : Room (k + 2) X.A) (L : LamX.lamSB X.env.scope scope = true) (hdef : defaultsOf params X.env = ([], []))
    (hbind : ∀ (q : Str) (cl : List (Str × Addr)) (pm cv ctv : Value), bindArgs (PySem.W.kla_fn "<lambda>" q params body scope cl pm cv ctv) ⟨[], []⟩ = pure [])
    (hbody : ∀ (A : Around) (outer : List Env) (s : Shared) (H : Hp) (E : XK) (f c' : Addr) (B' : XBt), Ctx (LamX.lamCx X A outer s H E scope f c') B' → Room k (LamX.lamCx X A outer s H E scope f c').A → Snd (LamX.lamCx X A outer s H E scope f c') B' body fl)
    (hdefn : ∀ (g : Addr) (cdv : Value) (s : Shared) (H : Hp) (E : XK) (B' : XBt) (t : Thk) (th : Pg EV), Ctx (cxOf (L2.CX X.prog X.w) X.prog X.w X.K X.mg X.base Ng x (defScope st) g cdv X.A X.stack s H E) B' →
      PassesOwn (model X.prog X.w) (cxOf (L2.CX X.prog X.w) X.prog X.w X.K X.mg X.base Ng x (defScope st) g cdv X.A X.stack s H E).A (cxOf (L2.CX X.prog X.w) X.prog X.w X.K X.mg X.base Ng x (defScope st) g cdv X.A X.stack s H E).env (cxOf (L2.CX X.prog X.w) X.prog X.w X.K X.mg X.base Ng x (defScope st) g cdv X.A X.stack s H E).xe →
      Room (k + 1) (cxOf (L2.CX X.prog X.w) X.prog X.w X.K X.mg X.base Ng x (defScope st) g cdv X.A X.stack s H E).A →
      (∀ (pn : List (Addr × Obj)) (xe : Value → Shared → Prop) (B2 : XBt) (p1 p2 : Pos), Ctx ((cxOf (L2.CX X.prog X.w) X.prog X.w X.K X.mg X.base Ng x (defScope st) g cdv X.A X.stack s H E).tr pn xe) B2 → Snd ((cxOf (L2.CX X.prog X.w) X.prog X.w X.K X.mg X.base Ng x (defScope st) g cdv X.A X.stack s H E).tr pn xe) B2 (.Call (.Name a p1) [] [] p2) (evAct 0 t th)) →
      SndB (cxOf (L2.CX X.prog X.w) X.prog X.w X.K X.mg X.base Ng x (defScope st) g cdv X.A X.stack s H E) B' (defBody st) (pf t th))
    (hdb : (x == ("__debug__" : Str)) = false := by decide) (hd : (a == ("__debug__" : Str)) = false := by decide) (hcd : (a == ("__classdict__" : Str)) = false := by decide) :
    Snd X B (.Call (.Name x p) [.Lambda params body scope lpos] [] pos) (evLam n caps pf fl) := by
  obtain ⟨g, fd, F, hm, hb⟩ := h
  exact snd_lam C hg hm F hb Sg hn hNg hva ht hcode hqual TG hr (LamX.lamS_by L) hdef hbind hbody (hdefn g) hdb hd hcd
/-- the law's own code object is the one whose table is told -/
theorem law_code {K : PySem.W.Frag} {f c P : Addr} {oc : Value} {od : Option Addr} {x qual : Str} {st : Stmt} {dV kV doc pm : Value} {an : Option Addr} {cdv ct : Value} {osl : Array (Option Value)} (ht : PySem.W.tabIn K "law" = some (c, P)) (hn : PySem.W.nsIn K mainGlobals "law" = some (some (.ref f)))
    (lk : K.lookup f = some ⟨oc, od, .func (PySem.W.fnOf x qual (defArgs st) (defBody st) (defScope st) dV kV doc pm an cdv ct), osl⟩) : cdv = .ref c := by
  unfold PySem.W.tabIn at ht
  rw [hn] at ht
  simp only [lk] at ht
  split at ht
  · split at ht
    · split at ht
      · cases ht
        first | rfl | assumption
      · cases ht
    · cases ht
  · cases ht
end
end Ev
namespace Ev
open PySem PySem.Spec PyProof.Rows L2
section
variable {P : Program} {w : World} {K : PySem.W.Frag} {mg : Str → Option Value} {base : Heap}
/-- a def by its body, its code object known -/
theorem fun_gL {x qual : Str} {st : Stmt} {f : Addr} {fd : FuncData} {N ps : List Str} {k : Nat} {fb : Pg Fl} (F : Fun K x qual st f fd) (S : FnScope N ps (defScope st)) (sm : SM base)
    (hbody : ∀ (cdv : Value) (_ : ∀ c P, PySem.W.tabIn K "law" = some (c, P) → PySem.W.nsIn K mainGlobals "law" = some (some (.ref f)) → cdv = .ref c) (A : Around) (outer : List Env) (s : Shared) (H : Hp) (E : XK) (B : XBt), Ctx (cxOf (L2.CX P w) P w K mg base N qual (defScope st) f cdv A outer s H E) B → PassesOwn (model P w) (cxOf (L2.CX P w) P w K mg base N qual (defScope st) f cdv A outer s H E).A (cxOf (L2.CX P w) P w K mg base N qual (defScope st) f cdv A outer s H E).env (cxOf (L2.CX P w) P w K mg base N qual (defScope st) f cdv A outer s H E).xe →
      Room k (cxOf (L2.CX P w) P w K mg base N qual (defScope st) f cdv A outer s H E).A →
      SndB (cxOf (L2.CX P w) P w K mg base N qual (defScope st) f cdv A outer s H E) B (defBody st) fb) : FnG P w K mg base (k + 1) f fd ps (spG K ps.length (runFn N.length fb)) := by
  obtain ⟨oc, od, kV, doc, pm, an, cdv, ct, osl, rfl, lk, hcd⟩ := F.ex
  refine ⟨spG_len rfl, fun A outer s H args Q E hg hr e0 hb => ?_⟩
  refine StX.run_bnd (k := k) lk hcd S hr e0 hb fun s2 H2 vs hsp rm => ?_
  obtain ⟨w0, as, z1, z2, z3, zz, r0, rv, hn, hc⟩ := hsp
  subst z3
  let B : XBt := fun x w' => ∀ cls d, ExAt K w' x cls d → E cls d w'.H
  have C : Ctx (cxOf (L2.CX P w) P w K mg base N qual (defScope st) f cdv A outer s2 w0.H E) B := ⟨rfl, hg, rm.mono (Nat.zero_le _), S.nd, sm, (takes_of rfl rfl rfl rfl).imp fun cls d sg H ⟨x, w', _, _, eH, ex, b⟩ => eH ▸ b cls d ex⟩
  have body := hbody cdv (fun c P h1 h2 => law_code h1 h2 lk) A outer s2 w0.H E B C (passes_of rfl) rm
  have re := entry_rep (N := N) r0 rv
  have hw : (fb (entry N w0 as vs).m).wp (PostS K (entry N w0 as vs) { nx := fun _ H' => Q .non H', rt := Q }) (XW K B (entry N w0 as vs)) := by
    refine (endR_ok (r := fb ⟨startS N.length as, w0.m.cs⟩) hc).imp (fun fl m' q w' em fol r' => ?_) fun x m' q w' em fol r' => ?_
    · subst em
      have fo : FolS w0 { w' with m := ⟨[], w'.m.cs⟩, sg := [] } := ⟨fol.z, fol.t, fol.ext, fol.pre, fol.frm, fol.new, fol.liv, fol.grow⟩
      cases fl with
      | next => exact q { w' with m := ⟨[], w'.m.cs⟩, sg := [] } .non rfl rfl rfl fo (out_rep r') .non
      | brk => exact q.elim
      | cont => exact q.elim
      | ret v => exact fun x re => q { w' with m := ⟨[], w'.m.cs⟩, sg := [] } x rfl rfl rfl fo (out_rep r') (out_re r' re)
    · subst em
      exact fun cls d ex => q { w' with m := ⟨[], w'.m.cs⟩, sg := [] } rfl rfl rfl ⟨fol.z, fol.t, fol.ext, fol.pre, fol.frm, fol.new, fol.liv, fol.grow⟩ (out_rep r') cls d ex
  exact ⟨_, pb_w, body (entry N w0 as vs) _ re hw⟩
end
end Ev
namespace Ev
open PySem PySem.Spec PyProof.Rows L2
section
variable {P : Program} {w : World} {K : PySem.W.Frag} {mg : Str → Option Value} {base : Heap}
theorem fun_nL {x qual : Str} {st : Stmt} {f : Addr} {fd : FuncData} {N ps : List Str} {k n m : Nat} {fb : Pg Fl} (F : Fun K x qual st f fd) (S : FnScope N ps (defScope st)) (sm : SM base) (hn : N.length = n) (hm : ps.length = m)
    (hbody : ∀ (cdv : Value) (_ : ∀ c P, PySem.W.tabIn K "law" = some (c, P) → PySem.W.nsIn K mainGlobals "law" = some (some (.ref f)) → cdv = .ref c) (A : Around) (outer : List Env) (s : Shared) (H : Hp) (E : XK) (B : XBt), Ctx (cxOf (L2.CX P w) P w K mg base N qual (defScope st) f cdv A outer s H E) B → PassesOwn (model P w) (cxOf (L2.CX P w) P w K mg base N qual (defScope st) f cdv A outer s H E).A (cxOf (L2.CX P w) P w K mg base N qual (defScope st) f cdv A outer s H E).env (cxOf (L2.CX P w) P w K mg base N qual (defScope st) f cdv A outer s H E).xe →
      Room k (cxOf (L2.CX P w) P w K mg base N qual (defScope st) f cdv A outer s H E).A →
      SndB (cxOf (L2.CX P w) P w K mg base N qual (defScope st) f cdv A outer s H E) B (defBody st) fb) : FnG P w K mg base (k + 1) f fd ps (spG K m (runFn n fb)) := by
  subst hn hm
  exact fun_gL F S sm hbody
end
end Ev

namespace Ev
open PySem PySem.Spec PyProof.Rows L2
/-! ### a local that holds an instance, called -/
def RCall (K : PySem.W.Frag) (D g : Addr) : Prop := StX.CallO K D g
theorem rcall_mk {K : PySem.W.Frag} {D g : Addr} (a : PySem.W.findIn K (.ref D) "__call__" = some (some (.ref g))) (b : PySem.W.isFn K (.ref g) = true) (c : PySem.W.fnIn K g = true) : RCall K D g := ⟨a, b, c⟩
section
variable {M : Model} {A : Around} {E : Value → Shared → Prop} {s : Shared} {pos : Pos} {f : Value} {Q : Value → Shared → Prop}
theorem callO_kw {ps : List (Bool × Sem Value)} {ks : List (Option Str × Sem Value)} (hp : (ps.any (·.1) || ks.any (·.1.isNone)) = false)
    (h : wpAny M A (evalArgs f true ps ks) (fun z s' => (∃ a C ox od, f = .ref a ∧ PySem.W.InstAt s'.heap a ox C od ∧ ox.data = .plain) ∧ wpAny M A (call f z.pos z.kw) Q E s') E s) : wpAny M A (callWith pos f [] ps ks) Q E s := by
  unfold callWith
  refine wpAny_bind (wpAny_holding (wpAny_mono h (fun z s' q => ?_) fun _ _ e => e))
  obtain ⟨⟨a, C, ox, od, rfl, J, hd⟩, q⟩ := q
  refine wpAny_bind (wpAny_standAt ?_)
  have lk := PySem.W.kco_keeper (M := M) J hd
  simp only [hp]
  refine wpAny_bind (lk.here ?_)
  have fin : ∀ {t : Sem Value}, wpAny M A t Q E s' → wpAny M A (t >>= fun r => holding [r] point >>= fun _ => pure r) Q E s' := fun g => by
    refine wpAny_bind (wpAny_mono g (fun r s2 e => ?_) fun _ _ e => e)
    exact wpAny_bind (wpAny_holding (wpAny_point (wpAny_pure e)))
  exact fin (wpAny_operateT q)
end
def ClOT (X : Cx) (B : XBt) (ks : List Str) (tb : List (Str × Fn)) : Prop := ∀ c h, tb.lookup c = some h → ∀ D, ClsN X.K c D → ∃ g, StX.CallO X.K D g ∧ CalC X B (.ref g) ks h
def evCalO (tb : List (Str × Fn)) (m : Nat) (fo : Pg EV) (fa fk : Pg (List AV)) : Pg EV := .bind fo fun v => .bind (toA v) fun a => .bind fa fun vs => .bind fk fun zs => .bind (recvP tb a) fun h => if zs.length = m then callS h (a :: (vs ++ zs)) else .stuck
section
variable {X : Cx} {B : XBt} {es : List Expr} {kws : List Keyword} {ks : List Str} {fa fk : Pg (List AV)} {fo : Pg EV} {p pos : Pos} {x : Str} {tb : List (Str × Fn)} {m : Nat}
theorem snd_calO (ho : Snd X B (.Name x p) fo) (T : ClOT X B ks tb) (A : SndAK X B es kws ks fa fk) (hm : ks.length = m)
    (hpl : ((backTo pos (starEach es X.env)).any (·.1) || (backToKw pos (keywordEach kws X.env)).any (·.1.isNone)) = false := by rfl) : Snd X B (.Call (.Name x p) es kws pos) (evCalO tb m fo fa fk) := by
  intro w Q r hw
  refine ⟨fun pins s I => ?_⟩
  have wa : WE X (.Name x p) w.sg w.H fun y H1 => WArgs X es kws ks w.sg H1 fun xs ys H2 => ∃ a D g dx fs, y = .ref a ∧ H2 a = some (.ins D dx fs) ∧ StX.CallO X.K D g ∧
      ∀ (pins : List (Addr × Obj)) (s : Shared) (us ws : List Value), L2.Inv X pins w.sg H2 s → Vals xs us → Vals ys ws → codeAny (model X.prog X.w) X.A (.call (.ref g) ⟨.ref a :: us, ks.zip ws⟩) (wants (EP X pins w.sg Q) X.xe) s := by
    refine snd_then ho r hw fun v w1 y e1 f1 r1 re q => ?_
    obtain ⟨av, w2, ea, s2, h2, f2, r2, rv⟩ := toA_ok r1 re
    have q := wp_bind q
    rw [ea] at q
    rw [← e1, ← s2, ← h2]
    have q : (Pg.bind fa (fun vs => .bind fk fun zs => .bind (recvP tb av) fun h => if zs.length = m then callS h (av :: (vs ++ zs)) else .stuck) w2.m).wp (PostE X.K w Q) (XW X.K B w1) := q
    have q := q.imp (fun _ _ z => z) fun _ _ (z : XW X.K B w1 _ _) => z.fol (f2.s r1)
    refine A.go r2 q fun vs' zs w3 xs ys e3 f3 r3 rv3 rz q3 => ?_
    obtain ⟨x, ex, q3⟩ := look_ok (wp_bind q3)
    obtain ⟨h, eh, q3⟩ := wp_opt q3
    obtain ⟨⟨c, fs⟩, ei, eh⟩ := Option.bind_eq_some_iff.mp eh
    obtain ⟨a, D, dx, vs, rfl, hcn, ha, rf⟩ := insC_RN r3.sub ((rv_ro (rv.fol f3)).rn r3 ex) ei
    obtain ⟨g, k1, cal⟩ := T c h eh D hcn
    refine ⟨a, D, g, dx, vs, rfl, ha, k1, ?_⟩
    intro pins s us ws I ru rw'
    split at q3
    · rename_i hl
      rw [← e3] at I ⊢
      exact cal w3 pins s (.ref a :: us) ws (av :: (vs' ++ zs)) (.ref a :: xs) ys Q I r3 (.cons (rv.fol f3) (paired_app rv3 rz)) (.cons rfl ru) rw' (by rw [← paired_len rz, hl, hm]) (q3.imp (fun v m' z w4 y em es f4 r4 re => z w4 y em (es.trans (e3.trans (s2.trans e1))) (f1.trans (f2.trans (f3.trans f4))) r4 re) fun _ _ z => z)
    · exact q3.elim
  refine wpAny_Call_Name_kw (thn (wa.go pins s I) fun u s1 ⟨y, H1, I1, ry, q⟩ => ?_)
  refine callO_kw hpl (q.go _ pos pins s1 I1 _ fun us ws xs ys H2 s2 I2 ru rw' ⟨a, D, g, dx, fs, ey, ha, k1, go⟩ => ?_)
  subst ey
  obtain rfl : u = Value.ref a := ry
  obtain ⟨mA, O, _⟩ := ins_get I2.hok ha
  obtain ⟨od, J, _⟩ := O.look
  exact ⟨⟨a, D, _, od, rfl, J, rfl⟩, wpAny_call (PySem.W.kco_code I2.kIn J rfl k1.at_ k1.fn k1.fi (go pins s2 us ws I2 ru rw'))⟩
theorem clOT_nil : ClOT X B ks [] := fun c h e => by cases e
theorem clOT_m {k : Nat} {c : Str} {h : Fn} (C : Ctx X B) (me : MemC X.prog X.w X.K X.mg X.base k c (RCall X.K) ks h) (hr : Room k X.A) (t : ClOT X B ks tb) : ClOT X B ks ((c, h) :: tb) := by
  obtain ⟨D, g, h1, h2, h3, h4⟩ := me
  intro c' h' e D' hD
  rw [List.lookup_cons] at e
  cases q : c' == c with
  | true =>
    rw [q] at e
    cases e
    have q := eq_of_beq q
    subst q
    rw [hD.one h1]
    exact ⟨g, h3, cal_code C h4 hr⟩
  | false =>
    rw [q] at e
    exact t c' h' e D' hD
end
section
variable {m : Mem} {X : Exn → Mem → Prop} {E : EV → Mem → Prop}
@[simp] theorem W_calO {tb : List (Str × Fn)} {n : Nat} {fo : Pg EV} {fa fk : Pg (List AV)} : W (evCalO tb n fo fa fk) m X E ↔ W fo m X fun v m1 => W (toA v) m1 X fun a m2 => W fa m2 X fun vs m3 => W fk m3 X fun zs m4 => W (recvP tb a) m4 X fun h m5 => W (if zs.length = n then callS h (a :: (vs ++ zs)) else .stuck) m5 X E := by
  unfold evCalO
  simp only [W_bind]
end
end Ev

namespace Ev
open PySem PySem.Spec PyProof.Rows L2
/-! ### l.count(e), l a list of data -/
section
variable {X : Cx}
def rCountD (K : PySem.W.Frag) : V → List V → Hp → VK → Prop := fun x xs H Q => ∃ (a : Addr) (y : V) (d : PyData) (ds : List PyData), x = V.ref a ∧ xs = [y] ∧ Dp K H (V.ref a) (.list ds) ∧ Dp K H y d ∧ SeqAt.shaped (.list ds) = true ∧ SeqAt.shaped d = true ∧ Q (.int ((ds.countP fun z => PyData.eqv z d : Nat) : Int)) H
theorem mt_countD (hu : X.A.units + 65 < cLine) : MtR X "list.count" (rCountD X.K) := by
  intro pins s σ H x xs v us Q I rx rxs h
  obtain ⟨a, y, d, ds, rfl, rfl, hl, hy, sl, sd, q⟩ := h
  cases rx
  obtain ⟨uy, rfl, ry⟩ := rxs.one
  obtain ⟨bs, r1⟩ := Dp.reads I d y uy hy ry
  have hc : PyData.canLayAll0 ds = true := SeqAt.canLay_of_shaped sl
  cases hl with
  | lst hs ha =>
    obtain ⟨its, rv, ⟨⟨cls, dd, data, sls⟩, n, ho, h1, h2, h3⟩, hlen⟩ := I.list hs
    simp only at h1 h3
    subst h1 h3
    obtain ⟨as, h4⟩ := Dp.readsAll I ds _ its ha rv
    have hm : its.map (SeqAt.readOf s.heap) = ds := SeqAt.readsAll_map ds its as hc h4
    have at_ := SeqAt.items_eqAt (vs := its.toArray) (A := X.A) (show ReadsAll s.heap its.toArray.toList ds as from h4) r1 hc (SeqAt.canLay_of_shaped sd) (room_in_shaped sd hu)
    refine call_meets PySem.F.slot_list_count ⟨_, ho, rfl⟩ PySem.F.entry_list_count (PySem.F.args_list_count_2 _ _) (SeqAt.list_countAt a its.toArray n dd sls uy fun u => PyData.eqv (SeqAt.readOf s.heap u) d) ⟨ho, at_, ?_⟩
    refine ⟨.int ((ds.countP fun z => PyData.eqv z d : Nat) : Int), H, I.tok _, ⟨s.toks, ?_⟩, q⟩
    rw [← hm, List.countP_map]
    rfl
end
def cntD (ds : List PyData) (d : PyData) : Option EV := if SeqAt.shaped (.list ds) && SeqAt.shaped d then some (.d (.int ((ds.countP fun z => PyData.eqv z d : Nat) : Int))) else none
def evCntL (fo f : Pg EV) : Pg EV := .bind fo fun u => look (opnd u) fun x0 => match x0 with
  | .list _ => .bind f fun v => look (opnd u) fun x => look (opnd v) fun d => match x with
    | .list ds => optP (cntD ds d)
    | _ => .stuck
  | _ => .stuck
section
variable {X : Cx} {B : XBt} {o e e1 e2 : Expr} {fo f f1 f2 : Pg EV} {pos : Pos}
theorem snd_cntL {apos cpos : Pos} (C : Ctx X B) (ho : Snd X B o fo) (he : Snd X B e f)
    (hbase : attributeBase o "count" X.env (eval o X.env) = eval o X.env := by rfl)
    (hfew : ((backTo cpos (starEach [e] X.env)).all (fun x => !x.1) && (backToKw cpos (keywordEach [] X.env)).all (fun x => x.1.isSome)
      && decide ([e].length + ([] : List Keyword).length + (if ([] : List Keyword).isEmpty then 0 else 1) < 30)) = true := by rfl)
    (hline : (apos.endLine == cpos.line) = true := by rfl) (hs : starEach [e] X.env = (false, eval e X.env) :: starEach [] X.env := by rfl) :
    Snd X B (.Call (.Attribute o "count" apos) [e] [] cpos) (evCntL fo f) := by
  intro w Q r hw
  refine we_of (pe_bm PySem.F.plainAttrs_list PySem.F.slot_list_count PySem.F.type_list_count (mt_countD C.u65) pe_w (pa_cons pe_w pa_nil hs) hbase hfew hline hs rfl) ?_
  refine snd_then ho r hw fun u w0 x e0 f0 r0 re0 h0 => ?_
  obtain ⟨x0, ex0, h0⟩ := look_ok h0
  have ro0 := (re0.ro r0).rn r0 ex0
  cases x0 <;> try exact h0.elim
  rename_i ys
  obtain ⟨a, us, rfl, g1, g2⟩ := ro0.lst r0.sub
  refine ⟨.inl ⟨rfl, us, g1.sq⟩, ?_⟩
  rw [← e0]
  refine snd_then he r0 h0 fun v w1 y e1 f1 r1 re h1 => ?_
  obtain ⟨x, ex, h1⟩ := look_ok h1
  obtain ⟨d, ed, h1⟩ := look_ok h1
  have rx := ((re0.ro r0).fol r0 f1).rn r1 ex
  have ro := (re.ro r1).rn r1 ed
  cases x with
  | list ds =>
    obtain ⟨u, eu, q⟩ := wp_opt (show (optP (cntD ds d) w1.m).wp (PostE X.K w Q) (XW X.K B w1) from h1)
    unfold cntD at eu
    split at eu
    · rename_i hc
      rw [Bool.and_eq_true] at hc
      cases eu
      exact ⟨a, y, d, ds, rfl, rfl, rx.dp r1.sub (SeqAt.canLay_of_shaped hc.1), ro.dp r1.sub (SeqAt.canLay_of_shaped hc.2), hc.1, hc.2, q w1 _ rfl (e1.trans e0) (f0.trans f1) r1 (.int _)⟩
    · cases eu
  | _ => exact h1.elim
/-! ### l.insert(i, e), l an own list of a local name -/
def insS (i : Nat) (k : PyData) (d : PyData) : Pg Fl := fun m => match m.sl[i]?, k with
  | some (some (.ob (.lst xs))), .int j => if 0 ≤ j ∧ j < 9223372036854775808 ∧ xs.length < 16777216 then .ok .next (setM m i (.ob (.lst (xs.take j.toNat ++ [d] ++ xs.drop j.toNat)))) else .bad
  | _, _ => .bad
def evIns (i : Nat) (f1 f2 : Pg EV) : Pg Fl := .bind (isOwn i) fun _ => .bind f1 fun u => look (opnd u) fun k => match k with
  | .int _ => .bind f2 fun v => .bind (toA v) fun a => .bind (needD a) fun d => insS i k d
  | _ => .stuck
theorem snd_ins {x : Str} {p1 p2 p3 : Pos} (i : Nat) (hi : X.N[i]? = some x) (hv : Vis X.env.scope x) (he1 : Snd X B e1 f1) (he2 : Snd X B e2 f2)
    (hd : (x == ("__debug__" : Str)) = false := by decide) (hcd : (x == ("__classdict__" : Str)) = false := by decide)
    (hbase : attributeBase (.Name x p1) "insert" X.env (eval (.Name x p1) X.env) = eval (.Name x p1) X.env := by rfl)
    (hfew : ((backTo p3 (starEach [e1, e2] X.env)).all (fun x => !x.1) && (backToKw p3 (keywordEach [] X.env)).all (fun x => x.1.isSome) && decide ([e1, e2].length + ([] : List Keyword).length + (if ([] : List Keyword).isEmpty then 0 else 1) < 30)) = true := by rfl)
    (hline : (p2.endLine == p3.line) = true := by rfl) (hst : starEach [e1, e2] X.env = (false, eval e1 X.env) :: starEach [e2] X.env := by rfl) (hst2 : starEach [e2] X.env = (false, eval e2 X.env) :: starEach [] X.env := by rfl) :
    SndS X B (.Expr (.Call (.Attribute (.Name x p1) "insert" p2) [e1, e2] [] p3) pos) (evIns i f1 f2) := by
  intro w D r hw
  refine ws_of (ps_expr (pe_bm PySem.F.plainAttrs_list PySem.F.slot_list_insert PySem.F.type_list_insert mt_insert (pe_var hi hv hd hcd) (pa_cons pe_w (pa_cons pe_w pa_nil hst2) hst) rfl hfew hline hst (by rw [hst2]; rfl)) rfl) ?_
  obtain ⟨us, o1, hw⟩ := isOwn_ok (wp_bind hw)
  obtain ⟨u, hu, b0, e0, ⟨vs0, k0, _⟩, _⟩ := r.sl i _ o1
  refine ⟨u, hu, ?_, ?_⟩
  · subst e0
    exact .inl ⟨rfl, vs0, .inl (.inl k0)⟩
  refine snd_then he1 r hw fun v0 w0 y0 e00 f0 r0 re0 h0 => ?_
  obtain ⟨x0, ex0, h0⟩ := look_ok h0
  have ro0 := (re0.ro r0).rn r0 ex0
  cases x0 <;> try exact h0.elim
  rename_i j
  have ey := ro0.int
  subst ey
  rw [← e00]
  refine snd_then he2 r0 h0 fun v w1 y e1 f1 r1 re h1 => ?_
  obtain ⟨a, w2, ea, e2, e3, f2, r2, rv⟩ := toA_ok r1 re
  have h2 := wp_bind h1
  rw [ea] at h2
  obtain ⟨d, rfl, h3⟩ := needD_ok (wp_bind (show (Pg.bind (needD a) (fun d => insS i (.int j) d) w2.m).wp _ _ from h2))
  have s2 : w2.sg = w.sg := e2.trans (e1.trans e00)
  unfold insS at h3
  split at h3
  · rename_i xs jj g1 ej
    cases ej
    split at h3
    · rename_i hl
      obtain ⟨z, g3, b, g4, ⟨vs, g5, g6⟩, _⟩ := r2.sl i _ g1
      rw [s2, hu] at g3
      cases g3
      subst g4
      obtain ⟨r3, f3⟩ := grow_ok (o' := .lst (xs.take j.toNat ++ [d] ++ xs.drop j.toNat)) (u := .lst (vs.take j.toNat ++ [y] ++ vs.drop j.toNat)) r2 g1 (by rw [s2]; exact hu) ⟨_, upd_same, ((g6.take _).app (.one rv)).app (g6.drop _)⟩
      rw [← e3]
      refine ⟨b, vs, j, y, rfl, rfl, g5, by rw [← g6.len, sizeLine_eq]; exact hl.2.2, hl.1, hl.2.1, ?_⟩
      have q := h3 _ rfl ((f0.s r).trans ((f1.s r0).trans ((f2.s r1).trans f3))) r3
      have es : w0.sg = w2.sg := e00.trans s2.symm
      rw [es]
      exact q
    · exact h3.elim
  · exact h3.elim
end
section
variable {m : Mem} {X : Exn → Mem → Prop} {E : EV → Mem → Prop} {F : Fl → Mem → Prop}
@[simp] theorem W_cntL {fo f : Pg EV} : W (evCntL fo f) m X E ↔ W fo m X fun u m1 => W (look (opnd u) fun x0 => match x0 with
  | .list _ => .bind f fun v => look (opnd u) fun x => look (opnd v) fun d => match x with
    | .list ds => optP (cntD ds d)
    | _ => .stuck
  | _ => .stuck) m1 X E := by
  unfold evCntL
  rw [W_bind]
@[simp] theorem W_evIns {i : Nat} {f1 f2 : Pg EV} : W (evIns i f1 f2) m X F ↔ W (isOwn i) m X fun _ m0 => W f1 m0 X fun u m1 => W (look (opnd u) fun k => match k with
  | .int _ => .bind f2 fun v => .bind (toA v) fun a => .bind (needD a) fun d => insS i k d
  | _ => .stuck) m1 X F := by
  unfold evIns
  simp only [W_bind]
theorem W_insS {i : Nat} {j : Int} {d : PyData} {xs : List PyData} {sl : List (Option SV)} {cs : List Ob} (e : sl[i]? = some (some (.ob (.lst xs)))) (h0 : 0 ≤ j) (h1 : j < 9223372036854775808) (hl : xs.length < 16777216) (h : F .next ⟨sl.set i (some (.ob (.lst (xs.take j.toNat ++ [d] ++ xs.drop j.toNat)))), cs⟩) : W (insS i (.int j) d) ⟨sl, cs⟩ X F := by
  refine ⟨?_⟩
  unfold insS
  simp only [e]
  rw [if_pos ⟨h0, h1, hl⟩]
  exact h
def frzV (i : Nat) : Option (Option SV) → Pg Unit
  | some (some (.ob o)) => fun m => .ok () (freezeM m i (dOf o))
  | _ => .ret ()
@[simp] theorem W_frz1 {i : Nat} {P : Unit → Mem → Prop} : W (frz1 i) m X P ↔ W (frzV i m.sl[i]?) m X P := by
  have e : frz1 i m = frzV i m.sl[i]? m := by
    unfold frz1
    generalize m.sl[i]? = z
    rcases z with _ | _ | v
    · rfl
    · rfl
    · cases v <;> rfl
  rw [W_iff, W_iff, e]
@[simp] theorem W_frzVd {i : Nat} {x : PyData} {P : Unit → Mem → Prop} : W (frzV i (some (some (.d x)))) m X P ↔ P () m := ⟨fun h => h.go, fun h => ⟨h⟩⟩
@[simp] theorem W_frzVc {i n : Nat} {P : Unit → Mem → Prop} : W (frzV i (some (some (.cell n)))) m X P ↔ P () m := ⟨fun h => h.go, fun h => ⟨h⟩⟩
@[simp] theorem W_frzVo {i : Nat} {o : Ob} {P : Unit → Mem → Prop} : W (frzV i (some (some (.ob o)))) m X P ↔ P () (freezeM m i (dOf o)) := ⟨fun h => h.go, fun h => ⟨h⟩⟩
@[simp] theorem W_frzsN {P : Unit → Mem → Prop} : W (frzs []) m X P ↔ P () m := ⟨fun h => h.go, fun h => ⟨h⟩⟩
@[simp] theorem W_frzsC {i : Nat} {is : List Nat} {P : Unit → Mem → Prop} : W (frzs (i :: is)) m X P ↔ W (frz1 i) m X fun _ m1 => W (frzs is) m1 X P := W_bind
end
end Ev

namespace Ev
open PySem PySem.Spec PyProof.Rows L2
/-! ### what is shown is a text that == takes -/
def sok (x : Str) : Prop := PyData.strOk x = true
theorem sok_of (s : String) : sok (Str.ofString s) := by
  unfold sok PyData.strOk
  rw [Str.ofString_eq_toList]
  simp only [List.all_toArray, List.all_map, List.all_eq_true, Function.comp, decide_eq_true_iff]
  intro c _
  have h := c.valid
  show c.val.toNat < 1114112
  rcases h with h | ⟨_, h⟩
  · have : c.val.toNat < 55296 := h
    omega
  · exact h
theorem sok_app {a b : Str} (ha : sok a) (hb : sok b) : sok (a ++ b) := by
  show (a.cps ++ b.cps).all _ = true
  rw [Array.all_append, Bool.and_eq_true]
  exact ⟨ha, hb⟩
theorem sok_join {s : Str} (hs : sok s) : ∀ {ts : List Str}, (∀ t, t ∈ ts → sok t) → sok (Str.join s ts)
  | [], _ => sok_of ""
  | [x], h => h x (List.mem_cons_self ..)
  | x :: y :: r, h => by
    show sok (x ++ s ++ Str.join s (y :: r))
    exact sok_app (sok_app (h x (List.mem_cons_self ..)) hs) (sok_join hs fun t ht => h t (List.mem_cons_of_mem _ ht))
theorem sok_from : ∀ {ts : List Str} {k : Nat} {acc : Str}, sok acc → (∀ t, t ∈ ts → sok t) → sok (textFrom k acc ts)
  | [], _, _, h, _ => h
  | t :: ts, k, acc, h, g => by
    refine sok_from (ts := ts) (k := k + 1) (sok_app (sok_app h ?_) (g t (List.mem_cons_self ..))) fun t ht => g t (List.mem_cons_of_mem _ ht)
    exact sok_of _
theorem sok_list {ts : List Str} (h : ∀ t, t ∈ ts → sok t) : sok (listText ts) := sok_app (sok_from (sok_of _) h) (sok_of _)
theorem sok_tuple {ts : List Str} (h : ∀ t, t ∈ ts → sok t) : sok (tupleText ts) := sok_app (sok_app (sok_of _) (sok_join (sok_of _) h)) (sok_of _)
mutual
def sokB : PyData → Bool
  | .str x => PyData.strOk (reprText x)
  | .list xs => sokBs xs
  | .tuple xs => sokBs xs
  | .dict _ => false
  | _ => true
def sokBs : List PyData → Bool
  | [] => true
  | x :: xs => sokB x && sokBs xs
end
mutual
theorem sok_shown : ∀ {d : PyData}, sokB d = true → sok d.shown
  | .none, _ => sok_of _
  | .bool b, _ => by cases b <;> exact sok_of _
  | .int i, _ => sok_of _
  | .str x, h => by simpa [sokB, PyData.shown, sok] using h
  | .list xs, h => by
    simp only [PyData.shown]
    exact sok_list (sok_shownAll (by simpa [sokB] using h))
  | .tuple xs, h => by
    simp only [PyData.shown]
    exact sok_tuple (sok_shownAll (by simpa [sokB] using h))
  | .dict _, h => by simp [sokB] at h
theorem sok_shownAll : ∀ {xs : List PyData}, sokBs xs = true → ∀ t, t ∈ PyData.shownAll xs → sok t
  | [], _, t, ht => by simp [PyData.shownAll] at ht
  | x :: xs, h, t, ht => by
    simp only [sokBs, Bool.and_eq_true] at h
    simp only [PyData.shownAll] at ht
    rcases List.mem_cons.mp ht with e | e
    · rw [e]
      exact sok_shown h.1
    · exact sok_shownAll h.2 t e
end
theorem sokBs_all : ∀ {xs : List PyData}, (∀ x, x ∈ xs → sokB x = true) → sokBs xs = true
  | [], _ => by simp [sokBs]
  | x :: xs, h => by
    simp only [sokBs, Bool.and_eq_true]
    exact ⟨h x (List.mem_cons_self ..), sokBs_all fun y hy => h y (List.mem_cons_of_mem _ hy)⟩
theorem sokB_tup {xs : List PyData} (h : ∀ x, x ∈ xs → sokB x = true) : sokB (.tuple xs) = true := by
  simp only [sokB]
  exact sokBs_all h
theorem sokB_lst {xs : List PyData} (h : ∀ x, x ∈ xs → sokB x = true) : sokB (.list xs) = true := by
  simp only [sokB]
  exact sokBs_all h
/-- lists of texts, compared -/
theorem eqvAll_strs : ∀ {xs ys : List Str}, PyData.eqvAll (xs.map .str) (ys.map .str) = decide (xs = ys)
  | [], [] => by simp [PyData.eqvAll]
  | [], _ :: _ => by simp [PyData.eqvAll]
  | _ :: _, [] => by simp [PyData.eqvAll]
  | x :: xs, y :: ys => by
    simp only [List.map_cons, PyData.eqvAll, PyData.eqv, eqvAll_strs (xs := xs) (ys := ys)]
    by_cases h1 : x = y <;> by_cases h2 : xs = ys <;> simp [h1, h2]
theorem strs_shaped {xs : List Str} (h : ∀ x, x ∈ xs → sok x) : SeqAt.shaped (.list (xs.map .str)) = true := by
  unfold SeqAt.shaped
  have h1 : PyData.canLayAll0 (xs.map .str) = true := by
    induction xs with
    | nil => rfl
    | cons x xs ih =>
      simp only [List.map_cons, PyData.canLayAll0, Bool.and_eq_true]
      exact ⟨by simpa [PyData.canLay0, sok] using h x (List.mem_cons_self ..), ih fun y hy => h y (List.mem_cons_of_mem _ hy)⟩
  have h2 : PyData.depthAll (xs.map .str) = 0 := by
    clear h h1
    induction xs with
    | nil => simp [PyData.depthAll]
    | cons x xs ih => simp [PyData.depthAll, PyData.depth, ih]
  simp [PyData.canLay0, PyData.depth, h1, h2]
theorem ne_strs {xs : List Str} (h : ∀ x, x ∈ xs → sok x) : cmpS .NotEq (.list (xs.map .str)) (.list (xs.map .str)) = some false := by
  have s := strs_shaped h
  simp only [cmpS, eqQ, s]
  simp [PyData.eqv, eqvAll_strs]
end Ev

namespace Ev
open PySem PySem.Spec PyProof.Rows L2
/-! ### o.insert(i, e), o.append(e), o a shared list -/
def insX : EV → PyData → PyData → Pg EV
  | .cell c, .int j, d => fun m => match m.cs[c]? with
    | some (.lst xs) => if 0 ≤ j ∧ j < 9223372036854775808 ∧ xs.length < 16777216 then .ok (.d .none) { m with cs := m.cs.set c (.lst (xs.take j.toNat ++ [d] ++ xs.drop j.toNat)) } else .bad
    | _ => .bad
  | _, _, _ => .stuck
def appX : EV → PyData → Pg EV
  | .cell c, d => fun m => match m.cs[c]? with
    | some (.lst xs) => if xs.length < 16777216 then .ok (.d .none) { m with cs := m.cs.set c (.lst (xs ++ [d])) } else .bad
    | _ => .bad
  | _, _ => .stuck
def evInsX (fo f1 f2 : Pg EV) : Pg EV := .bind fo fun o => .bind (isLC o) fun _ => .bind f1 fun u => look (opnd u) fun k => match k with
  | .int j => .bind f2 fun v => .bind (toA v) fun a => .bind (needD a) fun d => insX o (.int j) d
  | _ => .stuck
def evAppX (fo f : Pg EV) : Pg EV := .bind fo fun o => .bind (isLC o) fun _ => .bind f fun v => .bind (toA v) fun a => .bind (needD a) fun d => appX o d
section
variable {X : Cx} {B : XBt} {o e e1 e2 : Expr} {fo f f1 f2 : Pg EV}
theorem snd_insX {p2 p3 : Pos} (ho : Snd X B o fo) (he1 : Snd X B e1 f1) (he2 : Snd X B e2 f2)
    (hbase : attributeBase o "insert" X.env (eval o X.env) = eval o X.env := by rfl)
    (hfew : ((backTo p3 (starEach [e1, e2] X.env)).all (fun x => !x.1) && (backToKw p3 (keywordEach [] X.env)).all (fun x => x.1.isSome) && decide ([e1, e2].length + ([] : List Keyword).length + (if ([] : List Keyword).isEmpty then 0 else 1) < 30)) = true := by rfl)
    (hline : (p2.endLine == p3.line) = true := by rfl) (hst : starEach [e1, e2] X.env = (false, eval e1 X.env) :: starEach [e2] X.env := by rfl) (hst2 : starEach [e2] X.env = (false, eval e2 X.env) :: starEach [] X.env := by rfl) :
    Snd X B (.Call (.Attribute o "insert" p2) [e1, e2] [] p3) (evInsX fo f1 f2) := by
  intro w Q r hw
  refine we_of (pe_bm PySem.F.plainAttrs_list PySem.F.slot_list_insert PySem.F.type_list_insert mt_insert pe_w (pa_cons pe_w (pa_cons pe_w pa_nil hst2) hst) hbase hfew hline hst (by rw [hst2]; rfl)) ?_
  refine snd_then ho r hw fun u w0 x e0 f0 r0 re0 h0 => ?_
  cases u with
  | new _ => exact h0.elim
  | pk _ _ => exact h0.elim
  | d _ => exact h0.elim
  | cell c =>
    obtain ⟨a, rfl, hp⟩ := re0
    have h0 := wp_bind h0
    unfold isLC at h0
    dsimp only at h0
    split at h0
    · rename_i xs0 g0
      obtain ⟨a', hp', us, k0, _⟩ := r0.cs c _ g0
      rw [hp] at hp'
      cases hp'
      refine ⟨.inl ⟨rfl, us, .inl (.inl k0)⟩, ?_⟩
      rw [← e0]
      have h0 : (Pg.bind f1 (fun u => look (opnd u) fun k => match k with
        | .int j => .bind f2 fun v => .bind (toA v) fun a => .bind (needD a) fun d => insX (.cell c) (.int j) d
        | _ => .stuck) w0.m).wp (PostE X.K w Q) (XW X.K B w0) := h0
      refine snd_then he1 r0 h0 fun v0 w1 y0 e00 f1' r1 re1 h1 => ?_
      obtain ⟨x0, ex0, h1⟩ := look_ok h1
      have ro1 := (re1.ro r1).rn r1 ex0
      cases x0 <;> try exact h1.elim
      rename_i j
      have ey := ro1.int
      subst ey
      rw [← e00]
      refine snd_then he2 r1 h1 fun v w2 y ee2 ff2 r2 re2 h2 => ?_
      obtain ⟨av, w3, ea, es3, eh3, f3, r3, rv⟩ := toA_ok r2 re2
      have h2 := wp_bind h2
      rw [ea] at h2
      obtain ⟨d, rfl, h3⟩ := needD_ok (wp_bind (show (Pg.bind (needD av) (fun d => insX (.cell c) (.int j) d) w3.m).wp _ _ from h2))
      have h3 : ((match w3.m.cs[c]? with
        | some (.lst xs) => if 0 ≤ j ∧ j < 9223372036854775808 ∧ xs.length < 16777216 then .ok (.d .none) { w3.m with cs := w3.m.cs.set c (.lst (xs.take j.toNat ++ [d] ++ xs.drop j.toNat)) } else .bad
        | _ => .bad) : Res EV).wp (PostE X.K w Q) (XW X.K B w2) := h3
      split at h3
      · rename_i xs g1
        split at h3
        · rename_i hn
          obtain ⟨a2, hp2, vs, g5, g6⟩ := r3.cs c _ g1
          have hp1 := f3.at (ff2.at (f1'.at hp))
          rw [hp1] at hp2
          cases hp2
          obtain ⟨r4, f4⟩ := cell_ok (o' := .lst (xs.take j.toNat ++ [d] ++ xs.drop j.toNat)) (u := .lst (vs.take j.toNat ++ [y] ++ vs.drop j.toNat)) r3 g1 hp1 ⟨_, upd_same, ((g6.take _).app (.one rv)).app (g6.drop _)⟩ (.inl fun _ _ z => by cases z)
          rw [← eh3]
          refine ⟨a, vs, j, y, rfl, rfl, g5, by rw [← g6.len, sizeLine_eq]; exact hn.2.2, hn.1, hn.2.1, ?_⟩
          exact h3 { w3 with m := { w3.m with cs := w3.m.cs.set c (.lst (xs.take j.toNat ++ [d] ++ xs.drop j.toNat)) }, H := upd w3.H a (.lst (vs.take j.toNat ++ [y] ++ vs.drop j.toNat)) } _ rfl (es3.trans (ee2.trans (e00.trans e0))) (f0.trans (f1'.trans (ff2.trans (f3.trans f4)))) r4 .non
        · exact h3.elim
      · exact h3.elim
    · exact h0.elim
theorem snd_appX {p2 p3 : Pos} (ho : Snd X B o fo) (he : Snd X B e f)
    (hbase : attributeBase o "append" X.env (eval o X.env) = eval o X.env := by rfl)
    (hfew : ((backTo p3 (starEach [e] X.env)).all (fun x => !x.1) && (backToKw p3 (keywordEach [] X.env)).all (fun x => x.1.isSome) && decide ([e].length + ([] : List Keyword).length + (if ([] : List Keyword).isEmpty then 0 else 1) < 30)) = true := by rfl)
    (hline : (p2.endLine == p3.line) = true := by rfl) (hst : starEach [e] X.env = (false, eval e X.env) :: starEach [] X.env := by rfl) :
    Snd X B (.Call (.Attribute o "append" p2) [e] [] p3) (evAppX fo f) := by
  intro w Q r hw
  refine we_of (pe_bm PySem.F.plainAttrs_list PySem.F.slot_list_append PySem.F.type_list_append mt_append pe_w (pa_cons pe_w pa_nil hst) hbase hfew hline hst rfl) ?_
  refine snd_then ho r hw fun u w0 x e0 f0 r0 re0 h0 => ?_
  cases u with
  | new _ => exact h0.elim
  | pk _ _ => exact h0.elim
  | d _ => exact h0.elim
  | cell c =>
    obtain ⟨a, rfl, hp⟩ := re0
    have h0 := wp_bind h0
    unfold isLC at h0
    dsimp only at h0
    split at h0
    · rename_i xs0 g0
      obtain ⟨a', hp', us, k0, _⟩ := r0.cs c _ g0
      rw [hp] at hp'
      cases hp'
      refine ⟨.inl ⟨rfl, us, .inl (.inl k0)⟩, ?_⟩
      rw [← e0]
      have h0 : (Pg.bind f (fun v => .bind (toA v) fun a => .bind (needD a) fun d => appX (.cell c) d) w0.m).wp (PostE X.K w Q) (XW X.K B w0) := h0
      refine snd_then he r0 h0 fun v w2 y ee2 ff2 r2 re2 h2 => ?_
      obtain ⟨av, w3, ea, es3, eh3, f3, r3, rv⟩ := toA_ok r2 re2
      have h2 := wp_bind h2
      rw [ea] at h2
      obtain ⟨d, rfl, h3⟩ := needD_ok (wp_bind (show (Pg.bind (needD av) (fun d => appX (.cell c) d) w3.m).wp _ _ from h2))
      have h3 : ((match w3.m.cs[c]? with
        | some (.lst xs) => if xs.length < 16777216 then .ok (.d .none) { w3.m with cs := w3.m.cs.set c (.lst (xs ++ [d])) } else .bad
        | _ => .bad) : Res EV).wp (PostE X.K w Q) (XW X.K B w2) := h3
      split at h3
      · rename_i xs g1
        split at h3
        · rename_i hn
          obtain ⟨a2, hp2, vs, g5, g6⟩ := r3.cs c _ g1
          have hp1 := f3.at (ff2.at hp)
          rw [hp1] at hp2
          cases hp2
          obtain ⟨r4, f4⟩ := cell_ok (o' := .lst (xs ++ [d])) (u := .lst (vs ++ [y])) r3 g1 hp1 ⟨_, upd_same, g6.app (.one rv)⟩ (.inl fun _ _ z => by cases z)
          rw [← eh3]
          refine ⟨a, vs, y, rfl, rfl, g5, by rw [← g6.len, sizeLine_eq]; exact hn, ?_⟩
          exact h3 { w3 with m := { w3.m with cs := w3.m.cs.set c (.lst (xs ++ [d])) }, H := upd w3.H a (.lst (vs ++ [y])) } _ rfl (es3.trans (ee2.trans e0)) (f0.trans (ff2.trans (f3.trans f4))) r4 .non
        · exact h3.elim
      · exact h3.elim
    · exact h0.elim
end
section
variable {m : Mem} {X : Exn → Mem → Prop} {E : EV → Mem → Prop}
@[simp] theorem W_insXe {fo f1 f2 : Pg EV} : W (evInsX fo f1 f2) m X E ↔ W fo m X fun o m1 => W (isLC o) m1 X fun _ m2 => W f1 m2 X fun u m3 => W (look (opnd u) fun k => match k with
  | .int j => .bind f2 fun v => .bind (toA v) fun a => .bind (needD a) fun d => insX o (.int j) d
  | _ => .stuck) m3 X E := by
  unfold evInsX
  simp only [W_bind]
@[simp] theorem W_appXe {fo f : Pg EV} : W (evAppX fo f) m X E ↔ W fo m X fun o m1 => W (isLC o) m1 X fun _ m2 => W f m2 X fun v m3 => W (toA v) m3 X fun a m4 => W (needD a) m4 X fun d m5 => W (appX o d) m5 X E := by
  unfold evAppX
  simp only [W_bind]
theorem W_isLCc {c : Nat} {xs : List PyData} {sl : List (Option SV)} {cs : List Ob} {P : Unit → Mem → Prop} (e : cs[c]? = some (.lst xs)) (h : P () ⟨sl, cs⟩) : W (isLC (.cell c)) ⟨sl, cs⟩ X P := by
  refine ⟨?_⟩
  unfold isLC
  simp only [e]
  exact h
theorem W_insXc {c : Nat} {j : Int} {d : PyData} {xs : List PyData} {sl : List (Option SV)} {cs : List Ob} (e : cs[c]? = some (.lst xs)) (h0 : 0 ≤ j) (h1 : j < 9223372036854775808) (hl : xs.length < 16777216) (h : E (.d .none) ⟨sl, cs.set c (.lst (xs.take j.toNat ++ [d] ++ xs.drop j.toNat))⟩) : W (insX (.cell c) (.int j) d) ⟨sl, cs⟩ X E := by
  refine ⟨?_⟩
  unfold insX
  simp only [e]
  rw [if_pos ⟨h0, h1, hl⟩]
  exact h
theorem W_appXc {c : Nat} {d : PyData} {xs : List PyData} {sl : List (Option SV)} {cs : List Ob} (e : cs[c]? = some (.lst xs)) (hl : xs.length < 16777216) (h : E (.d .none) ⟨sl, cs.set c (.lst (xs ++ [d]))⟩) : W (appX (.cell c) d) ⟨sl, cs⟩ X E := by
  refine ⟨?_⟩
  unfold appX
  simp only [e]
  rw [if_pos hl]
  exact h
end
end Ev

namespace Ev
open PySem PySem.Spec PyProof.Rows L2
/-! ### texts: split, join, f-strings, int(text), a sign in a text, a text walked -/
def strsOf : List PyData → Option (List Str)
  | [] => some []
  | .str x :: r => (strsOf r).map (x :: ·)
  | _ => none
@[simp] theorem strsOf_map : ∀ ys : List Str, strsOf (ys.map .str) = some ys
  | [] => rfl
  | y :: ys => by
    show (strsOf (ys.map .str)).map (y :: ·) = _
    rw [strsOf_map ys]
    rfl
theorem strsOf_eq : ∀ {ds : List PyData} {ys : List Str}, strsOf ds = some ys → ds = ys.map .str
  | [], ys, h => by cases h; rfl
  | d :: r, ys, h => by
    cases d <;> try (cases h; done)
    rename_i x
    cases e : strsOf r with
    | none =>
      rw [show strsOf (.str x :: r) = (strsOf r).map (x :: ·) from rfl, e] at h
      cases h
    | some zs =>
      rw [show strsOf (.str x :: r) = (strsOf r).map (x :: ·) from rfl, e] at h
      cases h
      rw [strsOf_eq e]
      rfl
section
variable {K : PySem.W.Frag} {F : Hp}
theorem RA.strs : ∀ ys : List Str, RA K F (ys.map PyData.str) (ys.map V.str)
  | [] => .nil
  | y :: ys => .cons (.str y) (RA.strs ys)
theorem RA.strs_eq : ∀ {ys : List Str} {vs : List V}, RA K F (ys.map PyData.str) vs → vs = ys.map V.str
  | [], _, .nil => rfl
  | y :: ys, _, .cons h a => by
    cases h
    rw [RA.strs_eq a]
    rfl
end
def splitD : PyData → PyData → Option EV
  | .str a, .str b => if (b.length == 0) = false ∧ a.length ≤ 16000000 then some (.new (.lst ((Txt.split a b).map .str))) else none
  | _, _ => none
def joinOk (a : Str) (ys : List Str) : Bool := decide ((ys.map (·.length)).sum + ys.length * a.length ≤ 16777216)
def joinD : PyData → PyData → Option EV
  | .str a, .list ds => (strsOf ds).bind fun ys => if joinOk a ys then some (.d (.str (Txt.join a ys))) else none
  | .str a, .tuple ds => (strsOf ds).bind fun ys => if joinOk a ys then some (.d (.str (Txt.join a ys))) else none
  | _, _ => none
/-- o.m(e), o a text -/
def evM1 (g : PyData → PyData → Option EV) (fo f : Pg EV) : Pg EV := .bind fo fun u => look (opnd u) fun x => match x with
  | .str a => .bind f fun v => look (opnd v) fun y => optP (g (.str a) y)
  | _ => .stuck
section
variable {X : Cx} {B : XBt} {o e a b : Expr} {fo f fa fb : Pg EV}
theorem m1_go {g : PyData → PyData → Option EV} {r : V → List V → Hp → VK → Prop} {w : Wd} {Q : VK} (ho : Snd X B o fo) (he : Snd X B e f) (hr : Rep X.K w) (hw : (evM1 g fo f w.m).wp (PostE X.K w Q) (XW X.K B w))
    (go : ∀ (a : Str) (w2 : Wd) (d : PyData) (y : V) (z : EV), Rep X.K w2 → RN X.K w2 d y → g (.str a) d = some z → Keep X.K w2 z Q → r (.str a) [y] w2.H Q) : tM1 r (WE X o) (WE X e) w.sg w.H Q := by
  refine snd_then ho hr hw fun u w1 x e1 f1 r1 re1 h1 => ?_
  obtain ⟨x0, ex, h1⟩ := look_ok h1
  have ro := (re1.ro r1).rn r1 ex
  cases x0 <;> try exact h1.elim
  rename_i a
  have ex := ro.str
  subst ex
  refine ⟨⟨a, rfl⟩, ?_⟩
  rw [← e1]
  refine snd_then he r1 h1 fun v w2 y e2 f2 r2 re2 h2 => ?_
  obtain ⟨d, ed, h2⟩ := look_ok h2
  obtain ⟨z, ez, q⟩ := wp_opt h2
  exact go a w2 d y z r2 ((re2.ro r2).rn r2 ed) ez (PostE.keep q (e2.trans e1) (f1.trans f2))
theorem snd_split {apos pos : Pos} (ho : Snd X B o fo) (he : Snd X B e f) (hs : starEach [e] X.env = [(false, eval e X.env)] := by rfl) (hbase : attributeBase o "split" X.env (eval o X.env) = eval o X.env := by rfl) (hline : (apos.endLine == pos.line) = true := by rfl) :
    Snd X B (.Call (.Attribute o "split" apos) [e] [] pos) (evM1 splitD fo f) := by
  intro w Q r hw
  refine we_of (pe_split pe_w pe_w hs hbase hline) (m1_go ho he r hw fun a w2 d y z r2 rn ez k => ?_)
  cases d <;> try (cases ez; done)
  rename_i b
  have ey := rn.str
  subst ey
  have ez : (if (b.length == 0) = false ∧ a.length ≤ 16000000 then some (EV.new (.lst ((Txt.split a b).map .str))) else none) = some z := ez
  split at ez
  · rename_i hc
    cases ez
    exact ⟨a, b, rfl, rfl, hc.1, by rw [sizeLine_eq]; omega, fun p hp => k.lst r2 (RA.strs _) hp⟩
  · cases ez
theorem snd_join {apos pos : Pos} (ho : Snd X B o fo) (he : Snd X B e f) (hs : starEach [e] X.env = [(false, eval e X.env)] := by rfl) (hbase : attributeBase o "join" X.env (eval o X.env) = eval o X.env := by rfl) (hline : (apos.endLine == pos.line) = true := by rfl) :
    Snd X B (.Call (.Attribute o "join" apos) [e] [] pos) (evM1 joinD fo f) := by
  intro w Q r hw
  refine we_of (pe_join pe_w pe_w hs hbase hline) (m1_go ho he r hw fun a w2 d y z r2 rn ez k => ?_)
  have fin : ∀ {ys : List Str} {z : EV}, (if joinOk a ys then some (EV.d (.str (Txt.join a ys))) else none) = some z → Keep X.K w2 z Q → (ys.map (·.length)).sum + ys.length * a.length ≤ 16777216 ∧ Q (.str (Txt.join a ys)) w2.H := fun {ys z} e k => by
    split at e
    · rename_i hj
      cases e
      exact ⟨of_decide_eq_true hj, k.here r2 (.str _)⟩
    · cases e
  cases d <;> try (cases ez; done)
  · rename_i ds
    obtain ⟨ys, es, ez2⟩ := Option.bind_eq_some_iff.mp (show (strsOf ds).bind (fun ys => if joinOk a ys then some (EV.d (.str (Txt.join a ys))) else none) = some z from ez)
    have ed := strsOf_eq es
    subst ed
    obtain ⟨p, vs, rfl, g1, g2⟩ := rn.lst r2.sub
    have ev := g2.strs_eq
    subst ev
    exact ⟨a, p, ys, rfl, rfl, .inl g1.sq, fin ez2 k⟩
  · rename_i ds
    obtain ⟨ys, es, ez2⟩ := Option.bind_eq_some_iff.mp (show (strsOf ds).bind (fun ys => if joinOk a ys then some (EV.d (.str (Txt.join a ys))) else none) = some z from ez)
    have ed := strsOf_eq es
    subst ed
    obtain ⟨p, vs, rfl, g1, g2⟩ := rn.tup
    have ev := g2.strs_eq
    subst ev
    exact ⟨a, p, ys, rfl, rfl, .inr (sqt_mono r2.sub g1), fin ez2 k⟩
/-! f-strings -/
def fmtD : PyData → Option EV
  | .str y => if y.length ≤ 16777216 then some (.d (.str y)) else none
  | .int i => if i.natAbs.log2 < 1920 then some (.d (.str (Str.ofString (toString i)))) else none
  | _ => none
def evFmt (f : Pg EV) : Pg EV := .bind f fun v => look (opnd v) fun x => optP (fmtD x)
theorem snd_fmt {pos : Pos} (he : Snd X B e f) : Snd X B (.FormattedValue e (-1) none pos) (evFmt f) := by
  intro w Q r hw
  refine we_of (pe_fmt pe_w) ?_
  refine snd_then he r hw fun u w1 x e1 f1 r1 re1 h1 => ?_
  obtain ⟨d, ex, h1⟩ := look_ok h1
  have ro := (re1.ro r1).rn r1 ex
  obtain ⟨z, ez, q⟩ := wp_opt h1
  have k := PostE.keep q e1 f1
  cases d <;> try (cases ez; done)
  · rename_i i
    have ez : (if i.natAbs.log2 < 1920 then some (EV.d (.str (Str.ofString (toString i)))) else none) = some z := ez
    split at ez
    · rename_i hz
      cases ez
      rw [ro.int]
      exact .inr ⟨i, rfl, hz, k.here r1 (.str _)⟩
    · cases ez
  · rename_i y
    have ez : (if y.length ≤ 16777216 then some (EV.d (.str y)) else none) = some z := ez
    split at ez
    · rename_i hz
      cases ez
      rw [ro.str]
      exact .inl ⟨y, rfl, by rw [sizeLine_eq]; exact hz, k.here r1 (.str _)⟩
    · cases ez
def strOnly (d : PyData) : Option Str := match d with
  | .str y => some y
  | _ => none
def evJs : List (Pg EV) → Str → Pg Str
  | [], acc => .ret acc
  | f :: fs, acc => .bind f fun v => look (opnd v) fun x => .bind (optP (strOnly x)) fun y => if (acc ++ y).length ≤ 16777216 then evJs fs (acc ++ y) else .stuck
inductive SndJ (X : Cx) (B : XBt) : List Expr → List (Pg EV) → Prop where
  | nil : SndJ X B [] []
  | cons {e : Expr} {f : Pg EV} {es : List Expr} {fs : List (Pg EV)} (h : Snd X B e f) (r : SndJ X B es fs) : SndJ X B (e :: es) (f :: fs)
theorem js_go {w : Wd} {es : List Expr} {fs : List (Pg EV)} (J : SndJ X B es fs) : ∀ (acc : Str) (w1 : Wd) (Q : Str → Hp → Prop), Rep X.K w1 → w1.sg = w.sg → FolE w w1 →
    (evJs fs acc w1.m).wp (fun y m' => ∀ w', w'.m = m' → w'.sg = w.sg → FolE w w' → Rep X.K w' → Q y w'.H) (XW X.K B w1) → tJs (es.map fun e => WE X e) acc w.sg w1.H Q := by
  induction J with
  | nil => exact fun acc w1 Q r es f h => h w1 rfl es f r
  | @cons e f es fs he J ih =>
    intro acc w1 Q r eg fo hw
    have hw : (Pg.bind f (fun v => look (opnd v) fun x => .bind (optP (strOnly x)) fun y => if (acc ++ y).length ≤ 16777216 then evJs fs (acc ++ y) else .stuck) w1.m).wp _ (XW X.K B w1) := hw
    show WE X e w.sg w1.H _
    rw [← eg]
    refine snd_then he r hw fun v w2 x f2 fo2 r2 re h2 => ?_
    obtain ⟨d, ed, h2⟩ := look_ok h2
    have ro := (re.ro r2).rn r2 ed
    obtain ⟨y, ey, h3⟩ := wp_opt (wp_bind h2)
    clear h2
    cases d <;> try (cases ey; done)
    cases ey
    rw [ro.str]
    split at h3
    · rename_i hl
      refine ⟨y, rfl, by rw [sizeLine_eq]; exact hl, ?_⟩
      rw [eg]
      exact ih (acc ++ y) w2 Q r2 (f2.trans eg) (fo.trans fo2) h3
    · exact h3.elim
theorem pj_w : ∀ es : List Expr, PJ X es (es.map fun e => WE X e)
  | [] => .nil
  | e :: es => .cons pe_w (pj_w es)
/-- f'..' -/
def evJoined (fs : List (Pg EV)) : Pg EV := .bind (evJs fs Str.empty) fun y => .ret (.d (.str y))
theorem snd_joined {v1 v2 : Expr} {rest : List Expr} {fs : List (Pg EV)} {pos : Pos} (J : SndJ X B (v1 :: v2 :: rest) fs) : Snd X B (.JoinedStr (v1 :: v2 :: rest) pos) (evJoined fs) := by
  intro w Q r hw
  refine we_of (pe_joined (pj_w _)) ?_
  refine js_go J Str.empty w _ r rfl (FolE.refl w) ?_
  have hw := wp_bind hw
  refine hw.imp (fun y m' q w' em es f r' => ?_) fun _ _ z => z
  subst em
  exact q w' (.str y) rfl es f r' (.str y)
theorem snd_joined1 {e : Expr} {pos : Pos} (h : Snd X B e f) : Snd X B (.JoinedStr [e] pos) f := fun w Q r hw => we_of (pe_joined1 pe_w) (h w Q r hw)
/-! int(text) -/
def gIntT : List PyData → Option EV
  | [.str a] => if a.length ≤ 640 then (PySem.intText? a).map fun n => .d (.int n) else none
  | _ => none
theorem ok_intT : BOk X (.type "int") gIntT := by
  intro w ds xs v Q r h e k
  cases h with
  | nil => cases e
  | @cons d x ds xs h t =>
    cases t with
    | cons _ _ => cases d <;> cases e
    | nil =>
      cases d <;> try (cases e; done)
      rename_i a
      have e : (if a.length ≤ 640 then (PySem.intText? a).map fun n => EV.d (.int n) else none) = some v := e
      split at e
      · rename_i hl
        cases q : PySem.intText? a with
        | none =>
          rw [q] at e
          cases e
        | some n =>
          rw [q] at e
          cases e
          rw [h.str]
          exact ⟨_, call_int_str, a, n, rfl, q, hl, k.here r (.int _)⟩
      · cases e
/-! one sign in a text -/
def sgn1 (x : Str) : Option Nat := match x.cps.toList with
  | [c] => some c
  | _ => none
theorem sgn1_eq {x : Str} {c : Nat} (h : sgn1 x = some c) : x = ⟨#[c]⟩ := by
  obtain ⟨a⟩ := x
  unfold sgn1 at h
  split at h
  · rename_i c' e
    cases h
    obtain ⟨l⟩ := a
    simp at e
    rw [e]
  · cases h
def inSg (x y : PyData) : Option Bool := match x, y with
  | .str a, .str z => (sgn1 a).map fun c => decide (c ∈ z.cps.toList)
  | _, _ => none
theorem inSg_ok {w : Wd} {d1 d2 : PyData} {x y : V} {k : Bool} {T : V → Hp → Prop} (r : Rep X.K w) (h1 : RN X.K w d1 x) (h2 : RN X.K w d2 y) (e : inSg d1 d2 = some k) (q : T (.bl k) w.H) :
    ∃ (c : Nat) (z : Str), x = .str ⟨#[c]⟩ ∧ y = .str z ∧ T (.bl (decide (c ∈ z.cps.toList))) w.H := by
  cases d1 <;> try (cases e; done)
  cases d2 <;> try (cases e; done)
  rename_i a z
  have e : (sgn1 a).map (fun c => decide (c ∈ z.cps.toList)) = some k := e
  cases es : sgn1 a with
  | none =>
    rw [es] at e
    cases e
  | some c =>
    rw [es] at e
    cases e
    rw [h1.str, h2.str, sgn1_eq es]
    exact ⟨c, z, rfl, rfl, q⟩
def evInS (fa fb : Pg EV) : Pg Bool := .bind fa fun v => .bind fb fun u => twoB inSg (opnd v) (opnd u)
theorem sndT_inS {pos : Pos} (ha : Snd X B a fa) (hb : Snd X B b fb) (hm : behindInMarks .In b = false := by rfl) : SndT X B (.Compare a [.In] [b] pos) (evInS fa fb) := by
  intro w Q r h
  refine wt_of (pt_cmpR op_in_sign pe_w pe_w hm) ?_
  refine snd_then ha r h fun v w1 x e1 f1 r1 re h1 => ?_
  rw [← e1]
  refine snd_then hb r1 h1 fun u w2 y e2 f2 r2 re2 h2 => ?_
  obtain ⟨d1, d2, k, q1, q2, ez, q⟩ := twoB_ok h2
  obtain ⟨c, z, g1, g2, g3⟩ := inSg_ok (T := fun x H => ∃ k, x = V.bl k ∧ Q k H) r2 (((re.ro r1).fol r1 f2).rn r2 q1) ((re2.ro r2).rn r2 q2) ez ⟨k, rfl, q w2 rfl (e2.trans e1) (f1.trans f2) r2⟩
  exact ⟨c, z, g1, g2, g3⟩
theorem snd_inS {pos : Pos} (ha : Snd X B a fa) (hb : Snd X B b fb) (hm : behindInMarks .In b = false := by rfl) : Snd X B (.Compare a [.In] [b] pos) (asV (evInS fa fb)) := by
  intro w Q r h
  refine we_of (pe_cmpR op_in_sign pe_w pe_w hm) ?_
  have h := wp_bind h
  refine snd_then ha r h fun v w1 x e1 f1 r1 re h1 => ?_
  rw [← e1]
  refine snd_then hb r1 h1 fun u w2 y e2 f2 r2 re2 h2 => ?_
  obtain ⟨d1, d2, k, q1, q2, ez, q⟩ := twoB_ok h2
  exact inSg_ok r2 (((re.ro r1).fol r1 f2).rn r2 q1) ((re2.ro r2).rn r2 q2) ez (q w2 (.bl k) rfl (e2.trans e1) (f1.trans f2) r2 (.bl k))
/-! a text walked sign by sign -/
def signs (x : Str) : List PyData := x.cps.toList.map fun c => .str ⟨#[c]⟩
theorem iters_str {K : PySem.W.Frag} {w : Wd} (x : Str) : Iters K w (Its x) (signs x) := by
  intro w1 f r i
  refine ⟨fun d hd => ?_, fun hl => ?_⟩
  · unfold signs at hd
    rw [List.getElem?_map] at hd
    obtain ⟨c, hc, rfl⟩ := Option.map_eq_some_iff.mp hd
    have hi : i < x.cps.size := by
      have := (List.getElem?_eq_some_iff.mp hc).1
      simpa using this
    refine ⟨hi, fun y H' h => ?_⟩
    obtain ⟨rfl, c', hc', rfl⟩ := h
    rw [Array.getElem?_toList] at hc
    rw [hc] at hc'
    cases hc'
    exact ⟨w1, rfl, rfl, rfl, FolE.refl w1, r, .str _, fun _ z => .inl z⟩
  · show x.cps.size ≤ i
    unfold signs at hl
    simpa using hl
def evItS (f : Pg EV) : Pg (List PyData) := .bind f fun v => look (opnd v) fun x => .bind (optP (strOnly x)) fun y => .ret (signs y)
theorem sndI_str {tg : Expr} (he : Snd X B e f) : SndI X B tg e (evItS f) := by
  intro w Q r hw
  refine ⟨_, pi_str pe_w, ?_⟩
  refine snd_then he r hw fun v w1 x e1 f1 r1 re h1 => ?_
  obtain ⟨d, ed, h1⟩ := look_ok h1
  have ro := (re.ro r1).rn r1 ed
  obtain ⟨y, ey, q⟩ := wp_opt (wp_bind h1)
  cases d <;> try (cases ey; done)
  cases ey
  rw [ro.str]
  exact ⟨_, rfl, q w1 _ rfl e1 f1 r1 (iters_str _)⟩
/-! text * int -/
def mulS (x y : PyData) : Option EV := match x, y with
  | .str a, .int n => if 0 ≤ n ∧ n ≤ 1000 ∧ a.length ≤ 1000 then some (.d (.str (Txt.mul a n))) else none
  | _, _ => none
theorem mul_okS {a : Str} {n : Int} (h0 : 0 ≤ n) (h1 : n ≤ 1000) (h2 : a.length ≤ 1000) : MulOk a n := by
  refine ⟨?_, fun _ _ => ?_, fun _ _ => ?_⟩
  · rw [Bool.or_eq_false_iff, decide_eq_false_iff_not, decide_eq_false_iff_not]
    omega
  · by_cases hn : n = 0
    · subst hn
      omega
    · have : (a.length : Int) ≤ (2 ^ 63 - 1) / n := by
        rw [Int.le_ediv_iff_mul_le (by omega)]
        have : (a.length : Int) * n ≤ 1000 * 1000 := Int.mul_le_mul (by omega) h1 h0 (by omega)
        omega
      omega
  · show decide (a.length * n.toNat > sizeLine) = false
    rw [decide_eq_false_iff_not, sizeLine_eq]
    have : a.length * n.toNat ≤ 1000 * 1000 := Nat.mul_le_mul h2 (by omega)
    omega
theorem op_mulS : OpR X (binaryOp .Mult) (fun x y H Q => ∃ (a : Str) (n : Int), x = .str a ∧ y = .int n ∧ MulOk a n ∧ Q (.str (Txt.mul a n)) H) := by
  intro pins s σ H x y v u Q I rx ry h
  obtain ⟨a, n, rfl, rfl, hok, q⟩ := h
  obtain ⟨t, rfl⟩ := rx
  obtain ⟨t', rfl⟩ := ry
  exact SB.mul hok fun t' k => ⟨.str (Txt.mul a n), H, I.tok k, ⟨t', rfl⟩, q⟩
def evMulS (fa fb : Pg EV) : Pg EV := .bind fa fun v => .bind fb fun u => look (opnd v) fun x => look (opnd u) fun y => optP (mulS x y)
theorem snd_mulS {pos : Pos} (ha : Snd X B a fa) (hb : Snd X B b fb) : Snd X B (.BinOp a .Mult b pos) (evMulS fa fb) := by
  intro w Q r h
  refine we_of (pe_op op_mulS pe_w pe_w) ?_
  refine snd_then ha r h fun v w1 x e1 f1 r1 re h1 => ?_
  rw [← e1]
  refine snd_then hb r1 h1 fun u w2 y e2 f2 r2 re2 h2 => ?_
  obtain ⟨d1, q1, h3⟩ := look_ok h2
  obtain ⟨d2, q2, h4⟩ := look_ok h3
  have o1 := ((re.ro r1).fol r1 f2).rn r2 q1
  have o2 := (re2.ro r2).rn r2 q2
  obtain ⟨z, ez, q⟩ := wp_opt h4
  cases d1 with
  | str a0 =>
    cases d2 with
    | int n0 =>
      have ez : (if 0 ≤ n0 ∧ n0 ≤ 1000 ∧ a0.length ≤ 1000 then some (EV.d (.str (Txt.mul a0 n0))) else none) = some z := ez
      split at ez
      · rename_i hc
        cases ez
        rw [o1.str, o2.int]
        exact ⟨a0, n0, rfl, rfl, mul_okS hc.1 hc.2.1 hc.2.2, (PostE.keep q (e2.trans e1) (f1.trans f2)).here r2 (.str _)⟩
      · cases ez
    | _ => cases ez
  | _ => cases ez
end
section
variable {m : Mem} {X : Exn → Mem → Prop} {E : EV → Mem → Prop}
@[simp] theorem W_m1 {g : PyData → PyData → Option EV} {fo f : Pg EV} : W (evM1 g fo f) m X E ↔ W fo m X fun u m1 => W (look (opnd u) fun x => match x with
  | .str a => .bind f fun v => look (opnd v) fun y => optP (g (.str a) y)
  | _ => .stuck) m1 X E := by
  unfold evM1
  simp only [W_bind]
@[simp] theorem W_fmt {f : Pg EV} : W (evFmt f) m X E ↔ W f m X fun v m1 => W (look (opnd v) fun x => optP (fmtD x)) m1 X E := by
  unfold evFmt
  simp only [W_bind]
@[simp] theorem fmtD_s {y : Str} : fmtD (.str y) = if y.length ≤ 16777216 then some (.d (.str y)) else none := rfl
@[simp] theorem fmtD_i {i : Int} : fmtD (.int i) = if i.natAbs.log2 < 1920 then some (.d (.str (Str.ofString (toString i)))) else none := rfl
@[simp] theorem strOnly_s {y : Str} : strOnly (.str y) = some y := rfl
@[simp] theorem W_js0 {acc : Str} {P : Str → Mem → Prop} : W (evJs [] acc) m X P ↔ P acc m := ⟨fun h => h.go, fun h => ⟨h⟩⟩
@[simp] theorem W_jsC {f : Pg EV} {fs : List (Pg EV)} {acc : Str} {P : Str → Mem → Prop} : W (evJs (f :: fs) acc) m X P ↔ W f m X fun v m1 => W (look (opnd v) fun x => .bind (optP (strOnly x)) fun y => if (acc ++ y).length ≤ 16777216 then evJs fs (acc ++ y) else .stuck) m1 X P := by
  show W (Pg.bind f _) m X P ↔ _
  rw [W_bind]
@[simp] theorem W_joined {fs : List (Pg EV)} : W (evJoined fs) m X E ↔ W (evJs fs Str.empty) m X fun y m1 => E (.d (.str y)) m1 := by
  unfold evJoined
  simp only [W_bind, W_ret]
@[simp] theorem gIntT_s {a : Str} : gIntT [.str a] = if a.length ≤ 640 then (PySem.intText? a).map fun n => .d (.int n) else none := rfl
@[simp] theorem W_itS {f : Pg EV} {P : List PyData → Mem → Prop} : W (evItS f) m X P ↔ W f m X fun v m1 => W (look (opnd v) fun x => .bind (optP (strOnly x)) fun y => .ret (signs y)) m1 X P := by
  unfold evItS
  simp only [W_bind]
@[simp] theorem W_mulS {fa fb : Pg EV} : W (evMulS fa fb) m X E ↔ W fa m X fun v m1 => W fb m1 X fun u m2 => W (look (opnd v) fun x => look (opnd u) fun y => optP (mulS x y)) m2 X E := by
  unfold evMulS
  simp only [W_bind]
@[simp] theorem W_inS {fa fb : Pg EV} {T : Bool → Mem → Prop} : W (evInS fa fb) m X T ↔ W fa m X fun v m1 => W fb m1 X fun u m2 => W (twoB inSg (opnd v) (opnd u)) m2 X T := by
  unfold evInS
  simp only [W_bind]
@[simp] theorem inSg_s {a z : Str} : inSg (.str a) (.str z) = (sgn1 a).map fun c => decide (c ∈ z.cps.toList) := rfl
@[simp] theorem sgn1_one {c : Nat} : sgn1 ⟨#[c]⟩ = some c := rfl
end
end Ev

namespace Ev
open PySem PySem.Spec PyProof.Rows L2
abbrev c_NOTHING_formatting : PyData := .str "-"
abbrev c_LONGEST_NUMBER : PyData := .int 30
abbrev c_NOTHING_parsing : PyData := .str "-"
abbrev c_MOST_WIDTH : PyData := .int 4
abbrev c_MOST_OBJECTS : PyData := .int 40
def pf_one_line : Pg Fl := evSeq (evIte (evNotT (evTru (evIsi "str" (evVar 0)))) (evRaise "ParseError" ["line", "word"] (evConsA (evC (.int 0)) (evConsA (evC (.int 0)) (evNil)))) (.ret .next)) (evRet (evM1 splitD (evIx (evM1 splitD (evVar 0) (evC (.str "\n"))) (evC (.int 0))) (evC (.str " "))))
def fn_one_line : Fn := runFn 1 pf_one_line
def pf_need_one_line : Pg Fl := evIte (evCmpT .Gt (evBlt gLen (evConsO (evM1 splitD (evVar 0) (evC (.str "\n"))) (evNil))) (evC (.int 1))) (evRaise "ParseError" ["line", "word"] (evConsA (evC (.int 1)) (evConsA (evC (.int 0)) (evNil)))) (.ret .next)
def fn_need_one_line : Fn := runFn 1 pf_need_one_line
def pf_number_text : Pg Fl := evRet (evIf (evCmpT .Is (evVar 0) (evC .none)) (evC c_NOTHING_formatting) (evBlt gStr (evConsO (evVar 0) (evNil))))
def fn_number_text : Fn := runFn 1 pf_number_text
def pf_heap_text : Pg Fl := evSeq (evAsg (tgTup 2 (tgCons (tgName 1) (tgCons (tgName 2) (tgNil)))) (evVar 0)) (evSeq (evSet 3 (evIf (evCmpT .Gt (evBlt gLen (evConsO (evVar 2) (evNil))) (evC (.int 0))) (evComp [4] (evIt (evVar 2)) (tgName 4) (.ret true) (evM1 joinD (evC (.str ",")) (evComp [5] (evIt (evVar 4)) (tgName 5) (.ret true) (evCall fn_number_text (argsN 1 (evConsA (evVar 5) (evNil))))))) (evLst (evConsA (evC (.str "none")) (evNil))))) (evRet (evBin .Add (evJoined [evFmt (evVar 1), evC (.str ": ")]) (evM1 joinD (evC (.str " ")) (evVar 3)))))
def fn_heap_text : Fn := runFn 6 pf_heap_text
def pf_registers_text : Pg Fl := evRet (evM1 joinD (evC (.str " ")) (evComp [1] (evIt (evVar 0)) (tgName 1) (.ret true) (evCall fn_number_text (argsN 1 (evConsA (evVar 1) (evNil))))))
def fn_registers_text : Fn := runFn 2 pf_registers_text
def pf_number_in : Pg Fl := evSeq (evIte (evOrT (evNotT (evChainT .LtE .LtE (evC (.int 1)) (evBlt gLen (evConsO (evVar 0) (evNil))) (evC c_LONGEST_NUMBER))) (evNotT (evTru (evBlt gAll (evConsO (evComp [1] (evItS (evVar 0)) (tgName 1) (.ret true) (asV (evInS (evVar 1) (evC (.str "0123456789"))))) (evNil)))))) (evRet (evC .none)) (.ret .next)) (evRet (evIf (evOrT (evCmpT .Eq (evVar 0) (evC (.str "0"))) (evCmpT .NotEq (evIx (evVar 0) (evC (.int 0))) (evC (.str "0")))) (evBlt gIntT (evConsO (evVar 0) (evNil))) (evC .none)))
def fn_number_in : Fn := runFn 2 pf_number_in
def pf_is_place : Pg Fl := evSeq (evSet 2 (evCall fn_number_in (argsN 1 (evConsA (evVar 0) (evNil))))) (evRet (evOr (asV (evCmpT .Eq (evVar 0) (evC c_NOTHING_parsing))) (evAnd (asV (evCmpT .IsNot (evVar 2) (evC .none))) (asV (evCmpT .Lt (evVar 2) (evVar 1))))))
def fn_is_place : Fn := runFn 3 pf_is_place
def pf_place_in : Pg Fl := evRet (evIf (evCmpT .Eq (evVar 0) (evC c_NOTHING_parsing)) (evC .none) (evCall fn_number_in (argsN 1 (evConsA (evVar 0) (evNil)))))
def fn_place_in : Fn := runFn 1 pf_place_in
def pf_is_object : Pg Fl := evSeq (evSet 3 (evM1 splitD (evVar 0) (evC (.str ",")))) (evRet (evAnd (asV (evCmpT .Eq (evBlt gLen (evConsO (evVar 3) (evNil))) (evVar 1))) (evBlt gAll (evConsO (evComp [4] (evIt (evVar 3)) (tgName 4) (.ret true) (evCall fn_is_place (argsN 2 (evConsA (evVar 4) (evConsA (evVar 2) (evNil)))))) (evNil)))))
def fn_is_object : Fn := runFn 5 pf_is_object
def pf_width_in : Pg Fl := evSeq (evSet 1 (evCall fn_number_in (argsN 1 (evConsA (evSl (evVar 0) (.ret none) (evPart (evNeg (evC (.int 1))))) (evNil))))) (evRet (evIf (evAndT (evCmpT .Eq (evSl (evVar 0) (evPart (evNeg (evC (.int 1)))) (.ret none)) (evC (.str ":"))) (evAndT (evCmpT .IsNot (evVar 1) (evC .none)) (evChainT .LtE .LtE (evC (.int 1)) (evVar 1) (evC c_MOST_WIDTH)))) (evVar 1) (evC .none)))
def fn_width_in : Fn := runFn 2 pf_width_in
def pf_heap_in : Pg Fl := evSeq (evSet 3 (evIf (evCmpT .Lt (evVar 2) (evBlt gLen (evConsO (evVar 1) (evNil)))) (evCall fn_width_in (argsN 1 (evConsA (evIx (evVar 1) (evVar 2)) (evNil)))) (evC .none))) (evSeq (evIte (evCmpT .Is (evVar 3) (evC .none)) (evRaise "ParseError" ["line", "word"] (evConsA (evVar 0) (evConsA (evVar 2) (evNil)))) (.ret .next)) (evSeq (evSet 4 (evSl (evVar 1) (evPart (evBin .Add (evVar 2) (evC (.int 1)))) (.ret none))) (evSeq (evIte (evCmpT .Eq (evVar 4) (evLst (evConsA (evC (.str "none")) (evNil)))) (evRet (evTup (evConsA (evVar 3) (evConsA (evTup (evNil)) (evNil))))) (.ret .next)) (evSeq (evFor (evEnum2 (evConsA (evVar 4) (evNil))) (tgTup 2 (tgCons (tgName 5) (tgCons (tgName 6) (tgNil)))) (evIte (evOrT (evCmpT .Eq (evVar 5) (evC c_MOST_OBJECTS)) (evNotT (evTru (evCall fn_is_object (argsN 3 (evConsA (evVar 6) (evConsA (evVar 3) (evConsA (evBlt gLen (evConsO (evVar 4) (evNil))) (evNil))))))))) (evRaise "ParseError" ["line", "word"] (evConsA (evVar 0) (evConsA (evBin .Add (evBin .Add (evVar 2) (evC (.int 1))) (evVar 5)) (evNil)))) (.ret .next))) (evSeq (evIte (evCmpT .Eq (evVar 4) (evLst (evNil))) (evRaise "ParseError" ["line", "word"] (evConsA (evVar 0) (evConsA (evBlt gLen (evConsO (evVar 1) (evNil))) (evNil)))) (.ret .next)) (evRet (evTup (evConsA (evVar 3) (evConsA (evBlt gTuple (evConsO (evComp [6] (evIt (evVar 4)) (tgName 6) (.ret true) (evBlt gTuple (evConsO (evComp [7] (evIt (evM1 splitD (evVar 6) (evC (.str ",")))) (tgName 7) (.ret true) (evCall fn_place_in (argsN 1 (evConsA (evVar 7) (evNil))))) (evNil)))) (evNil))) (evNil))))))))))
def fn_heap_in : Fn := runFn 8 pf_heap_in
def pf_parse_heap : Pg Fl := evSeq (evSet 1 (evCall fn_heap_in (argsN 3 (evConsA (evC (.int 0)) (evConsA (evCall fn_one_line (argsN 1 (evConsA (evVar 0) (evNil)))) (evConsA (evC (.int 0)) (evNil))))))) (evSeq (evDrop (evCall fn_need_one_line (argsN 1 (evConsA (evVar 0) (evNil))))) (evRet (evVar 1)))
def fn_parse_heap : Fn := runFn 2 pf_parse_heap
def pf__law_pen : Pg Fl := evRet (evLst (evConsA (evBlt gListX (evConsO (evSl (evVar 0) (.ret none) (evPart (evC (.int 63)))) (evNil))) (evConsA (evC (.int 0)) (evConsA (evC (.int 0)) (evNil)))))
def fn__law_pen : Fn := runFn 1 pf__law_pen
def pf__law_draw : Pg Fl := evSeq (evIte (evCmpT .Gt (evIx (evVar 0) (evC (.int 2))) (evC (.int 0))) (evSeq (evSet 2 (evBin .Mod (evIx (evVar 0) (evC (.int 2))) (evVar 1))) (evSeq (evStore (evBin .FloorDiv (evIx (evVar 0) (evC (.int 2))) (evVar 1)) (evVar 0) (evC (.int 2))) (evRet (evVar 2)))) (.ret .next)) (evSeq (evSet 3 (evIx (evVar 0) (evC (.int 1)))) (evSeq (evStore (evBin .Add (evVar 3) (evC (.int 1))) (evVar 0) (evC (.int 1))) (evSeq (evSet 4 (evBin .Add (evBin .Mult (evC (.int 65147)) (evVar 3)) (evC (.int 139)))) (evSeq (evIte (evCmpT .NotEq (evIx (evVar 0) (evC (.int 0))) (evLst (evNil))) (evSet 4 (evIx (evIx (evVar 0) (evC (.int 0))) (evBin .Mod (evVar 3) (evBlt gLen (evConsO (evIx (evVar 0) (evC (.int 0))) (evNil)))))) (.ret .next)) (evSeq (evIte (evAndT (evCmpT .Lt (evVar 3) (evBlt gLen (evConsO (evIx (evVar 0) (evC (.int 0))) (evNil)))) (evCmpT .GtE (evBlt gAbs (evConsO (evVar 4) (evNil))) (evBin .Pow (evC (.int 10)) (evC (.int 18))))) (evSeq (evSet 5 (evBin .Add (evBin .Mult (evC (.int 2)) (evBlt gAbs (evConsO (evVar 4) (evNil)))) (evBlt gInt (evConsO (asV (evCmpT .Lt (evVar 4) (evC (.int 0)))) (evNil))))) (evSeq (evStore (evBin .FloorDiv (evVar 5) (evVar 1)) (evVar 0) (evC (.int 2))) (evRet (evBin .Mod (evVar 5) (evVar 1))))) (.ret .next)) (evSeq (evSet 6 (evBin .Mod (evBin .Pow (evBin .Add (evBin .Add (evBin .Mod (evVar 4) (evC (.int 2147483563))) (evBin .Mult (evC (.int 40177)) (evVar 3))) (evC (.int 151))) (evC (.int 3))) (evC (.int 2147483579)))) (evSeq (evSet 6 (evBin .Mod (evBin .Pow (evBin .Add (evBin .Add (evVar 6) (evBin .Mult (evBin .Mult (evC (.int 70157)) (evVar 3)) (evVar 3))) (evC (.int 31))) (evC (.int 5))) (evC (.int 2147483629)))) (evRet (evBin .Mod (evBin .FloorDiv (evBin .Mod (evBin .Add (evBin .Mult (evVar 6) (evBin .Add (evBin .Mult (evC (.int 2)) (evVar 3)) (evC (.int 29)))) (evC (.int 83))) (evC (.int 2147483587))) (evC (.int 32))) (evVar 1))))))))))
def fn__law_draw : Fn := runFn 7 pf__law_draw
def pf__law_heap : Pg Fl := evSeq (evSet 1 (evBin .Add (evC (.int 1)) (evCall fn__law_draw (argsN 2 (evConsA (evVar 0) (evConsA (evC (.int 4)) (evNil))))))) (evSeq (evSet 2 (evIx (evLst (evConsA (evCall fn__law_draw (argsN 2 (evConsA (evVar 0) (evConsA (evC (.int 4)) (evNil))))) (evConsA (evCall fn__law_draw (argsN 2 (evConsA (evVar 0) (evConsA (evC (.int 9)) (evNil))))) (evConsA (evC (.int 40)) (evNil))))) (evBin .FloorDiv (evCall fn__law_draw (argsN 2 (evConsA (evVar 0) (evConsA (evC (.int 9)) (evNil))))) (evC (.int 4))))) (evSeq (evSet 3 (evLst (evNil))) (evSeq (evFor (evRng1 (evConsO (evVar 2) (evNil))) (tgName 4) (evApp 3 (evBlt gTuple (evConsO (evComp [5] (evRng1 (evConsO (evVar 1) (evNil))) (tgName 5) (.ret true) (evIx (evLst (evConsA (evC .none) (evConsA (evCall fn__law_draw (argsN 2 (evConsA (evVar 0) (evConsA (evVar 2) (evNil))))) (evNil)))) (evBlt gInt (evConsO (asV (evCmpT .Gt (evCall fn__law_draw (argsN 2 (evConsA (evVar 0) (evConsA (evC (.int 3)) (evNil))))) (evC (.int 0)))) (evNil))))) (evNil))))) (evRet (evTup (evConsA (evVar 1) (evConsA (evBlt gTuple (evConsO (evVar 3) (evNil))) (evNil))))))))
def fn__law_heap : Fn := runFn 6 pf__law_heap
def pf__law_ring : Pg Fl := evSeq (evSet 2 (evBlt gLen (evConsO (evIx (evVar 1) (evC (.int 1))) (evNil)))) (evSeq (evSet 3 (evBin .Mult (evLst (evConsA (evC .none) (evNil))) (evBin .Add (evC (.int 1)) (evCall fn__law_draw (argsN 2 (evConsA (evVar 0) (evConsA (evC (.int 6)) (evNil)))))))) (evRet (evBlt gTuple (evConsO (evComp [4] (evIt (evVar 3)) (tgName 4) (.ret true) (evIf (evAndT (evCmpT .Gt (evVar 2) (evC (.int 0))) (evCmpT .Gt (evCall fn__law_draw (argsN 2 (evConsA (evVar 0) (evConsA (evC (.int 4)) (evNil))))) (evC (.int 0)))) (evCall fn__law_draw (argsN 2 (evConsA (evVar 0) (evConsA (evVar 2) (evNil))))) (evVar 4))) (evNil)))))
def fn__law_ring : Fn := runFn 5 pf__law_ring
def pf__law_place : Pg Fl := evRet (evIf (evCmpT .Is (evVar 0) (evC .none)) (evC (.str "-")) (evBlt gStr (evConsO (evVar 0) (evNil))))
def fn__law_place : Fn := runFn 1 pf__law_place
def pf__law_heap_line : Pg Fl := evSeq (evSet 1 (evComp [2] (evIt (evIx (evVar 0) (evC (.int 1)))) (tgName 2) (.ret true) (evM1 joinD (evC (.str ",")) (evComp [3] (evIt (evVar 2)) (tgName 3) (.ret true) (evCall fn__law_place (argsN 1 (evConsA (evVar 3) (evNil)))))))) (evRet (evBin .Add (evBin .Add (evBlt gStr (evConsO (evIx (evVar 0) (evC (.int 0))) (evNil))) (evC (.str ": "))) (evIf (evCmpT .NotEq (evVar 1) (evLst (evNil))) (evM1 joinD (evC (.str " ")) (evVar 1)) (evC (.str "none")))))
def fn__law_heap_line : Fn := runFn 4 pf__law_heap_line
def pf__law_ring_line : Pg Fl := evRet (evM1 joinD (evC (.str " ")) (evComp [1] (evIt (evVar 0)) (tgName 1) (.ret true) (evCall fn__law_place (argsN 1 (evConsA (evVar 1) (evNil))))))
def fn__law_ring_line : Fn := runFn 2 pf__law_ring_line
def pf_law : Pg Fl := evSeq (evSetC 1 (evCall fn__law_pen (argsN 1 (evConsA (evVar 0) (evNil))))) (evSeq (evFor (evRng1 (evConsO (evC (.int 10)) (evNil))) (tgName 2) (evSeq (evSet 3 (evCall fn__law_heap (argsN 1 (evConsA (evVar 1) (evNil))))) (evSeq (evSet 4 (evCall fn__law_ring (argsN 2 (evConsA (evVar 1) (evConsA (evVar 3) (evNil)))))) (evSeq (evSet 5 (evBlt gRepr (evConsO (evLst (evConsA (evVar 3) (evConsA (evVar 4) (evNil)))) (evNil)))) (evSeq (evSet 6 (evLst (evConsA (evCall fn__law_heap_line (argsN 1 (evConsA (evVar 3) (evNil)))) (evConsA (evCall fn__law_ring_line (argsN 1 (evConsA (evVar 4) (evNil)))) (evNil))))) (evSeq (evIte (evCmpT .NotEq (evBlt gRepr (evConsO (evLst (evConsA (evCall fn_heap_text (argsN 1 (evConsA (evVar 3) (evNil)))) (evConsA (evCall fn_registers_text (argsN 1 (evConsA (evVar 4) (evNil)))) (evNil)))) (evNil))) (evBlt gRepr (evConsO (evVar 6) (evNil)))) (evRet (evC (.bool false))) (.ret .next)) (evSeq (evIte (evCmpT .NotEq (evBlt gRepr (evConsO (evLst (evConsA (evCallK fn_heap_text 0 1 1 [0] evNil (evConsA (evVar 3) (evNil))) (evConsA (evCallK fn_registers_text 0 1 1 [0] evNil (evConsA (evVar 4) (evNil))) (evNil)))) (evNil))) (evBlt gRepr (evConsO (evVar 6) (evNil)))) (evRet (evC (.bool false))) (.ret .next)) (evSeq (evSet 7 (evLst (evConsA (evCall fn_parse_heap (argsN 1 (evConsA (evIx (evVar 6) (evC (.int 0))) (evNil)))) (evConsA (evCallK fn_parse_heap 0 1 1 [0] evNil (evConsA (evIx (evVar 6) (evC (.int 0))) (evNil))) (evNil))))) (evIte (evOrT (evCmpT .NotEq (evBlt gRepr (evConsO (evVar 7) (evNil))) (evBlt gRepr (evConsO (evLst (evConsA (evVar 3) (evConsA (evVar 3) (evNil)))) (evNil)))) (evOrT (evCmpT .NotEq (evCall fn_heap_text (argsN 1 (evConsA (evIx (evVar 7) (evC (.int 0))) (evNil)))) (evIx (evVar 6) (evC (.int 0)))) (evCmpT .NotEq (evBlt gRepr (evConsO (evLst (evConsA (evVar 3) (evConsA (evVar 4) (evNil)))) (evNil))) (evVar 5)))) (evRet (evC (.bool false))) (.ret .next)))))))))) (evSeq (evSet 8 (evLst (evConsA (evLst (evConsA (evTup (evConsA (evC (.int 1)) (evConsA (evTup (evNil)) (evNil)))) (evConsA (evC (.str "1: none")) (evNil)))) (evConsA (evLst (evConsA (evTup (evConsA (evC (.int 4)) (evConsA (evTup (evConsA (evTup (evConsA (evC .none) (evConsA (evC .none) (evConsA (evC .none) (evConsA (evC .none) (evNil)))))) (evNil))) (evNil)))) (evConsA (evC (.str "4: -,-,-,-")) (evNil)))) (evNil))))) (evSeq (evApp 8 (evLst (evConsA (evTup (evConsA (evC (.int 1)) (evConsA (evBin .Mult (evTup (evConsA (evTup (evConsA (evC (.int 0)) (evNil))) (evNil))) (evC (.int 40))) (evNil)))) (evConsA (evBin .Add (evC (.str "1:")) (evMulS (evC (.str " 0")) (evC (.int 40)))) (evNil))))) (evRet (asV (evCmpT .Eq (evComp [3, 9] (evIt (evVar 8)) (tgTup 2 (tgCons (tgName 3) (tgCons (tgName 9) (tgNil)))) (evOrT (evCmpT .NotEq (evCall fn_heap_text (argsN 1 (evConsA (evVar 3) (evNil)))) (evVar 9)) (evCmpT .NotEq (evCall fn_parse_heap (argsN 1 (evConsA (evVar 9) (evNil)))) (evVar 3))) (evC (.int 1))) (evLst (evNil))))))))
def fn_law : Fn := runFn 10 pf_law
end Ev
namespace Ev
open PySem PySem.Spec PyProof.Rows L2
def penD (ns : List Int) (a r : Int) : List PyData := [.list (ns.map .int), .int a, .int r]
/-- the pen, good for n more draws -/
def Pen (n : Nat) (o : Ob) : Prop := ∃ ns a r, o = .lst (penD ns a r) ∧ 0 ≤ a ∧ a + n ≤ 1000000 ∧ 0 ≤ r
theorem Pen.le {n m : Nat} {o : Ob} (h : Pen n o) (e : m ≤ n) : Pen m o := by
  obtain ⟨ns, a, r, q, h1, h2, h3⟩ := h
  exact ⟨ns, a, r, q, h1, by omega, h3⟩
theorem sq_le {a c : Int} (ha : 0 ≤ a) (ha2 : a ≤ 1000000) (hc : 0 ≤ c) (hc2 : c ≤ 100000) : 0 ≤ c * a * a ∧ c * a * a ≤ 100000000000000000 := by
  have h1 : 0 ≤ c * a := Int.mul_nonneg hc ha
  have h2 : c * a ≤ 100000 * 1000000 := Int.mul_le_mul hc2 ha2 ha (by decide)
  have h3 : 0 ≤ c * a * a := Int.mul_nonneg h1 ha
  have h4 : c * a * a ≤ 100000 * 1000000 * 1000000 := Int.mul_le_mul h2 ha2 ha (by decide)
  omega
theorem mu_le {y a c : Int} (h1 : 0 ≤ y) (h2 : y < 2147483648) (ha : 0 ≤ a) (ha2 : a ≤ 1000000) (hc : 0 ≤ c) (hc2 : c ≤ 1000) : 0 ≤ y * (2 * a + c) ∧ y * (2 * a + c) ≤ 2147483648 * 2001000 :=
  ⟨Int.mul_nonneg h1 (by omega), Int.mul_le_mul (by omega) (by omega) (by omega) (by decide)⟩
theorem base_ok {a c : Int} (ha : 0 ≤ a) (ha2 : a ≤ 1000000) : (c % 2147483563 + 40177 * a + 151).natAbs < 18446744073709551616 := by
  have h1 := Int.emod_nonneg c (show (2147483563 : Int) ≠ 0 by decide)
  have h2 := Int.emod_lt_of_pos c (show (0 : Int) < 2147483563 by decide)
  omega
theorem second_ok {a x : Int} (ha : 0 ≤ a) (ha2 : a ≤ 1000000) : (x % 2147483579 + 70157 * a * a + 31).natAbs < 18446744073709551616 := by
  have h1 := Int.emod_nonneg x (show (2147483579 : Int) ≠ 0 by decide)
  have h2 := Int.emod_lt_of_pos x (show (0 : Int) < 2147483579 by decide)
  have h4 := sq_le (c := 70157) ha ha2 (by decide) (by decide)
  omega
theorem draw_W {X : Exn → Mem → Prop} {n : Nat} {c : Ob} {k : Int} {E : EV → Mem → Prop} (hc : Pen (n + 1) c) (hk : 0 < k) (hk2 : k < 1000000)
    (h : ∀ v c', 0 ≤ v → v < k → Pen n c' → E (.d (.int v)) ⟨[], [c']⟩) : W (fn__law_draw [.cell 0, .d (.int k)]) ⟨[], [c]⟩ X E := by
  obtain ⟨ns, a, r, rfl, ha, ha2, hr⟩ := hc
  have ha2 : a ≤ 1000000 := by omega
  have kk : k < 1073741824 := by omega
  have md : ∀ x : Int, 0 ≤ x % k ∧ x % k < k := fun x => ⟨Int.emod_nonneg x (by omega), Int.emod_lt_of_pos x hk⟩
  have m1 : -18446744073709551616 < a ∧ a < 18446744073709551616 := by omega
  have m2 : -18446744073709551616 < 2 * a + 29 ∧ 2 * a + 29 < 18446744073709551616 := by omega
  have b1 := fun c => base_ok (c := c) ha ha2
  have b2 := fun x => second_ok (x := x) ha ha2
  have hE : ∀ x r', 0 ≤ r' → E (.d (.int (x % k))) ⟨[], [.lst [.list (ns.map .int), .int (a + 1), .int r']]⟩ := fun x r' q => h _ _ (md x).1 (md x).2 ⟨ns, a + 1, r', rfl, by omega, by omega, q⟩
  have hE0 : ∀ x r', 0 ≤ r' → E (.d (.int (x % k))) ⟨[], [.lst [.list (ns.map .int), .int a, .int r']]⟩ := fun x r' q => h _ _ (md x).1 (md x).2 ⟨ns, a, r', rfl, by omega, by omega, q⟩
  have dv : ∀ x : Int, 0 ≤ x → 0 ≤ x / k := fun x q => Int.ediv_nonneg q (by omega)
  unfold fn__law_draw
  rw [W_run]
  unfold pf__law_draw penD startS
  by_cases h0 : 0 < r
  · simp [ixN, h0, hk, kk, Int.not_le.mpr h0]
    exact hE0 _ _ (dv r hr)
  · have h0' : r ≤ 0 := by omega
    cases ns with
    | nil =>
      simp [ixN, h0, h0', hk, kk, m1, m2, b1, b2]
      have l : 0 ≤ a := ha
      have hl : ¬ a < 0 := by omega
      simp [l, hl]
      exact hE _ _ hr
    | cons n0 ns =>
      have hlen : 0 < ((n0 :: ns).length : Int) := by simp only [List.length_cons]; omega
      have hc : ∃ c, atI (n0 :: ns) (a % ((n0 :: ns).length : Int)) = some c := by
        have q1 := Int.emod_nonneg a (show ((n0 :: ns).length : Int) ≠ 0 by omega)
        have q2 := Int.emod_lt_of_pos a hlen
        rw [atI_nn q1]
        exact ⟨_, List.getElem?_eq_getElem (by omega)⟩
      obtain ⟨c, hc⟩ := hc
      generalize (n0 :: ns) = ms at *
      have nn : ms ≠ [] := by
        intro e
        subst e
        simp at hlen
      have nn2 : 0 < ms.length := by omega
      simp [ixN, h0, h0', hk, kk, m1, m2, b1, b2, nn, nn2, atI_map, hc]
      repeat' first | (refine And.intro ?_ ?_) | intro _
      all_goals first
        | exact hE _ _ hr
        | (refine hE _ _ (dv _ ?_); omega)
        | omega
theorem pen_W {X : Exn → Mem → Prop} {ns : List Int} {E : EV → Mem → Prop} (h : ∀ o, Pen 1000000 o → E (.new o) ⟨[], []⟩) : W (fn__law_pen [.d (ints_ ns)]) ⟨[], []⟩ X E := by
  unfold fn__law_pen
  rw [W_run]
  unfold pf__law_pen startS ints_
  have e : cutD (ns.map PyData.int) none (some 63) = (ns.take 63).map PyData.int := cut_take (k := 63)
  simp [e]
  exact h _ ⟨ns.take 63, 0, 0, by unfold penD; rw [List.map_take], by omega, by omega, by omega⟩
theorem fit_e {k k' B B' : Nat} {d : PyData} (h : Fit k B d) (h1 : k ≤ k' := by decide) (h2 : B ≤ B' := by decide) : Fit k' B' d := h.mono h1 h2
end Ev

namespace Ev
open PySem PySem.Spec PyProof.Rows L2 TL
/-! ### numbers and places as texts -/
theorem W_evk {α : Type} {p : Pg α} {m m' : Mem} {v : α} {X : Exn → Mem → Prop} {F : α → Mem → Prop} (e : p m = .ok v m') (h : F v m') : W p m X F := ⟨by rw [e]; exact h⟩
theorem W_compN {α : Type} {X : Exn → Mem → Prop} {m : Mem} {E : EV → Mem → Prop} {is : List Nat} {g : PyData → Pg Unit} {t : Pg Bool} {e : Pg EV} {l : List α} {q : α → PyData} (φ : α → PyData) (hl : l.length < 16777216)
    (h : ∀ a, a ∈ l → W (g (q a)) m X fun _ m1 => W t m1 noX fun k m2 => k = true ∧ W e m2 noX fun v m3 => W (toA v) m3 X fun u m4 => u = .d (φ a) ∧ (⟨wipeL is m4.sl, m4.cs⟩ : Mem) = m)
    (hE : E (.fresh (l.map φ)) m) : W (compL is g t e (l.map q) []) m X E := by
  refine W_compL (fun ds' acc m' => ∃ pre l', l = pre ++ l' ∧ ds' = l'.map q ∧ acc = pre.map φ ∧ m' = m) ⟨[], l, rfl, rfl, rfl, rfl⟩ ?_ ?_
  · rintro d ds' acc m' ⟨pre, l', e1, e0, rfl, rfl⟩
    cases l' with
    | nil => cases e0
    | cons a l' =>
      injection e0 with ea el
      subst ea el
      have hd : a ∈ l := by rw [e1]; simp
      have la : (pre.map φ).length < 16777216 := by
        rw [List.length_map]
        have h2 : pre.length ≤ l.length := by rw [e1, List.length_append]; omega
        omega
      have e2 : l = (pre ++ [a]) ++ l' := by rw [e1]; simp
      refine (h a hd).mono fun _ m1 q => q.mono fun k m2 q => ?_
      obtain ⟨hk, q⟩ := q
      rw [if_pos hk]
      refine q.mono fun v m3 q => q.mono fun u m4 q => ?_
      exact ⟨φ a, q.1, la, pre ++ [a], l', e2, rfl, by rw [List.map_append]; rfl, q.2⟩
  · rintro acc m' ⟨pre, l', e1, e0, rfl, rfl⟩
    have e3 : l' = [] := List.map_eq_nil_iff.mp e0.symm
    subst e3
    rw [List.append_nil] at e1
    rw [← e1]
    exact hE
def numS (n : Nat) : Str := Str.ofString (toString ((n : Nat) : Int))
theorem tl_numS {n : Nat} : tl (numS n) = numL n := tl_num n
def placeS : PyData → Str
  | .int i => Str.ofString (toString i)
  | _ => "-"
/-- None or the index of one of so many -/
def isPl (m : Nat) (d : PyData) : Prop := d = .none ∨ ∃ n : Nat, d = .int n ∧ n < m
theorem num_len {n : Nat} (h : n < 10 ^ 30) : (numS n).length ≤ 30 := by
  rw [len_tl, tl_numS]
  exact numL_len (by decide) h
theorem num_pos {n : Nat} : 1 ≤ (numS n).length := by
  rw [len_tl, tl_numS]
  have := numL_ne n
  cases q : numL n with
  | nil => exact absurd q this
  | cons a l => simp
def digL : List Nat := [48, 49, 50, 51, 52, 53, 54, 55, 56, 57]
theorem tl_dig : tl ("0123456789" : Str) = digL := by decide +kernel
theorem dig_mem {c : Nat} (h : 48 ≤ c ∧ c ≤ 57) : c ∈ digL := by
  obtain ⟨h1, h2⟩ := h
  have : c = 48 ∨ c = 49 ∨ c = 50 ∨ c = 51 ∨ c = 52 ∨ c = 53 ∨ c = 54 ∨ c = 55 ∨ c = 56 ∨ c = 57 := by omega
  unfold digL
  simpa using this
theorem num_head : ∀ {n : Nat}, 0 < n → ∃ c l, numL n = c :: l ∧ c ≠ 48 := by
  intro n
  induction n using Nat.strongRecOn with
  | _ n ih =>
    intro h
    by_cases h1 : n < 10
    · exact ⟨48 + n, [], numL_lt h1, by omega⟩
    · obtain ⟨c, l, e, hc⟩ := ih (n / 10) (by omega) (by omega)
      exact ⟨c, l ++ [48 + n % 10], by rw [numL_step (by omega), e]; rfl, hc⟩
theorem num_0 : numS 0 = ("0" : Str) := by decide +kernel
theorem num_ne0 {n : Nat} (h : 0 < n) : numS n ≠ ("0" : Str) := by
  intro e
  rw [← num_0] at e
  have := congrArg tl e
  rw [tl_numS, tl_numS] at this
  have := numL_inj this
  omega
theorem pl_str {m : Nat} {d : PyData} (h : isPl m d) (hm : m ≤ 10 ^ 30) : (placeS d).length ≤ 30 := by
  rcases h with rfl | ⟨n, rfl, hn⟩
  · decide +kernel
  · exact num_len (by omega)
theorem pl_free {m : Nat} {d : PyData} (h : isPl m d) {c : Nat} (hc : c ≠ 45) (hc2 : c < 48 ∨ 57 < c) : c ∉ tl (placeS d) := by
  rcases h with rfl | ⟨n, rfl, hn⟩
  · have e : tl (placeS .none) = [45] := by decide +kernel
    rw [e]
    simpa using hc
  · show c ∉ tl (numS n)
    rw [tl_numS]
    exact numL_free hc2
theorem fmt_num {n : Nat} (h : n < 10 ^ 30) : fmtD (.int n) = some (.d (.str (numS n))) := by
  have hl : ((n : Nat) : Int).natAbs.log2 < 1920 := Nat.lt_trans (log_lt (n := 200) (Nat.lt_trans h (by decide)) (by decide)) (by decide)
  exact if_pos hl
theorem str_num {n : Nat} (h : n < 10 ^ 30) : gStr [.int n] = some (.d (.str (numS n))) := by
  have hl : ((n : Nat) : Int).natAbs.log2 < 1920 := Nat.lt_trans (log_lt (n := 200) (Nat.lt_trans h (by decide)) (by decide)) (by decide)
  exact if_pos (decide_eq_true hl)
theorem log_ok {n : Nat} (h : n < 10 ^ 30) : ((n : Nat) : Int).natAbs.log2 < 1920 := by
  show n.log2 < 1920
  exact Nat.lt_trans (log_lt (n := 200) (Nat.lt_trans h (by decide)) (by decide)) (by decide)
section
variable {X : Exn → Mem → Prop} {m : Nat} {d : PyData} {cs : List Ob} {E : EV → Mem → Prop}
theorem number_text_W (h : isPl m d) (hm : m ≤ 10 ^ 30) (hE : E (.d (.str (placeS d))) ⟨[], cs⟩) : W (fn_number_text [.d d]) ⟨[], cs⟩ X E := by
  unfold fn_number_text
  rw [W_run]
  unfold pf_number_text startS
  rcases h with rfl | ⟨n, rfl, hn⟩
  · simp [-Bool.exists_bool]
    exact hE
  · have hl := log_ok (n := n) (by omega)
    simp [-Bool.exists_bool, gStr, strOk]
    exact ⟨hl, hE⟩
theorem law_place_W (h : isPl m d) (hm : m ≤ 10 ^ 30) (hE : E (.d (.str (placeS d))) ⟨[], cs⟩) : W (fn__law_place [.d d]) ⟨[], cs⟩ X E := by
  unfold fn__law_place
  rw [W_run]
  unfold pf__law_place startS
  rcases h with rfl | ⟨n, rfl, hn⟩
  · simp [-Bool.exists_bool]
    exact hE
  · have hl := log_ok (n := n) (by omega)
    simp [-Bool.exists_bool, gStr, strOk]
    exact ⟨hl, hE⟩
theorem number_in_W {n : Nat} (h : n < 10 ^ 30) (hE : E (.d (.int n)) ⟨[], cs⟩) : W (fn_number_in [.d (.str (numS n))]) ⟨[], cs⟩ X E := by
  unfold fn_number_in
  rw [W_run]
  unfold pf_number_in startS
  have l1 := num_len h
  have l2 := num_pos (n := n)
  have it : PySem.intText? (numS n) = some (n : Int) := int_num (by
    have := l1
    rw [len_tl, tl_numS] at this
    omega)
  refine W_cut (fun m => m = ⟨[some (.d (.str (numS n))), none], cs⟩) ?_ ?_
  · have h1 : (1 : Int) ≤ ((numS n).length : Int) := by omega
    have h2 : ((numS n).length : Int) ≤ 30 := by omega
    simp [-Bool.exists_bool, h1, h2]
    refine ⟨by omega, ?_⟩
    refine W_compN (l := tl (numS n)) (q := fun c => .str ⟨#[c]⟩) (fun c => .bool (decide (c ∈ digL))) (by rw [← len_tl]; omega) (fun c hc => ?_) ?_
    · have q : c ∈ (Str.ofString "0123456789").cps ↔ c ∈ digL := by
        rw [← tl_dig]
        exact Array.mem_toList_iff.symm
      simp [-Bool.exists_bool, twoB, wipeL, q]
    · have ha : ((tl (numS n)).all fun c => decide (c ∈ digL)) = true := List.all_eq_true.mpr fun c hc => by
        rw [tl_numS] at hc
        have := numL_digits n c hc
        exact decide_eq_true (dig_mem (by omega))
      simp [-Bool.exists_bool, ha]
  rintro m rfl
  simp [-Bool.exists_bool, it]
  refine ⟨fun _ => ⟨by omega, hE⟩, fun n0 => ?_⟩
  have hn : 0 < n := by
    rcases Nat.eq_zero_or_pos n with e | e
    · subst e
      exact absurd num_0 n0
    · exact e
  obtain ⟨c, l, e, hc⟩ := num_head hn
  have ec : tl (numS n) = c :: l := by rw [tl_numS, e]
  refine ⟨.str ⟨#[c]⟩, ?_, ?_⟩
  · show chD (numS n) 0 = _
    unfold chD
    rw [if_pos (by omega), show (numS n).cps.toList = c :: l from ec, atI_0]
    rfl
  · have ne : (⟨#[c]⟩ : Str) ≠ ("0" : Str) := by
      intro e
      have := congrArg tl e
      rw [show tl ("0" : Str) = [48] by decide +kernel] at this
      exact hc (List.cons.inj this).1
    simp [-Bool.exists_bool, ne]
    exact ⟨by omega, hE⟩
theorem number_dash {cs : List Ob} : fn_number_in [.d (.str "-")] ⟨[], cs⟩ = .ok (.d .none) ⟨[], cs⟩ := by kernel_rfl
theorem num_ne_dash {n : Nat} : numS n ≠ ("-" : Str) := by
  intro e
  have := congrArg tl e
  rw [tl_numS, show tl ("-" : Str) = [45] by decide +kernel] at this
  have h := numL_free (n := n) (s := 45) (.inl (by decide))
  rw [this] at h
  simp at h
theorem is_place_W (h : isPl m d) (hm : m ≤ 10 ^ 30) (hE : E (.d (.bool true)) ⟨[], cs⟩) : W (fn_is_place [.d (.str (placeS d)), .d (.int m)]) ⟨[], cs⟩ X E := by
  unfold fn_is_place
  rw [W_run]
  unfold pf_is_place startS
  rcases h with rfl | ⟨n, rfl, hn⟩
  · simp [-Bool.exists_bool]
    refine W_evk number_dash ?_
    have e : placeS .none = ("-" : Str) := rfl
    simp [-Bool.exists_bool, e]
    exact hE
  · have e : placeS (.int n) = numS n := rfl
    have nd := num_ne_dash (n := n)
    rw [e]
    simp [-Bool.exists_bool]
    refine number_in_W (by omega) ?_
    simp [-Bool.exists_bool, nd, hn]
    exact hE
theorem place_in_W (h : isPl m d) (hm : m ≤ 10 ^ 30) (hE : E (.d d) ⟨[], cs⟩) : W (fn_place_in [.d (.str (placeS d))]) ⟨[], cs⟩ X E := by
  unfold fn_place_in
  rw [W_run]
  unfold pf_place_in startS
  rcases h with rfl | ⟨n, rfl, hn⟩
  · have e : placeS .none = ("-" : Str) := rfl
    simp [-Bool.exists_bool, e]
    exact hE
  · have e : placeS (.int n) = numS n := rfl
    have nd := num_ne_dash (n := n)
    rw [e]
    simp [-Bool.exists_bool, nd]
    refine number_in_W (by omega) ?_
    simp [-Bool.exists_bool]
    exact hE
end
/-! ### joined texts -/
theorem joinL_len {S : List Nat} : ∀ {ps : List (List Nat)}, (joinL S ps).length ≤ (ps.map List.length).sum + ps.length * S.length
  | [] => by simp [joinL]
  | [p] => by simp [joinL]
  | p :: q :: r => by
    have := joinL_len (S := S) (ps := q :: r)
    show (p ++ (S ++ joinL S (q :: r))).length ≤ _
    simp only [List.length_append, List.map_cons, List.sum_cons, List.length_cons] at this ⊢
    rw [Nat.add_mul]
    omega
theorem join_len {a : Str} {ys : List Str} : (Txt.join a ys).length ≤ (ys.map (·.length)).sum + ys.length * a.length := by
  rw [len_tl, join_eq, tl_join]
  have := joinL_len (S := tl a) (ps := ys.map tl)
  rw [List.map_map, List.length_map, ← len_tl] at this
  have e : (List.length ∘ tl) = fun y : Str => y.length := by
    funext y
    exact (len_tl y).symm
  rw [e] at this
  exact this
theorem sum_le {ys : List Str} {k : Nat} (h : ∀ y, y ∈ ys → y.length ≤ k) : (ys.map (·.length)).sum ≤ ys.length * k := by
  induction ys with
  | nil => simp
  | cons y ys ih =>
    have h1 := h y (List.mem_cons_self ..)
    have h2 := ih fun z hz => h z (List.mem_cons_of_mem _ hz)
    simp only [List.map_cons, List.sum_cons, List.length_cons]
    rw [Nat.add_mul]
    omega
theorem join_le {a : Str} {ys : List Str} {k n : Nat} (h : ∀ y, y ∈ ys → y.length ≤ k) (hn : ys.length ≤ n) : (ys.map (·.length)).sum + ys.length * a.length ≤ n * (k + a.length) := by
  have h1 := sum_le h
  have h2 : ys.length * (k + a.length) ≤ n * (k + a.length) := Nat.mul_le_mul_right _ hn
  rw [Nat.mul_add] at h2
  omega
theorem join_ok {a : Str} {ys : List Str} {k n : Nat} (h : ∀ y, y ∈ ys → y.length ≤ k) (hn : ys.length ≤ n) (hz : n * (k + a.length) ≤ 16777216) : joinOk a ys = true := by
  unfold joinOk
  rw [decide_eq_true_iff]
  exact Nat.le_trans (join_le h hn) hz
theorem joinL_mem {S : List Nat} {c : Nat} : ∀ {ps : List (List Nat)}, c ∈ joinL S ps → c ∈ S ∨ ∃ p, p ∈ ps ∧ c ∈ p
  | [], h => by cases h
  | [p], h => .inr ⟨p, List.mem_cons_self .., h⟩
  | p :: q :: r, h => by
    rcases List.mem_append.mp (show c ∈ p ++ (S ++ joinL S (q :: r)) from h) with h | h
    · exact .inr ⟨p, List.mem_cons_self .., h⟩
    · rcases List.mem_append.mp h with h | h
      · exact .inl h
      · rcases joinL_mem h with h | ⟨z, h1, h2⟩
        · exact .inl h
        · exact .inr ⟨z, List.mem_cons_of_mem _ h1, h2⟩
theorem join_mem {a : Str} {ys : List Str} {c : Nat} (h : c ∈ tl (Txt.join a ys)) : c ∈ tl a ∨ ∃ y, y ∈ ys ∧ c ∈ tl y := by
  rw [join_eq, tl_join] at h
  rcases joinL_mem h with h | ⟨p, h1, h2⟩
  · exact .inl h
  · obtain ⟨y, hy, rfl⟩ := List.mem_map.mp h1
    exact .inr ⟨y, hy, h2⟩
/-- no such sign: the text stays whole -/
theorem split_one {x y : Str} {s : Nat} (ey : tl y = [s]) (hk : y.cps.all (· < 256) = true) (h : s ∉ tl x) : Txt.split x y = [x] := by
  have e : Txt.join y [x] = x := by rw [join_eq]; rfl
  have z := split_join (S := []) ey hk (parts := [x]) (by simp) (fun p hp => by rw [List.mem_singleton.mp hp]; exact h)
  rw [e] at z
  exact z
theorem tl_nl : tl ("\n" : Str) = [10] := by decide +kernel
theorem tl_sp : tl (" " : Str) = [32] := by decide +kernel
theorem tl_co : tl ("," : Str) = [44] := by decide +kernel
theorem ok_nl : (("\n" : Str).cps.all (· < 256)) = true := by decide +kernel
theorem ok_sp : ((" " : Str).cps.all (· < 256)) = true := by decide +kernel
theorem ok_co : (("," : Str).cps.all (· < 256)) = true := by decide +kernel
/-- the fields of an object, written -/
def rowS (fs : List PyData) : Str := Txt.join "," (fs.map placeS)
theorem row_split {m : Nat} {fs : List PyData} (h : ∀ d, d ∈ fs → isPl m d) (hne : fs ≠ []) : Txt.split (rowS fs) "," = fs.map placeS :=
  split_join (S := []) tl_co ok_co (by simpa using hne) fun p hp => by
    obtain ⟨d, hd, rfl⟩ := List.mem_map.mp hp
    exact pl_free (h d hd) (by decide) (.inl (by decide))
theorem row_free {m : Nat} {fs : List PyData} (h : ∀ d, d ∈ fs → isPl m d) {c : Nat} (h1 : c ≠ 44) (h2 : c ≠ 45) (h3 : c < 48 ∨ 57 < c) : c ∉ tl (rowS fs) := fun hc => by
  rcases join_mem hc with q | ⟨y, hy, q⟩
  · rw [tl_co] at q
    exact h1 (List.mem_singleton.mp q)
  · obtain ⟨d, hd, rfl⟩ := List.mem_map.mp hy
    exact pl_free (h d hd) h2 h3 q
theorem row_len {m : Nat} {fs : List PyData} (h : ∀ d, d ∈ fs → isPl m d) (hm : m ≤ 10 ^ 30) {k : Nat} (hl : fs.length ≤ k) : (rowS fs).length ≤ k * 31 := by
  refine Nat.le_trans join_len (Nat.le_trans (join_le (k := 30) (n := k) (fun y hy => ?_) (by simpa using hl)) (Nat.le_of_eq ?_))
  · obtain ⟨d, hd, rfl⟩ := List.mem_map.mp hy
    exact pl_str (h d hd) hm
  · have : (("," : Str)).length = 1 := by decide +kernel
    rw [this]
end Ev

namespace Ev
open PySem PySem.Spec PyProof.Rows L2 TL
/-! ### heaps and registers as texts -/
def pileR (w : Nat) (rows : List (List PyData)) : PyData := .tuple [.int w, .tuple (rows.map .tuple)]
structure Heap3 (w : Nat) (rows : List (List PyData)) : Prop where
  w1 : 1 ≤ w
  w4 : w ≤ 4
  sz : rows.length ≤ 40
  row : ∀ fs, fs ∈ rows → fs.length = w ∧ ∀ d, d ∈ fs → isPl rows.length d
def restS (rows : List (List PyData)) : List Str := if rows = [] then ["none"] else rows.map rowS
def heapS (w : Nat) (rows : List (List PyData)) : Str := numS w ++ ": " ++ Txt.join " " (restS rows)
def ringS (rs : List PyData) : Str := Txt.join " " (rs.map placeS)
theorem empty_app {x : Str} : Str.empty ++ x = x := ext_tl (by rw [tl_append]; rfl)
theorem app_assoc {x y z : Str} : x ++ y ++ z = x ++ (y ++ z) := ext_tl (by rw [tl_append, tl_append, tl_append, tl_append, List.append_assoc])
theorem join_one {a x : Str} : Txt.join a [x] = x := by rw [join_eq]; rfl
theorem join_cons {a x y : Str} {r : List Str} : Txt.join a (x :: y :: r) = x ++ a ++ Txt.join a (y :: r) := by rw [join_eq, join_eq]; rfl
theorem rest_ne {rows : List (List PyData)} : restS rows ≠ [] := by
  unfold restS
  split
  · simp
  · rename_i h
    simpa using h
theorem heap_words {w : Nat} {rows : List (List PyData)} : heapS w rows = Txt.join " " ((numS w ++ ":") :: restS rows) := by
  unfold heapS
  cases e : restS rows with
  | nil => exact absurd e rest_ne
  | cons y r =>
    rw [join_cons]
    have e2 : (": " : Str) = ":" ++ " " := by decide +kernel
    rw [e2]
    simp only [app_assoc]
section
variable {w : Nat} {rows : List (List PyData)}
theorem rest_free (h : Heap3 w rows) {c : Nat} (hc : c = 10 ∨ c = 32) : ∀ y, y ∈ restS rows → c ∉ tl y := by
  intro y hy
  unfold restS at hy
  split at hy
  · rw [List.mem_singleton.mp hy]
    have e : tl ("none" : Str) = [110, 111, 110, 101] := by decide +kernel
    rw [e]
    rcases hc with rfl | rfl <;> decide
  · obtain ⟨fs, hf, rfl⟩ := List.mem_map.mp hy
    rcases hc with rfl | rfl <;> exact row_free (h.row fs hf).2 (by decide) (by decide) (.inl (by decide))
theorem head_free {c : Nat} (hc : c = 10 ∨ c = 32) : c ∉ tl (numS w ++ ":") := by
  rw [tl_append, tl_numS]
  have e : tl (":" : Str) = [58] := by decide +kernel
  rw [e]
  intro h
  rcases List.mem_append.mp h with h | h
  · rcases hc with rfl | rfl <;> exact numL_free (.inl (by decide)) h
  · rcases hc with rfl | rfl <;> exact absurd h (by decide)
theorem words_free (h : Heap3 w rows) {c : Nat} (hc : c = 10 ∨ c = 32) : ∀ y, y ∈ (numS w ++ ":") :: restS rows → c ∉ tl y := fun y hy => by
  rcases List.mem_cons.mp hy with rfl | hy
  · exact head_free hc
  · exact rest_free h hc y hy
theorem heap_nl (h : Heap3 w rows) : Txt.split (heapS w rows) "\n" = [heapS w rows] := split_one tl_nl ok_nl fun hc => by
  rw [heap_words] at hc
  rcases join_mem hc with q | ⟨y, hy, q⟩
  · rw [tl_sp] at q
    exact absurd q (by decide)
  · exact words_free h (.inl rfl) y hy q
theorem heap_sp (h : Heap3 w rows) : Txt.split (heapS w rows) " " = (numS w ++ ":") :: restS rows := by
  rw [heap_words]
  exact split_join (S := []) tl_sp ok_sp (by simp) (words_free h (.inr rfl))
theorem rest_len (h : Heap3 w rows) : (restS rows).length ≤ 40 ∧ ∀ y, y ∈ restS rows → y.length ≤ 124 := by
  unfold restS
  split
  · exact ⟨by simp, fun y hy => by rw [List.mem_singleton.mp hy]; decide +kernel⟩
  · refine ⟨by simpa using h.sz, fun y hy => ?_⟩
    obtain ⟨fs, hf, rfl⟩ := List.mem_map.mp hy
    obtain ⟨h1, h2⟩ := h.row fs hf
    exact row_len (k := 4) h2 (by have := h.sz; omega) (by have := h.w4; omega)
theorem wnum_len (h : Heap3 w rows) : (numS w).length ≤ 30 := num_len (by have := h.w4; omega)
theorem heap_len (h : Heap3 w rows) : (heapS w rows).length ≤ 6000 := by
  unfold heapS
  rw [strLen_append, strLen_append]
  have h1 := wnum_len h
  obtain ⟨h2, h3⟩ := rest_len h
  have h4 := join_len (a := " ") (ys := restS rows)
  have h5 := join_le (a := " ") h3 h2
  have e1 : ((" " : Str)).length = 1 := by decide +kernel
  have e2 : ((": " : Str)).length = 2 := by decide +kernel
  rw [e1] at h4 h5
  omega
theorem place_sok {d : PyData} : sok (placeS d) := by
  cases d <;> exact sok_of _
theorem row_sok {fs : List PyData} : sok (rowS fs) := by
  unfold rowS
  rw [join_eq]
  refine sok_join (sok_of _) fun t ht => ?_
  obtain ⟨d, _, rfl⟩ := List.mem_map.mp ht
  exact place_sok
theorem rest_sok : ∀ y, y ∈ restS rows → sok y := fun y hy => by
  unfold restS at hy
  split at hy
  · rw [List.mem_singleton.mp hy]
    exact sok_of _
  · obtain ⟨fs, _, rfl⟩ := List.mem_map.mp hy
    exact row_sok
theorem eq_strs {xs ys : List Str} (hx : ∀ x, x ∈ xs → sok x) (hy : ∀ x, x ∈ ys → sok x) : cmpS .Eq (.list (xs.map .str)) (.list (ys.map .str)) = some (decide (xs = ys)) := by
  have s1 := strs_shaped hx
  have s2 := strs_shaped hy
  simp only [cmpS, eqQ, s1, s2]
  by_cases hl : xs.length = ys.length
  · simp [hl, PyData.eqv, eqvAll_strs]
  · have : xs ≠ ys := fun e => hl (by rw [e])
    simp [hl, this]
theorem row_ne_none {m : Nat} {fs : List PyData} (h : ∀ d, d ∈ fs → isPl m d) : rowS fs ≠ ("none" : Str) := fun e => by
  have := row_free h (c := 110) (by decide) (by decide) (.inr (by decide))
  rw [e] at this
  exact this (by decide +kernel)
theorem rest_is (h : Heap3 w rows) : restS rows = (["none"] : List Str) ↔ rows = [] := by
  unfold restS
  split
  · rename_i e
    simp [e]
  · rename_i ne
    refine ⟨fun e => ?_, fun e => absurd e ne⟩
    match rows, h, ne, e with
    | fs :: r, h, _, e =>
      have : rowS fs = "none" := (List.cons.inj e).1
      exact absurd this (row_ne_none (h.row fs (List.mem_cons_self ..)).2)
end
section
variable {X : Exn → Mem → Prop} {w : Nat} {rows : List (List PyData)} {cs : List Ob} {E : EV → Mem → Prop}
theorem heap_text_W (h : Heap3 w rows) (hE : E (.d (.str (heapS w rows))) ⟨[], cs⟩) : W (fn_heap_text [.d (pileR w rows)]) ⟨[], cs⟩ X E := by
  unfold fn_heap_text
  rw [W_run]
  unfold pf_heap_text startS pileR
  have sz := h.sz
  have lw := log_ok (n := w) (by have := h.w4; omega)
  have jo : joinOk " " (restS rows) = true := join_ok (rest_len h).2 (rest_len h).1 (by
    have e1 : ((" " : Str)).length = 1 := by decide +kernel
    rw [e1]
    decide)
  have l1 := wnum_len h
  have hl := heap_len h
  refine W_cut (fun m => m = ⟨[some (.d (.tuple [.int w, .tuple (rows.map .tuple)])), some (.d (.int w)), some (.d (.tuple (rows.map .tuple))), none, none, none], cs⟩) ?_ ?_
  · simp [-Bool.exists_bool, tgTup, tgCons, tgNil]
  rintro m rfl
  refine W_cut (fun m => m = ⟨[some (.d (.tuple [.int w, .tuple (rows.map .tuple)])), some (.d (.int w)), some (.d (.tuple (rows.map .tuple))), some (.ob (.lst ((restS rows).map .str))), none, none], cs⟩) ?_ ?_
  · by_cases hr : rows = []
    · subst hr
      simp [-Bool.exists_bool, restS]
    · have e : restS rows = rows.map rowS := by simp [restS, hr]
      have hr2 : 0 < rows.length := List.length_pos_iff.mpr hr
      rw [e]
      simp [-Bool.exists_bool, seqOf, hr]
      refine fun _ => W_compN (l := rows) (fun fs => .str (rowS fs)) (by omega) (fun fs hf => ?_) ?_
      · obtain ⟨h1, h2⟩ := h.row fs hf
        have fl : fs.length < 16777216 := by have := h.w4; omega
        have w4 := h.w4
        simp [-Bool.exists_bool, seqOf]
        rw [show fs = fs.map (fun d => d) by simp]
        refine W_compN (l := fs) (q := fun d => d) (fun d => .str (placeS d)) fl (fun d hd => ?_) ?_
        · simp [-Bool.exists_bool]
          refine number_text_W (h2 d hd) (by omega) ?_
          simp [-Bool.exists_bool, wipeL]
        · have jr : joinOk "," (fs.map placeS) = true := join_ok (k := 30) (n := 4) (fun y hy => by
            obtain ⟨d, hd, rfl⟩ := List.mem_map.mp hy
            exact pl_str (h2 d hd) (by omega)) (by simp; omega) (by decide +kernel)
          have e3 : joinD (.str ",") (.list (fs.map fun d => .str (placeS d))) = some (.d (.str (rowS fs))) := by
            have e4 : (fs.map fun d => PyData.str (placeS d)) = (fs.map placeS).map .str := by simp
            rw [e4]
            show (strsOf ((fs.map placeS).map .str)).bind _ = _
            rw [strsOf_map]
            show (if joinOk "," (fs.map placeS) then _ else none) = _
            rw [if_pos jr]
            rfl
          simp [-Bool.exists_bool, e3, wipeL]
      · simp [-Bool.exists_bool]
  rintro m rfl
  have ff := fmt_num (n := w) (by have := h.w4; omega)
  have e5 : joinD (.str " ") (.list ((restS rows).map .str)) = some (.d (.str (Txt.join " " (restS rows)))) := by
    show (strsOf ((restS rows).map .str)).bind _ = _
    rw [strsOf_map]
    exact if_pos jo
  have l2 : (numS w ++ ": ").length ≤ 16777216 := by
    rw [strLen_append]
    have e2 : ((": " : Str)).length = 2 := by decide +kernel
    omega
  simp [-Bool.exists_bool, ff, -fmtD_i, empty_app, e5]
  have hl2 := hl
  unfold heapS at hl2
  rw [strLen_append] at hl2
  exact ⟨fun _ => ⟨fun _ => ⟨by omega, hE⟩, l2⟩, by omega⟩
theorem join_row {m : Nat} {fs : List PyData} (h : ∀ d, d ∈ fs → isPl m d) (hm : m ≤ 10 ^ 30) {sp : Str} (hs : sp.length = 1) (hl : fs.length ≤ 1000) : joinD (.str sp) (.list (fs.map fun d => .str (placeS d))) = some (.d (.str (Txt.join sp (fs.map placeS)))) := by
  have jr : joinOk sp (fs.map placeS) = true := join_ok (k := 30) (n := 1000) (fun y hy => by
    obtain ⟨d, hd, rfl⟩ := List.mem_map.mp hy
    exact pl_str (h d hd) hm) (by simpa using hl) (by rw [hs]; decide)
  have e4 : (fs.map fun d => PyData.str (placeS d)) = (fs.map placeS).map .str := by simp
  rw [e4]
  show (strsOf ((fs.map placeS).map .str)).bind _ = _
  rw [strsOf_map]
  exact if_pos jr
theorem sp_1 : ((" " : Str)).length = 1 := by decide +kernel
theorem co_1 : (("," : Str)).length = 1 := by decide +kernel
theorem registers_text_W {m : Nat} {rs : List PyData} (h : ∀ d, d ∈ rs → isPl m d) (hm : m ≤ 10 ^ 30) (hl : rs.length ≤ 1000) (hE : E (.d (.str (ringS rs))) ⟨[], cs⟩) : W (fn_registers_text [.d (.tuple rs)]) ⟨[], cs⟩ X E := by
  unfold fn_registers_text
  rw [W_run]
  unfold pf_registers_text startS
  simp [-Bool.exists_bool, seqOf]
  have e := join_row h hm sp_1 hl
  have e0 : rs = rs.map (fun d => d) := by simp
  conv => arg 1; arg 5; rw [e0]
  refine W_compN (l := rs) (q := fun d => d) (fun d => .str (placeS d)) (by omega) (fun d hd => ?_) ?_
  · simp [-Bool.exists_bool]
    refine number_text_W (h d hd) hm ?_
    simp [-Bool.exists_bool, wipeL]
  · simp [-Bool.exists_bool, e]
    exact hE
theorem law_ring_line_W {m : Nat} {rs : List PyData} (h : ∀ d, d ∈ rs → isPl m d) (hm : m ≤ 10 ^ 30) (hl : rs.length ≤ 1000) (hE : E (.d (.str (ringS rs))) ⟨[], cs⟩) : W (fn__law_ring_line [.d (.tuple rs)]) ⟨[], cs⟩ X E := by
  unfold fn__law_ring_line
  rw [W_run]
  unfold pf__law_ring_line startS
  simp [-Bool.exists_bool, seqOf]
  have e := join_row h hm sp_1 hl
  have e0 : rs = rs.map (fun d => d) := by simp
  conv => arg 1; arg 5; rw [e0]
  refine W_compN (l := rs) (q := fun d => d) (fun d => .str (placeS d)) (by omega) (fun d hd => ?_) ?_
  · simp [-Bool.exists_bool]
    refine law_place_W (h d hd) hm ?_
    simp [-Bool.exists_bool, wipeL]
  · simp [-Bool.exists_bool, e]
    exact hE
theorem law_heap_line_W (h : Heap3 w rows) (hE : E (.d (.str (heapS w rows))) ⟨[], cs⟩) : W (fn__law_heap_line [.d (pileR w rows)]) ⟨[], cs⟩ X E := by
  unfold fn__law_heap_line
  rw [W_run]
  unfold pf__law_heap_line startS pileR
  have sz := h.sz
  have jo : joinOk " " (restS rows) = true := join_ok (rest_len h).2 (rest_len h).1 (by rw [sp_1]; decide)
  have l1 := wnum_len h
  have hl := heap_len h
  refine W_cut (fun m => m = ⟨[some (.d (.tuple [.int w, .tuple (rows.map .tuple)])), some (.ob (.lst (rows.map fun fs => .str (rowS fs)))), none, none], cs⟩) ?_ ?_
  · simp [-Bool.exists_bool, seqOf]
    refine W_compN (l := rows) (fun fs => .str (rowS fs)) (by omega) (fun fs hf => ?_) ?_
    · obtain ⟨h1, h2⟩ := h.row fs hf
      have fl : fs.length < 16777216 := by have := h.w4; omega
      have e := join_row h2 (by omega) co_1 (by have := h.w4; omega)
      have e0 : fs = fs.map (fun d => d) := by simp
      simp [-Bool.exists_bool, seqOf]
      conv => arg 1; arg 5; rw [e0]
      refine W_compN (l := fs) (q := fun d => d) (fun d => .str (placeS d)) fl (fun d hd => ?_) ?_
      · simp [-Bool.exists_bool]
        refine law_place_W (h2 d hd) (by omega) ?_
        simp [-Bool.exists_bool, wipeL]
      · simp [-Bool.exists_bool, e, wipeL]
        rfl
    · simp [-Bool.exists_bool]
  rintro m rfl
  have ff := str_num (n := w) (by have := h.w4; omega)
  have hl2 := hl
  unfold heapS at hl2
  rw [strLen_append, strLen_append] at hl2
  by_cases hr : rows = []
  · subst hr
    have e : heapS w [] = numS w ++ ": " ++ "none" := by
      unfold heapS restS
      rw [if_pos rfl, join_one]
    rw [e] at hE
    have e3 : (("none" : Str)).length = 4 := by decide +kernel
    have e2 : ((": " : Str)).length = 2 := by decide +kernel
    simp [-Bool.exists_bool, ff, strLen_append, e2, e3]
    exact ⟨by omega, by omega, hE⟩
  · have er : restS rows = rows.map rowS := by simp [restS, hr]
    have e5 : joinD (.str " ") (.list (rows.map fun fs => .str (rowS fs))) = some (.d (.str (Txt.join " " (restS rows)))) := by
      have e4 : (rows.map fun fs => PyData.str (rowS fs)) = (restS rows).map .str := by rw [er]; simp
      rw [e4]
      show (strsOf ((restS rows).map .str)).bind _ = _
      rw [strsOf_map]
      exact if_pos jo
    have e2 : ((": " : Str)).length = 2 := by decide +kernel
    have e6 : (rows.map fun fs => PyData.str (rowS fs)).isEmpty = false := by
      cases rows with
      | nil => exact absurd rfl hr
      | cons a b => rfl
    simp [-Bool.exists_bool, ff, e5, hr, strLen_append]
    exact ⟨by omega, by omega, hE⟩
end
end Ev

namespace Ev
open PySem PySem.Spec PyProof.Rows L2 TL
/-! ### texts read as heaps -/
theorem splitD_ok {a b : Str} {l : List Str} (e : Txt.split a b = l) (hb : (b.length == 0) = false) (ha : a.length ≤ 16000000) : splitD (.str a) (.str b) = some (.new (.lst (l.map .str))) := by
  show (if (b.length == 0) = false ∧ a.length ≤ 16000000 then some (EV.new (.lst ((Txt.split a b).map .str))) else none) = _
  rw [if_pos ⟨hb, ha⟩, e]
theorem nl_ne : ((("\n" : Str)).length == 0) = false := by decide +kernel
theorem sp_ne : (((" " : Str)).length == 0) = false := by decide +kernel
theorem co_ne : ((("," : Str)).length == 0) = false := by decide +kernel
section
variable {X : Exn → Mem → Prop} {w : Nat} {rows : List (List PyData)} {cs : List Ob} {E : EV → Mem → Prop}
/-- one line of words -/
theorem one_line_W {t : Str} {l : List Str} (h1 : Txt.split t "\n" = [t]) (h2 : Txt.split t " " = l) (hl : t.length ≤ 16000000) (hE : E (.new (.lst (l.map .str))) ⟨[], cs⟩) : W (fn_one_line [.d (.str t)]) ⟨[], cs⟩ X E := by
  unfold fn_one_line
  rw [W_run]
  unfold pf_one_line startS
  have e1 := splitD_ok h1 nl_ne hl
  have e2 := splitD_ok h2 sp_ne hl
  simp [-Bool.exists_bool, e1, e2]
  exact hE
theorem need_one_line_W {t : Str} (h1 : Txt.split t "\n" = [t]) (hl : t.length ≤ 16000000) (hE : E (.d .none) ⟨[], cs⟩) : W (fn_need_one_line [.d (.str t)]) ⟨[], cs⟩ X E := by
  unfold fn_need_one_line
  rw [W_run]
  unfold pf_need_one_line startS
  have e1 := splitD_ok h1 nl_ne hl
  simp [-Bool.exists_bool, e1]
  exact hE
theorem width_go (h1 : 1 ≤ w) (h4 : w ≤ 4) : fn_width_in [.d (.str (numS w ++ ":"))] ⟨[], cs⟩ = .ok (.d (.int w)) ⟨[], cs⟩ := by
  have : w = 1 ∨ w = 2 ∨ w = 3 ∨ w = 4 := by omega
  rcases this with rfl | rfl | rfl | rfl <;> kernel_rfl
theorem is_object_W {m : Nat} {fs : List PyData} (h : ∀ d, d ∈ fs → isPl m d) (hm : m ≤ 10 ^ 30) (hl : fs.length ≤ 1000) (hne : fs ≠ []) (hE : E (.d (.bool true)) ⟨[], cs⟩) : W (fn_is_object [.d (.str (rowS fs)), .d (.int fs.length), .d (.int m)]) ⟨[], cs⟩ X E := by
  unfold fn_is_object
  rw [W_run]
  unfold pf_is_object startS
  have e1 := splitD_ok (row_split h hne) co_ne (by have := row_len h hm hl; omega)
  simp [-Bool.exists_bool, e1, seqOf]
  have e4 : (fs.map (PyData.str ∘ placeS)) = fs.map fun d => .str (placeS d) := rfl
  rw [e4]
  refine W_compN (l := fs) (fun _ => .bool true) (by omega) (fun d hd => ?_) ?_
  · simp [-Bool.exists_bool]
    refine is_place_W (h d hd) hm ?_
    simp [-Bool.exists_bool, wipeL]
  · have e5 : (fs.map fun _ => PyData.bool true) = fs.map fun x => .bool ((fun _ => true) x) := rfl
    rw [e5]
    simp [-Bool.exists_bool]
    have : (fs.all fun _ => true) = true := List.all_eq_true.mpr fun _ _ => rfl
    simpa [this] using hE
theorem cut_tl1 {x : PyData} {r : List PyData} : cutD (x :: r) (some 1) none = r := by
  unfold cutD
  rw [show (1 : Int) = ((1 : Nat) : Int) from rfl, HT.sIx_nat, HT.sIx_none]
  have e1 : min 1 (x :: r).length = 1 := by simp
  rw [e1]
  simp
theorem enum_mem {xs : List PyData} {d : PyData} (h : d ∈ enumD xs) : ∃ (i : Nat) (y : PyData), d = .tuple [.int i, y] ∧ y ∈ xs ∧ i < xs.length := by
  unfold enumD at h
  obtain ⟨i, hi, e⟩ := List.mem_mapIdx.mp h
  exact ⟨i, _, e.symm, List.getElem_mem hi, hi⟩
theorem heap_in_W (h : Heap3 w rows) (hE : E (.d (pileR w rows)) ⟨[], cs⟩) : W (fn_heap_in [.d (.int 0), .d (.list (((numS w ++ ":") :: restS rows).map .str)), .d (.int 0)]) ⟨[], cs⟩ X E := by
  unfold fn_heap_in
  rw [W_run]
  unfold pf_heap_in startS
  have sz := h.sz
  have rl := rest_len h
  refine W_cut (fun m => m = ⟨[some (.d (.int 0)), some (.d (.list (((numS w ++ ":") :: restS rows).map .str))), some (.d (.int 0)), some (.d (.int w)), none, none, none, none], cs⟩) ?_ ?_
  · simp [-Bool.exists_bool]
    refine W_evk (width_go h.w1 h.w4) ?_
    simp [-Bool.exists_bool]
  rintro m rfl
  refine W_cut (fun m => m = ⟨[some (.d (.int 0)), some (.d (.list (((numS w ++ ":") :: restS rows).map .str))), some (.d (.int 0)), some (.d (.int w)), none, none, none, none], cs⟩) ?_ ?_
  · simp [-Bool.exists_bool]
  rintro m rfl
  refine W_cut (fun m => m = ⟨[some (.d (.int 0)), some (.d (.list (((numS w ++ ":") :: restS rows).map .str))), some (.d (.int 0)), some (.d (.int w)), some (.ob (.lst ((restS rows).map .str))), none, none, none], cs⟩) ?_ ?_
  · simp [-Bool.exists_bool, cut_tl1]
  rintro m rfl
  have eq0 : cmpS .Eq (.list ((restS rows).map .str)) (.list [.str "none"]) = some (decide (restS rows = (["none"] : List Str))) := eq_strs (ys := ["none"]) rest_sok fun x hx => by
    rw [List.mem_singleton.mp hx]
    exact sok_of _
  by_cases hr : rows = []
  · have en : restS rows = (["none"] : List Str) := (rest_is h).mpr hr
    have hE2 : pileR w rows = .tuple [.int w, .tuple []] := by subst hr; rfl
    rw [hE2] at hE
    refine W_cut (fun _ => False) ?_ (fun m z => z.elim)
    have eq1 : cmpS .Eq (.list [.str "none"]) (.list [.str "none"]) = some true := by decide +kernel
    simp [-Bool.exists_bool, en, eq1]
    exact hE
  · have en : ¬ restS rows = (["none"] : List Str) := fun e => hr ((rest_is h).mp e)
    have er : restS rows = rows.map rowS := by simp [restS, hr]
    have fne : ∀ fs, fs ∈ rows → fs ≠ [] := fun fs hf e => by
      have := (h.row fs hf).1
      have := h.w1
      subst e
      simp at *
      omega
    refine W_cut (fun m => m = ⟨[some (.d (.int 0)), some (.d (.list (((numS w ++ ":") :: restS rows).map .str))), some (.d (.int 0)), some (.d (.int w)), some (.ob (.lst ((restS rows).map .str))), none, none, none], cs⟩) ?_ ?_
    · simp [-Bool.exists_bool, eq0, en]
    rintro m rfl
    rw [er]
    refine W_cut (fun m => ∃ v5 v6, m = ⟨[some (.d (.int 0)), some (.d (.list (((numS w ++ ":") :: rows.map rowS).map .str))), some (.d (.int 0)), some (.d (.int w)), some (.d (.list ((rows.map rowS).map .str))), v5, v6, none], cs⟩) ?_ ?_
    · rw [W_for]
      simp [-Bool.exists_bool]
      refine W_list (P := fun d => ∃ (i : Nat) (fs : List PyData), d = .tuple [.int i, .str (rowS fs)] ∧ i < 40 ∧ fs ∈ rows) (fun m => ∃ v5 v6, m = ⟨[some (.d (.int 0)), some (.d (.list (((numS w ++ ":") :: rows.map rowS).map .str))), some (.d (.int 0)), some (.d (.int w)), some (.d (.list ((rows.map rowS).map .str))), v5, v6, none], cs⟩) (fun d hd => ?_) ⟨none, none, by simp⟩ ?_ ?_
      · obtain ⟨i, y, rfl, hy, hi⟩ := enum_mem hd
        rw [List.length_map] at hi
        obtain ⟨fs, hf, rfl⟩ := List.mem_map.mp hy
        exact ⟨i, fs, rfl, by omega, hf⟩
      · rintro d m ⟨i, fs, rfl, hi, hf⟩ ⟨v5, v6, rfl⟩
        obtain ⟨h1, h2⟩ := h.row fs hf
        have ni : ¬ (i : Int) = 40 := by omega
        simp [-Bool.exists_bool, tgCons, tgNil, ni]
        have hw : (w : Int) = (fs.length : Nat) := by rw [h1]
        rw [hw]
        refine is_object_W (m := rows.length) h2 (by omega) (by have := h.w4; omega) (fne fs hf) ?_
        simp [-Bool.exists_bool]
      · rintro m ⟨v5, v6, rfl⟩
        exact ⟨v5, v6, by simp⟩
    rintro m ⟨v5, v6, rfl⟩
    have e6 : ¬ rows.map rowS = [] := by simpa using hr
    simp [-Bool.exists_bool, hr, seqOf]
    have e7 : rows.map (PyData.str ∘ rowS) = rows.map fun fs => .str (rowS fs) := rfl
    rw [e7]
    refine W_compN (l := rows) (fun fs => .tuple fs) (by omega) (fun fs hf => ?_) ?_
    · obtain ⟨h1, h2⟩ := h.row fs hf
      have e1 := splitD_ok (row_split h2 (fne fs hf)) co_ne (by have := row_len h2 (by omega) (Nat.le_refl _); have := h.w4; omega)
      simp [-Bool.exists_bool, e1, seqOf]
      have e4 : (fs.map (PyData.str ∘ placeS)) = fs.map fun d => .str (placeS d) := rfl
      rw [e4]
      refine W_compN (l := fs) (fun d => d) (by have := h.w4; omega) (fun d hd => ?_) ?_
      · simp [-Bool.exists_bool]
        refine place_in_W (h2 d hd) (by omega) ?_
        simp [-Bool.exists_bool, wipeL]
      · simp [-Bool.exists_bool, wipeL]
    · simp [-Bool.exists_bool]
      exact hE
theorem parse_heap_W (h : Heap3 w rows) (hE : E (.d (pileR w rows)) ⟨[], cs⟩) : W (fn_parse_heap [.d (.str (heapS w rows))]) ⟨[], cs⟩ X E := by
  unfold fn_parse_heap
  rw [W_run]
  unfold pf_parse_heap startS
  have hl : (heapS w rows).length ≤ 16000000 := Nat.le_trans (heap_len h) (by decide)
  refine W_cut (fun m => m = ⟨[some (.d (.str (heapS w rows))), some (.d (pileR w rows))], cs⟩) ?_ ?_
  · simp [-Bool.exists_bool]
    refine one_line_W (heap_nl h) (heap_sp h) hl ?_
    simp [-Bool.exists_bool]
    refine heap_in_W h ?_
    simp [-Bool.exists_bool]
  rintro m rfl
  simp [-Bool.exists_bool]
  refine need_one_line_W (heap_nl h) hl ?_
  simp [-Bool.exists_bool]
  exact hE
end
end Ev

namespace Ev
open PySem PySem.Spec PyProof.Rows L2 TL
theorem fit_sok {x : Str} {n : Nat} (h : sok x) (hl : x.length ≤ n) : Fit 0 (10 * n + 2) (.str x) := by
  refine ⟨by simp [plainD], by simp [PyData.depth], by simp [PyData.showable], ?_⟩
  simp only [PyData.shown]
  have := StrLaws.reprText_len x (fun c hc => by
    have h2 : (x.cps.all fun c => decide (c < 0x110000)) = true := h
    have := Array.all_eq_true'.mp h2 c (Array.mem_toList_iff.mp hc)
    have := of_decide_eq_true this
    omega)
  omega
theorem pl_fit {m : Nat} {d : PyData} (h : isPl m d) (hm : m ≤ 10 ^ 30) : Fit 0 61 d := by
  rcases h with rfl | ⟨n, rfl, hn⟩
  · exact fit_none.mono (by decide) (by decide)
  · exact fit_int (by omega)
theorem row_fit {m : Nat} {fs : List PyData} (h : ∀ d, d ∈ fs → isPl m d) (hm : m ≤ 10 ^ 30) {k : Nat} (hl : fs.length ≤ k) : Fit 1 (3 + k * 63) (.tuple fs) := fit_tupN (fun x hx => pl_fit (h x hx) hm) hl
theorem pile_fit {w : Nat} {rows : List (List PyData)} (h : Heap3 w rows) : Fit 3 30000 (pileR w rows) := by
  have sz := h.sz
  have w4 := h.w4
  unfold pileR
  refine fit_e (fit_tupN (n := 2) (k := 2) (B := 10683) (fun x hx => ?_) (by simp))
  simp only [List.mem_cons, List.not_mem_nil, or_false] at hx
  rcases hx with rfl | rfl
  · exact fit_e (fit_int (by omega))
  · refine fit_e (fit_tupN (n := 40) (k := 1) (B := 255) (fun x hx => ?_) (by simpa using sz))
    obtain ⟨fs, hf, rfl⟩ := List.mem_map.mp hx
    obtain ⟨h1, h2⟩ := h.row fs hf
    exact row_fit (k := 4) h2 (by omega) (by omega)
theorem heap_sok {w : Nat} {rows : List (List PyData)} : sok (heapS w rows) := by
  unfold heapS
  refine sok_app (sok_app (sok_of _) (sok_of _)) ?_
  rw [join_eq]
  exact sok_join (sok_of _) rest_sok
theorem ring_sok {rs : List PyData} : sok (ringS rs) := by
  unfold ringS
  rw [join_eq]
  refine sok_join (sok_of _) fun t ht => ?_
  obtain ⟨d, _, rfl⟩ := List.mem_map.mp ht
  exact place_sok
/-- a ring -/
def RingOk (m : Nat) (rs : List PyData) : Prop := rs.length ≤ 6 ∧ ∀ d, d ∈ rs → isPl m d
theorem ring_len {m : Nat} {rs : List PyData} (h : RingOk m rs) (hm : m ≤ 10 ^ 30) : (ringS rs).length ≤ 186 := by
  refine Nat.le_trans join_len (Nat.le_trans (join_le (k := 30) (n := 6) (fun y hy => ?_) (by simpa using h.1)) (by rw [sp_1]; decide))
  obtain ⟨d, hd, rfl⟩ := List.mem_map.mp hy
  exact pl_str (h.2 d hd) hm
theorem two_rep {k B : Nat} {a b : PyData} (ha : Fit k B a) (hb : Fit k B b) (hk : k ≤ 60) (hB : B ≤ 1000000) : reprOk (.list [a, b]) = true :=
  (fit_lstN (n := 2) (k := k) (B := B) (fun x hx => by
    simp only [List.mem_cons, List.not_mem_nil, or_false] at hx
    rcases hx with rfl | rfl
    · exact ha
    · exact hb) (by simp)).repr (by omega) (by omega)
section
variable {X : Exn → Mem → Prop} {E : EV → Mem → Prop}
/-- the rows so far -/
def HI (w many : Nat) (s1 s2 : Option SV) (n : Nat) (k : Int) (m : Mem) : Prop := ∃ (rows : List (List PyData)) (v : Option SV) (o : Ob), (rows.length : Int) = k ∧ (∀ fs, fs ∈ rows → fs.length = w ∧ ∀ d, d ∈ fs → isPl many d) ∧ Pen (n - 10 * k.toNat) o ∧ m = ⟨[some (.cell 0), s1, s2, some (.ob (.lst (rows.map .tuple))), v, none], [o]⟩
def HC (w many : Nat) (s0 : List (Option SV)) (n : Nat) (j : Int) (acc : List PyData) (m : Mem) : Prop := ∃ o, (acc.length : Int) = j ∧ (∀ d, d ∈ acc → isPl many d) ∧ Pen (n - 2 * j.toNat) o ∧ m = ⟨s0, [o]⟩
theorem law_heap_W {n : Nat} {c : Ob} (hc : Pen (n + 420) c) (hE : ∀ w rows c', Heap3 w rows → Pen n c' → E (.d (pileR w rows)) ⟨[], [c']⟩) : W (fn__law_heap [.cell 0]) ⟨[], [c]⟩ X E := by
  unfold fn__law_heap
  rw [W_run]
  unfold pf__law_heap startS
  refine W_cut (fun m => ∃ (w : Nat) (o : Ob), 1 ≤ w ∧ w ≤ 4 ∧ Pen (n + 419) o ∧ m = ⟨[some (.cell 0), some (.d (.int w)), none, none, none, none], [o]⟩) ?_ ?_
  · simp [-Bool.exists_bool]
    refine draw_W (n := n + 419) (hc.le (by omega)) (by decide) (by decide) fun v c1 v0 v1 q1 => ?_
    simp [-Bool.exists_bool]
    exact ⟨(1 + v).toNat, by omega, by omega, q1, by
      have : ((1 + v).toNat : Int) = 1 + v := by omega
      rw [this]⟩
  rintro m ⟨w, o, w1, w4, ho, rfl⟩
  refine W_cut (fun m => ∃ (many : Nat) (o : Ob), many ≤ 40 ∧ Pen (n + 416) o ∧ m = ⟨[some (.cell 0), some (.d (.int w)), some (.d (.int many)), none, none, none], [o]⟩) ?_ ?_
  · simp [-Bool.exists_bool]
    refine draw_W (n := n + 418) (ho.le (by omega)) (by decide) (by decide) fun v c1 v0 v1 q1 => ?_
    simp [-Bool.exists_bool]
    refine draw_W (n := n + 417) (q1.le (by omega)) (by decide) (by decide) fun u c2 u0 u1 q2 => ?_
    simp [-Bool.exists_bool]
    refine draw_W (n := n + 416) (q2.le (by omega)) (by decide) (by decide) fun z c3 z0 z1 q3 => ?_
    simp [-Bool.exists_bool]
    have hz : z / 4 = 0 ∨ z / 4 = 1 ∨ z / 4 = 2 := by omega
    rcases hz with e | e | e
    · rw [e]
      simp [-Bool.exists_bool]
      exact ⟨v.toNat, by omega, q3, by rw [Int.toNat_of_nonneg v0]⟩
    · rw [e]
      simp [-Bool.exists_bool]
      exact ⟨u.toNat, by omega, q3, by rw [Int.toNat_of_nonneg u0]⟩
    · rw [e]
      simp [-Bool.exists_bool]
      exact ⟨40, by decide, q3, rfl⟩
  clear ho
  rintro m ⟨many, o, hm, ho, rfl⟩
  refine W_cut (fun m => m = ⟨[some (.cell 0), some (.d (.int w)), some (.d (.int many)), some (.ob (.lst [])), none, none], [o]⟩) ?_ ?_
  · simp [-Bool.exists_bool]
  rintro m rfl
  refine W_cut (HI w many (some (.d (.int w))) (some (.d (.int many))) (n + 416) many) ?_ ?_
  · rw [W_for]
    simp [-Bool.exists_bool]
    refine ⟨by omega, ?_⟩
    refine W_range (HI w many (some (.d (.int w))) (some (.d (.int many))) (n + 416)) many 0 ⟨[], none, o, by simp, fun _ h => absurd h (by simp), ho.le (by omega), rfl⟩ ?_ ?_
    · clear ho
      rintro k m k0 k1 ⟨rows, v, o, hl, hr, ho, rfl⟩
      rw [W_tgName]
      simp [-Bool.exists_bool]
      refine ⟨by omega, ?_⟩
      refine W_compR (HC w many [some (.cell 0), some (.d (.int w)), some (.d (.int many)), some (.ob (.lst (rows.map .tuple))), some (.d (.int k)), none] (n + 416 - 10 * k.toNat)) w 0 ⟨o, by simp, fun _ h => absurd h (by simp), ho.le (by simp), rfl⟩ ?_ ?_
      · clear ho
        rintro j acc m j0 j1 ⟨o, ha, hd, ho, rfl⟩
        have mp : (0 : Int) < many := by omega
        simp [-Bool.exists_bool]
        refine draw_W (n := n + 416 - 10 * k.toNat - 2 * j.toNat - 1) (ho.le (by omega)) mp (by omega) fun y c1 y0 y1 q1 => ?_
        simp [-Bool.exists_bool]
        refine draw_W (n := n + 416 - 10 * k.toNat - 2 * j.toNat - 2) (q1.le (by omega)) (by decide) (by decide) fun z c2 z0 z1 q2 => ?_
        simp [-Bool.exists_bool]
        have fin : ∀ d, isPl many d → acc.length < 16777216 ∧ HC w many [some (.cell 0), some (.d (.int w)), some (.d (.int many)), some (.ob (.lst (rows.map .tuple))), some (.d (.int k)), none] (n + 416 - 10 * k.toNat) (j + 1) (acc ++ [d]) ⟨[some (.cell 0), some (.d (.int w)), some (.d (.int many)), some (.ob (.lst (rows.map .tuple))), some (.d (.int k)), none], [c2]⟩ := fun d hd' => by
          refine ⟨by omega, c2, by simp; omega, fun x hx => ?_, q2.le (by omega), rfl⟩
          rcases List.mem_append.mp hx with q | q
          · exact hd x q
          · rw [List.mem_singleton.mp q]
            exact hd'
        by_cases hz : 0 < z
        · simp [-Bool.exists_bool, hz]
          exact fin _ (.inr ⟨y.toNat, by rw [Int.toNat_of_nonneg y0], by omega⟩)
        · simp [-Bool.exists_bool, hz]
          exact fin _ (.inl rfl)
      · clear ho
        rintro acc m ⟨o, ha, hd, ho, rfl⟩
        simp [-Bool.exists_bool]
        refine ⟨by omega, rows ++ [acc], some (.d (.int k)), o, by simp; omega, fun fs hf => ?_, ho.le (by omega), by simp⟩
        rcases List.mem_append.mp hf with q | q
        · exact hr fs q
        · rw [List.mem_singleton.mp q]
          exact ⟨by omega, hd⟩
    · intro m q
      simpa using q
  clear ho
  rintro m ⟨rows, v, o, hl, hr, ho, rfl⟩
  have hm2 : rows.length = many := by omega
  simp [-Bool.exists_bool]
  exact hE w rows o ⟨w1, w4, by omega, fun fs hf => by rw [hm2]; exact hr fs hf⟩ (ho.le (by omega))
end
end Ev

namespace Ev
open PySem PySem.Spec PyProof.Rows L2 TL
section
variable {X : Exn → Mem → Prop} {E : EV → Mem → Prop}
def HR (m : Nat) (s0 : List (Option SV)) (n : Nat) (ds acc : List PyData) (M : Mem) : Prop := ∃ o, acc.length + ds.length ≤ 6 ∧ (∀ d, d ∈ ds → d = .none) ∧ (∀ d, d ∈ acc → isPl m d) ∧ Pen (n + 2 * ds.length) o ∧ M = ⟨s0, [o]⟩
theorem law_ring_W {n : Nat} {c : Ob} {w : Nat} {rows : List (List PyData)} (h : Heap3 w rows) (hc : Pen (n + 14) c) (hE : ∀ rs c', RingOk rows.length rs → Pen n c' → E (.d (.tuple rs)) ⟨[], [c']⟩) : W (fn__law_ring [.cell 0, .d (pileR w rows)]) ⟨[], [c]⟩ X E := by
  unfold fn__law_ring
  rw [W_run]
  unfold pf__law_ring startS pileR
  have sz := h.sz
  refine W_cut (fun m => m = ⟨[some (.cell 0), some (.d (.tuple [.int w, .tuple (rows.map .tuple)])), some (.d (.int rows.length)), none, none], [c]⟩) ?_ ?_
  · simp [-Bool.exists_bool]
  rintro m rfl
  refine W_cut (fun m => ∃ (k : Nat) (o : Ob), k ≤ 6 ∧ Pen (n + 13) o ∧ m = ⟨[some (.cell 0), some (.d (.tuple [.int w, .tuple (rows.map .tuple)])), some (.d (.int rows.length)), some (.ob (.lst (List.replicate k .none))), none], [o]⟩) ?_ ?_
  · simp [-Bool.exists_bool]
    refine draw_W (n := n + 13) hc (by decide) (by decide) fun v c1 v0 v1 q1 => ?_
    simp [-Bool.exists_bool]
    exact ⟨by omega, by omega, q1⟩
  clear hc
  rintro m ⟨k, o, hk, ho, rfl⟩
  simp [-Bool.exists_bool, seqOf]
  refine W_compL (HR rows.length [some (.cell 0), some (.d (.tuple [.int w, .tuple (rows.map .tuple)])), some (.d (.int rows.length)), some (.d (.list (List.replicate k .none))), none] n) ⟨o, by simp; omega, fun d hd => (List.mem_replicate.mp hd).2, fun d hd => absurd hd (by simp), ho.le (by simp; omega), rfl⟩ ?_ ?_
  · clear ho
    rintro d ds acc m ⟨o, hl, hn, ha, ho, rfl⟩
    have ed := hn d (List.mem_cons_self ..)
    subst ed
    have hn := fun d hd => hn d (List.mem_cons_of_mem _ hd)
    have fin : ∀ x c', isPl rows.length x → Pen (n + 2 * ds.length) c' → acc.length < 16777216 ∧ HR rows.length [some (.cell 0), some (.d (.tuple [.int w, .tuple (rows.map .tuple)])), some (.d (.int rows.length)), some (.d (.list (List.replicate k .none))), none] n ds (acc ++ [x]) ⟨[some (.cell 0), some (.d (.tuple [.int w, .tuple (rows.map .tuple)])), some (.d (.int rows.length)), some (.d (.list (List.replicate k .none))), none], [c']⟩ := fun x c' hx hc' => by
      simp only [List.length_cons] at hl
      refine ⟨by omega, c', by simp; omega, hn, fun y hy => ?_, hc', rfl⟩
      rcases List.mem_append.mp hy with q | q
      · exact ha y q
      · rw [List.mem_singleton.mp q]
        exact hx
    simp [-Bool.exists_bool]
    refine ⟨fun hp => ?_, fun hz => fin _ _ (.inl rfl) (ho.le (by simp; omega))⟩
    have hp2 : (0 : Int) < (rows.length : Int) := by
      omega
    refine draw_W (n := n + 2 * ds.length + 1) (ho.le (by simp; omega)) (by decide) (by decide) fun y c1 y0 y1 q1 => ?_
    simp [-Bool.exists_bool]
    refine ⟨fun hy => ?_, fun hy => fin _ _ (.inl rfl) (q1.le (by omega))⟩
    refine draw_W (n := n + 2 * ds.length) (q1.le (by omega)) hp2 (by omega) fun z c2 z0 z1 q2 => ?_
    simp [-Bool.exists_bool]
    exact fin _ _ (.inr ⟨z.toNat, by rw [Int.toNat_of_nonneg z0], by omega⟩) q2
  · clear ho
    rintro acc m ⟨o, hl, hn, ha, ho, rfl⟩
    simp [-Bool.exists_bool]
    exact hE _ _ ⟨by simpa using hl, ha⟩ (ho.le (by simp))
end
end Ev

namespace Ev
open PySem PySem.Spec PyProof.Rows L2 TL
def M72 (ns : List Int) (s2 s3 s4 s5 s6 s7 s8 : Option SV) (o : Ob) : Mem := ⟨[some (.d (ints_ ns)), some (.cell 0), s2, s3, s4, s5, s6, s7, s8, none], [o]⟩
def J72 (ns : List Int) (n : Nat) (m : Mem) : Prop := ∃ s2 s3 s4 s5 s6 s7 s8 o, Pen n o ∧ m = M72 ns s2 s3 s4 s5 s6 s7 s8 o
theorem pk1 {a : AV} : pick [0] [a] = [a] := rfl
theorem W_compM {α : Type} {X : Exn → Mem → Prop} {m : Mem} {E : EV → Mem → Prop} {is : List Nat} {g : PyData → Pg Unit} {t : Pg Bool} {e : Pg EV} {l : List α} {q : α → PyData} (b : α → Bool) (φ : α → PyData) (hl : l.length < 16777216)
    (h : ∀ a, a ∈ l → W (g (q a)) m X fun _ m1 => W t m1 noX fun k m2 => k = b a ∧ if k = true then W e m2 noX fun v m3 => W (toA v) m3 X fun u m4 => u = .d (φ a) ∧ (⟨wipeL is m4.sl, m4.cs⟩ : Mem) = m else (⟨wipeL is m2.sl, m2.cs⟩ : Mem) = m)
    (hE : E (.fresh ((l.filter b).map φ)) m) : W (compL is g t e (l.map q) []) m X E := by
  refine W_compL (fun ds' acc m' => ∃ pre l', l = pre ++ l' ∧ ds' = l'.map q ∧ acc = (pre.filter b).map φ ∧ m' = m) ⟨[], l, rfl, rfl, rfl, rfl⟩ ?_ ?_
  · rintro d ds' acc m' ⟨pre, l', e1, e0, rfl, rfl⟩
    cases l' with
    | nil => cases e0
    | cons a l' =>
      injection e0 with ea el
      subst ea el
      have hd : a ∈ l := by rw [e1]; simp
      have la : ((pre.filter b).map φ).length < 16777216 := by
        rw [List.length_map]
        have h1 := List.length_filter_le b pre
        have h2 : pre.length ≤ l.length := by rw [e1, List.length_append]; omega
        omega
      have e2 : l = (pre ++ [a]) ++ l' := by rw [e1]; simp
      refine (h a hd).mono fun _ m1 q => q.mono fun k m2 q => ?_
      obtain ⟨hk, q⟩ := q
      cases k with
      | true =>
        rw [if_pos rfl] at q ⊢
        refine q.mono fun v m3 q => q.mono fun u m4 q => ?_
        exact ⟨φ a, q.1, la, pre ++ [a], l', e2, rfl, by rw [List.filter_append, List.map_append, List.filter_cons, ← hk]; simp, q.2⟩
      | false =>
        rw [if_neg (by simp)] at q ⊢
        exact ⟨pre ++ [a], l', e2, rfl, by rw [List.filter_append, List.map_append, List.filter_cons, ← hk]; simp, q⟩
  · rintro acc m' ⟨pre, l', e1, e0, rfl, rfl⟩
    have e3 : l' = [] := List.map_eq_nil_iff.mp e0.symm
    subst e3
    rw [List.append_nil] at e1
    rw [← e1]
    exact hE
/-- a heap of nones, written out -/
def rowsL : List (Nat × List (List PyData) × Str) := [(1, [], "1: none"), (4, [[.none, .none, .none, .none]], "4: -,-,-,-"), (1, List.replicate 40 [.int 0], Str.ofString "1:" ++ Txt.mul " 0" 40)]
theorem rowsL_eq : ∀ p, p ∈ rowsL → heapS p.1 p.2.1 = p.2.2 := by decide +kernel
theorem rowsL_ok : ∀ p, p ∈ rowsL → Heap3 p.1 p.2.1 := by
  intro p hp
  simp only [rowsL, List.mem_cons, List.not_mem_nil, or_false] at hp
  rcases hp with rfl | rfl | rfl
  · exact ⟨by decide, by decide, by decide, fun fs hf => by cases hf⟩
  · refine ⟨by decide, by decide, by decide, fun fs hf => ?_⟩
    rw [List.mem_singleton.mp hf]
    refine ⟨rfl, fun d hd => .inl ?_⟩
    simpa using hd
  · refine ⟨by decide, by decide, by simp, fun fs hf => ?_⟩
    rw [(List.mem_replicate.mp hf).2]
    refine ⟨rfl, fun d hd => .inr ⟨0, by simpa using hd, by simp⟩⟩
theorem pile_ne {w : Nat} {rows : List (List PyData)} (h : (pileR w rows).canLay0 = true) (hd : (pileR w rows).depth ≤ 64) : cmpS .NotEq (pileR w rows) (pileR w rows) = some false := by
  have s : SeqAt.shaped (pileR w rows) = true := by
    unfold SeqAt.shaped
    rw [h, Bool.true_and, decide_eq_true_iff]
    exact hd
  have e1 := SeqAt.eqv_refl _ h
  unfold pileR at s e1 ⊢
  simp only [cmpS, eqQ, s, e1]
  rfl
theorem rowsL_ne : ∀ p, p ∈ rowsL → cmpS .NotEq (pileR p.1 p.2.1) (pileR p.1 p.2.1) = some false := by
  intro p hp
  have h : ∀ p, p ∈ rowsL → (pileR p.1 p.2.1).canLay0 = true ∧ (pileR p.1 p.2.1).depth ≤ 64 := by decide +kernel
  exact pile_ne (h p hp).1 (h p hp).2
theorem law_true : LawG 63 fn_law := law_of_W fun ns h1 h2 => by
  unfold fn_law
  rw [W_run]
  unfold pf_law startS
  refine W_cut (J72 ns 1000000) ?_ ?_
  · simp [-Bool.exists_bool]
    refine pen_W fun o0 ho0 => ?_
    simp [-Bool.exists_bool]
    exact ⟨_, _, _, _, _, _, _, o0, ho0, rfl⟩
  rintro m ⟨s2, s3, s4, s5, s6, s7, s8, o, ho, rfl⟩
  unfold M72
  refine W_cut (J72 ns 100) ?_ ?_
  · rw [W_for]
    simp [-Bool.exists_bool]
    refine W_range (fun i m => J72 ns (6000 - 500 * i.toNat) m) 10 0 ⟨s2, s3, s4, s5, s6, s7, s8, o, ho.le (by simp), rfl⟩ ?_ ?_
    · clear ho
      rintro i m i0 i1 ⟨s2, s3, s4, s5, s6, s7, s8, o, ho, rfl⟩
      unfold M72
      rw [W_tgName]
      refine W_cut (fun m => ∃ w rows o, Heap3 w rows ∧ Pen (5560 - 500 * i.toNat) o ∧ m = M72 ns (some (.d (.int i))) (some (.d (pileR w rows))) s4 s5 s6 s7 s8 o) ?_ ?_
      · simp [-Bool.exists_bool]
        refine law_heap_W (n := 5560 - 500 * i.toNat) (ho.le (by omega)) fun w rows c h hc => ?_
        simp [-Bool.exists_bool]
        exact ⟨w, rows, h, c, hc, rfl⟩
      clear ho
      rintro m ⟨w, rows, o, h, ho, rfl⟩
      unfold M72
      refine W_cut (fun m => ∃ rs o, RingOk rows.length rs ∧ Pen (5540 - 500 * i.toNat) o ∧ m = M72 ns (some (.d (.int i))) (some (.d (pileR w rows))) (some (.d (.tuple rs))) s5 s6 s7 s8 o) ?_ ?_
      · simp [-Bool.exists_bool]
        refine law_ring_W (n := 5540 - 500 * i.toNat) h (ho.le (by omega)) fun rs c hr hc => ?_
        simp [-Bool.exists_bool]
        exact ⟨rs, hr, c, hc, rfl⟩
      clear ho
      rintro m ⟨rs, o, hr, ho, rfl⟩
      unfold M72
      have sz := h.sz
      have fp := pile_fit h
      have fr : Fit 1 381 (.tuple rs) := row_fit hr.2 (by omega) hr.1
      have r1 := two_rep fp (fit_e fr) (by decide) (by decide)
      have fs1 : Fit 0 60002 (.str (heapS w rows)) := fit_sok heap_sok (heap_len h)
      have fs2 : Fit 0 60002 (.str (ringS rs)) := (fit_sok ring_sok (ring_len hr (by omega))).mono (Nat.le_refl _) (by decide)
      have r2 := two_rep fs1 fs2 (by decide) (by decide)
      have r3 := two_rep fp fp (by decide) (by decide)
      have rl : rs.length ≤ 1000 := Nat.le_trans hr.1 (by decide)
      refine W_cut (fun m => m = M72 ns (some (.d (.int i))) (some (.d (pileR w rows))) (some (.d (.tuple rs))) (some (.d (.str (PyData.list [pileR w rows, .tuple rs]).shown))) s6 s7 s8 o) ?_ ?_
      · simp [-Bool.exists_bool, r1, M72]
      rintro m rfl
      unfold M72
      refine W_cut (fun m => m = M72 ns (some (.d (.int i))) (some (.d (pileR w rows))) (some (.d (.tuple rs))) (some (.d (.str (PyData.list [pileR w rows, .tuple rs]).shown))) (some (.ob (.lst [.str (heapS w rows), .str (ringS rs)]))) s7 s8 o) ?_ ?_
      · simp [-Bool.exists_bool]
        refine law_heap_line_W h ?_
        simp [-Bool.exists_bool]
        refine law_ring_line_W hr.2 (by omega) rl ?_
        simp [-Bool.exists_bool, M72]
      rintro m rfl
      unfold M72
      refine W_cut (fun m => m = M72 ns (some (.d (.int i))) (some (.d (pileR w rows))) (some (.d (.tuple rs))) (some (.d (.str (PyData.list [pileR w rows, .tuple rs]).shown))) (some (.ob (.lst [.str (heapS w rows), .str (ringS rs)]))) s7 s8 o) ?_ ?_
      · simp [-Bool.exists_bool]
        refine heap_text_W h ?_
        simp [-Bool.exists_bool]
        refine registers_text_W hr.2 (by omega) rl ?_
        simp [-Bool.exists_bool, r2, M72]
      rintro m rfl
      unfold M72
      refine W_cut (fun m => m = M72 ns (some (.d (.int i))) (some (.d (pileR w rows))) (some (.d (.tuple rs))) (some (.d (.str (PyData.list [pileR w rows, .tuple rs]).shown))) (some (.ob (.lst [.str (heapS w rows), .str (ringS rs)]))) s7 s8 o) ?_ ?_
      · simp [-Bool.exists_bool, pk1]
        refine heap_text_W h ?_
        simp [-Bool.exists_bool, pk1]
        refine registers_text_W hr.2 (by omega) rl ?_
        simp [-Bool.exists_bool, r2, M72]
      rintro m rfl
      unfold M72
      refine W_cut (fun m => m = M72 ns (some (.d (.int i))) (some (.d (pileR w rows))) (some (.d (.tuple rs))) (some (.d (.str (PyData.list [pileR w rows, .tuple rs]).shown))) (some (.ob (.lst [.str (heapS w rows), .str (ringS rs)]))) (some (.ob (.lst [pileR w rows, pileR w rows]))) s8 o) ?_ ?_
      · simp [-Bool.exists_bool, pk1]
        refine parse_heap_W h ?_
        simp [-Bool.exists_bool, pk1]
        refine parse_heap_W h ?_
        simp [-Bool.exists_bool, M72]
      rintro m rfl
      unfold M72
      simp [-Bool.exists_bool, r3]
      refine heap_text_W h ?_
      simp [-Bool.exists_bool, r1]
      exact ⟨_, _, _, _, _, _, _, o, ho.le (by omega), rfl⟩
    · rintro m ⟨s2, s3, s4, s5, s6, s7, s8, o, ho, rfl⟩
      exact ⟨s2, s3, s4, s5, s6, s7, s8, o, ho.le (by decide), rfl⟩
  clear ho
  rintro m ⟨s2, s3, s4, s5, s6, s7, s8, o, ho, rfl⟩
  unfold M72
  refine W_cut (fun m => m = M72 ns s2 s3 s4 s5 s6 s7 (some (.ob (.lst [.list [.tuple [.int 1, .tuple []], .str "1: none"], .list [.tuple [.int 4, .tuple [.tuple [.none, .none, .none, .none]]], .str "4: -,-,-,-"]]))) o) ?_ ?_
  · simp [-Bool.exists_bool, M72]
  rintro m rfl
  unfold M72
  refine W_cut (fun m => m = M72 ns s2 s3 s4 s5 s6 s7 (some (.ob (.lst (rowsL.map fun p => .list [pileR p.1 p.2.1, .str p.2.2])))) o) ?_ ?_
  · have l2 : ((" 0" : Str)).length = 2 := by decide +kernel
    have l3 : (("1:" : Str)).length + (Txt.mul (" 0" : Str) 40).length ≤ 16777216 := by decide +kernel
    simp [-Bool.exists_bool, mulS, l2, l3, M72, rowsL, pileR]
  rintro m rfl
  unfold M72
  simp [-Bool.exists_bool, seqOf]
  refine W_compM (l := rowsL) (fun _ => false) (fun _ => .int 1) (by decide) (fun p hp => ?_) ?_
  · have e := rowsL_eq p hp
    have h := rowsL_ok p hp
    have ne := rowsL_ne p hp
    rw [← e]
    simp [-Bool.exists_bool, tgCons, tgNil]
    refine heap_text_W h ?_
    simp [-Bool.exists_bool]
    refine parse_heap_W h ?_
    simp [-Bool.exists_bool, ne, wipeL]
  · have e : rowsL.filter (fun _ => false) = [] := by simp
    rw [e]
    simp [-Bool.exists_bool]
end Ev

namespace Ev
open PySem PySem.Spec PyProof.Rows L2
def topS (i : Nat) : Stmt := PySem.Challenge.pw_shadeguards_k72_heaps_and_registers_writ.main.body.getD i (.Pass ⟨0, 0, 0, 0⟩)
structure Top (w : World) (K : PySem.W.Frag) (mg : Str → Option Value) : Prop where
  b_isinstance : mg "isinstance" = none
  b_str : mg "str" = none
  b_len : mg "len" = none
  b_all : mg "all" = none
  b_int : mg "int" = none
  b_enumerate : mg "enumerate" = none
  b_tuple : mg "tuple" = none
  b_list : mg "list" = none
  b_abs : mg "abs" = none
  b_range : mg "range" = none
  b_repr : mg "repr" = none
  c_NOTHING_formatting : GM K mg "NOTHING_formatting" c_NOTHING_formatting
  c_LONGEST_NUMBER : GM K mg "LONGEST_NUMBER" c_LONGEST_NUMBER
  c_NOTHING_parsing : GM K mg "NOTHING_parsing" c_NOTHING_parsing
  c_MOST_WIDTH : GM K mg "MOST_WIDTH" c_MOST_WIDTH
  c_MOST_OBJECTS : GM K mg "MOST_OBJECTS" c_MOST_OBJECTS
  xi_ParseError : XI K mg "ParseError" "ParseError.__init__" (memS (topS 2) 0) ["line", "word"]
  e_ParseError : ExN K "ParseError" ["line", "word"]
  f_one_line : FM K mg "one_line" (topS 4) ["text"]
  f_need_one_line : FM K mg "need_one_line" (topS 5) ["text"]
  f_number_text : FM K mg "number_text" (topS 8) ["number"]
  f_heap_text : FM K mg "heap_text" (topS 9) ["heap"]
  f_registers_text : FM K mg "registers_text" (topS 10) ["registers"]
  f_number_in : FM K mg "number_in" (topS 16) ["word"]
  f_is_place : FM K mg "is_place" (topS 17) ["word", "many"]
  f_place_in : FM K mg "place_in" (topS 18) ["word"]
  f_is_object : FM K mg "is_object" (topS 19) ["word", "width", "many"]
  f_width_in : FM K mg "width_in" (topS 20) ["word"]
  f_heap_in : FM K mg "heap_in" (topS 21) ["line", "words", "at"]
  f_parse_heap : FM K mg "parse_heap" (topS 22) ["text"]
  f__law_pen : FM K mg "_law_pen" (topS 24) ["_law_script"]
  f__law_draw : FM K mg "_law_draw" (topS 25) ["_law_pen_here", "_law_many"]
  f__law_heap : FM K mg "_law_heap" (topS 26) ["_law_pen_here"]
  f__law_ring : FM K mg "_law_ring" (topS 27) ["_law_pen_here", "_law_pile"]
  f__law_place : FM K mg "_law_place" (topS 28) ["_law_number"]
  f__law_heap_line : FM K mg "_law_heap_line" (topS 29) ["_law_pile"]
  f__law_ring_line : FM K mg "_law_ring_line" (topS 30) ["_law_ring_here"]
  f_law : FM K mg "law" (topS 31) ["_law_script"]
section
variable {P : Program} {w : World} {K : PySem.W.Frag} {mg : Str → Option Value} {base : Heap}
theorem n1_text : (("text" : Str) == ("__debug__" : Str)) = false := by decide
theorem n2_text : (("text" : Str) == ("__classdict__" : Str)) = false := by decide
theorem n1_number : (("number" : Str) == ("__debug__" : Str)) = false := by decide
theorem n2_number : (("number" : Str) == ("__classdict__" : Str)) = false := by decide
theorem n1_heap : (("heap" : Str) == ("__debug__" : Str)) = false := by decide
theorem n2_heap : (("heap" : Str) == ("__classdict__" : Str)) = false := by decide
theorem n1_objects : (("objects" : Str) == ("__debug__" : Str)) = false := by decide
theorem n2_objects : (("objects" : Str) == ("__classdict__" : Str)) = false := by decide
theorem n1_fields : (("fields" : Str) == ("__debug__" : Str)) = false := by decide
theorem n2_fields : (("fields" : Str) == ("__classdict__" : Str)) = false := by decide
theorem n1_x : (("x" : Str) == ("__debug__" : Str)) = false := by decide
theorem n2_x : (("x" : Str) == ("__classdict__" : Str)) = false := by decide
theorem n1_width : (("width" : Str) == ("__debug__" : Str)) = false := by decide
theorem n2_width : (("width" : Str) == ("__classdict__" : Str)) = false := by decide
theorem n1_words : (("words" : Str) == ("__debug__" : Str)) = false := by decide
theorem n2_words : (("words" : Str) == ("__classdict__" : Str)) = false := by decide
theorem n1_registers : (("registers" : Str) == ("__debug__" : Str)) = false := by decide
theorem n2_registers : (("registers" : Str) == ("__classdict__" : Str)) = false := by decide
theorem n1_word : (("word" : Str) == ("__debug__" : Str)) = false := by decide
theorem n2_word : (("word" : Str) == ("__classdict__" : Str)) = false := by decide
theorem n1_sign : (("sign" : Str) == ("__debug__" : Str)) = false := by decide
theorem n2_sign : (("sign" : Str) == ("__classdict__" : Str)) = false := by decide
theorem n1_many : (("many" : Str) == ("__debug__" : Str)) = false := by decide
theorem n2_many : (("many" : Str) == ("__classdict__" : Str)) = false := by decide
theorem n1_field : (("field" : Str) == ("__debug__" : Str)) = false := by decide
theorem n2_field : (("field" : Str) == ("__classdict__" : Str)) = false := by decide
theorem n1_at : (("at" : Str) == ("__debug__" : Str)) = false := by decide
theorem n2_at : (("at" : Str) == ("__classdict__" : Str)) = false := by decide
theorem n1_line : (("line" : Str) == ("__debug__" : Str)) = false := by decide
theorem n2_line : (("line" : Str) == ("__classdict__" : Str)) = false := by decide
theorem n1_rest : (("rest" : Str) == ("__debug__" : Str)) = false := by decide
theorem n2_rest : (("rest" : Str) == ("__classdict__" : Str)) = false := by decide
theorem n1_index : (("index" : Str) == ("__debug__" : Str)) = false := by decide
theorem n2_index : (("index" : Str) == ("__classdict__" : Str)) = false := by decide
theorem n1_found : (("found" : Str) == ("__debug__" : Str)) = false := by decide
theorem n2_found : (("found" : Str) == ("__classdict__" : Str)) = false := by decide
theorem n1__law_script : (("_law_script" : Str) == ("__debug__" : Str)) = false := by decide
theorem n2__law_script : (("_law_script" : Str) == ("__classdict__" : Str)) = false := by decide
theorem n1__law_pen_here : (("_law_pen_here" : Str) == ("__debug__" : Str)) = false := by decide
theorem n2__law_pen_here : (("_law_pen_here" : Str) == ("__classdict__" : Str)) = false := by decide
theorem n1__law_many : (("_law_many" : Str) == ("__debug__" : Str)) = false := by decide
theorem n2__law_many : (("_law_many" : Str) == ("__classdict__" : Str)) = false := by decide
theorem n1__law_digit : (("_law_digit" : Str) == ("__debug__" : Str)) = false := by decide
theorem n2__law_digit : (("_law_digit" : Str) == ("__classdict__" : Str)) = false := by decide
theorem n1__law_at : (("_law_at" : Str) == ("__debug__" : Str)) = false := by decide
theorem n2__law_at : (("_law_at" : Str) == ("__classdict__" : Str)) = false := by decide
theorem n1__law_cell : (("_law_cell" : Str) == ("__debug__" : Str)) = false := by decide
theorem n2__law_cell : (("_law_cell" : Str) == ("__classdict__" : Str)) = false := by decide
theorem n1__law_large : (("_law_large" : Str) == ("__debug__" : Str)) = false := by decide
theorem n2__law_large : (("_law_large" : Str) == ("__classdict__" : Str)) = false := by decide
theorem n1__law_mixed : (("_law_mixed" : Str) == ("__debug__" : Str)) = false := by decide
theorem n2__law_mixed : (("_law_mixed" : Str) == ("__classdict__" : Str)) = false := by decide
theorem n1__law_wide : (("_law_wide" : Str) == ("__debug__" : Str)) = false := by decide
theorem n2__law_wide : (("_law_wide" : Str) == ("__classdict__" : Str)) = false := by decide
theorem n1__law_found : (("_law_found" : Str) == ("__debug__" : Str)) = false := by decide
theorem n2__law_found : (("_law_found" : Str) == ("__classdict__" : Str)) = false := by decide
theorem n1__law_pile : (("_law_pile" : Str) == ("__debug__" : Str)) = false := by decide
theorem n2__law_pile : (("_law_pile" : Str) == ("__classdict__" : Str)) = false := by decide
theorem n1__law_one : (("_law_one" : Str) == ("__debug__" : Str)) = false := by decide
theorem n2__law_one : (("_law_one" : Str) == ("__classdict__" : Str)) = false := by decide
theorem n1__law_number : (("_law_number" : Str) == ("__debug__" : Str)) = false := by decide
theorem n2__law_number : (("_law_number" : Str) == ("__classdict__" : Str)) = false := by decide
theorem n1__law_row : (("_law_row" : Str) == ("__debug__" : Str)) = false := by decide
theorem n2__law_row : (("_law_row" : Str) == ("__classdict__" : Str)) = false := by decide
theorem n1__law_words : (("_law_words" : Str) == ("__debug__" : Str)) = false := by decide
theorem n2__law_words : (("_law_words" : Str) == ("__classdict__" : Str)) = false := by decide
theorem n1__law_ring_here : (("_law_ring_here" : Str) == ("__debug__" : Str)) = false := by decide
theorem n2__law_ring_here : (("_law_ring_here" : Str) == ("__classdict__" : Str)) = false := by decide
theorem n1__law_due : (("_law_due" : Str) == ("__debug__" : Str)) = false := by decide
theorem n2__law_due : (("_law_due" : Str) == ("__classdict__" : Str)) = false := by decide
theorem n1__law_told : (("_law_told" : Str) == ("__debug__" : Str)) = false := by decide
theorem n2__law_told : (("_law_told" : Str) == ("__classdict__" : Str)) = false := by decide
theorem n1__law_kept : (("_law_kept" : Str) == ("__debug__" : Str)) = false := by decide
theorem n2__law_kept : (("_law_kept" : Str) == ("__classdict__" : Str)) = false := by decide
theorem n1__law_line : (("_law_line" : Str) == ("__debug__" : Str)) = false := by decide
theorem n2__law_line : (("_law_line" : Str) == ("__classdict__" : Str)) = false := by decide
theorem x_ParseError (T : Top w K mg) {k : Nat} (hk : 1 ≤ k) : ExX P w K mg base k "ParseError" ["line", "word"] := exX2 T.xi_ParseError hk ⟨rfl, rfl, rfl, by decide +kernel, rfl, by decide +kernel, by decide +kernel⟩ rfl rfl rfl rfl (by decide) (by decide) (by decide) (by decide)
theorem sc_one_line : FnScope ["text"] ["text"] (defScope (topS 4)) := ⟨rfl, rfl, rfl, by decide +kernel, rfl, by decide +kernel, by decide +kernel⟩
theorem ok_one_line (T : Top w K mg) (sm : SM base) {f : Addr} {fd : FuncData} (F : Fun K "one_line" "one_line" (topS 4) f fd) : FnG P w K mg base 3 f fd ["text"] (spG K 1 (runFn 1 pf_one_line)) :=
  fun_n F sc_one_line sm rfl rfl fun cdv A outer s H E B C po hr => sndB_cons (snd_if (sndT_not (sndT_val (snd_isi (snd_var 0 rfl (.inl rfl) n1_text n2_text) rfl T.b_isinstance rfl rfl T.b_str rfl))) (sndB_one (snd_raise C (x_ParseError T (k := 1) (by decide)) (hr.mono (by decide)) (by decide) rfl (sndA_cons (snd_int) (sndA_cons (snd_int) (sndA_nil))))) (sndB_nil)) (sndB_one (snd_ret (snd_split (snd_ix C (snd_split (snd_var 0 rfl (.inl rfl) n1_text n2_text) (snd_str)) (snd_int) px_const) (snd_str))))
theorem h_one_line (T : Top w K mg) (sm : SM base) {k : Nat} (hk : 3 ≤ k) : HasG P w K mg base k "one_line" ["text"] fn_one_line := has_of T.f_one_line hk (ok_one_line T sm)
theorem sc_need_one_line : FnScope ["text"] ["text"] (defScope (topS 5)) := ⟨rfl, rfl, rfl, by decide +kernel, rfl, by decide +kernel, by decide +kernel⟩
theorem ok_need_one_line (T : Top w K mg) (sm : SM base) {f : Addr} {fd : FuncData} (F : Fun K "need_one_line" "need_one_line" (topS 5) f fd) : FnG P w K mg base 3 f fd ["text"] (spG K 1 (runFn 1 pf_need_one_line)) :=
  fun_n F sc_need_one_line sm rfl rfl fun cdv A outer s H E B C po hr => sndB_one (snd_if (sndT_cmp C (snd_blt (ok_len) rfl T.b_len rfl (sndO_cons (snd_split (snd_var 0 rfl (.inl rfl) n1_text n2_text) (snd_str)) (sndO_nil))) (snd_int)) (sndB_one (snd_raise C (x_ParseError T (k := 1) (by decide)) (hr.mono (by decide)) (by decide) rfl (sndA_cons (snd_int) (sndA_cons (snd_int) (sndA_nil))))) (sndB_nil))
theorem h_need_one_line (T : Top w K mg) (sm : SM base) {k : Nat} (hk : 3 ≤ k) : HasG P w K mg base k "need_one_line" ["text"] fn_need_one_line := has_of T.f_need_one_line hk (ok_need_one_line T sm)
theorem sc_number_text : FnScope ["number"] ["number"] (defScope (topS 8)) := ⟨rfl, rfl, rfl, by decide +kernel, rfl, by decide +kernel, by decide +kernel⟩
theorem ok_number_text (T : Top w K mg) (sm : SM base) {f : Addr} {fd : FuncData} (F : Fun K "number_text" "number_text" (topS 8) f fd) : FnG P w K mg base 1 f fd ["number"] (spG K 1 (runFn 1 pf_number_text)) :=
  fun_n F sc_number_text sm rfl rfl fun cdv A outer s H E B C po hr => sndB_one (snd_ret (snd_ifExp (sndT_cmp C (snd_var 0 rfl (.inl rfl) n1_number n2_number) (snd_none)) (snd_glob rfl T.c_NOTHING_formatting) (snd_blty (ok_str) rfl T.b_str rfl (sndO_cons (snd_var 0 rfl (.inl rfl) n1_number n2_number) (sndO_nil)))))
theorem h_number_text (T : Top w K mg) (sm : SM base) {k : Nat} (hk : 1 ≤ k) : HasG P w K mg base k "number_text" ["number"] fn_number_text := has_of T.f_number_text hk (ok_number_text T sm)
theorem sc_heap_text : FnScope ["heap", "width", "objects", "words", "fields", "x"] ["heap"] (defScope (topS 9)) := ⟨rfl, rfl, rfl, by decide +kernel, rfl, by decide +kernel, by decide +kernel⟩
theorem ok_heap_text (T : Top w K mg) (sm : SM base) {f : Addr} {fd : FuncData} (F : Fun K "heap_text" "heap_text" (topS 9) f fd) : FnG P w K mg base 2 f fd ["heap"] (spG K 1 (runFn 6 pf_heap_text)) :=
  fun_n F sc_heap_text sm rfl rfl fun cdv A outer s H E B C po hr => sndB_cons (snd_asg (is := [1, 2]) (snd_var 0 rfl (.inl rfl) n1_heap n2_heap) (sndG_tup 2 C (sndGs_cons (sndG_name 1 C rfl (.inl rfl) (by decide)) (sndGs_cons (sndG_name 2 C rfl (.inl rfl) (by decide)) (sndGs_nil)))) (nt_tup (nts_cons (nt_name) (nts_cons (nt_name) (nts_nil))))) (sndB_cons (snd_set 3 C rfl (.inl rfl) (snd_ifExp (sndT_cmp C (snd_blt (ok_len) rfl T.b_len rfl (sndO_cons (snd_var 2 rfl (.inl rfl) n1_objects n2_objects) (sndO_nil))) (snd_int)) (snd_lc (own := [("fields", 4)]) C (blk_of (by rfl)) (nt_name) (SndI.e (sndI_val (snd_var 2 rfl (.inl rfl) n1_objects n2_objects))) (fun s1 H1 K1 l1 p1 => sndG_name 4 (ctx_blk C s1 H1 K1 l1 p1) rfl (.inl rfl) (by decide)) (fun s1 H1 K1 l1 p1 => sndTs_nil) (fun s1 H1 K1 l1 p1 => snd_join (snd_str) (snd_lc (own := [("x", 5)]) (ctx_blk C s1 H1 K1 l1 p1) (blk_of (by rfl)) (nt_name) (SndI.e (sndI_val (snd_var 4 rfl (.inl rfl) n1_fields n2_fields))) (fun s2 H2 K2 l2 p2 => sndG_name 5 (ctx_blk (ctx_blk C s1 H1 K1 l1 p1) s2 H2 K2 l2 p2) rfl (.inl rfl) (by decide)) (fun s2 H2 K2 l2 p2 => sndTs_nil) (fun s2 H2 K2 l2 p2 => snd_call (ctx_blk (ctx_blk C s1 H1 K1 l1 p1) s2 H2 K2 l2 p2) ⟨h_number_text T sm (by decide)⟩ rfl hr rfl (sndA_cons (snd_var 5 rfl (.inl rfl) n1_x n2_x) (sndA_nil)))))) (snd_lst (sndA_cons (snd_str) (sndA_nil))))) (sndB_one (snd_ret (snd_bin (snd_joined (.cons (snd_fmt (snd_var 1 rfl (.inl rfl) n1_width n2_width)) (.cons (snd_str) (.nil)))) (snd_join (snd_str) (snd_var 3 rfl (.inl rfl) n1_words n2_words))))))
theorem h_heap_text (T : Top w K mg) (sm : SM base) {k : Nat} (hk : 2 ≤ k) : HasG P w K mg base k "heap_text" ["heap"] fn_heap_text := has_of T.f_heap_text hk (ok_heap_text T sm)
theorem hk_0 (T : Top w K mg) (sm : SM base) {k : Nat} (hk : 2 ≤ k) : ∃ (f : Addr) (fd : FuncData), FnG P w K mg base k f fd ["heap"] (spG K (["heap"] : List Str).length fn_heap_text) ∧ mg "heap_text" = some (.ref f) ∧ PySem.W.keepIn K (.ref f) = true ∧
    ∀ (s : Shared) (us ws : List Value), K.In s.heap → us.length = 0 → ws.length = (["heap"] : List Str).length → BindsTo s fd ⟨us, (["heap"] : List Str).zip ws⟩ ((["heap"] : List Str).zip (pick [0] (us ++ ws))) :=
  hasK_of T.f_heap_text hk (ok_heap_text T sm) fun _ _ _ _ _ _ us ws h1 h2 => match us, ws, h1, h2 with | [], [_], _, _ => rfl
theorem sc_registers_text : FnScope ["registers", "x"] ["registers"] (defScope (topS 10)) := ⟨rfl, rfl, rfl, by decide +kernel, rfl, by decide +kernel, by decide +kernel⟩
theorem ok_registers_text (T : Top w K mg) (sm : SM base) {f : Addr} {fd : FuncData} (F : Fun K "registers_text" "registers_text" (topS 10) f fd) : FnG P w K mg base 2 f fd ["registers"] (spG K 1 (runFn 2 pf_registers_text)) :=
  fun_n F sc_registers_text sm rfl rfl fun cdv A outer s H E B C po hr => sndB_one (snd_ret (snd_join (snd_str) (snd_lc (own := [("x", 1)]) C (blk_of (by rfl)) (nt_name) (SndI.e (sndI_val (snd_var 0 rfl (.inl rfl) n1_registers n2_registers))) (fun s1 H1 K1 l1 p1 => sndG_name 1 (ctx_blk C s1 H1 K1 l1 p1) rfl (.inl rfl) (by decide)) (fun s1 H1 K1 l1 p1 => sndTs_nil) (fun s1 H1 K1 l1 p1 => snd_call (ctx_blk C s1 H1 K1 l1 p1) ⟨h_number_text T sm (by decide)⟩ rfl hr rfl (sndA_cons (snd_var 1 rfl (.inl rfl) n1_x n2_x) (sndA_nil))))))
theorem h_registers_text (T : Top w K mg) (sm : SM base) {k : Nat} (hk : 2 ≤ k) : HasG P w K mg base k "registers_text" ["registers"] fn_registers_text := has_of T.f_registers_text hk (ok_registers_text T sm)
theorem hk_1 (T : Top w K mg) (sm : SM base) {k : Nat} (hk : 2 ≤ k) : ∃ (f : Addr) (fd : FuncData), FnG P w K mg base k f fd ["registers"] (spG K (["registers"] : List Str).length fn_registers_text) ∧ mg "registers_text" = some (.ref f) ∧ PySem.W.keepIn K (.ref f) = true ∧
    ∀ (s : Shared) (us ws : List Value), K.In s.heap → us.length = 0 → ws.length = (["registers"] : List Str).length → BindsTo s fd ⟨us, (["registers"] : List Str).zip ws⟩ ((["registers"] : List Str).zip (pick [0] (us ++ ws))) :=
  hasK_of T.f_registers_text hk (ok_registers_text T sm) fun _ _ _ _ _ _ us ws h1 h2 => match us, ws, h1, h2 with | [], [_], _, _ => rfl
theorem sc_number_in : FnScope ["word", "sign"] ["word"] (defScope (topS 16)) := ⟨rfl, rfl, rfl, by decide +kernel, rfl, by decide +kernel, by decide +kernel⟩
theorem ok_number_in (T : Top w K mg) (sm : SM base) {f : Addr} {fd : FuncData} (F : Fun K "number_in" "number_in" (topS 16) f fd) : FnG P w K mg base 1 f fd ["word"] (spG K 1 (runFn 2 pf_number_in)) :=
  fun_n F sc_number_in sm rfl rfl fun cdv A outer s H E B C po hr => sndB_cons (snd_if (SndW.t (sndW_or (sndT_not (sndT_chain C (snd_int) (snd_blt (ok_len) rfl T.b_len rfl (sndO_cons (snd_var 0 rfl (.inl rfl) n1_word n2_word) (sndO_nil))) (snd_glob rfl T.c_LONGEST_NUMBER))) (sndW_or1 (sndT_not (sndT_val (snd_blt (ok_all C) rfl T.b_all rfl (sndO_cons (snd_lc (own := [("sign", 1)]) C (blk_of (by rfl)) (nt_name) (SndI.e (sndI_str (snd_var 0 rfl (.inl rfl) n1_word n2_word))) (fun s1 H1 K1 l1 p1 => sndG_name 1 (ctx_blk C s1 H1 K1 l1 p1) rfl (.inl rfl) (by decide)) (fun s1 H1 K1 l1 p1 => sndTs_nil) (fun s1 H1 K1 l1 p1 => snd_inS (snd_var 1 rfl (.inl rfl) n1_sign n2_sign) (snd_str))) (sndO_nil)))))))) (sndB_one (snd_ret (snd_none))) (sndB_nil)) (sndB_one (snd_ret (snd_ifExp (SndW.t (sndW_or (sndT_cmp C (snd_var 0 rfl (.inl rfl) n1_word n2_word) (snd_str)) (sndW_or1 (sndT_cmp C (snd_ix C (snd_var 0 rfl (.inl rfl) n1_word n2_word) (snd_int) px_const) (snd_str))))) (snd_blty (ok_intT) rfl T.b_int rfl (sndO_cons (snd_var 0 rfl (.inl rfl) n1_word n2_word) (sndO_nil))) (snd_none))))
theorem h_number_in (T : Top w K mg) (sm : SM base) {k : Nat} (hk : 1 ≤ k) : HasG P w K mg base k "number_in" ["word"] fn_number_in := has_of T.f_number_in hk (ok_number_in T sm)
theorem sc_is_place : FnScope ["word", "many", "number"] ["word", "many"] (defScope (topS 17)) := ⟨rfl, rfl, rfl, by decide +kernel, rfl, by decide +kernel, by decide +kernel⟩
theorem ok_is_place (T : Top w K mg) (sm : SM base) {f : Addr} {fd : FuncData} (F : Fun K "is_place" "is_place" (topS 17) f fd) : FnG P w K mg base 2 f fd ["word", "many"] (spG K 2 (runFn 3 pf_is_place)) :=
  fun_n F sc_is_place sm rfl rfl fun cdv A outer s H E B C po hr => sndB_cons (snd_set 2 C rfl (.inl rfl) (snd_call C ⟨h_number_in T sm (by decide)⟩ rfl hr rfl (sndA_cons (snd_var 0 rfl (.inl rfl) n1_word n2_word) (sndA_nil)))) (sndB_one (snd_ret (snd_or (snd_cmp C (snd_var 0 rfl (.inl rfl) n1_word n2_word) (snd_glob rfl T.c_NOTHING_parsing)) (snd_one (snd_and (snd_cmp C (snd_var 2 rfl (.inl rfl) n1_number n2_number) (snd_none)) (snd_one (snd_cmp C (snd_var 2 rfl (.inl rfl) n1_number n2_number) (snd_var 1 rfl (.inl rfl) n1_many n2_many))))))))
theorem h_is_place (T : Top w K mg) (sm : SM base) {k : Nat} (hk : 2 ≤ k) : HasG P w K mg base k "is_place" ["word", "many"] fn_is_place := has_of T.f_is_place hk (ok_is_place T sm)
theorem sc_place_in : FnScope ["word"] ["word"] (defScope (topS 18)) := ⟨rfl, rfl, rfl, by decide +kernel, rfl, by decide +kernel, by decide +kernel⟩
theorem ok_place_in (T : Top w K mg) (sm : SM base) {f : Addr} {fd : FuncData} (F : Fun K "place_in" "place_in" (topS 18) f fd) : FnG P w K mg base 2 f fd ["word"] (spG K 1 (runFn 1 pf_place_in)) :=
  fun_n F sc_place_in sm rfl rfl fun cdv A outer s H E B C po hr => sndB_one (snd_ret (snd_ifExp (sndT_cmp C (snd_var 0 rfl (.inl rfl) n1_word n2_word) (snd_glob rfl T.c_NOTHING_parsing)) (snd_none) (snd_call C ⟨h_number_in T sm (by decide)⟩ rfl hr rfl (sndA_cons (snd_var 0 rfl (.inl rfl) n1_word n2_word) (sndA_nil)))))
theorem h_place_in (T : Top w K mg) (sm : SM base) {k : Nat} (hk : 2 ≤ k) : HasG P w K mg base k "place_in" ["word"] fn_place_in := has_of T.f_place_in hk (ok_place_in T sm)
theorem sc_is_object : FnScope ["word", "width", "many", "fields", "field"] ["word", "width", "many"] (defScope (topS 19)) := ⟨rfl, rfl, rfl, by decide +kernel, rfl, by decide +kernel, by decide +kernel⟩
theorem ok_is_object (T : Top w K mg) (sm : SM base) {f : Addr} {fd : FuncData} (F : Fun K "is_object" "is_object" (topS 19) f fd) : FnG P w K mg base 3 f fd ["word", "width", "many"] (spG K 3 (runFn 5 pf_is_object)) :=
  fun_n F sc_is_object sm rfl rfl fun cdv A outer s H E B C po hr => sndB_cons (snd_set 3 C rfl (.inl rfl) (snd_split (snd_var 0 rfl (.inl rfl) n1_word n2_word) (snd_str))) (sndB_one (snd_ret (snd_and (snd_cmp C (snd_blt (ok_len) rfl T.b_len rfl (sndO_cons (snd_var 3 rfl (.inl rfl) n1_fields n2_fields) (sndO_nil))) (snd_var 1 rfl (.inl rfl) n1_width n2_width)) (snd_one (snd_blt (ok_all C) rfl T.b_all rfl (sndO_cons (snd_lc (own := [("field", 4)]) C (blk_of (by rfl)) (nt_name) (SndI.e (sndI_val (snd_var 3 rfl (.inl rfl) n1_fields n2_fields))) (fun s1 H1 K1 l1 p1 => sndG_name 4 (ctx_blk C s1 H1 K1 l1 p1) rfl (.inl rfl) (by decide)) (fun s1 H1 K1 l1 p1 => sndTs_nil) (fun s1 H1 K1 l1 p1 => snd_call (ctx_blk C s1 H1 K1 l1 p1) ⟨h_is_place T sm (by decide)⟩ rfl hr rfl (sndA_cons (snd_var 4 rfl (.inl rfl) n1_field n2_field) (sndA_cons (snd_var 2 rfl (.inr (.inl rfl)) n1_many n2_many) (sndA_nil))))) (sndO_nil)))))))
theorem h_is_object (T : Top w K mg) (sm : SM base) {k : Nat} (hk : 3 ≤ k) : HasG P w K mg base k "is_object" ["word", "width", "many"] fn_is_object := has_of T.f_is_object hk (ok_is_object T sm)
theorem sc_width_in : FnScope ["word", "number"] ["word"] (defScope (topS 20)) := ⟨rfl, rfl, rfl, by decide +kernel, rfl, by decide +kernel, by decide +kernel⟩
theorem ok_width_in (T : Top w K mg) (sm : SM base) {f : Addr} {fd : FuncData} (F : Fun K "width_in" "width_in" (topS 20) f fd) : FnG P w K mg base 2 f fd ["word"] (spG K 1 (runFn 2 pf_width_in)) :=
  fun_n F sc_width_in sm rfl rfl fun cdv A outer s H E B C po hr => sndB_cons (snd_set 1 C rfl (.inl rfl) (snd_call C ⟨h_number_in T sm (by decide)⟩ rfl hr rfl (sndA_cons (snd_sl (snd_var 0 rfl (.inl rfl) n1_word n2_word) (sndP_none) (sndP_some (snd_neg (snd_int)))) (sndA_nil)))) (sndB_one (snd_ret (snd_ifExp (SndW.t (sndW_and (sndT_cmp C (snd_sl (snd_var 0 rfl (.inl rfl) n1_word n2_word) (sndP_some (snd_neg (snd_int))) (sndP_none)) (snd_str)) (sndW_and (sndT_cmp C (snd_var 1 rfl (.inl rfl) n1_number n2_number) (snd_none)) (sndW_and1 (sndT_chain C (snd_int) (snd_var 1 rfl (.inl rfl) n1_number n2_number) (snd_glob rfl T.c_MOST_WIDTH)))))) (snd_var 1 rfl (.inl rfl) n1_number n2_number) (snd_none))))
theorem h_width_in (T : Top w K mg) (sm : SM base) {k : Nat} (hk : 2 ≤ k) : HasG P w K mg base k "width_in" ["word"] fn_width_in := has_of T.f_width_in hk (ok_width_in T sm)
theorem sc_heap_in : FnScope ["line", "words", "at", "width", "rest", "index", "word", "field"] ["line", "words", "at"] (defScope (topS 21)) := ⟨rfl, rfl, rfl, by decide +kernel, rfl, by decide +kernel, by decide +kernel⟩
theorem ok_heap_in (T : Top w K mg) (sm : SM base) {f : Addr} {fd : FuncData} (F : Fun K "heap_in" "heap_in" (topS 21) f fd) : FnG P w K mg base 4 f fd ["line", "words", "at"] (spG K 3 (runFn 8 pf_heap_in)) :=
  fun_n F sc_heap_in sm rfl rfl fun cdv A outer s H E B C po hr => sndB_cons (snd_set 3 C rfl (.inl rfl) (snd_ifExp (sndT_cmp C (snd_var 2 rfl (.inl rfl) n1_at n2_at) (snd_blt (ok_len) rfl T.b_len rfl (sndO_cons (snd_var 1 rfl (.inl rfl) n1_words n2_words) (sndO_nil)))) (snd_call C ⟨h_width_in T sm (by decide)⟩ rfl hr rfl (sndA_cons (snd_ix C (snd_var 1 rfl (.inl rfl) n1_words n2_words) (snd_var 2 rfl (.inl rfl) n1_at n2_at) px_name) (sndA_nil))) (snd_none))) (sndB_cons (snd_if (sndT_cmp C (snd_var 3 rfl (.inl rfl) n1_width n2_width) (snd_none)) (sndB_one (snd_raise C (x_ParseError T (k := 1) (by decide)) (hr.mono (by decide)) (by decide) rfl (sndA_cons (snd_var 0 rfl (.inl rfl) n1_line n2_line) (sndA_cons (snd_var 2 rfl (.inl rfl) n1_at n2_at) (sndA_nil))))) (sndB_nil)) (sndB_cons (snd_set 4 C rfl (.inl rfl) (snd_sl (snd_var 1 rfl (.inl rfl) n1_words n2_words) (sndP_some (snd_bin (snd_var 2 rfl (.inl rfl) n1_at n2_at) (snd_int))) (sndP_none))) (sndB_cons (snd_if (sndT_cmp C (snd_var 4 rfl (.inl rfl) n1_rest n2_rest) (snd_lst (sndA_cons (snd_str) (sndA_nil)))) (sndB_one (snd_ret (snd_tup (sndA_cons (snd_var 3 rfl (.inl rfl) n1_width n2_width) (sndA_cons (snd_tup (sndA_nil)) (sndA_nil)))))) (sndB_nil)) (sndB_cons (snd_for (is := [5, 6]) C po (sndI_enum2 rfl T.b_enumerate (sndA_cons (snd_var 4 rfl (.inl rfl) n1_rest n2_rest) (sndA_nil))) (sndG_tup 2 C (sndGs_cons (sndG_name 5 C rfl (.inl rfl) (by decide)) (sndGs_cons (sndG_name 6 C rfl (.inl rfl) (by decide)) (sndGs_nil)))) (nt_tup (nts_cons (nt_name) (nts_cons (nt_name) (nts_nil)))) (sndB_one (snd_if (SndW.t (sndW_or (sndT_cmp C (snd_var 5 rfl (.inl rfl) n1_index n2_index) (snd_glob rfl T.c_MOST_OBJECTS)) (sndW_or1 (sndT_not (sndT_val (snd_call C ⟨h_is_object T sm (by decide)⟩ rfl hr rfl (sndA_cons (snd_var 6 rfl (.inl rfl) n1_word n2_word) (sndA_cons (snd_var 3 rfl (.inl rfl) n1_width n2_width) (sndA_cons (snd_blt (ok_len) rfl T.b_len rfl (sndO_cons (snd_var 4 rfl (.inl rfl) n1_rest n2_rest) (sndO_nil))) (sndA_nil)))))))))) (sndB_one (snd_raise C (x_ParseError T (k := 1) (by decide)) (hr.mono (by decide)) (by decide) rfl (sndA_cons (snd_var 0 rfl (.inl rfl) n1_line n2_line) (sndA_cons (snd_bin (snd_bin (snd_var 2 rfl (.inl rfl) n1_at n2_at) (snd_int)) (snd_var 5 rfl (.inl rfl) n1_index n2_index)) (sndA_nil))))) (sndB_nil)))) (sndB_cons (snd_if (sndT_cmp C (snd_var 4 rfl (.inl rfl) n1_rest n2_rest) (snd_lst (sndA_nil))) (sndB_one (snd_raise C (x_ParseError T (k := 1) (by decide)) (hr.mono (by decide)) (by decide) rfl (sndA_cons (snd_var 0 rfl (.inl rfl) n1_line n2_line) (sndA_cons (snd_blt (ok_len) rfl T.b_len rfl (sndO_cons (snd_var 1 rfl (.inl rfl) n1_words n2_words) (sndO_nil))) (sndA_nil))))) (sndB_nil)) (sndB_one (snd_ret (snd_tup (sndA_cons (snd_var 3 rfl (.inl rfl) n1_width n2_width) (sndA_cons (snd_blty (ok_tuple) rfl T.b_tuple rfl (sndO_cons (snd_lc (own := [("word", 6)]) C (blk_of (by rfl)) (nt_name) (SndI.e (sndI_val (snd_var 4 rfl (.inl rfl) n1_rest n2_rest))) (fun s1 H1 K1 l1 p1 => sndG_name 6 (ctx_blk C s1 H1 K1 l1 p1) rfl (.inl rfl) (by decide)) (fun s1 H1 K1 l1 p1 => sndTs_nil) (fun s1 H1 K1 l1 p1 => snd_blty (ok_tuple) rfl T.b_tuple rfl (sndO_cons (snd_lc (own := [("field", 7)]) (ctx_blk C s1 H1 K1 l1 p1) (blk_of (by rfl)) (nt_name) (SndI.e (sndI_val (snd_split (snd_var 6 rfl (.inl rfl) n1_word n2_word) (snd_str)))) (fun s2 H2 K2 l2 p2 => sndG_name 7 (ctx_blk (ctx_blk C s1 H1 K1 l1 p1) s2 H2 K2 l2 p2) rfl (.inl rfl) (by decide)) (fun s2 H2 K2 l2 p2 => sndTs_nil) (fun s2 H2 K2 l2 p2 => snd_call (ctx_blk (ctx_blk C s1 H1 K1 l1 p1) s2 H2 K2 l2 p2) ⟨h_place_in T sm (by decide)⟩ rfl hr rfl (sndA_cons (snd_var 7 rfl (.inl rfl) n1_field n2_field) (sndA_nil)))) (sndO_nil)))) (sndO_nil))) (sndA_nil)))))))))))
theorem h_heap_in (T : Top w K mg) (sm : SM base) {k : Nat} (hk : 4 ≤ k) : HasG P w K mg base k "heap_in" ["line", "words", "at"] fn_heap_in := has_of T.f_heap_in hk (ok_heap_in T sm)
theorem sc_parse_heap : FnScope ["text", "found"] ["text"] (defScope (topS 22)) := ⟨rfl, rfl, rfl, by decide +kernel, rfl, by decide +kernel, by decide +kernel⟩
theorem ok_parse_heap (T : Top w K mg) (sm : SM base) {f : Addr} {fd : FuncData} (F : Fun K "parse_heap" "parse_heap" (topS 22) f fd) : FnG P w K mg base 5 f fd ["text"] (spG K 1 (runFn 2 pf_parse_heap)) :=
  fun_n F sc_parse_heap sm rfl rfl fun cdv A outer s H E B C po hr => sndB_cons (snd_set 1 C rfl (.inl rfl) (snd_call C ⟨h_heap_in T sm (by decide)⟩ rfl hr rfl (sndA_cons (snd_int) (sndA_cons (snd_call C ⟨h_one_line T sm (by decide)⟩ rfl hr rfl (sndA_cons (snd_var 0 rfl (.inl rfl) n1_text n2_text) (sndA_nil))) (sndA_cons (snd_int) (sndA_nil)))))) (sndB_cons (snd_drop (snd_call C ⟨h_need_one_line T sm (by decide)⟩ rfl hr rfl (sndA_cons (snd_var 0 rfl (.inl rfl) n1_text n2_text) (sndA_nil)))) (sndB_one (snd_ret (snd_var 1 rfl (.inl rfl) n1_found n2_found))))
theorem h_parse_heap (T : Top w K mg) (sm : SM base) {k : Nat} (hk : 5 ≤ k) : HasG P w K mg base k "parse_heap" ["text"] fn_parse_heap := has_of T.f_parse_heap hk (ok_parse_heap T sm)
theorem hk_2 (T : Top w K mg) (sm : SM base) {k : Nat} (hk : 5 ≤ k) : ∃ (f : Addr) (fd : FuncData), FnG P w K mg base k f fd ["text"] (spG K (["text"] : List Str).length fn_parse_heap) ∧ mg "parse_heap" = some (.ref f) ∧ PySem.W.keepIn K (.ref f) = true ∧
    ∀ (s : Shared) (us ws : List Value), K.In s.heap → us.length = 0 → ws.length = (["text"] : List Str).length → BindsTo s fd ⟨us, (["text"] : List Str).zip ws⟩ ((["text"] : List Str).zip (pick [0] (us ++ ws))) :=
  hasK_of T.f_parse_heap hk (ok_parse_heap T sm) fun _ _ _ _ _ _ us ws h1 h2 => match us, ws, h1, h2 with | [], [_], _, _ => rfl
theorem sc__law_pen : FnScope ["_law_script"] ["_law_script"] (defScope (topS 24)) := ⟨rfl, rfl, rfl, by decide +kernel, rfl, by decide +kernel, by decide +kernel⟩
theorem ok__law_pen (T : Top w K mg) (sm : SM base) {f : Addr} {fd : FuncData} (F : Fun K "_law_pen" "_law_pen" (topS 24) f fd) : FnG P w K mg base 1 f fd ["_law_script"] (spG K 1 (runFn 1 pf__law_pen)) :=
  fun_n F sc__law_pen sm rfl rfl fun cdv A outer s H E B C po hr => sndB_one (snd_ret (snd_lst (sndA_cons (snd_blty (ok_listX C) rfl T.b_list rfl (sndO_cons (snd_sl (snd_var 0 rfl (.inl rfl) n1__law_script n2__law_script) (sndP_none) (sndP_some (snd_int))) (sndO_nil))) (sndA_cons (snd_int) (sndA_cons (snd_int) (sndA_nil))))))
theorem h__law_pen (T : Top w K mg) (sm : SM base) {k : Nat} (hk : 1 ≤ k) : HasG P w K mg base k "_law_pen" ["_law_script"] fn__law_pen := has_of T.f__law_pen hk (ok__law_pen T sm)
theorem sc__law_draw : FnScope ["_law_pen_here", "_law_many", "_law_digit", "_law_at", "_law_cell", "_law_large", "_law_mixed"] ["_law_pen_here", "_law_many"] (defScope (topS 25)) := ⟨rfl, rfl, rfl, by decide +kernel, rfl, by decide +kernel, by decide +kernel⟩
theorem ok__law_draw (T : Top w K mg) (sm : SM base) {f : Addr} {fd : FuncData} (F : Fun K "_law_draw" "_law_draw" (topS 25) f fd) : FnG P w K mg base 1 f fd ["_law_pen_here", "_law_many"] (spG K 2 (runFn 7 pf__law_draw)) :=
  fun_n F sc__law_draw sm rfl rfl fun cdv A outer s H E B C po hr => sndB_cons (snd_if (sndT_cmp C (snd_ix C (snd_var 0 rfl (.inl rfl) n1__law_pen_here n2__law_pen_here) (snd_int) px_const) (snd_int)) (sndB_cons (snd_set 2 C rfl (.inl rfl) (snd_bin (snd_ix C (snd_var 0 rfl (.inl rfl) n1__law_pen_here n2__law_pen_here) (snd_int) px_const) (snd_var 1 rfl (.inl rfl) n1__law_many n2__law_many))) (sndB_cons (snd_store C (snd_bin (snd_ix C (snd_var 0 rfl (.inl rfl) n1__law_pen_here n2__law_pen_here) (snd_int) px_const) (snd_var 1 rfl (.inl rfl) n1__law_many n2__law_many)) (snd_var 0 rfl (.inl rfl) n1__law_pen_here n2__law_pen_here) (snd_int)) (sndB_one (snd_ret (snd_var 2 rfl (.inl rfl) n1__law_digit n2__law_digit))))) (sndB_nil)) (sndB_cons (snd_set 3 C rfl (.inl rfl) (snd_ix C (snd_var 0 rfl (.inl rfl) n1__law_pen_here n2__law_pen_here) (snd_int) px_const)) (sndB_cons (snd_store C (snd_bin (snd_var 3 rfl (.inl rfl) n1__law_at n2__law_at) (snd_int)) (snd_var 0 rfl (.inl rfl) n1__law_pen_here n2__law_pen_here) (snd_int)) (sndB_cons (snd_set 4 C rfl (.inl rfl) (snd_bin (snd_bin (snd_int) (snd_var 3 rfl (.inl rfl) n1__law_at n2__law_at)) (snd_int))) (sndB_cons (snd_if (sndT_cmp C (snd_ix C (snd_var 0 rfl (.inl rfl) n1__law_pen_here n2__law_pen_here) (snd_int) px_const) (snd_lst (sndA_nil))) (sndB_one (snd_set 4 C rfl (.inl rfl) (snd_ix C (snd_ix C (snd_var 0 rfl (.inl rfl) n1__law_pen_here n2__law_pen_here) (snd_int) px_const) (snd_bin (snd_var 3 rfl (.inl rfl) n1__law_at n2__law_at) (snd_blt (ok_len) rfl T.b_len rfl (sndO_cons (snd_ix C (snd_var 0 rfl (.inl rfl) n1__law_pen_here n2__law_pen_here) (snd_int) px_const) (sndO_nil)))) px_bin))) (sndB_nil)) (sndB_cons (snd_if (SndW.t (sndW_and (sndT_cmp C (snd_var 3 rfl (.inl rfl) n1__law_at n2__law_at) (snd_blt (ok_len) rfl T.b_len rfl (sndO_cons (snd_ix C (snd_var 0 rfl (.inl rfl) n1__law_pen_here n2__law_pen_here) (snd_int) px_const) (sndO_nil)))) (sndW_and1 (sndT_cmp C (snd_blt (ok_abs) rfl T.b_abs rfl (sndO_cons (snd_var 4 rfl (.inl rfl) n1__law_cell n2__law_cell) (sndO_nil))) (snd_bin (snd_int) (snd_int)))))) (sndB_cons (snd_set 5 C rfl (.inl rfl) (snd_bin (snd_bin (snd_int) (snd_blt (ok_abs) rfl T.b_abs rfl (sndO_cons (snd_var 4 rfl (.inl rfl) n1__law_cell n2__law_cell) (sndO_nil)))) (snd_blty (ok_int) rfl T.b_int rfl (sndO_cons (snd_cmp C (snd_var 4 rfl (.inl rfl) n1__law_cell n2__law_cell) (snd_int)) (sndO_nil))))) (sndB_cons (snd_store C (snd_bin (snd_var 5 rfl (.inl rfl) n1__law_large n2__law_large) (snd_var 1 rfl (.inl rfl) n1__law_many n2__law_many)) (snd_var 0 rfl (.inl rfl) n1__law_pen_here n2__law_pen_here) (snd_int)) (sndB_one (snd_ret (snd_bin (snd_var 5 rfl (.inl rfl) n1__law_large n2__law_large) (snd_var 1 rfl (.inl rfl) n1__law_many n2__law_many)))))) (sndB_nil)) (sndB_cons (snd_set 6 C rfl (.inl rfl) (snd_bin (snd_bin (snd_bin (snd_bin (snd_bin (snd_var 4 rfl (.inl rfl) n1__law_cell n2__law_cell) (snd_int)) (snd_bin (snd_int) (snd_var 3 rfl (.inl rfl) n1__law_at n2__law_at))) (snd_int)) (snd_int)) (snd_int))) (sndB_cons (snd_set 6 C rfl (.inl rfl) (snd_bin (snd_bin (snd_bin (snd_bin (snd_var 6 rfl (.inl rfl) n1__law_mixed n2__law_mixed) (snd_bin (snd_bin (snd_int) (snd_var 3 rfl (.inl rfl) n1__law_at n2__law_at)) (snd_var 3 rfl (.inl rfl) n1__law_at n2__law_at))) (snd_int)) (snd_int)) (snd_int))) (sndB_one (snd_ret (snd_bin (snd_bin (snd_bin (snd_bin (snd_bin (snd_var 6 rfl (.inl rfl) n1__law_mixed n2__law_mixed) (snd_bin (snd_bin (snd_int) (snd_var 3 rfl (.inl rfl) n1__law_at n2__law_at)) (snd_int))) (snd_int)) (snd_int)) (snd_int)) (snd_var 1 rfl (.inl rfl) n1__law_many n2__law_many)))))))))))
theorem h__law_draw (T : Top w K mg) (sm : SM base) {k : Nat} (hk : 1 ≤ k) : HasG P w K mg base k "_law_draw" ["_law_pen_here", "_law_many"] fn__law_draw := has_of T.f__law_draw hk (ok__law_draw T sm)
theorem sc__law_heap : FnScope ["_law_pen_here", "_law_wide", "_law_many", "_law_found", "_law_k", "_law_f"] ["_law_pen_here"] (defScope (topS 26)) := ⟨rfl, rfl, rfl, by decide +kernel, rfl, by decide +kernel, by decide +kernel⟩
theorem ok__law_heap (T : Top w K mg) (sm : SM base) {f : Addr} {fd : FuncData} (F : Fun K "_law_heap" "_law_heap" (topS 26) f fd) : FnG P w K mg base 2 f fd ["_law_pen_here"] (spG K 1 (runFn 6 pf__law_heap)) :=
  fun_n F sc__law_heap sm rfl rfl fun cdv A outer s H E B C po hr => sndB_cons (snd_set 1 C rfl (.inl rfl) (snd_bin (snd_int) (snd_call C ⟨h__law_draw T sm (by decide)⟩ rfl hr rfl (sndA_cons (snd_var 0 rfl (.inr (.inl rfl)) n1__law_pen_here n2__law_pen_here) (sndA_cons (snd_int) (sndA_nil)))))) (sndB_cons (snd_set 2 C rfl (.inr rfl) (snd_ix C (snd_lst (sndA_cons (snd_call C ⟨h__law_draw T sm (by decide)⟩ rfl hr rfl (sndA_cons (snd_var 0 rfl (.inr (.inl rfl)) n1__law_pen_here n2__law_pen_here) (sndA_cons (snd_int) (sndA_nil)))) (sndA_cons (snd_call C ⟨h__law_draw T sm (by decide)⟩ rfl hr rfl (sndA_cons (snd_var 0 rfl (.inr (.inl rfl)) n1__law_pen_here n2__law_pen_here) (sndA_cons (snd_int) (sndA_nil)))) (sndA_cons (snd_int) (sndA_nil))))) (snd_bin (snd_call C ⟨h__law_draw T sm (by decide)⟩ rfl hr rfl (sndA_cons (snd_var 0 rfl (.inr (.inl rfl)) n1__law_pen_here n2__law_pen_here) (sndA_cons (snd_int) (sndA_nil)))) (snd_int)) px_bin)) (sndB_cons (snd_set 3 C rfl (.inl rfl) (snd_lst (sndA_nil))) (sndB_cons (snd_for (is := [4]) C po (sndI_rng1 rfl T.b_range (sndO_cons (snd_var 2 rfl (.inr (.inl rfl)) n1__law_many n2__law_many) (sndO_nil))) (sndG_name 4 C rfl (.inl rfl) (by decide)) (nt_name) (sndB_one (snd_app 3 rfl (.inl rfl) (snd_blty (ok_tuple) rfl T.b_tuple rfl (sndO_cons (snd_lc (own := [("_law_f", 5)]) C (blk_of (by rfl)) (nt_name) (SndI.e (sndI_rng1 rfl T.b_range (sndO_cons (snd_var 1 rfl (.inl rfl) n1__law_wide n2__law_wide) (sndO_nil)))) (fun s1 H1 K1 l1 p1 => sndG_name 5 (ctx_blk C s1 H1 K1 l1 p1) rfl (.inl rfl) (by decide)) (fun s1 H1 K1 l1 p1 => sndTs_nil) (fun s1 H1 K1 l1 p1 => snd_ix (ctx_blk C s1 H1 K1 l1 p1) (snd_lst (sndA_cons (snd_none) (sndA_cons (snd_call (ctx_blk C s1 H1 K1 l1 p1) ⟨h__law_draw T sm (by decide)⟩ rfl hr rfl (sndA_cons (snd_var 0 rfl (.inr (.inl rfl)) n1__law_pen_here n2__law_pen_here) (sndA_cons (snd_var 2 rfl (.inr (.inl rfl)) n1__law_many n2__law_many) (sndA_nil)))) (sndA_nil)))) (snd_blty (ok_int) rfl T.b_int rfl (sndO_cons (snd_cmp (ctx_blk C s1 H1 K1 l1 p1) (snd_call (ctx_blk C s1 H1 K1 l1 p1) ⟨h__law_draw T sm (by decide)⟩ rfl hr rfl (sndA_cons (snd_var 0 rfl (.inr (.inl rfl)) n1__law_pen_here n2__law_pen_here) (sndA_cons (snd_int) (sndA_nil)))) (snd_int)) (sndO_nil))) px_call)) (sndO_nil)))))) (sndB_one (snd_ret (snd_tup (sndA_cons (snd_var 1 rfl (.inl rfl) n1__law_wide n2__law_wide) (sndA_cons (snd_blty (ok_tuple) rfl T.b_tuple rfl (sndO_cons (snd_var 3 rfl (.inl rfl) n1__law_found n2__law_found) (sndO_nil))) (sndA_nil)))))))))
theorem h__law_heap (T : Top w K mg) (sm : SM base) {k : Nat} (hk : 2 ≤ k) : HasG P w K mg base k "_law_heap" ["_law_pen_here"] fn__law_heap := has_of T.f__law_heap hk (ok__law_heap T sm)
theorem sc__law_ring : FnScope ["_law_pen_here", "_law_pile", "_law_many", "_law_found", "_law_one"] ["_law_pen_here", "_law_pile"] (defScope (topS 27)) := ⟨rfl, rfl, rfl, by decide +kernel, rfl, by decide +kernel, by decide +kernel⟩
theorem ok__law_ring (T : Top w K mg) (sm : SM base) {f : Addr} {fd : FuncData} (F : Fun K "_law_ring" "_law_ring" (topS 27) f fd) : FnG P w K mg base 2 f fd ["_law_pen_here", "_law_pile"] (spG K 2 (runFn 5 pf__law_ring)) :=
  fun_n F sc__law_ring sm rfl rfl fun cdv A outer s H E B C po hr => sndB_cons (snd_set 2 C rfl (.inr rfl) (snd_blt (ok_len) rfl T.b_len rfl (sndO_cons (snd_ix C (snd_var 1 rfl (.inl rfl) n1__law_pile n2__law_pile) (snd_int) px_const) (sndO_nil)))) (sndB_cons (snd_set 3 C rfl (.inl rfl) (snd_bin (snd_lst (sndA_cons (snd_none) (sndA_nil))) (snd_bin (snd_int) (snd_call C ⟨h__law_draw T sm (by decide)⟩ rfl hr rfl (sndA_cons (snd_var 0 rfl (.inr (.inl rfl)) n1__law_pen_here n2__law_pen_here) (sndA_cons (snd_int) (sndA_nil))))))) (sndB_one (snd_ret (snd_blty (ok_tuple) rfl T.b_tuple rfl (sndO_cons (snd_lc (own := [("_law_one", 4)]) C (blk_of (by rfl)) (nt_name) (SndI.e (sndI_val (snd_var 3 rfl (.inl rfl) n1__law_found n2__law_found))) (fun s1 H1 K1 l1 p1 => sndG_name 4 (ctx_blk C s1 H1 K1 l1 p1) rfl (.inl rfl) (by decide)) (fun s1 H1 K1 l1 p1 => sndTs_nil) (fun s1 H1 K1 l1 p1 => snd_ifExp (SndW.t (sndW_and (sndT_cmp (ctx_blk C s1 H1 K1 l1 p1) (snd_var 2 rfl (.inr (.inl rfl)) n1__law_many n2__law_many) (snd_int)) (sndW_and1 (sndT_cmp (ctx_blk C s1 H1 K1 l1 p1) (snd_call (ctx_blk C s1 H1 K1 l1 p1) ⟨h__law_draw T sm (by decide)⟩ rfl hr rfl (sndA_cons (snd_var 0 rfl (.inr (.inl rfl)) n1__law_pen_here n2__law_pen_here) (sndA_cons (snd_int) (sndA_nil)))) (snd_int))))) (snd_call (ctx_blk C s1 H1 K1 l1 p1) ⟨h__law_draw T sm (by decide)⟩ rfl hr rfl (sndA_cons (snd_var 0 rfl (.inr (.inl rfl)) n1__law_pen_here n2__law_pen_here) (sndA_cons (snd_var 2 rfl (.inr (.inl rfl)) n1__law_many n2__law_many) (sndA_nil)))) (snd_var 4 rfl (.inl rfl) n1__law_one n2__law_one))) (sndO_nil))))))
theorem h__law_ring (T : Top w K mg) (sm : SM base) {k : Nat} (hk : 2 ≤ k) : HasG P w K mg base k "_law_ring" ["_law_pen_here", "_law_pile"] fn__law_ring := has_of T.f__law_ring hk (ok__law_ring T sm)
theorem sc__law_place : FnScope ["_law_number"] ["_law_number"] (defScope (topS 28)) := ⟨rfl, rfl, rfl, by decide +kernel, rfl, by decide +kernel, by decide +kernel⟩
theorem ok__law_place (T : Top w K mg) (sm : SM base) {f : Addr} {fd : FuncData} (F : Fun K "_law_place" "_law_place" (topS 28) f fd) : FnG P w K mg base 1 f fd ["_law_number"] (spG K 1 (runFn 1 pf__law_place)) :=
  fun_n F sc__law_place sm rfl rfl fun cdv A outer s H E B C po hr => sndB_one (snd_ret (snd_ifExp (sndT_cmp C (snd_var 0 rfl (.inl rfl) n1__law_number n2__law_number) (snd_none)) (snd_str) (snd_blty (ok_str) rfl T.b_str rfl (sndO_cons (snd_var 0 rfl (.inl rfl) n1__law_number n2__law_number) (sndO_nil)))))
theorem h__law_place (T : Top w K mg) (sm : SM base) {k : Nat} (hk : 1 ≤ k) : HasG P w K mg base k "_law_place" ["_law_number"] fn__law_place := has_of T.f__law_place hk (ok__law_place T sm)
theorem sc__law_heap_line : FnScope ["_law_pile", "_law_words", "_law_row", "_law_one"] ["_law_pile"] (defScope (topS 29)) := ⟨rfl, rfl, rfl, by decide +kernel, rfl, by decide +kernel, by decide +kernel⟩
theorem ok__law_heap_line (T : Top w K mg) (sm : SM base) {f : Addr} {fd : FuncData} (F : Fun K "_law_heap_line" "_law_heap_line" (topS 29) f fd) : FnG P w K mg base 2 f fd ["_law_pile"] (spG K 1 (runFn 4 pf__law_heap_line)) :=
  fun_n F sc__law_heap_line sm rfl rfl fun cdv A outer s H E B C po hr => sndB_cons (snd_setLc (own := [("_law_row", 2)]) 1 C rfl rfl (by rfl) (blk_of (by rfl)) (nt_name) (SndI.e (sndI_val (snd_ix C (snd_var 0 rfl (.inl rfl) n1__law_pile n2__law_pile) (snd_int) px_const))) (fun s1 H1 K1 l1 p1 => sndG_name 2 (ctx_blk C s1 H1 K1 l1 p1) rfl (.inl rfl) (by decide)) (fun s1 H1 K1 l1 p1 => sndTs_nil) (fun s1 H1 K1 l1 p1 => snd_join (snd_str) (snd_lc (own := [("_law_one", 3)]) (ctx_blk C s1 H1 K1 l1 p1) (blk_of (by rfl)) (nt_name) (SndI.e (sndI_val (snd_var 2 rfl (.inl rfl) n1__law_row n2__law_row))) (fun s2 H2 K2 l2 p2 => sndG_name 3 (ctx_blk (ctx_blk C s1 H1 K1 l1 p1) s2 H2 K2 l2 p2) rfl (.inl rfl) (by decide)) (fun s2 H2 K2 l2 p2 => sndTs_nil) (fun s2 H2 K2 l2 p2 => snd_call (ctx_blk (ctx_blk C s1 H1 K1 l1 p1) s2 H2 K2 l2 p2) ⟨h__law_place T sm (by decide)⟩ rfl hr rfl (sndA_cons (snd_var 3 rfl (.inl rfl) n1__law_one n2__law_one) (sndA_nil)))))) (sndB_one (snd_ret (snd_bin (snd_bin (snd_blty (ok_str) rfl T.b_str rfl (sndO_cons (snd_ix C (snd_var 0 rfl (.inl rfl) n1__law_pile n2__law_pile) (snd_int) px_const) (sndO_nil))) (snd_str)) (snd_ifExp (sndT_cmp C (snd_var 1 rfl (.inl rfl) n1__law_words n2__law_words) (snd_lst (sndA_nil))) (snd_join (snd_str) (snd_var 1 rfl (.inl rfl) n1__law_words n2__law_words)) (snd_str)))))
theorem h__law_heap_line (T : Top w K mg) (sm : SM base) {k : Nat} (hk : 2 ≤ k) : HasG P w K mg base k "_law_heap_line" ["_law_pile"] fn__law_heap_line := has_of T.f__law_heap_line hk (ok__law_heap_line T sm)
theorem sc__law_ring_line : FnScope ["_law_ring_here", "_law_one"] ["_law_ring_here"] (defScope (topS 30)) := ⟨rfl, rfl, rfl, by decide +kernel, rfl, by decide +kernel, by decide +kernel⟩
theorem ok__law_ring_line (T : Top w K mg) (sm : SM base) {f : Addr} {fd : FuncData} (F : Fun K "_law_ring_line" "_law_ring_line" (topS 30) f fd) : FnG P w K mg base 2 f fd ["_law_ring_here"] (spG K 1 (runFn 2 pf__law_ring_line)) :=
  fun_n F sc__law_ring_line sm rfl rfl fun cdv A outer s H E B C po hr => sndB_one (snd_ret (snd_join (snd_str) (snd_lc (own := [("_law_one", 1)]) C (blk_of (by rfl)) (nt_name) (SndI.e (sndI_val (snd_var 0 rfl (.inl rfl) n1__law_ring_here n2__law_ring_here))) (fun s1 H1 K1 l1 p1 => sndG_name 1 (ctx_blk C s1 H1 K1 l1 p1) rfl (.inl rfl) (by decide)) (fun s1 H1 K1 l1 p1 => sndTs_nil) (fun s1 H1 K1 l1 p1 => snd_call (ctx_blk C s1 H1 K1 l1 p1) ⟨h__law_place T sm (by decide)⟩ rfl hr rfl (sndA_cons (snd_var 1 rfl (.inl rfl) n1__law_one n2__law_one) (sndA_nil))))))
theorem h__law_ring_line (T : Top w K mg) (sm : SM base) {k : Nat} (hk : 2 ≤ k) : HasG P w K mg base k "_law_ring_line" ["_law_ring_here"] fn__law_ring_line := has_of T.f__law_ring_line hk (ok__law_ring_line T sm)
theorem sc_law : FnScope ["_law_script", "_law_pen_here", "_law_turn", "_law_pile", "_law_ring_here", "_law_kept", "_law_due", "_law_told", "_law_row", "_law_line"] ["_law_script"] (defScope (topS 31)) := ⟨rfl, rfl, rfl, by decide +kernel, rfl, by decide +kernel, by decide +kernel⟩
theorem ok_law (T : Top w K mg) (sm : SM base) {f : Addr} {fd : FuncData} (F : Fun K "law" "law" (topS 31) f fd) : FnG P w K mg base 6 f fd ["_law_script"] (spG K 1 (runFn 10 pf_law)) :=
  fun_n F sc_law sm rfl rfl fun cdv A outer s H E B C po hr => sndB_cons (snd_setC 1 C rfl (.inl rfl) (snd_call C ⟨h__law_pen T sm (by decide)⟩ rfl hr rfl (sndA_cons (snd_var 0 rfl (.inl rfl) n1__law_script n2__law_script) (sndA_nil)))) (sndB_cons (snd_for (is := [2]) C po (sndI_rng1 rfl T.b_range (sndO_cons (snd_int) (sndO_nil))) (sndG_name 2 C rfl (.inl rfl) (by decide)) (nt_name) (sndB_cons (snd_set 3 C rfl (.inl rfl) (snd_call C ⟨h__law_heap T sm (by decide)⟩ rfl hr rfl (sndA_cons (snd_var 1 rfl (.inl rfl) n1__law_pen_here n2__law_pen_here) (sndA_nil)))) (sndB_cons (snd_set 4 C rfl (.inl rfl) (snd_call C ⟨h__law_ring T sm (by decide)⟩ rfl hr rfl (sndA_cons (snd_var 1 rfl (.inl rfl) n1__law_pen_here n2__law_pen_here) (sndA_cons (snd_var 3 rfl (.inl rfl) n1__law_pile n2__law_pile) (sndA_nil))))) (sndB_cons (snd_set 5 C rfl (.inl rfl) (snd_blt (ok_repr C) rfl T.b_repr rfl (sndO_cons (snd_lst (sndA_cons (snd_var 3 rfl (.inl rfl) n1__law_pile n2__law_pile) (sndA_cons (snd_var 4 rfl (.inl rfl) n1__law_ring_here n2__law_ring_here) (sndA_nil)))) (sndO_nil)))) (sndB_cons (snd_set 6 C rfl (.inl rfl) (snd_lst (sndA_cons (snd_call C ⟨h__law_heap_line T sm (by decide)⟩ rfl hr rfl (sndA_cons (snd_var 3 rfl (.inl rfl) n1__law_pile n2__law_pile) (sndA_nil))) (sndA_cons (snd_call C ⟨h__law_ring_line T sm (by decide)⟩ rfl hr rfl (sndA_cons (snd_var 4 rfl (.inl rfl) n1__law_ring_here n2__law_ring_here) (sndA_nil))) (sndA_nil))))) (sndB_cons (snd_if (sndT_cmp C (snd_blt (ok_repr C) rfl T.b_repr rfl (sndO_cons (snd_lst (sndA_cons (snd_call C ⟨h_heap_text T sm (by decide)⟩ rfl hr rfl (sndA_cons (snd_var 3 rfl (.inl rfl) n1__law_pile n2__law_pile) (sndA_nil))) (sndA_cons (snd_call C ⟨h_registers_text T sm (by decide)⟩ rfl hr rfl (sndA_cons (snd_var 4 rfl (.inl rfl) n1__law_ring_here n2__law_ring_here) (sndA_nil))) (sndA_nil)))) (sndO_nil))) (snd_blt (ok_repr C) rfl T.b_repr rfl (sndO_cons (snd_var 6 rfl (.inl rfl) n1__law_due n2__law_due) (sndO_nil)))) (sndB_one (snd_ret (snd_bool))) (sndB_nil)) (sndB_cons (snd_if (sndT_cmp C (snd_blt (ok_repr C) rfl T.b_repr rfl (sndO_cons (snd_lst (sndA_cons (snd_callK0 C ⟨hk_0 T sm (by decide)⟩ rfl rfl hr rfl (sndK_cons (snd_var 3 rfl (.inl rfl) n1__law_pile n2__law_pile) (sndK_nil))) (sndA_cons (snd_callK0 C ⟨hk_1 T sm (by decide)⟩ rfl rfl hr rfl (sndK_cons (snd_var 4 rfl (.inl rfl) n1__law_ring_here n2__law_ring_here) (sndK_nil))) (sndA_nil)))) (sndO_nil))) (snd_blt (ok_repr C) rfl T.b_repr rfl (sndO_cons (snd_var 6 rfl (.inl rfl) n1__law_due n2__law_due) (sndO_nil)))) (sndB_one (snd_ret (snd_bool))) (sndB_nil)) (sndB_cons (snd_set 7 C rfl (.inl rfl) (snd_lst (sndA_cons (snd_call C ⟨h_parse_heap T sm (by decide)⟩ rfl hr rfl (sndA_cons (snd_ix C (snd_var 6 rfl (.inl rfl) n1__law_due n2__law_due) (snd_int) px_const) (sndA_nil))) (sndA_cons (snd_callK0 C ⟨hk_2 T sm (by decide)⟩ rfl rfl hr rfl (sndK_cons (snd_ix C (snd_var 6 rfl (.inl rfl) n1__law_due n2__law_due) (snd_int) px_const) (sndK_nil))) (sndA_nil))))) (sndB_one (snd_if (SndW.t (sndW_or (sndT_cmp C (snd_blt (ok_repr C) rfl T.b_repr rfl (sndO_cons (snd_var 7 rfl (.inl rfl) n1__law_told n2__law_told) (sndO_nil))) (snd_blt (ok_repr C) rfl T.b_repr rfl (sndO_cons (snd_lst (sndA_cons (snd_var 3 rfl (.inl rfl) n1__law_pile n2__law_pile) (sndA_cons (snd_var 3 rfl (.inl rfl) n1__law_pile n2__law_pile) (sndA_nil)))) (sndO_nil)))) (sndW_or (sndT_cmp C (snd_call C ⟨h_heap_text T sm (by decide)⟩ rfl hr rfl (sndA_cons (snd_ix C (snd_var 7 rfl (.inl rfl) n1__law_told n2__law_told) (snd_int) px_const) (sndA_nil))) (snd_ix C (snd_var 6 rfl (.inl rfl) n1__law_due n2__law_due) (snd_int) px_const)) (sndW_or1 (sndT_cmp C (snd_blt (ok_repr C) rfl T.b_repr rfl (sndO_cons (snd_lst (sndA_cons (snd_var 3 rfl (.inl rfl) n1__law_pile n2__law_pile) (sndA_cons (snd_var 4 rfl (.inl rfl) n1__law_ring_here n2__law_ring_here) (sndA_nil)))) (sndO_nil))) (snd_var 5 rfl (.inl rfl) n1__law_kept n2__law_kept)))))) (sndB_one (snd_ret (snd_bool))) (sndB_nil))))))))))) (sndB_cons (snd_set 8 C rfl (.inl rfl) (snd_lst (sndA_cons (snd_lst (sndA_cons (snd_tup (sndA_cons (snd_int) (sndA_cons (snd_tup (sndA_nil)) (sndA_nil)))) (sndA_cons (snd_str) (sndA_nil)))) (sndA_cons (snd_lst (sndA_cons (snd_tup (sndA_cons (snd_int) (sndA_cons (snd_tup (sndA_cons (snd_tup (sndA_cons (snd_none) (sndA_cons (snd_none) (sndA_cons (snd_none) (sndA_cons (snd_none) (sndA_nil)))))) (sndA_nil))) (sndA_nil)))) (sndA_cons (snd_str) (sndA_nil)))) (sndA_nil))))) (sndB_cons (snd_app 8 rfl (.inl rfl) (snd_lst (sndA_cons (snd_tup (sndA_cons (snd_int) (sndA_cons (snd_bin (snd_tup (sndA_cons (snd_tup (sndA_cons (snd_int) (sndA_nil))) (sndA_nil))) (snd_int)) (sndA_nil)))) (sndA_cons (snd_bin (snd_str) (snd_mulS (snd_str) (snd_int))) (sndA_nil))))) (sndB_one (snd_ret (snd_cmp C (snd_lc (own := [("_law_pile", 3), ("_law_line", 9)]) C (blk_of (by rfl)) (nt_tup (nts_cons (nt_name) (nts_cons (nt_name) (nts_nil)))) (SndI.e (sndI_val (snd_var 8 rfl (.inl rfl) n1__law_row n2__law_row))) (fun s1 H1 K1 l1 p1 => sndG_tup 2 (ctx_blk C s1 H1 K1 l1 p1) (sndGs_cons (sndG_name 3 (ctx_blk C s1 H1 K1 l1 p1) rfl (.inl rfl) (by decide)) (sndGs_cons (sndG_name 9 (ctx_blk C s1 H1 K1 l1 p1) rfl (.inl rfl) (by decide)) (sndGs_nil)))) (fun s1 H1 K1 l1 p1 => sndTs_one (SndW.t (sndW_or (sndT_cmp (ctx_blk C s1 H1 K1 l1 p1) (snd_call (ctx_blk C s1 H1 K1 l1 p1) ⟨h_heap_text T sm (by decide)⟩ rfl hr rfl (sndA_cons (snd_var 3 rfl (.inl rfl) n1__law_pile n2__law_pile) (sndA_nil))) (snd_var 9 rfl (.inl rfl) n1__law_line n2__law_line)) (sndW_or1 (sndT_cmp (ctx_blk C s1 H1 K1 l1 p1) (snd_call (ctx_blk C s1 H1 K1 l1 p1) ⟨h_parse_heap T sm (by decide)⟩ rfl hr rfl (sndA_cons (snd_var 9 rfl (.inl rfl) n1__law_line n2__law_line) (sndA_nil))) (snd_var 3 rfl (.inl rfl) n1__law_pile n2__law_pile)))))) (fun s1 H1 K1 l1 p1 => snd_int)) (snd_lst (sndA_nil))))))))
theorem h_law (T : Top w K mg) (sm : SM base) {k : Nat} (hk : 6 ≤ k) : HasG P w K mg base k "law" ["_law_script"] fn_law := has_of T.f_law hk (ok_law T sm)
end
theorem all_mk {w : World} {K : PySem.W.Frag} {h : Heap} {mg : Str → Option Value} {fa : Addr} (X : K.In h) (G : h.Ns mainGlobals mg) (hfa : mg "law" = some (.ref fa))
    (z_isinstance : PySem.W.nsIn K mainGlobals "isinstance" = some none)
    (z_str : PySem.W.nsIn K mainGlobals "str" = some none)
    (z_len : PySem.W.nsIn K mainGlobals "len" = some none)
    (z_all : PySem.W.nsIn K mainGlobals "all" = some none)
    (z_int : PySem.W.nsIn K mainGlobals "int" = some none)
    (z_enumerate : PySem.W.nsIn K mainGlobals "enumerate" = some none)
    (z_tuple : PySem.W.nsIn K mainGlobals "tuple" = some none)
    (z_list : PySem.W.nsIn K mainGlobals "list" = some none)
    (z_abs : PySem.W.nsIn K mainGlobals "abs" = some none)
    (z_range : PySem.W.nsIn K mainGlobals "range" = some none)
    (z_repr : PySem.W.nsIn K mainGlobals "repr" = some none)
    {t_NOTHING_formatting : Nat} (z_NOTHING_formatting : PySem.W.nsIn K mainGlobals "NOTHING_formatting" = some (some (.str "-" t_NOTHING_formatting)))
    {t_LONGEST_NUMBER : Nat} (z_LONGEST_NUMBER : PySem.W.nsIn K mainGlobals "LONGEST_NUMBER" = some (some (.int 30 t_LONGEST_NUMBER)))
    {t_NOTHING_parsing : Nat} (z_NOTHING_parsing : PySem.W.nsIn K mainGlobals "NOTHING_parsing" = some (some (.str "-" t_NOTHING_parsing)))
    {t_MOST_WIDTH : Nat} (z_MOST_WIDTH : PySem.W.nsIn K mainGlobals "MOST_WIDTH" = some (some (.int 4 t_MOST_WIDTH)))
    {t_MOST_OBJECTS : Nat} (z_MOST_OBJECTS : PySem.W.nsIn K mainGlobals "MOST_OBJECTS" = some (some (.int 40 t_MOST_OBJECTS)))
    {Ck_ParseError : Addr} (zk_ParseError : PySem.W.nsIn K mainGlobals "ParseError" = some (some (.ref Ck_ParseError)))
    {odx_ParseError anx_ParseError : Option Addr} {slx_ParseError : Array (Option Value)} {fx_ParseError : Addr} {ocx_ParseError kVx_ParseError dcx_ParseError pmx_ParseError cdx_ParseError ctx_ParseError : Value}
    (ow_ParseError : oexB K Ck_ParseError = true) (ix_ParseError : PySem.W.findIn K (.ref Ck_ParseError) "__init__" = some (some (.ref fx_ParseError))) (ob_ParseError : initB K Ck_ParseError fx_ParseError ["line", "word"] = true)
    (lx_ParseError : K.lookup fx_ParseError = some ⟨ocx_ParseError, odx_ParseError, .func (PySem.W.fnOf "__init__" "ParseError.__init__" (defArgs (memS (topS 2) 0)) (defBody (memS (topS 2) 0)) (defScope (memS (topS 2) 0)) .none kVx_ParseError dcx_ParseError pmx_ParseError anx_ParseError cdx_ParseError ctx_ParseError), slx_ParseError⟩) (qx_ParseError : PySem.W.codeIn K cdx_ParseError "ParseError.__init__" = true) (kx_ParseError : PySem.W.keepIn K (.ref fx_ParseError) = true)
    (oe_ParseError : excB K Ck_ParseError ["line", "word"] = true)
    {od0 an0 : Option Addr} {sl0 : Array (Option Value)} {f0 : Addr} {oc0 kV0 dc0 pm0 cd0 ct0 : Value}
    (a0 : PySem.W.nsIn K mainGlobals "one_line" = some (some (.ref f0))) (l0 : K.lookup f0 = some ⟨oc0, od0, .func (PySem.W.fnOf "one_line" "one_line" (defArgs (topS 4)) (defBody (topS 4)) (defScope (topS 4)) .none kV0 dc0 pm0 an0 cd0 ct0), sl0⟩) (c0 : PySem.W.codeIn K cd0 "one_line" = true) (k0 : PySem.W.keepIn K (.ref f0) = true)
    {od1 an1 : Option Addr} {sl1 : Array (Option Value)} {f1 : Addr} {oc1 kV1 dc1 pm1 cd1 ct1 : Value}
    (a1 : PySem.W.nsIn K mainGlobals "need_one_line" = some (some (.ref f1))) (l1 : K.lookup f1 = some ⟨oc1, od1, .func (PySem.W.fnOf "need_one_line" "need_one_line" (defArgs (topS 5)) (defBody (topS 5)) (defScope (topS 5)) .none kV1 dc1 pm1 an1 cd1 ct1), sl1⟩) (c1 : PySem.W.codeIn K cd1 "need_one_line" = true) (k1 : PySem.W.keepIn K (.ref f1) = true)
    {od2 an2 : Option Addr} {sl2 : Array (Option Value)} {f2 : Addr} {oc2 kV2 dc2 pm2 cd2 ct2 : Value}
    (a2 : PySem.W.nsIn K mainGlobals "number_text" = some (some (.ref f2))) (l2 : K.lookup f2 = some ⟨oc2, od2, .func (PySem.W.fnOf "number_text" "number_text" (defArgs (topS 8)) (defBody (topS 8)) (defScope (topS 8)) .none kV2 dc2 pm2 an2 cd2 ct2), sl2⟩) (c2 : PySem.W.codeIn K cd2 "number_text" = true) (k2 : PySem.W.keepIn K (.ref f2) = true)
    {od3 an3 : Option Addr} {sl3 : Array (Option Value)} {f3 : Addr} {oc3 kV3 dc3 pm3 cd3 ct3 : Value}
    (a3 : PySem.W.nsIn K mainGlobals "heap_text" = some (some (.ref f3))) (l3 : K.lookup f3 = some ⟨oc3, od3, .func (PySem.W.fnOf "heap_text" "heap_text" (defArgs (topS 9)) (defBody (topS 9)) (defScope (topS 9)) .none kV3 dc3 pm3 an3 cd3 ct3), sl3⟩) (c3 : PySem.W.codeIn K cd3 "heap_text" = true) (k3 : PySem.W.keepIn K (.ref f3) = true)
    {od4 an4 : Option Addr} {sl4 : Array (Option Value)} {f4 : Addr} {oc4 kV4 dc4 pm4 cd4 ct4 : Value}
    (a4 : PySem.W.nsIn K mainGlobals "registers_text" = some (some (.ref f4))) (l4 : K.lookup f4 = some ⟨oc4, od4, .func (PySem.W.fnOf "registers_text" "registers_text" (defArgs (topS 10)) (defBody (topS 10)) (defScope (topS 10)) .none kV4 dc4 pm4 an4 cd4 ct4), sl4⟩) (c4 : PySem.W.codeIn K cd4 "registers_text" = true) (k4 : PySem.W.keepIn K (.ref f4) = true)
    {od5 an5 : Option Addr} {sl5 : Array (Option Value)} {f5 : Addr} {oc5 kV5 dc5 pm5 cd5 ct5 : Value}
    (a5 : PySem.W.nsIn K mainGlobals "number_in" = some (some (.ref f5))) (l5 : K.lookup f5 = some ⟨oc5, od5, .func (PySem.W.fnOf "number_in" "number_in" (defArgs (topS 16)) (defBody (topS 16)) (defScope (topS 16)) .none kV5 dc5 pm5 an5 cd5 ct5), sl5⟩) (c5 : PySem.W.codeIn K cd5 "number_in" = true) (k5 : PySem.W.keepIn K (.ref f5) = true)
    {od6 an6 : Option Addr} {sl6 : Array (Option Value)} {f6 : Addr} {oc6 kV6 dc6 pm6 cd6 ct6 : Value}
    (a6 : PySem.W.nsIn K mainGlobals "is_place" = some (some (.ref f6))) (l6 : K.lookup f6 = some ⟨oc6, od6, .func (PySem.W.fnOf "is_place" "is_place" (defArgs (topS 17)) (defBody (topS 17)) (defScope (topS 17)) .none kV6 dc6 pm6 an6 cd6 ct6), sl6⟩) (c6 : PySem.W.codeIn K cd6 "is_place" = true) (k6 : PySem.W.keepIn K (.ref f6) = true)
    {od7 an7 : Option Addr} {sl7 : Array (Option Value)} {f7 : Addr} {oc7 kV7 dc7 pm7 cd7 ct7 : Value}
    (a7 : PySem.W.nsIn K mainGlobals "place_in" = some (some (.ref f7))) (l7 : K.lookup f7 = some ⟨oc7, od7, .func (PySem.W.fnOf "place_in" "place_in" (defArgs (topS 18)) (defBody (topS 18)) (defScope (topS 18)) .none kV7 dc7 pm7 an7 cd7 ct7), sl7⟩) (c7 : PySem.W.codeIn K cd7 "place_in" = true) (k7 : PySem.W.keepIn K (.ref f7) = true)
    {od8 an8 : Option Addr} {sl8 : Array (Option Value)} {f8 : Addr} {oc8 kV8 dc8 pm8 cd8 ct8 : Value}
    (a8 : PySem.W.nsIn K mainGlobals "is_object" = some (some (.ref f8))) (l8 : K.lookup f8 = some ⟨oc8, od8, .func (PySem.W.fnOf "is_object" "is_object" (defArgs (topS 19)) (defBody (topS 19)) (defScope (topS 19)) .none kV8 dc8 pm8 an8 cd8 ct8), sl8⟩) (c8 : PySem.W.codeIn K cd8 "is_object" = true) (k8 : PySem.W.keepIn K (.ref f8) = true)
    {od9 an9 : Option Addr} {sl9 : Array (Option Value)} {f9 : Addr} {oc9 kV9 dc9 pm9 cd9 ct9 : Value}
    (a9 : PySem.W.nsIn K mainGlobals "width_in" = some (some (.ref f9))) (l9 : K.lookup f9 = some ⟨oc9, od9, .func (PySem.W.fnOf "width_in" "width_in" (defArgs (topS 20)) (defBody (topS 20)) (defScope (topS 20)) .none kV9 dc9 pm9 an9 cd9 ct9), sl9⟩) (c9 : PySem.W.codeIn K cd9 "width_in" = true) (k9 : PySem.W.keepIn K (.ref f9) = true)
    {od10 an10 : Option Addr} {sl10 : Array (Option Value)} {f10 : Addr} {oc10 kV10 dc10 pm10 cd10 ct10 : Value}
    (a10 : PySem.W.nsIn K mainGlobals "heap_in" = some (some (.ref f10))) (l10 : K.lookup f10 = some ⟨oc10, od10, .func (PySem.W.fnOf "heap_in" "heap_in" (defArgs (topS 21)) (defBody (topS 21)) (defScope (topS 21)) .none kV10 dc10 pm10 an10 cd10 ct10), sl10⟩) (c10 : PySem.W.codeIn K cd10 "heap_in" = true) (k10 : PySem.W.keepIn K (.ref f10) = true)
    {od11 an11 : Option Addr} {sl11 : Array (Option Value)} {f11 : Addr} {oc11 kV11 dc11 pm11 cd11 ct11 : Value}
    (a11 : PySem.W.nsIn K mainGlobals "parse_heap" = some (some (.ref f11))) (l11 : K.lookup f11 = some ⟨oc11, od11, .func (PySem.W.fnOf "parse_heap" "parse_heap" (defArgs (topS 22)) (defBody (topS 22)) (defScope (topS 22)) .none kV11 dc11 pm11 an11 cd11 ct11), sl11⟩) (c11 : PySem.W.codeIn K cd11 "parse_heap" = true) (k11 : PySem.W.keepIn K (.ref f11) = true)
    {od12 an12 : Option Addr} {sl12 : Array (Option Value)} {f12 : Addr} {oc12 kV12 dc12 pm12 cd12 ct12 : Value}
    (a12 : PySem.W.nsIn K mainGlobals "_law_pen" = some (some (.ref f12))) (l12 : K.lookup f12 = some ⟨oc12, od12, .func (PySem.W.fnOf "_law_pen" "_law_pen" (defArgs (topS 24)) (defBody (topS 24)) (defScope (topS 24)) .none kV12 dc12 pm12 an12 cd12 ct12), sl12⟩) (c12 : PySem.W.codeIn K cd12 "_law_pen" = true) (k12 : PySem.W.keepIn K (.ref f12) = true)
    {od13 an13 : Option Addr} {sl13 : Array (Option Value)} {f13 : Addr} {oc13 kV13 dc13 pm13 cd13 ct13 : Value}
    (a13 : PySem.W.nsIn K mainGlobals "_law_draw" = some (some (.ref f13))) (l13 : K.lookup f13 = some ⟨oc13, od13, .func (PySem.W.fnOf "_law_draw" "_law_draw" (defArgs (topS 25)) (defBody (topS 25)) (defScope (topS 25)) .none kV13 dc13 pm13 an13 cd13 ct13), sl13⟩) (c13 : PySem.W.codeIn K cd13 "_law_draw" = true) (k13 : PySem.W.keepIn K (.ref f13) = true)
    {od14 an14 : Option Addr} {sl14 : Array (Option Value)} {f14 : Addr} {oc14 kV14 dc14 pm14 cd14 ct14 : Value}
    (a14 : PySem.W.nsIn K mainGlobals "_law_heap" = some (some (.ref f14))) (l14 : K.lookup f14 = some ⟨oc14, od14, .func (PySem.W.fnOf "_law_heap" "_law_heap" (defArgs (topS 26)) (defBody (topS 26)) (defScope (topS 26)) .none kV14 dc14 pm14 an14 cd14 ct14), sl14⟩) (c14 : PySem.W.codeIn K cd14 "_law_heap" = true) (k14 : PySem.W.keepIn K (.ref f14) = true)
    {od15 an15 : Option Addr} {sl15 : Array (Option Value)} {f15 : Addr} {oc15 kV15 dc15 pm15 cd15 ct15 : Value}
    (a15 : PySem.W.nsIn K mainGlobals "_law_ring" = some (some (.ref f15))) (l15 : K.lookup f15 = some ⟨oc15, od15, .func (PySem.W.fnOf "_law_ring" "_law_ring" (defArgs (topS 27)) (defBody (topS 27)) (defScope (topS 27)) .none kV15 dc15 pm15 an15 cd15 ct15), sl15⟩) (c15 : PySem.W.codeIn K cd15 "_law_ring" = true) (k15 : PySem.W.keepIn K (.ref f15) = true)
    {od16 an16 : Option Addr} {sl16 : Array (Option Value)} {f16 : Addr} {oc16 kV16 dc16 pm16 cd16 ct16 : Value}
    (a16 : PySem.W.nsIn K mainGlobals "_law_place" = some (some (.ref f16))) (l16 : K.lookup f16 = some ⟨oc16, od16, .func (PySem.W.fnOf "_law_place" "_law_place" (defArgs (topS 28)) (defBody (topS 28)) (defScope (topS 28)) .none kV16 dc16 pm16 an16 cd16 ct16), sl16⟩) (c16 : PySem.W.codeIn K cd16 "_law_place" = true) (k16 : PySem.W.keepIn K (.ref f16) = true)
    {od17 an17 : Option Addr} {sl17 : Array (Option Value)} {f17 : Addr} {oc17 kV17 dc17 pm17 cd17 ct17 : Value}
    (a17 : PySem.W.nsIn K mainGlobals "_law_heap_line" = some (some (.ref f17))) (l17 : K.lookup f17 = some ⟨oc17, od17, .func (PySem.W.fnOf "_law_heap_line" "_law_heap_line" (defArgs (topS 29)) (defBody (topS 29)) (defScope (topS 29)) .none kV17 dc17 pm17 an17 cd17 ct17), sl17⟩) (c17 : PySem.W.codeIn K cd17 "_law_heap_line" = true) (k17 : PySem.W.keepIn K (.ref f17) = true)
    {od18 an18 : Option Addr} {sl18 : Array (Option Value)} {f18 : Addr} {oc18 kV18 dc18 pm18 cd18 ct18 : Value}
    (a18 : PySem.W.nsIn K mainGlobals "_law_ring_line" = some (some (.ref f18))) (l18 : K.lookup f18 = some ⟨oc18, od18, .func (PySem.W.fnOf "_law_ring_line" "_law_ring_line" (defArgs (topS 30)) (defBody (topS 30)) (defScope (topS 30)) .none kV18 dc18 pm18 an18 cd18 ct18), sl18⟩) (c18 : PySem.W.codeIn K cd18 "_law_ring_line" = true) (k18 : PySem.W.keepIn K (.ref f18) = true)
    {od19 an19 : Option Addr} {sl19 : Array (Option Value)} {f19 : Addr} {oc19 kV19 dc19 pm19 cd19 ct19 : Value}
    (a19 : PySem.W.nsIn K mainGlobals "law" = some (some (.ref f19))) (l19 : K.lookup f19 = some ⟨oc19, od19, .func (PySem.W.fnOf "law" "law" (defArgs (topS 31)) (defBody (topS 31)) (defScope (topS 31)) .none kV19 dc19 pm19 an19 cd19 ct19), sl19⟩) (c19 : PySem.W.codeIn K cd19 "law" = true) (k19 : PySem.W.keepIn K (.ref f19) = true)
    : ∃ fd : FuncData, (∀ (s : Shared) (v : Value), BindsTo s fd ⟨[v], []⟩ [("_law_script", v)]) ∧ ∀ base : Heap, K.In base → base.Ns mainGlobals mg → SM base → TabG K mg base → FnG PySem.Challenge.rw_shadeguards_k72_heaps_and_registers_writ.prog w K mg base 6 fa fd ["_law_script"] (spG K 1 fn_law) := by
  have e := hfa.symm.trans (PySem.W.mg_of X G a19)
  cases e
  have T : Top w K mg := ⟨PySem.W.mg_none_of X G z_isinstance, PySem.W.mg_none_of X G z_str, PySem.W.mg_none_of X G z_len, PySem.W.mg_none_of X G z_all, PySem.W.mg_none_of X G z_int, PySem.W.mg_none_of X G z_enumerate, PySem.W.mg_none_of X G z_tuple, PySem.W.mg_none_of X G z_list, PySem.W.mg_none_of X G z_abs, PySem.W.mg_none_of X G z_range, PySem.W.mg_none_of X G z_repr, gm_str (PySem.W.mg_of X G z_NOTHING_formatting), gm_int (PySem.W.mg_of X G z_LONGEST_NUMBER), gm_str (PySem.W.mg_of X G z_NOTHING_parsing), gm_int (PySem.W.mg_of X G z_MOST_WIDTH), gm_int (PySem.W.mg_of X G z_MOST_OBJECTS), xi_mk (PySem.W.mg_of X G zk_ParseError) zk_ParseError ow_ParseError ix_ParseError ob_ParseError lx_ParseError qx_ParseError kx_ParseError (fun _ _ _ _ _ _ us hl => match us, hl with | [_, _, _], _ => rfl), exN_mk zk_ParseError oe_ParseError, fm_of (PySem.W.mg_of X G a0) l0 c0 k0 fun _ _ _ _ _ _ us hl => match us, hl with | [_], _ => rfl, fm_of (PySem.W.mg_of X G a1) l1 c1 k1 fun _ _ _ _ _ _ us hl => match us, hl with | [_], _ => rfl, fm_of (PySem.W.mg_of X G a2) l2 c2 k2 fun _ _ _ _ _ _ us hl => match us, hl with | [_], _ => rfl, fm_of (PySem.W.mg_of X G a3) l3 c3 k3 fun _ _ _ _ _ _ us hl => match us, hl with | [_], _ => rfl, fm_of (PySem.W.mg_of X G a4) l4 c4 k4 fun _ _ _ _ _ _ us hl => match us, hl with | [_], _ => rfl, fm_of (PySem.W.mg_of X G a5) l5 c5 k5 fun _ _ _ _ _ _ us hl => match us, hl with | [_], _ => rfl, fm_of (PySem.W.mg_of X G a6) l6 c6 k6 fun _ _ _ _ _ _ us hl => match us, hl with | [_, _], _ => rfl, fm_of (PySem.W.mg_of X G a7) l7 c7 k7 fun _ _ _ _ _ _ us hl => match us, hl with | [_], _ => rfl, fm_of (PySem.W.mg_of X G a8) l8 c8 k8 fun _ _ _ _ _ _ us hl => match us, hl with | [_, _, _], _ => rfl, fm_of (PySem.W.mg_of X G a9) l9 c9 k9 fun _ _ _ _ _ _ us hl => match us, hl with | [_], _ => rfl, fm_of (PySem.W.mg_of X G a10) l10 c10 k10 fun _ _ _ _ _ _ us hl => match us, hl with | [_, _, _], _ => rfl, fm_of (PySem.W.mg_of X G a11) l11 c11 k11 fun _ _ _ _ _ _ us hl => match us, hl with | [_], _ => rfl, fm_of (PySem.W.mg_of X G a12) l12 c12 k12 fun _ _ _ _ _ _ us hl => match us, hl with | [_], _ => rfl, fm_of (PySem.W.mg_of X G a13) l13 c13 k13 fun _ _ _ _ _ _ us hl => match us, hl with | [_, _], _ => rfl, fm_of (PySem.W.mg_of X G a14) l14 c14 k14 fun _ _ _ _ _ _ us hl => match us, hl with | [_], _ => rfl, fm_of (PySem.W.mg_of X G a15) l15 c15 k15 fun _ _ _ _ _ _ us hl => match us, hl with | [_, _], _ => rfl, fm_of (PySem.W.mg_of X G a16) l16 c16 k16 fun _ _ _ _ _ _ us hl => match us, hl with | [_], _ => rfl, fm_of (PySem.W.mg_of X G a17) l17 c17 k17 fun _ _ _ _ _ _ us hl => match us, hl with | [_], _ => rfl, fm_of (PySem.W.mg_of X G a18) l18 c18 k18 fun _ _ _ _ _ _ us hl => match us, hl with | [_], _ => rfl, fm_of (PySem.W.mg_of X G a19) l19 c19 k19 fun _ _ _ _ _ _ us hl => match us, hl with | [_], _ => rfl⟩
  exact ⟨PySem.W.fnOf "law" "law" (defArgs (topS 31)) (defBody (topS 31)) (defScope (topS 31)) .none kV19 dc19 pm19 an19 cd19 ct19, fun s v => .of_eq rfl, fun base _ _ sm tg => ok_law T sm (fun_mk (st := topS 31) l19 c19 k19)⟩
end Ev
open PySem PySem.W PyProof.Rows
set_option maxHeartbeats 0 in
theorem PySem.Challenge.cw_shadeguards_k72_heaps_and_registers_writ_holds : PySem.Challenge.rw_shadeguards_k72_heaps_and_registers_writ.Holds := by
  w_on; o_law; k_head; (case hw => w_witness2)
  k_fill
  refine Ev.walk_GL (l := PySem.Challenge.rw_shadeguards_k72_heaps_and_registers_writ) (n := 63) (k := 6) (x := "_law_script") (g := Ev.fn_law) rfl rfl (by decide) rfl ⟨rfl, by decide, by decide⟩ (fun w h Y => by first | exact PySem.W.kIn_of Y | exact PySem.W.km_in_of Y) ?hd ?ho ?F Ev.law_true
  case hd => kernel_rfl
  case ho => intro w; kernel_rfl
  case F =>
    intro w mg fa h KX G hmg
    refine' Ev.all_mk KX G hmg ?z_isinstance ?z_str ?z_len ?z_all ?z_int ?z_enumerate ?z_tuple ?z_list ?z_abs ?z_range ?z_repr ?z_NOTHING_formatting ?z_LONGEST_NUMBER ?z_NOTHING_parsing ?z_MOST_WIDTH ?z_MOST_OBJECTS ?zk_ParseError ?ow_ParseError ?ix_ParseError ?ob_ParseError ?lx_ParseError ?qx_ParseError ?kx_ParseError ?oe_ParseError ?a0 ?l0 ?c0 ?k0 ?a1 ?l1 ?c1 ?k1 ?a2 ?l2 ?c2 ?k2 ?a3 ?l3 ?c3 ?k3 ?a4 ?l4 ?c4 ?k4 ?a5 ?l5 ?c5 ?k5 ?a6 ?l6 ?c6 ?k6 ?a7 ?l7 ?c7 ?k7 ?a8 ?l8 ?c8 ?k8 ?a9 ?l9 ?c9 ?k9 ?a10 ?l10 ?c10 ?k10 ?a11 ?l11 ?c11 ?k11 ?a12 ?l12 ?c12 ?k12 ?a13 ?l13 ?c13 ?k13 ?a14 ?l14 ?c14 ?k14 ?a15 ?l15 ?c15 ?k15 ?a16 ?l16 ?c16 ?k16 ?a17 ?l17 ?c17 ?k17 ?a18 ?l18 ?c18 ?k18 ?a19 ?l19 ?c19 ?k19
    (case z_isinstance => k_is); (case z_str => k_is); (case z_len => k_is); (case z_all => k_is); (case z_int => k_is); (case z_enumerate => k_is); (case z_tuple => k_is); (case z_list => k_is); (case z_abs => k_is); (case z_range => k_is); (case z_repr => k_is); (case z_NOTHING_formatting => k_is); (case z_LONGEST_NUMBER => k_is); (case z_NOTHING_parsing => k_is); (case z_MOST_WIDTH => k_is); (case z_MOST_OBJECTS => k_is); (case zk_ParseError => k_is); (case ow_ParseError => kernel_rfl); (case ix_ParseError => k_is); (case ob_ParseError => kernel_rfl); (case lx_ParseError => k_is); (case qx_ParseError => k_is); (case kx_ParseError => k_is); (case oe_ParseError => kernel_rfl); (case a0 => k_is); (case l0 => k_is); (case c0 => k_is); (case k0 => k_is); (case a1 => k_is); (case l1 => k_is); (case c1 => k_is); (case k1 => k_is); (case a2 => k_is); (case l2 => k_is); (case c2 => k_is); (case k2 => k_is); (case a3 => k_is); (case l3 => k_is); (case c3 => k_is); (case k3 => k_is); (case a4 => k_is); (case l4 => k_is); (case c4 => k_is); (case k4 => k_is); (case a5 => k_is); (case l5 => k_is); (case c5 => k_is); (case k5 => k_is); (case a6 => k_is); (case l6 => k_is); (case c6 => k_is); (case k6 => k_is); (case a7 => k_is); (case l7 => k_is); (case c7 => k_is); (case k7 => k_is); (case a8 => k_is); (case l8 => k_is); (case c8 => k_is); (case k8 => k_is); (case a9 => k_is); (case l9 => k_is); (case c9 => k_is); (case k9 => k_is); (case a10 => k_is); (case l10 => k_is); (case c10 => k_is); (case k10 => k_is); (case a11 => k_is); (case l11 => k_is); (case c11 => k_is); (case k11 => k_is); (case a12 => k_is); (case l12 => k_is); (case c12 => k_is); (case k12 => k_is); (case a13 => k_is); (case l13 => k_is); (case c13 => k_is); (case k13 => k_is); (case a14 => k_is); (case l14 => k_is); (case c14 => k_is); (case k14 => k_is); (case a15 => k_is); (case l15 => k_is); (case c15 => k_is); (case k15 => k_is); (case a16 => k_is); (case l16 => k_is); (case c16 => k_is); (case k16 => k_is); (case a17 => k_is); (case l17 => k_is); (case c17 => k_is); (case k17 => k_is); (case a18 => k_is); (case l18 => k_is); (case c18 => k_is); (case k18 => k_is); (case a19 => k_is); (case l19 => k_is); (case c19 => k_is); (case k19 => k_is)
