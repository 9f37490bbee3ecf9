import PyProof.Rows.All
import Wide.All
import OpenK.AllK
import Wide.FinOn
import KE.OsRun
import HandS.Head2
import HandS.ForMost
import HandS.ForExc
import HandS.TupAny
import HandS.TupMul
import HandS.IsInst
import HandS.Deep
import HandS.Flow
import HandS.Style
import HandS.Lambda
import HandS.EndTab
import HandS.TupLe
import HandS.RaiseMore
import PyProof.RowDictHeap
import HandS.Star
import HandS.Defaults
import HandS.TryOnly
import HandS.Small
import HandS.Codes
import HandS.Dict
import HandS.EndBits
import HandS.SortInts
import HandS.More
import HandS.MakeKwOnly
import HandS.SetFor
import HandS.Strs
import HandS.Conv
import HandS.Zip
import HandS.Zip0
import HandS.Text
import HandS.ExcInit
import HandS.ExcIs
import HandS.ExcField
import HandS.ExcValue
import KE.KTryMore
import KE.KExcInit
import HandS.WordsExc
import KE.KExcIs
import KE.GoesMore
import KE.GoesEnum
import KE.KStar
import HandS.Property
import HandS.ClsMeth
import HandS.SlotsOwn
import PyProof.InstNe
import KE.KCallOwn
import HandS.FStr
import HandS.Wide
import HandS.ExcOwn
import KE.KUnpackStar
import PyProof.ListNew
import HandS.ListItems
import KE.KWithOwn
import HandS.HotCalls
import KE.KSuper
import KE.KBoundM
import HandS.TupSets
import HandS.SortOrd
import PySem.Challenge.RW_shadeguards_k54_runs_that_free_old_objec
set_option Elab.async false
set_option linter.all false
set_option maxRecDepth 100000
set_option maxHeartbeats 40000000
namespace Ev
open PySem PySem.W PySem.Calls PyProof.Rows
/-! ### the head by one run of the top, told by the kernel for each answer of one row -/
/-- the hook is this one (a word for unification) -/
def vZh (_ : Hook) : Prop := True
theorem wH3 (H : Hook) : vZh H := trivial
/-- the run's equation -/
def xQw (r : OpenRow) (q : Program) (K : Params → Frag) (as : List Addr) (M : Nat) (loose : List PySem.Str) (w : World) : Prop :=
  ∀ os : OsState, (HeadRun.endF (HeadRun.stepQ (HeadRun.denQ HeadRun.tabQ) r.prog w) M r.prog w os).map (fun s => (HeadRun.looksF r.prog (boot_heap w.params) s.abs, HeadRun.seenQ q loose (importedModules r.prog.main.body) (fun s => xlAt q [] s && recOk r.toRowW.records s) s.abs, as.map (HeadRun.getT s))) = some (true, openGood q loose, (K w.params).map fun x => some x.2)
theorem wXk {r : OpenRow} {q : Program} {K : Params → Frag} {as : List Addr} {M : Nat} {loose : List PySem.Str} (row : String) (hf : ∀ w : World, xQw r q K as M loose (w.withFollow row false)) (ht : ∀ w : World, xQw r q K as M loose (w.withFollow row true)) (w : World) : xQw r q K as M loose w :=
  byRow2 row (P := xQw r q K as M loose) hf ht w
theorem wJx {r : OpenRow} {q : Program} {K : Params → Frag} {as : List Addr} {ek : ∀ P, as = (K P).map (·.1)} {M : Nat} {loose : List PySem.Str} {d : DefRec} {kwd : List (PySem.Str × PySem.Expr)} (_ : vZh (kHook K as ek))
    (e : opening r.prog = plainProg r.prog.main.scope.names) (f : ∀ s, fenceModules? r.prog s = some s) (run : ∀ w, xQw r q K as M loose w)
    (hdef : defOf q r.name = some (d, kwd)) (hp : r.prog.theDef r.name = some (d.params, d.body, d.scope)) (hk : kwWritten? d.params.kwonlyargs d.params.kw_defaults = some kwd)
    (hwr : (!r.writes || r.records.isEmpty) = true) (k1 : r.wellSaid = true) (ok : (chainsOk q && opensWell r.prog && (frees r.toRowW && r.within.isEmpty)) = true) (hb : r.prog.bare) (hw : r.toRowW.promised)
    (call : WalkO q loose (XL q []) (kHook K as ek).says r.toRowW d kwd fun f vs => PySem.call f vs) : r.Holds := by
  have left : LeftO r.prog q loose (fun s => xlAt q [] s && recOk r.toRowW.records s) (kHook K as ek).obs (kHook K as ek).val (M + 600) true :=
    HeadRun.left_oneK (M := M) e (Nat.ble_eq_true_of_le (by omega)) f (Nat.ble_eq_true_of_le (by omega)) fun w os => run w os
  exact holds_open (r := r) (q := q) (loose := loose) (XP := XL q []) (YP := (kHook K as ek).says) (d := d) (kwd := kwd) left (kHook K as ek).of (kHook K as ek).keeps (fun s z => xl_of s (Bool.and_eq_true_iff.mp z).1) XL.keeps hdef hp hk (fun s z => recFacts_of (Bool.and_eq_true_iff.mp z).2) hwr k1 ok hb hw call
end Ev

section
open PySem PySem.W PySem.Calls PyProof.Rows
local macro_rules | `(tactic| o_head $H) => `(tactic| (have _z := Ev.wH3 $H; contradiction))
theorem Ev.hq9S (_ : False) : OpenRow.Holds (OpenLaw.row PySem.Challenge.rw_shadeguards_k54_runs_that_free_old_objec) := by
  k_head
end
namespace Ev
open PySem PySem.W PySem.Calls PyProof.Rows
abbrev hq9R : OpenRow := OpenLaw.row PySem.Challenge.rw_shadeguards_k54_runs_that_free_old_objec
abbrev hq9V : Program := view hq9R.prog [55, 56]
def hq9N0 : List PySem.Str := ["_wall", "WHOLE", "least_freeing", "scan_of", "freeing_run", "ShadeError", "InvalidEntry", "InvalidFresh", "InvalidRoots", "ParseError", "Mismatch", "COLORS", "KINDS", "ENTRIES", "is_color", "is_entry", "listed", "sorted_entries", "entry_rank", "ROOTS"]
def hq9N1 : List PySem.Str := ["entry_text", "parts_text", "entry_in", "entries_in", "parts_in", "one_line", "need_one_line", "Table", "_law_pen", "_law_draw", "_law_entries", "_law_rule", "_law_sheet", "_law_reach", "_law_shaded", "_law_put", "_law_loaded", "_law_stored", "_law_scanned", "_law_made"]
def hq9N2 : List PySem.Str := ["_law_are_there", "_law_can", "_law_played", "_law_is_index", "_law_is_step", "_law_is_row", "_law_is_story", "_law_least", "_law_frees"]
def hq9N : List PySem.Str := hq9N0 ++ hq9N1 ++ hq9N2
noncomputable def hq9A : List Addr := (hq9S.heap_1 { strHash := fun _ => 0, shareClass := fun _ => 0, mergeTok := id, idOf := fun _ => 0, idOfShared := fun _ _ => 0, followText := fun _ => false, idOfImm := fun _ => 0 }).map (·.1)
theorem hq9E (P : Params) : hq9A = (hq9S.heap_1 P).map (·.1) := by kernel_rfl
theorem hq9_false (w : World) : xQw hq9R hq9V hq9S.heap_1 hq9A 40000 hq9N (w.withFollow "special-get-raises" false) := by
  intro os
  kernel_rfl
theorem hq9_true (w : World) : xQw hq9R hq9V hq9S.heap_1 hq9A 40000 hq9N (w.withFollow "special-get-raises" true) := by
  intro os
  kernel_rfl
end Ev
namespace Ev
open PySem PySem.Spec PyProof.Rows L2
structure Cl (p : Prop) : Prop where
  go : p

def zXt (fs : List (Str × PyData)) : List (PyData × PyData) := fs.map fun p => (.str p.1, p.2)
def yJx (c : Str) (fs : List (Str × PyData)) : PyData := .dict ((.none, .str c) :: zXt fs)
def xUy (c : Str) : PyData := .dict [(.none, .bool true), (.none, .str c)]
inductive Ob where
  | lst (xs : List PyData)
  | dic (es : List (PyData × PyData))
  | ins (c : Str) (fs : List (Str × PyData))
def dOf : Ob → PyData
  | .lst xs => .list xs
  | .dic es => .dict es
  | .ins c fs => yJx c fs
structure Thk where
  f : Nat
  c : Nat
  q : Str
  P : L2.Hp → List Addr → Prop
  mono : ∀ F F' ro ro', (∀ b o, F b = some o → F' b = some o) → (∃ t, ro' = ro ++ t) → P F ro → P F' ro'
inductive SV where
  | d (x : PyData)
  | ob (o : Ob)
  | cell (n : Nat)
  | thk (t : Thk)
abbrev SV.own (xs : List PyData) : SV := .ob (.lst xs)
inductive EV where
  | d (x : PyData)
  | new (o : Ob)
  | pk (i : Nat) (o : Ob)
  | cell (n : Nat)
abbrev EV.fresh (xs : List PyData) : EV := .new (.lst xs)
structure Mem where
  sl : List (Option SV)
  cs : List Ob
structure Exn where
  cls : Str
  fs : List (Str × PyData)
inductive Res (α : Type) where
  | ok (a : α) (m : Mem)
  | thr (x : Exn) (m : Mem)
  | bad
abbrev Pg (α : Type) := Mem → Res α
def Res.wp {α : Type} (r : Res α) (Q : α → Mem → Prop) (E : Exn → Mem → Prop) : Prop :=
  match r with
  | .ok a m => Q a m
  | .thr x m => E x m
  | .bad => False
def Pg.bind {α β : Type} (f : Pg α) (g : α → Pg β) : Pg β := fun m =>
  match f m with
  | .ok a m' => g a m'
  | .thr x m' => .thr x m'
  | .bad => .bad
def Pg.ret {α : Type} (a : α) : Pg α := fun m => .ok a m
def Pg.stuck {α : Type} : Pg α := fun _ => .bad
theorem wp_bind {α β : Type} {f : Pg α} {g : α → Pg β} {m : Mem} {Q : β → Mem → Prop} {E : Exn → Mem → Prop} (h : (Pg.bind f g m).wp Q E) : (f m).wp (fun a m' => (g a m').wp Q E) E := by
  unfold Pg.bind at h
  cases e : f m with
  | ok a m' => rw [e] at h; exact h
  | thr x m' => rw [e] at h; exact h
  | bad => rw [e] at h; exact h
theorem Res.wp.imp {α : Type} {r : Res α} {Q Q' : α → Mem → Prop} {E E' : Exn → Mem → Prop} (h : r.wp Q E) (hQ : ∀ a m, Q a m → Q' a m) (hE : ∀ a m, E a m → E' a m) : r.wp Q' E' := by
  cases r with
  | ok a m => exact hQ a m h
  | thr x m => exact hE x m h
  | bad => exact h
def zK5 {α : Type} : Option α → Pg α
  | some a => .ret a
  | none => .stuck
def yVe {α : Type} (f : Pg α) : Pg α := fun m =>
  match f m with
  | .ok a m' => .ok a m'
  | .thr _ _ => .bad
  | .bad => .bad
theorem yXj {α : Type} {f : Pg α} {m : Mem} {Q : α → Mem → Prop} {E : Exn → Mem → Prop} (h : (yVe f m).wp Q E) : (f m).wp Q fun _ _ => False := by
  unfold yVe at h
  cases e : f m with
  | ok a m' => rw [e] at h; exact h
  | thr x m' => rw [e] at h; exact h
  | bad => rw [e] at h; exact h
end Ev

namespace Ev
open PySem PySem.Spec PyProof.Rows L2

def yVq : Key → PyData
  | .inl i => .int i
  | .inr s => .str s

theorem yXb {K : PySem.W.Frag} {F F' : Hp} (e : Same F F') {a : Addr} {xs : List V} (h : SqT K F a xs) : SqT K F' a xs := by
  rcases h with (h | ⟨o, h⟩) | h
  · exact Or.inl (Or.inl (e _ _ h))
  · exact Or.inl (Or.inr ⟨o, e _ _ h⟩)
  · exact Or.inr h

def mkC (n : Nat) : HO := .rng (n : Int) (-1)
theorem wQw {n m : Nat} (h : mkC n = mkC m) : n = m := by
  unfold mkC at h
  injection h with h _
  exact Int.ofNat.inj h
def zG7 (F H : Hp) : Prop := ∀ a o, F a = some o → (∀ n, o ≠ mkC n) → H a = some o
theorem xof {F H : Hp} (s : Same F H) : zG7 F H := fun a o e _ => s a o e
theorem zXh {K : PySem.W.Frag} {F F' : Hp} (e : zG7 F F') {a : Addr} {xs : List V} (h : SqT K F a xs) : SqT K F' a xs := by
  rcases h with (h | ⟨o, h⟩) | h
  · exact Or.inl (Or.inl (e _ _ h (by intro n z; cases z)))
  · exact Or.inl (Or.inr ⟨o, e _ _ h (by intro n z; cases z)⟩)
  · exact Or.inr h
def LQ (K : PySem.W.Frag) (H : Hp) (a : Addr) (xs : List V) : Prop :=
  Rd H a (.lst xs) ∨ ∃ (its : List Value) (n : Nat), K.lookup a = some { cls := .type "list", data := .seq its.toArray n } ∧ its.length ≤ sizeLine ∧ Vals xs its
theorem LQ.of {K : PySem.W.Frag} {H : Hp} {a : Addr} {xs : List V} (h : H a = some (.lst xs)) : LQ K H a xs := .inl (.inl h)
theorem LQ.mono {K : PySem.W.Frag} {F F' : Hp} (e : Same F F') {a : Addr} {xs : List V} (h : LQ K F a xs) : LQ K F' a xs := by
  rcases h with (h | ⟨o, h⟩) | h
  · exact Or.inl (Or.inl (e _ _ h))
  · exact Or.inl (Or.inr ⟨o, e _ _ h⟩)
  · exact Or.inr h
theorem LQ.mox {K : PySem.W.Frag} {F F' : Hp} (e : zG7 F F') {a : Addr} {xs : List V} (h : LQ K F a xs) : LQ K F' a xs := by
  rcases h with (h | ⟨o, h⟩) | h
  · exact Or.inl (Or.inl (e _ _ h (by intro n z; cases z)))
  · exact Or.inl (Or.inr ⟨o, e _ _ h (by intro n z; cases z)⟩)
  · exact Or.inr h
theorem LQ.sq {K : PySem.W.Frag} {H : Hp} {a : Addr} {xs : List V} (h : LQ K H a xs) : SqL K H a xs := by
  rcases h with h | ⟨its, n, h1, h2, h3⟩
  · exact Or.inl h
  · exact Or.inr ⟨_, its.toArray, n, h1, rfl, rfl, rfl, by simpa using h2, by simpa using h3⟩
theorem LQ.at {X : Cx} {pins : List (Addr × Obj)} {sg : L2.St} {H : Hp} {s : Shared} {a : Addr} {xs : List V} (h : LQ X.K H a xs) (I : L2.Inv X pins sg H s) :
    xs.length ≤ sizeLine ∧ ∃ (its : List Value) (n : Nat), Vals xs its ∧ xs.length = its.length ∧ s.heap.get? a = some { cls := .type "list", data := .seq its.toArray n } := by
  rcases h with h | ⟨its, n, h1, h2, h3⟩
  · obtain ⟨z, its, n, r, e⟩ := h.ok I.hok
    exact ⟨z, its, n, r, r.length, e⟩
  · exact ⟨by rw [h3.length]; exact h2, its, n, h3, h3.length, I.kIn a _ h1⟩

def zH0 (K : PySem.W.Frag) (c : Str) (C : Addr) : Prop := PySem.W.nsIn K mainGlobals c = some (some (.ref C))
theorem zH0.one {K : PySem.W.Frag} {c : Str} {C D : Addr} (h : zH0 K c C) (g : zH0 K c D) : C = D := by
  unfold zH0 at h g
  rw [h] at g
  cases g
  rfl
def excO (a : Addr) (cls : Value) (d : Option Addr) : HO := .ext fun h => ∃ oe vs, h.get? a = some oe ∧ Zc cls d oe ∧ oe.data = .fields vs
def yU2 (n : Nat) : PyData := .dict [(.none, .int 1), (.none, .int n)]
mutual
inductive R (K : PySem.W.Frag) (F : Hp) : PyData → V → Prop
  | non : R K F .none .non
  | bl (b : Bool) : R K F (.bool b) (.bl b)
  | int (i : Int) : R K F (.int i) (.int i)
  | str (x : Str) : R K F (.str x) (.str x)
  | lst {a : Addr} {vs : List V} {ds : List PyData} : LQ K F a vs → RA K F ds vs → R K F (.list ds) (.ref a)
  | tup {a : Addr} {vs : List V} {ds : List PyData} : SqT K F a vs → RA K F ds vs → R K F (.tuple ds) (.ref a)
  | dic {a : Addr} {kvs : List (Key × V)} {es : List (PyData × PyData)} : F a = some (.dK kvs) → RK K F es kvs → R K F (.dict es) (.ref a)
  | ins {a dx C : Addr} {c : Str} {fs : List (PyData × PyData)} {vs : List (Str × V)} : zH0 K c C → F a = some (.ins C dx vs) → F dx = some (.own a) → RF K F fs vs → R K F (.dict ((.none, .str c) :: fs)) (.ref a)
  | cls {C : Addr} {c : Str} : zH0 K c C → R K F (.dict ((.none, .bool true) :: (.none, .str c) :: [])) (.ref C)
  | exn0 {a C : Addr} {c : Str} : zH0 K c C → F a = some (excO a (.ref C) none) → R K F (.dict ((.none, .int 0) :: (.none, .str c) :: [])) (.ref a)
  | exn {a d C : Addr} {c : Str} {fs : List (PyData × PyData)} {vs : List (Str × V)} : zH0 K c C → F a = some (excO a (.ref C) (some d)) → F d = some (.xd vs) → RF K F fs vs → R K F (.dict ((.none, .int 0) :: (.none, .str c) :: fs)) (.ref a)
  | cell {a : Addr} {n : Nat} : F a = some (mkC n) → R K F (.dict ((.none, .int 1) :: (.none, .int n) :: [])) (.ref a)
inductive RA (K : PySem.W.Frag) (F : Hp) : List PyData → List V → Prop
  | nil : RA K F [] []
  | cons {d : PyData} {ds : List PyData} {v : V} {vs : List V} : R K F d v → RA K F ds vs → RA K F (d :: ds) (v :: vs)
inductive RK (K : PySem.W.Frag) (F : Hp) : List (PyData × PyData) → List (Key × V) → Prop
  | nil : RK K F [] []
  | cons {k : Key} {d : PyData} {es : List (PyData × PyData)} {v : V} {kvs : List (Key × V)} : R K F d v → RK K F es kvs → RK K F ((yVq k, d) :: es) ((k, v) :: kvs)
inductive RF (K : PySem.W.Frag) (F : Hp) : List (PyData × PyData) → List (Str × V) → Prop
  | nil : RF K F [] []
  | cons {k : Str} {d : PyData} {es : List (PyData × PyData)} {v : V} {kvs : List (Str × V)} : R K F d v → RF K F es kvs → RF K F ((.str k, d) :: es) ((k, v) :: kvs)
end

section
variable {K : PySem.W.Frag} {F F' H : Hp}
mutual
theorem R.mono (e : Same F F') : ∀ {d : PyData} {v : V}, R K F d v → R K F' d v
  | _, _, .non => .non
  | _, _, .bl b => .bl b
  | _, _, .int i => .int i
  | _, _, .str x => .str x
  | _, _, .lst h a => .lst (h.mono e) (RA.mono e a)
  | _, _, .tup h a => .tup (yXb e h) (RA.mono e a)
  | _, _, .dic h a => .dic (e _ _ h) (RK.mono e a)
  | _, _, .ins n h1 h2 a => .ins n (e _ _ h1) (e _ _ h2) (RF.mono e a)
  | _, _, .cls n => .cls n
  | _, _, .exn0 n h1 => .exn0 n (e _ _ h1)
  | _, _, .exn n h1 h2 a => .exn n (e _ _ h1) (e _ _ h2) (RF.mono e a)
  | _, _, .cell h1 => .cell (e _ _ h1)
theorem RA.mono (e : Same F F') : ∀ {ds : List PyData} {vs : List V}, RA K F ds vs → RA K F' ds vs
  | _, _, .nil => .nil
  | _, _, .cons h a => .cons (R.mono e h) (RA.mono e a)
theorem RK.mono (e : Same F F') : ∀ {es : List (PyData × PyData)} {kvs : List (Key × V)}, RK K F es kvs → RK K F' es kvs
  | _, _, .nil => .nil
  | _, _, .cons h a => .cons (R.mono e h) (RK.mono e a)
theorem RF.mono (e : Same F F') : ∀ {es : List (PyData × PyData)} {kvs : List (Str × V)}, RF K F es kvs → RF K F' es kvs
  | _, _, .nil => .nil
  | _, _, .cons h a => .cons (R.mono e h) (RF.mono e a)
end
theorem RA.len : ∀ {ds : List PyData} {vs : List V}, RA K F ds vs → ds.length = vs.length
  | _, _, .nil => rfl
  | _, _, .cons _ a => congrArg (· + 1) (RA.len a)
theorem RA.app : ∀ {ds es : List PyData} {vs ws : List V}, RA K F ds vs → RA K F es ws → RA K F (ds ++ es) (vs ++ ws)
  | _, _, _, _, .nil, b => b
  | _, _, _, _, .cons h a, b => .cons h (RA.app a b)
theorem RA.take : ∀ {ds : List PyData} {vs : List V} (n : Nat), RA K F ds vs → RA K F (ds.take n) (vs.take n)
  | _, _, 0, _ => by rw [List.take_zero, List.take_zero]; exact .nil
  | _, _, n + 1, .nil => by rw [List.take_nil, List.take_nil]; exact .nil
  | _, _, n + 1, .cons h a => .cons h (RA.take n a)
theorem RA.drop : ∀ {ds : List PyData} {vs : List V} (n : Nat), RA K F ds vs → RA K F (ds.drop n) (vs.drop n)
  | _, _, 0, a => a
  | _, _, n + 1, .nil => by rw [List.drop_nil, List.drop_nil]; exact .nil
  | _, _, n + 1, .cons h a => RA.drop n a
theorem RA.get : ∀ {ds : List PyData} {vs : List V} {i : Nat} {d : PyData}, RA K F ds vs → ds[i]? = some d → ∃ v, vs[i]? = some v ∧ R K F d v
  | _, _, _, _, .nil, e => by simp at e
  | _, _, 0, _, .cons h _, e => by
    simp at e
    subst e
    exact ⟨_, rfl, h⟩
  | _, _, i + 1, d, .cons _ a, e => by
    obtain ⟨v, h1, h2⟩ := RA.get (i := i) (d := d) a (by simpa using e)
    exact ⟨v, by simpa using h1, h2⟩
theorem RA.set : ∀ {ds : List PyData} {vs : List V} (i : Nat) {d : PyData} {v : V}, RA K F ds vs → R K F d v → RA K F (ds.set i d) (vs.set i v)
  | _, _, _, _, _, .nil, _ => .nil
  | _, _, 0, _, _, .cons _ a, h => .cons h a
  | _, _, i + 1, _, _, .cons h' a, h => .cons h' (RA.set i a h)
theorem RA.rep {ds : List PyData} {vs : List V} (a : RA K F ds vs) : ∀ n : Nat, RA K F (List.replicate n ds).flatten (List.replicate n vs).flatten
  | 0 => .nil
  | n + 1 => by
    rw [List.replicate_succ, List.replicate_succ, List.flatten_cons, List.flatten_cons]
    exact a.app (RA.rep a n)
theorem RA.one {d : PyData} {v : V} (h : R K F d v) : RA K F [d] [v] := .cons h .nil
theorem RA.ints : ∀ ns : List Int, RA K F (ns.map PyData.int) (ns.map V.int)
  | [] => .nil
  | n :: ns => .cons (.int n) (RA.ints ns)

mutual
theorem R.dp (e : zG7 F H) : ∀ {d : PyData} {v : V}, R K F d v → d.canLay0 = true → Dp K H v d
  | _, _, .non, _ => .non
  | _, _, .bl b, _ => .bl b
  | _, _, .int i, _ => .int i
  | _, _, .str x, _ => .str x
  | _, _, .lst h a, c => .lst (h.mox e).sq (RA.dp e a (by simpa [PyData.canLay0] using c))
  | _, _, .tup h a, c => .tup (zXh e h) (RA.dp e a (by simpa [PyData.canLay0] using c))
  | _, _, .dic h a, c => by simp [PyData.canLay0] at c
  | _, _, .ins _ _ _ _, c => by simp [PyData.canLay0] at c
  | _, _, .cls _, c => by simp [PyData.canLay0] at c
  | _, _, .exn0 _ _, c => by simp [PyData.canLay0] at c
  | _, _, .exn _ _ _ _, c => by simp [PyData.canLay0] at c
  | _, _, .cell _, c => by simp [PyData.canLay0] at c
theorem RA.dp (e : zG7 F H) : ∀ {ds : List PyData} {vs : List V}, RA K F ds vs → PyData.canLayAll0 ds = true → DpAll K H vs ds
  | _, _, .nil, _ => .nil
  | _, _, .cons h a, c => by
    simp only [PyData.canLayAll0, Bool.and_eq_true] at c
    exact .cons (R.dp e h c.1) (RA.dp e a c.2)
end
theorem RF.get : ∀ {fs : List (Str × PyData)} {vs : List (Str × V)}, RF K F (zXt fs) vs → ∀ (x : Str), (∀ d, fs.lookup x = some d → ∃ v, vs.lookup x = some v ∧ R K F d v) ∧ (fs.lookup x = none → vs.lookup x = none)
  | [], _, .nil, x => ⟨fun d h => by simp at h, fun _ => rfl⟩
  | (k, d) :: fs, _, .cons h t, x => by
    obtain ⟨h1, h2⟩ := RF.get (fs := fs) t x
    rw [List.lookup_cons, List.lookup_cons]
    cases e : x == k with
    | true => exact ⟨fun d' z => by cases z; exact ⟨_, rfl, h⟩, fun z => by cases z⟩
    | false => exact ⟨h1, h2⟩
theorem RF.len : ∀ {fs : List (PyData × PyData)} {vs : List (Str × V)}, RF K F fs vs → fs.length = vs.length
  | _, _, .nil => rfl
  | _, _, .cons _ a => congrArg (· + 1) (RF.len a)
theorem RK.len : ∀ {fs : List (PyData × PyData)} {vs : List (Key × V)}, RK K F fs vs → fs.length = vs.length
  | _, _, .nil => rfl
  | _, _, .cons _ a => congrArg (· + 1) (RK.len a)
def zGc : PyData → Bool
  | .int _ => true
  | .str _ => true
  | _ => false
def zZo (es : List (PyData × PyData)) : Bool := es.all fun p => zGc p.1
theorem RK.plain : ∀ {es : List (PyData × PyData)} {kvs : List (Key × V)}, RK K F es kvs → zZo es = true
  | _, _, .nil => rfl
  | _, _, .cons (k := k) _ a => by
    have := RK.plain a
    unfold zZo at this ⊢
    rw [List.all_cons, this]
    cases k <;> rfl
theorem R.dict {es : List (PyData × PyData)} {v : V} (h : R K F (.dict es) v) (p : zZo es = true) : ∃ a kvs, v = .ref a ∧ F a = some (.dK kvs) ∧ RK K F es kvs := by
  cases h with
  | dic h1 h2 => exact ⟨_, _, rfl, h1, h2⟩
  | ins _ _ _ _ => simp [zZo, zGc] at p
  | cls _ => simp [zZo, zGc] at p
  | exn0 _ _ => simp [zZo, zGc] at p
  | exn _ _ _ _ => simp [zZo, zGc] at p
  | cell _ => simp [zZo, zGc] at p
def OH (K : PySem.W.Frag) (F H : Hp) (Z : Addr → Prop) (a : Addr) : Ob → Prop
  | .lst xs => ∃ vs, H a = some (.lst vs) ∧ RA K F xs vs
  | .dic es => ∃ kvs, H a = some (.dK kvs) ∧ RK K F es kvs
  | .ins c fs => ∃ C dx vs, H a = some (.ins C dx vs) ∧ H dx = some (.own a) ∧ ¬ Z dx ∧ zH0 K c C ∧ RF K F (zXt fs) vs
theorem OH.live {Z : Addr → Prop} {a : Addr} {o : Ob} (h : OH K F H Z a o) : ∃ u, H a = some u := by
  cases o with
  | lst xs => obtain ⟨vs, h, _⟩ := h; exact ⟨_, h⟩
  | dic xs => obtain ⟨vs, h, _⟩ := h; exact ⟨_, h⟩
  | ins c fs => obtain ⟨C, dx, vs, h, _⟩ := h; exact ⟨_, h⟩
theorem OH.noOwn {Z : Addr → Prop} {a b : Addr} {o : Ob} (h : OH K F H Z a o) : H a ≠ some (.own b) := by
  cases o with
  | lst xs => obtain ⟨vs, h, _⟩ := h; rw [h]; simp
  | dic xs => obtain ⟨vs, h, _⟩ := h; rw [h]; simp
  | ins c fs => obtain ⟨C, dx, vs, h, _⟩ := h; rw [h]; simp
theorem OH.keep {H' : Hp} {Z Z' : Addr → Prop} {a : Addr} {o : Ob} (h : OH K F H Z a o) (e : Same F F') (ha : ∀ u, H a = some u → H' a = some u) (hd : ∀ d, H d = some (.own a) → H' d = some (.own a)) (hz : ∀ d, H d = some (.own a) → Z' d → Z d) : OH K F' H' Z' a o := by
  cases o with
  | lst xs => obtain ⟨vs, h1, h2⟩ := h; exact ⟨vs, ha _ h1, h2.mono e⟩
  | dic xs => obtain ⟨vs, h1, h2⟩ := h; exact ⟨vs, ha _ h1, h2.mono e⟩
  | ins c fs => obtain ⟨C, dx, vs, h1, h2, h3, h4, h5⟩ := h; exact ⟨C, dx, vs, ha _ h1, hd _ h2, fun z => h3 (hz _ h2 z), h4, h5.mono e⟩
end
end Ev

namespace Ev
open PySem PySem.Spec PyProof.Rows L2

theorem OH.ntbl {K : PySem.W.Frag} {F H : Hp} {Z : Addr → Prop} {a : Addr} {o : Ob} (h : OH K F H Z a o) {u : HO} (e : H a = some u) : ∀ ps, u ≠ .tbl ps := fun ps z => by
  subst z
  cases o with
  | lst xs => obtain ⟨vs, h1, _⟩ := h; rw [e] at h1; cases h1
  | dic xs => obtain ⟨vs, h1, _⟩ := h; rw [e] at h1; cases h1
  | ins c fs => obtain ⟨C, dx, vs, h1, _⟩ := h; rw [e] at h1; cases h1
def wVt : HO → Prop
  | .tbl _ => True
  | .ext _ => True
  | _ => False
theorem OH.soft {K : PySem.W.Frag} {F H : Hp} {Z : Addr → Prop} {a : Addr} {o : Ob} (h : OH K F H Z a o) : ∃ u, H a = some u ∧ ¬ wVt u := by
  cases o with
  | lst xs => obtain ⟨vs, h1, _⟩ := h; exact ⟨_, h1, fun z => z⟩
  | dic xs => obtain ⟨vs, h1, _⟩ := h; exact ⟨_, h1, fun z => z⟩
  | ins c fs => obtain ⟨C, dx, vs, h1, _⟩ := h; exact ⟨_, h1, fun z => z⟩
structure HInv where
  P : Hp → Prop
  st : ∀ H H' : Hp, P H → (∀ b o, H b = some o → wVt o → H' b = some o) → P H'
def HInv.and (A B : HInv) : HInv := ⟨fun H => A.P H ∧ B.P H, fun H H' h e => ⟨A.st H H' h.1 e, B.st H H' h.2 e⟩⟩
structure CInv where
  P : Hp → Prop
  st : ∀ H H' : Hp, P H → (∀ b p, H b = some (.ext p) → H' b = some (.ext p)) → P H'
def CInv.toH (T : CInv) : HInv := ⟨T.P, fun H H' h e => T.st H H' h fun b p q => e b _ q trivial⟩
def CInv.and (A B : CInv) : CInv := ⟨fun H => A.P H ∧ B.P H, fun H H' h e => ⟨A.st H H' h.1 e, B.st H H' h.2 e⟩⟩
def T0 : CInv := ⟨fun _ => True, fun _ _ _ _ => trivial⟩
theorem HInv.go (T : HInv) {H H' : Hp} (h : T.P H) (e : ∀ b o, H b = some o → H' b = some o) : T.P H' := T.st H H' h fun b o q _ => e b o q
theorem HInv.up (T : HInv) {H : Hp} {a : Addr} {o u : HO} (h : T.P H) (e : H a = some o) (n : ¬ wVt o) : T.P (upd H a u) := T.st H _ h fun b v q k => by
  by_cases z : b = a
  · subst z
    rw [e] at q
    cases q
    exact absurd k n
  · rw [upd_ne z]
    exact q
theorem HInv.us (T : HInv) {H : Hp} {a : Addr} {u : HO} (h : T.P H) (e : ∃ o, H a = some o ∧ ¬ wVt o) : T.P (upd H a u) := by
  obtain ⟨o, e1, e2⟩ := e
  exact T.up h e1 e2
structure Wd where
  F : Hp
  ro : List Addr
  m : Mem
  sg : L2.St
  H : Hp
  Z : Addr → Prop
  T : CInv
def Own (w : Wd) (a : Addr) : Prop := ∃ (i : Nat) (o : Ob), w.m.sl[i]? = some (some (SV.ob o)) ∧ w.sg[i]? = some (some (V.ref a))
def RS (K : PySem.W.Frag) (w : Wd) : SV → V → Prop
  | .d x, v => R K w.F x v
  | .ob o, v => ∃ a, v = .ref a ∧ OH K w.F w.H w.Z a o ∧ w.F a = none ∧ a ∉ w.ro ∧ ¬ w.Z a
  | .cell n, v => ∃ a, v = .ref a ∧ w.ro[n]? = some a
  | .thk t, v => v = .ref t.f ∧ t.P w.F w.ro ∧ ∀ H, w.T.P H → H t.c = some (LamX.CodeO t.c t.q)
def zUp : List Str := ["law", "_law_names_right", "_law_right", "_law_asks", "_law_prices_right", "_law_told", "_law_tried_right", "_law_at_right", "_law_did", "_law_unlike_right", "_law_trials_right", "_law_left_out_right", "_law_back", "_law_tabled", "_law_place_right", "_law_wish_right", "_law_deed", "_law_due", "_law_wide_right", "_law_begun", "_law_kept_right", "_law_call_right", "_law_run_right"]
def wH0 (x : Str) : Str := x ++ ".<locals>." ++ "<lambda>"
def xJt (K : PySem.W.Frag) : List (Addr × Str) := zUp.filterMap fun x => (PySem.W.tabIn K x).map fun p => (p.2, wH0 x)
def TOf (K : PySem.W.Frag) : HInv := ⟨fun H => LamX.Tabs (xJt K) H, fun H H' h e p hp => by
  obtain ⟨ps, h1, h2, h3⟩ := h p hp
  refine ⟨ps, e _ _ h1 trivial, h2, fun pos cv hc => ?_⟩
  obtain ⟨c, e1, e2⟩ := h3 pos cv hc
  exact ⟨c, e1, e _ _ e2 trivial⟩⟩
def TK (K : PySem.W.Frag) (w : Wd) : HInv := w.T.toH.and (TOf K)
def TB (K : PySem.W.Frag) (w : Wd) : Prop := (TK K w).P w.H ∧ (∀ b ps, w.F b ≠ some (.tbl ps)) ∧ ∀ b ps, w.H b = some (.tbl ps) → ∃ q, (b, q) ∈ xJt K
theorem yJh {K : PySem.W.Frag} {H : Hp} {a : Addr} {u : HO} (h : ∀ b ps, H b = some (.tbl ps) → ∃ q, (b, q) ∈ xJt K) (n : ∀ ps, u ≠ .tbl ps) : ∀ b ps, upd H a u b = some (.tbl ps) → ∃ q, (b, q) ∈ xJt K := fun b ps e => by
  by_cases z : b = a
  · subst z
    rw [upd_same] at e
    exact absurd (Option.some.inj e) (n ps)
  · rw [upd_ne z] at e
    exact h b ps e
theorem yGg {t : Thk} {F F' : Hp} {ro ro' : List Addr} (h : t.P F ro) (s : Same F F') (p : ∃ u, ro' = ro ++ u := by exact ⟨[], (List.append_nil _).symm⟩) : t.P F' ro' := t.mono F F' ro ro' (fun b o e => s b o e) p h
theorem wQu {xs : List V} : ∀ n, HO.lst xs ≠ mkC n := fun n z => by cases z
theorem xZs {xs : List (Key × V)} : ∀ n, HO.dK xs ≠ mkC n := fun n z => by cases z
theorem xQi {C d : Addr} {xs : List (Str × V)} : ∀ n, HO.ins C d xs ≠ mkC n := fun n z => by cases z
theorem wQt {d : Addr} : ∀ n, HO.own d ≠ mkC n := fun n z => by cases z
structure Rep (K : PySem.W.Frag) (w : Wd) : Prop where
  sub : zG7 w.F w.H
  le : w.m.sl.length ≤ w.sg.length
  sl : ∀ (i : Nat) (v : SV), w.m.sl[i]? = some (some v) → ∃ x, w.sg[i]? = some (some x) ∧ RS K w v x
  cs : ∀ (n : Nat) (o : Ob), w.m.cs[n]? = some o → ∃ a, w.ro[n]? = some a ∧ OH K w.F w.H (fun _ => False) a o
  ln : w.m.cs.length = w.ro.length
  rf : ∀ n a, w.ro[n]? = some a → w.F a = some (mkC n) ∨ w.F a = none ∧ ∃ c fs, w.m.cs[n]? = some (.ins c fs)
  rk : ∀ n a, w.F a = some (mkC n) → w.ro[n]? = some a
  nd : w.ro.Nodup
  ow : ∀ (i j : Nat) (xs ys : Ob) (x : V), w.m.sl[i]? = some (some (SV.ob xs)) → w.m.sl[j]? = some (some (SV.ob ys)) → w.sg[i]? = some (some x) → w.sg[j]? = some (some x) → i = j
  zl : ∀ a, w.Z a → w.H a ≠ none
  oo : ∀ d a, w.H d = some (.own a) → ∃ C vs, w.H a = some (.ins C d vs)
  tb : TB K w
theorem Rep.roLive {K : PySem.W.Frag} {w : Wd} (r : Rep K w) {a : Addr} (h : a ∈ w.ro) : w.H a ≠ none := by
  obtain ⟨n, hn⟩ := List.mem_iff_getElem?.mp h
  have hl : n < w.m.cs.length := by
    rw [r.ln]
    exact (List.getElem?_eq_some_iff.mp hn).1
  obtain ⟨b, h1, h2⟩ := r.cs n _ (List.getElem?_eq_getElem hl)
  rw [hn] at h1
  cases h1
  obtain ⟨u, hu⟩ := h2.live
  rw [hu]
  simp
theorem Rep.ownAt {K : PySem.W.Frag} {w : Wd} (r : Rep K w) {a : Addr} (h : Own w a) : w.H a ≠ none ∧ w.F a = none ∧ a ∉ w.ro ∧ ¬ w.Z a := by
  obtain ⟨i, xs, h1, h2⟩ := h
  obtain ⟨x, h3, b, h4, h5, h6, h7, h8⟩ := r.sl i _ h1
  rw [h2] at h3
  cases h3
  cases h4
  obtain ⟨u, hu⟩ := h5.live
  exact ⟨by rw [hu]; simp, h6, h7, h8⟩
theorem Rep.noOwnDict {K : PySem.W.Frag} {w : Wd} (r : Rep K w) {a d : Addr} (h : w.H d = some (.own a)) : d ∉ w.ro ∧ ¬ Own w d := by
  refine ⟨fun hm => ?_, fun ⟨i, xs, h1, h2⟩ => ?_⟩
  · obtain ⟨n, hn⟩ := List.mem_iff_getElem?.mp hm
    have hl : n < w.m.cs.length := by
      rw [r.ln]
      exact (List.getElem?_eq_some_iff.mp hn).1
    obtain ⟨b, h1, h2⟩ := r.cs n _ (List.getElem?_eq_getElem hl)
    rw [hn] at h1
    cases h1
    exact h2.noOwn h
  · obtain ⟨x, h3, b, h4, h5, _⟩ := r.sl i _ h1
    rw [h2] at h3
    cases h3
    cases h4
    exact h5.noOwn h

structure FolE (w w' : Wd) : Prop where
  z : w'.Z = w.Z
  t : w'.T = w.T
  ext : Same w.F w'.F
  pre : ∃ t, w'.ro = w.ro ++ t
  frm : ∀ a o, w.H a = some o → a ∉ w.ro → (∀ ps, o ≠ .tbl ps) → w'.H a = some o
  new : ∀ a, a ∈ w'.ro → a ∈ w.ro ∨ w.H a = none
  liv : ∀ a, w.H a ≠ none → w'.H a ≠ none
  grow : ∀ a, w'.F a ≠ none → w.F a ≠ none ∨ ¬ w.Z a
  own : ∀ a, Own w' a → Own w a
structure FolS (w w' : Wd) : Prop where
  z : w'.Z = w.Z
  t : w'.T = w.T
  ext : Same w.F w'.F
  pre : ∃ t, w'.ro = w.ro ++ t
  frm : ∀ a o, w.H a = some o → a ∉ w.ro → w.Z a → (∀ ps, o ≠ .tbl ps) → w'.H a = some o
  new : ∀ a, a ∈ w'.ro → a ∈ w.ro ∨ ¬ w.Z a
  liv : ∀ a, w.H a ≠ none → w'.H a ≠ none
  grow : ∀ a, w'.F a ≠ none → w.F a ≠ none ∨ ¬ w.Z a
theorem FolE.s {K : PySem.W.Frag} {w w' : Wd} (r : Rep K w) (f : FolE w w') : FolS w w' := ⟨f.z, f.t, f.ext, f.pre, fun a o h n _ k => f.frm a o h n k, fun a h => (f.new a h).imp id fun q z => r.zl a z q, f.liv, f.grow⟩
theorem FolE.refl (w : Wd) : FolE w w := ⟨rfl, rfl, Same.refl _, ⟨[], (List.append_nil _).symm⟩, fun _ _ h _ _ => h, fun _ h => .inl h, fun _ h => h, fun _ h => .inl h, fun _ h => h⟩
theorem FolS.refl (w : Wd) : FolS w w := ⟨rfl, rfl, Same.refl _, ⟨[], (List.append_nil _).symm⟩, fun _ _ h _ _ _ => h, fun _ h => .inl h, fun _ h => h, fun _ h => .inl h⟩
theorem zGq {α : Type} {o : Option α} {a : α} (h : o = some a) : o ≠ none := by
  rw [h]
  simp
theorem FolE.trans {w w1 w2 : Wd} (f : FolE w w1) (g : FolE w1 w2) : FolE w w2 := by
  have nr : ∀ a, w.H a ≠ none → a ∉ w.ro → a ∉ w1.ro := fun a h n q => (f.new a q).elim n h
  refine ⟨g.z.trans f.z, g.t.trans f.t, f.ext.trans g.ext, ?_, fun a o h n k => g.frm a o (f.frm a o h n k) (nr a (zGq h) n) k, fun a h => ?_, fun a h => g.liv a (f.liv a h), fun a h => ?_, fun a h => f.own a (g.own a h)⟩
  · obtain ⟨t, e⟩ := f.pre
    obtain ⟨u, e2⟩ := g.pre
    exact ⟨t ++ u, by rw [e2, e, List.append_assoc]⟩
  · rcases g.new a h with q | q
    · exact f.new a q
    · exact .inr (Classical.byContradiction fun z => f.liv a z q)
  · rcases g.grow a h with q | q
    · exact f.grow a q
    · rw [f.z] at q
      exact .inr q
theorem FolS.trans {w w1 w2 : Wd} (f : FolS w w1) (g : FolS w1 w2) : FolS w w2 := by
  refine ⟨g.z.trans f.z, g.t.trans f.t, f.ext.trans g.ext, ?_, fun a o h n z k => g.frm a o (f.frm a o h n z k) (fun q => (f.new a q).elim n fun k => k z) (by rw [f.z]; exact z) k, fun a h => ?_, fun a h => g.liv a (f.liv a h), fun a h => ?_⟩
  · obtain ⟨t, e⟩ := f.pre
    obtain ⟨u, e2⟩ := g.pre
    exact ⟨t ++ u, by rw [e2, e, List.append_assoc]⟩
  · rcases g.new a h with q | q
    · exact f.new a q
    · rw [f.z] at q
      exact .inr q
  · rcases g.grow a h with q | q
    · exact f.grow a q
    · rw [f.z] at q
      exact .inr q
theorem FolE.at {w w' : Wd} (f : FolE w w') {n : Nat} {a : Addr} (h : w.ro[n]? = some a) : w'.ro[n]? = some a := by
  obtain ⟨t, e⟩ := f.pre
  rw [e, List.getElem?_append_left (List.getElem?_eq_some_iff.mp h).1]
  exact h
theorem FolS.at {w w' : Wd} (f : FolS w w') {n : Nat} {a : Addr} (h : w.ro[n]? = some a) : w'.ro[n]? = some a := by
  obtain ⟨t, e⟩ := f.pre
  rw [e, List.getElem?_append_left (List.getElem?_eq_some_iff.mp h).1]
  exact h

def RE (K : PySem.W.Frag) (w : Wd) : EV → V → Prop
  | .d x, v => R K w.F x v
  | .new o, v => ∃ a, v = .ref a ∧ OH K w.F w.H w.Z a o ∧ w.F a = none ∧ a ∉ w.ro ∧ ¬ w.Z a ∧ ¬ Own w a
  | .pk i o, v => w.m.sl[i]? = some (some (SV.ob o)) ∧ w.sg[i]? = some (some v)
  | .cell n, v => ∃ a, v = .ref a ∧ w.ro[n]? = some a
inductive OV where
  | d (x : PyData)
  | cell (n : Nat)
def zKn : EV → OV
  | .d x => .d x
  | .new o => .d (dOf o)
  | .pk _ o => .d (dOf o)
  | .cell n => .cell n
def RO (K : PySem.W.Frag) (w : Wd) : OV → V → Prop
  | .d x, v => R K w.F x v ∨ ∃ a o, x = dOf o ∧ v = .ref a ∧ OH K w.F w.H (fun _ => False) a o ∧ a ∉ w.ro
  | .cell n, v => ∃ a, v = .ref a ∧ w.ro[n]? = some a
theorem OH.any {K : PySem.W.Frag} {F H : Hp} {Z : Addr → Prop} {a : Addr} {o : Ob} (h : OH K F H Z a o) : OH K F H (fun _ => False) a o := h.keep (Same.refl _) (fun _ z => z) (fun _ z => z) fun _ _ z => z.elim
theorem RE.ro {K : PySem.W.Frag} {w : Wd} (r : Rep K w) : ∀ {v : EV} {x : V}, RE K w v x → RO K w (zKn v) x
  | .d _, _, h => .inl h
  | .new o, _, ⟨a, e, h, _, n, _, _⟩ => .inr ⟨a, o, rfl, e, h.any, n⟩
  | .pk i o, _, ⟨h1, h2⟩ => by
    obtain ⟨x, h3, a, e, h, _, n, _⟩ := r.sl i _ h1
    rw [h2] at h3
    cases h3
    exact .inr ⟨a, o, rfl, e, h.any, n⟩
  | .cell _, _, h => h
theorem RO.fol {K : PySem.W.Frag} {w w' : Wd} (r : Rep K w) (f : FolE w w') : ∀ {v : OV} {x : V}, RO K w v x → RO K w' v x
  | .d _, _, .inl h => .inl (h.mono f.ext)
  | .d _, _, .inr ⟨a, o, e1, e2, h, n⟩ => .inr ⟨a, o, e1, e2, h.keep f.ext (fun u z => f.frm _ _ z n (h.ntbl z)) (fun d z => f.frm _ _ z (r.noOwnDict z).1 (by intro _ q; cases q)) (fun _ _ z => z), fun q => (f.new a q).elim n (by obtain ⟨u, hu⟩ := h.live; exact zGq hu)⟩
  | .cell _, _, ⟨a, e, h⟩ => ⟨a, e, f.at h⟩
def lk : OV → Mem → Option PyData
  | .d x, _ => some x
  | .cell n, m => m.cs[n]?.map dOf
def look {α : Type} (o : OV) (k : PyData → Pg α) : Pg α := fun m => match lk o m with
  | some x => k x m
  | none => .bad
def RN (K : PySem.W.Frag) (w : Wd) (x : PyData) (v : V) : Prop := R K w.F x v ∨ ∃ a o, x = dOf o ∧ v = .ref a ∧ OH K w.F w.H (fun _ => False) a o
theorem RO.rn {K : PySem.W.Frag} {w : Wd} (r : Rep K w) : ∀ {o : OV} {v : V} {x : PyData}, RO K w o v → lk o w.m = some x → RN K w x v
  | .d y, v, x, h, e => by
    cases e
    rcases h with h | ⟨a, o, e1, e2, h, _⟩
    · exact .inl h
    · exact .inr ⟨a, o, e1, e2, h⟩
  | .cell n, v, x, ⟨a, e1, e2⟩, e => by
    have e : w.m.cs[n]?.map dOf = some x := e
    cases ec : w.m.cs[n]? with
    | none =>
      rw [ec] at e
      cases e
    | some o =>
      rw [ec] at e
      cases e
      obtain ⟨b, h1, h2⟩ := r.cs n o ec
      rw [e2] at h1
      cases h1
      exact .inr ⟨a, o, rfl, e1, h2⟩
theorem zXs {α : Type} {o : OV} {k : PyData → Pg α} {m : Mem} {P : α → Mem → Prop} {E : Exn → Mem → Prop} (h : (look o k m).wp P E) : ∃ x, lk o m = some x ∧ (k x m).wp P E := by
  unfold look at h
  cases e : lk o m with
  | none =>
    rw [e] at h
    exact h.elim
  | some x =>
    rw [e] at h
    exact ⟨x, rfl, h⟩
theorem yK0 : ∀ {fs gs : List (Str × PyData)}, zXt fs = zXt gs → fs = gs
  | [], [], _ => rfl
  | [], _ :: _, h => by simp [zXt] at h
  | _ :: _, [], h => by simp [zXt] at h
  | (k, d) :: fs, (k', d') :: gs, h => by
    simp only [zXt, List.map_cons, List.cons.injEq, Prod.mk.injEq, PyData.str.injEq] at h
    obtain ⟨⟨e1, e2⟩, h⟩ := h
    rw [e1, e2, yK0 h]
section
variable {K : PySem.W.Frag} {w : Wd} {v : V}
theorem RN.non (h : RN K w .none v) : v = .non := by
  rcases h with h | ⟨_, o, e, _⟩
  · cases h; rfl
  · cases o <;> cases e
theorem RN.bl {b : Bool} (h : RN K w (.bool b) v) : v = .bl b := by
  rcases h with h | ⟨_, o, e, _⟩
  · cases h; rfl
  · cases o <;> cases e
theorem RN.int {i : Int} (h : RN K w (.int i) v) : v = .int i := by
  rcases h with h | ⟨_, o, e, _⟩
  · cases h; rfl
  · cases o <;> cases e
theorem RN.str {i : Str} (h : RN K w (.str i) v) : v = .str i := by
  rcases h with h | ⟨_, o, e, _⟩
  · cases h; rfl
  · cases o <;> cases e
theorem RN.tup {xs : List PyData} (h : RN K w (.tuple xs) v) : ∃ a vs, v = .ref a ∧ SqT K w.F a vs ∧ RA K w.F xs vs := by
  rcases h with h | ⟨_, o, e, _⟩
  · cases h with
    | tup h a => exact ⟨_, _, rfl, h, a⟩
  · cases o <;> cases e
theorem RN.lst {xs : List PyData} (s : zG7 w.F w.H) (h : RN K w (.list xs) v) : ∃ a vs, v = .ref a ∧ LQ K w.H a vs ∧ RA K w.F xs vs := by
  rcases h with h | ⟨a, o, e, ev, h⟩
  · cases h with
    | lst h a => exact ⟨_, _, rfl, h.mox s, a⟩
  · cases o with
    | lst ys =>
      cases e
      obtain ⟨vs, h1, h2⟩ := h
      exact ⟨a, vs, ev, .of h1, h2⟩
    | dic es => cases e
    | ins c fs => cases e
theorem RN.dic {es : List (PyData × PyData)} (s : zG7 w.F w.H) (h : RN K w (.dict es) v) (p : zZo es = true) : ∃ a kvs, v = .ref a ∧ w.H a = some (.dK kvs) ∧ RK K w.F es kvs := by
  rcases h with h | ⟨a, o, e, ev, h⟩
  · obtain ⟨a, kvs, e, h1, h2⟩ := h.dict p
    exact ⟨a, kvs, e, s _ _ h1 xZs, h2⟩
  · cases o with
    | lst ys => cases e
    | dic es =>
      cases e
      obtain ⟨vs, h1, h2⟩ := h
      exact ⟨a, vs, ev, h1, h2⟩
    | ins c fs =>
      cases e
      simp [zZo, zGc] at p
theorem RN.ins {c : Str} {fs : List (Str × PyData)} (s : zG7 w.F w.H) (h : RN K w (yJx c fs) v) : ∃ a C dx vs, v = .ref a ∧ zH0 K c C ∧ w.H a = some (.ins C dx vs) ∧ RF K w.F (zXt fs) vs := by
  rcases h with h | ⟨a, o, e, ev, h⟩
  · unfold yJx at h
    cases h with
    | dic h1 h2 =>
      have := h2.plain
      simp [zZo, zGc] at this
    | ins n h1 h2 h3 => exact ⟨_, _, _, _, rfl, n, s _ _ h1 xQi, h3⟩
  · cases o with
    | lst ys => cases e
    | dic es =>
      obtain ⟨vs, h1, h2⟩ := h
      have e : yJx c fs = .dict es := e
      unfold yJx at e
      cases e
      have := h2.plain
      simp [zZo, zGc] at this
    | ins c' fs' =>
      have e : yJx c fs = yJx c' fs' := e
      unfold yJx at e
      simp only [PyData.dict.injEq, List.cons.injEq, Prod.mk.injEq, PyData.str.injEq, true_and] at e
      obtain ⟨e1, e2⟩ := e
      have e2 := yK0 e2
      subst e1 e2
      obtain ⟨C, dx, vs, h1, h2, h3, h4, h5⟩ := h
      exact ⟨a, C, dx, vs, ev, h4, h1, h5⟩
end

abbrev XBt := Exn → Wd → Prop
def XW (K : PySem.W.Frag) (B : XBt) (w : Wd) : Exn → Mem → Prop := fun x m' => ∀ w' : Wd, w'.m = m' → FolS w w' → Rep K w' → B x w'
theorem XW.fol {K : PySem.W.Frag} {B : XBt} {w w1 : Wd} (f : FolS w w1) {x : Exn} {m : Mem} (h : XW K B w x m) : XW K B w1 x m := fun w' e g r => h w' e (f.trans g) r
def WE (X : Cx) (e : Expr) : TE := fun sg H Q => Cl (∀ (pins : List (Addr × Obj)) (s : Shared), L2.Inv X pins sg H s → wpAny (model X.prog X.w) X.A (eval e X.env) (EP X pins sg Q) X.xe s)
def WT (X : Cx) (e : Expr) : TT := fun sg H Q => Cl (∀ (pins : List (Addr × Obj)) (s : Shared), L2.Inv X pins sg H s → wpAny (model X.prog X.w) X.A (isTrue e X.env (eval e X.env)) (TP X pins sg Q) X.xe s)
def WA (X : Cx) (es : List Expr) : TA := fun sg H Q => Cl (∀ (pos : Pos) (pins : List (Addr × Obj)) (s : Shared), L2.Inv X pins sg H s → wpAny (model X.prog X.w) X.A (spliced (backTo pos (starEach es X.env))) (AP X pins sg Q) X.xe s)
def WS (X : Cx) (st : Stmt) : TS := fun D sg H => Cl (∀ (pins : List (Addr × Obj)) (s : Shared), L2.Inv X pins sg H s → wpAny (model X.prog X.w) X.A (exec st X.env) (SP X pins D) X.xe s)
def WB (X : Cx) (sts : List Stmt) : TS := fun D sg H => Cl (∀ (pins : List (Addr × Obj)) (s : Shared), L2.Inv X pins sg H s → wpAny (model X.prog X.w) X.A (execs sts X.env) (SP X pins D) X.xe s)
theorem zYf {X : Cx} {e : Expr} : PE X e (WE X e) := ⟨fun pins s _ _ _ I h => h.go pins s I⟩
theorem xYy {X : Cx} {e : Expr} : PT X e (WT X e) := ⟨fun pins s _ _ _ I h => h.go pins s I⟩
theorem xV1 {X : Cx} {es : List Expr} : PA X es (WA X es) := ⟨fun pos pins s _ _ _ I h => h.go pos pins s I⟩
theorem wHm {X : Cx} {st : Stmt} : PS X st (WS X st) := ⟨fun pins s _ _ _ I h => h.go pins s I⟩
theorem wZy {X : Cx} {sts : List Stmt} : PSs X sts (WB X sts) := ⟨fun pins s _ _ _ I h => h.go pins s I⟩
theorem zKp {X : Cx} {e : Expr} {t : TE} (h : PE X e t) {sg : L2.St} {H : Hp} {Q : VK} (q : t sg H Q) : WE X e sg H Q := ⟨fun pins s I => h.run pins s sg H Q I q⟩
theorem xJ0 {X : Cx} {e : Expr} {t : TT} (h : PT X e t) {sg : L2.St} {H : Hp} {Q : Bool → Hp → Prop} (q : t sg H Q) : WT X e sg H Q := ⟨fun pins s I => h.run pins s sg H Q I q⟩
theorem xW8 {X : Cx} {es : List Expr} {t : TA} (h : PA X es t) {sg : L2.St} {H : Hp} {Q : List V → Hp → Prop} (q : t sg H Q) : WA X es sg H Q := ⟨fun pos pins s I => h.run pos pins s sg H Q I q⟩
theorem yQa {X : Cx} {st : Stmt} {t : TS} (h : PS X st t) {D : Ends} {sg : L2.St} {H : Hp} (q : t D sg H) : WS X st D sg H := ⟨fun pins s I => h.run pins s sg H D I q⟩
theorem xHn {X : Cx} {sts : List Stmt} {t : TS} (h : PSs X sts t) {D : Ends} {sg : L2.St} {H : Hp} (q : t D sg H) : WB X sts D sg H := ⟨fun pins s I => h.run pins s sg H D I q⟩

def zVw (K : PySem.W.Frag) (w : Wd) (Q : VK) : EV → Mem → Prop := fun v m' => ∀ (w' : Wd) (x : V), w'.m = m' → w'.sg = w.sg → FolE w w' → Rep K w' → RE K w' v x → Q x w'.H
def xU8 (K : PySem.W.Frag) (w : Wd) (Q : Bool → Hp → Prop) : Bool → Mem → Prop := fun b m' => ∀ (w' : Wd), w'.m = m' → w'.sg = w.sg → FolE w w' → Rep K w' → Q b w'.H
def Snd (X : Cx) (B : XBt) (e : Expr) (f : Pg EV) : Prop := ∀ (w : Wd) (Q : VK), Rep X.K w → (f w.m).wp (zVw X.K w Q) (XW X.K B w) → WE X e w.sg w.H Q
def yHy (X : Cx) (B : XBt) (e : Expr) (f : Pg Bool) : Prop := ∀ (w : Wd) (Q : Bool → Hp → Prop), Rep X.K w → (f w.m).wp (xU8 X.K w Q) (XW X.K B w) → WT X e w.sg w.H Q
def wVs (K : PySem.W.Frag) (w : Wd) (Q : List V → Hp → Prop) : List OV → Mem → Prop := fun vs m' => ∀ (w' : Wd) (xs : List V), w'.m = m' → w'.sg = w.sg → FolE w w' → Rep K w' → Paired (RO K w') vs xs → Q xs w'.H
def xHh (X : Cx) (B : XBt) (es : List Expr) (f : Pg (List OV)) : Prop := ∀ (w : Wd) (Q : List V → Hp → Prop), Rep X.K w → (f w.m).wp (wVs X.K w Q) (XW X.K B w) → WA X es w.sg w.H Q
inductive AV where
  | d (x : PyData)
  | cell (n : Nat)
def RV (K : PySem.W.Frag) (w : Wd) : AV → V → Prop
  | .d x, v => R K w.F x v
  | .cell n, v => ∃ a, v = .ref a ∧ w.ro[n]? = some a
theorem RV.fol {K : PySem.W.Frag} {w w' : Wd} (f : FolE w w') : ∀ {v : AV} {x : V}, RV K w v x → RV K w' v x
  | .d _, _, h => R.mono f.ext h
  | .cell _, _, ⟨a, e, h⟩ => ⟨a, e, f.at h⟩
def xU9 (K : PySem.W.Frag) (w : Wd) (Q : List V → Hp → Prop) : List AV → Mem → Prop := fun vs m' => ∀ (w' : Wd) (xs : List V), w'.m = m' → w'.sg = w.sg → FolE w w' → Rep K w' → Paired (RV K w') vs xs → Q xs w'.H
def xJz (X : Cx) (B : XBt) (es : List Expr) (f : Pg (List AV)) : Prop := ∀ (w : Wd) (Q : List V → Hp → Prop), Rep X.K w → (f w.m).wp (xU9 X.K w Q) (XW X.K B w) → WA X es w.sg w.H Q
inductive Fl where
  | next
  | brk
  | cont
  | ret (v : EV)
def zGd (K : PySem.W.Frag) (w : Wd) (D : Ends) : Fl → Mem → Prop := fun f m' => ∀ (w' : Wd), w'.m = m' → FolS w w' → Rep K w' → match f with
  | .next => D.nx w'.sg w'.H
  | .brk => D.bk w'.sg w'.H
  | .cont => D.ct w'.sg w'.H
  | .ret v => ∀ x, RE K w' v x → D.rt x w'.H
def yGc (X : Cx) (B : XBt) (st : Stmt) (f : Pg Fl) : Prop := ∀ (w : Wd) (D : Ends), Rep X.K w → (f w.m).wp (zGd X.K w D) (XW X.K B w) → WS X st D w.sg w.H
def xW0 (X : Cx) (B : XBt) (sts : List Stmt) (f : Pg Fl) : Prop := ∀ (w : Wd) (D : Ends), Rep X.K w → (f w.m).wp (zGd X.K w D) (XW X.K B w) → WB X sts D w.sg w.H

theorem zQ0 {X : Cx} {B : XBt} {e : Expr} {f : Pg EV} {α : Type} {g : EV → Pg α} {P : α → Mem → Prop} {w : Wd} {Q : VK} (h : Snd X B e f) (r : Rep X.K w) (hw : (Pg.bind f g w.m).wp P (XW X.K B w))
    (next : ∀ (v : EV) (w' : Wd) (x : V), w'.sg = w.sg → FolE w w' → Rep X.K w' → RE X.K w' v x → (g v w'.m).wp P (XW X.K B w') → Q x w'.H) : WE X e w.sg w.H Q := by
  refine h w Q r ((wp_bind hw).imp (fun v m' q w' x e1 e2 f r' re => ?_) fun _ _ q => q)
  subst e1
  exact next v w' x e2 f r' re (q.imp (fun _ _ z => z) fun _ _ z => z.fol (f.s r))
theorem yQg {X : Cx} {B : XBt} {e : Expr} {f : Pg Bool} {α : Type} {g : Bool → Pg α} {P : α → Mem → Prop} {w : Wd} {Q : Bool → Hp → Prop} (h : yHy X B e f) (r : Rep X.K w) (hw : (Pg.bind f g w.m).wp P (XW X.K B w))
    (next : ∀ (v : Bool) (w' : Wd), w'.sg = w.sg → FolE w w' → Rep X.K w' → (g v w'.m).wp P (XW X.K B w') → Q v w'.H) : WT X e w.sg w.H Q := by
  refine h w Q r ((wp_bind hw).imp (fun v m' q w' e1 e2 f r' => ?_) fun _ _ q => q)
  subst e1
  exact next v w' e2 f r' (q.imp (fun _ _ z => z) fun _ _ z => z.fol (f.s r))
theorem yV1 {X : Cx} {B : XBt} {es : List Expr} {f : Pg (List OV)} {α : Type} {g : List OV → Pg α} {P : α → Mem → Prop} {w : Wd} {Q : List V → Hp → Prop} (h : xHh X B es f) (r : Rep X.K w) (hw : (Pg.bind f g w.m).wp P (XW X.K B w))
    (next : ∀ (v : List OV) (w' : Wd) (xs : List V), w'.sg = w.sg → FolE w w' → Rep X.K w' → Paired (RO X.K w') v xs → (g v w'.m).wp P (XW X.K B w') → Q xs w'.H) : WA X es w.sg w.H Q := by
  refine h w Q r ((wp_bind hw).imp (fun v m' q w' x e1 e2 f r' re => ?_) fun _ _ q => q)
  subst e1
  exact next v w' x e2 f r' re (q.imp (fun _ _ z => z) fun _ _ z => z.fol (f.s r))
theorem zY6 {X : Cx} {B : XBt} {es : List Expr} {f : Pg (List AV)} {α : Type} {g : List AV → Pg α} {P : α → Mem → Prop} {w : Wd} {Q : List V → Hp → Prop} (h : xJz X B es f) (r : Rep X.K w) (hw : (Pg.bind f g w.m).wp P (XW X.K B w))
    (next : ∀ (v : List AV) (w' : Wd) (xs : List V), w'.sg = w.sg → FolE w w' → Rep X.K w' → Paired (RV X.K w') v xs → (g v w'.m).wp P (XW X.K B w') → Q xs w'.H) : WA X es w.sg w.H Q := by
  refine h w Q r ((wp_bind hw).imp (fun v m' q w' x e1 e2 f r' re => ?_) fun _ _ q => q)
  subst e1
  exact next v w' x e2 f r' re (q.imp (fun _ _ z => z) fun _ _ z => z.fol (f.s r))
end Ev

namespace Ev
open PySem PySem.Spec PyProof.Rows L2

theorem OH.lay {K : PySem.W.Frag} {F H : Hp} {Z : Addr → Prop} {a p : Addr} {o : Ob} {u : HO} (h : OH K F H Z a o) (hp : H p = none) : OH K F (upd H p u) Z a o :=
  h.keep (Same.refl _) (fun u z => by rw [upd_ne (ne_of_none z hp)]; exact z) (fun d z => by rw [upd_ne (ne_of_none z hp)]; exact z) fun _ _ z => z
theorem lay {K : PySem.W.Frag} {w : Wd} (r : Rep K w) {p : Addr} (hp : w.H p = none) (o : HO) (hno : ∀ a, o ≠ .own a := by intro _ z; first | cases z | (unfold excO at z; cases z)) (hnt : ∀ ps, o ≠ .tbl ps := by intro _ z; first | cases z | (unfold excO at z; cases z)) : Rep K { w with H := upd w.H p o } ∧ FolE w { w with H := upd w.H p o } := by
  have up : ∀ {a : Addr} {u : HO}, w.H a = some u → upd w.H p o a = some u := fun {a u} h => by
    rw [upd_ne (ne_of_none h hp)]
    exact h
  have liv : ∀ a, w.H a ≠ none → upd w.H p o a ≠ none := fun a h => by
    cases e : w.H a with
    | none => exact absurd e h
    | some u =>
      rw [up e]
      simp
  refine ⟨⟨fun a u h n => up (r.sub a u h n), r.le, fun i v h => ?_, fun n xs h => ?_, r.ln, r.rf, r.rk, r.nd, r.ow, fun a h => liv a (r.zl a h), fun d a h => ?_, ⟨(TK _ w).go r.tb.1 fun _ _ e => up e, r.tb.2.1, yJh r.tb.2.2 hnt⟩⟩, ⟨rfl, rfl, Same.refl _, ⟨[], (List.append_nil _).symm⟩, fun a u h _ _ => up h, fun a h => .inl h, liv, fun a h => .inl h, fun a h => h⟩⟩
  · obtain ⟨x, h1, h2⟩ := r.sl i v h
    refine ⟨x, h1, ?_⟩
    cases v with
    | d y => exact h2
    | ob ys =>
      obtain ⟨a, e, h, q⟩ := h2
      exact ⟨a, e, h.lay hp, q⟩
    | cell n => exact h2
    | thk t => exact h2
  · obtain ⟨a, h1, h2⟩ := r.cs n xs h
    exact ⟨a, h1, h2.lay hp⟩
  · have h : upd w.H p o d = some (.own a) := h
    by_cases q : d = p
    · rw [q, upd_same] at h
      exact absurd (Option.some.inj h) (hno a)
    · rw [upd_ne q] at h
      obtain ⟨C, vs, e⟩ := r.oo d a h
      exact ⟨C, vs, up e⟩
theorem yVl {F H : Hp} {a : Addr} {u : HO} (s : zG7 F H) (h : H a = some u) (hm : ∀ n, F a ≠ some (mkC n)) (hu : ∀ n, u ≠ mkC n) : Same F (upd F a u) ∧ zG7 (upd F a u) H ∧ ∀ b n, upd F a u b = some (mkC n) → F b = some (mkC n) := by
  refine ⟨fun b v e => ?_, fun b v e n => ?_, fun b n e => ?_⟩
  · by_cases q : b = a
    · subst q
      have := s _ _ e fun n z => hm n (by rw [show F b = some v from e, z])
      rw [h] at this
      rw [upd_same]
      exact this
    · rw [upd_ne q]
      exact e
  · by_cases q : b = a
    · subst q
      rw [upd_same] at e
      rw [h]
      exact e
    · rw [upd_ne q] at e
      exact s _ _ e n
  · by_cases q : b = a
    · subst q
      rw [upd_same] at e
      exact absurd (Option.some.inj e) (hu n)
    · rw [upd_ne q] at e
      exact e
theorem OH.frozen {K : PySem.W.Frag} {F H : Hp} {Z : Addr → Prop} {a : Addr} {o : Ob} (s : zG7 F H) (h : OH K F H Z a o) (hz : ¬ Z a) (hm : ∀ b n, F b = some (mkC n) → b ≠ a ∧ ∀ c, H b ≠ some (.own c)) :
    ∃ F' : Hp, Same F F' ∧ zG7 F' H ∧ R K F' (dOf o) (.ref a) ∧ (∀ b, F' b ≠ none → F b ≠ none ∨ ¬ Z b) ∧ (∀ b, F b = none → b ≠ a → (∀ c, H b ≠ some (.own c)) → F' b = none) ∧ (∀ b ps, F' b = some (.tbl ps) → F b = some (.tbl ps)) ∧ ∀ b n, F' b = some (mkC n) → F b = some (mkC n) := by
  have ma : ∀ n, F a ≠ some (mkC n) := fun n z => (hm a n z).1 rfl
  have one : ∀ {u : HO}, H a = some u → (∀ b, upd F a u b ≠ none → F b ≠ none ∨ ¬ Z b) ∧ ∀ b, F b = none → b ≠ a → upd F a u b = none := fun {u} hu => by
    refine ⟨fun b e => ?_, fun b e n => ?_⟩
    · by_cases q : b = a
      · subst q
        exact .inr hz
      · rw [upd_ne q] at e
        exact .inl e
    · rw [upd_ne n]
      exact e
  have nt : ∀ {G : Hp} {p : Addr} {v : HO} {b : Addr} {ps : Array Value}, (∀ qs, v ≠ .tbl qs) → upd G p v b = some (.tbl ps) → G b = some (.tbl ps) := fun {G p v b ps} hv e => by
    by_cases z : b = p
    · subst z
      rw [upd_same] at e
      exact absurd (Option.some.inj e) (hv ps)
    · rw [upd_ne z] at e
      exact e
  cases o with
  | lst xs =>
    obtain ⟨vs, h1, h2⟩ := h
    obtain ⟨s1, s2, s3⟩ := yVl s h1 ma wQu
    exact ⟨_, s1, s2, .lst (.of upd_same) (h2.mono s1), (one h1).1, fun b e n _ => (one h1).2 b e n, fun b ps e => nt (by intro _ z; cases z) e, s3⟩
  | dic xs =>
    obtain ⟨vs, h1, h2⟩ := h
    obtain ⟨s1, s2, s3⟩ := yVl s h1 ma xZs
    exact ⟨_, s1, s2, .dic upd_same (h2.mono s1), (one h1).1, fun b e n _ => (one h1).2 b e n, fun b ps e => nt (by intro _ z; cases z) e, s3⟩
  | ins c fs =>
    obtain ⟨C, dx, vs, h1, h2, h3, h4, h5⟩ := h
    obtain ⟨s1, s2, s5⟩ := yVl s h1 ma xQi
    obtain ⟨s3, s4, s6⟩ := yVl s2 h2 (fun n z => (hm dx n (s5 dx n z)).2 a h2) wQt
    have ne : a ≠ dx := fun z => by rw [z, h2] at h1; cases h1
    refine ⟨_, fun b u e => s3 _ _ (s1 _ _ e), s4, .ins h4 (s3 _ _ upd_same) upd_same (h5.mono fun b u e => s3 _ _ (s1 _ _ e)), fun b e => ?_, fun b e n q => ?_, fun b ps e => nt (by intro _ z; cases z) (nt (by intro _ z; cases z) e), fun b n e => s5 b n (s6 b n e)⟩
    · by_cases q : b = dx
      · rw [q]
        exact .inr h3
      · rw [upd_ne q] at e
        exact (one h1).1 b e
    · rw [upd_ne (fun z => q a (by rw [z]; exact h2))]
      exact (one h1).2 b e n
theorem Rep.mk_ne {K : PySem.W.Frag} {w : Wd} (r : Rep K w) {p : Addr} (hr : p ∉ w.ro) : ∀ b n, w.F b = some (mkC n) → b ≠ p ∧ ∀ c, w.H b ≠ some (.own c) := fun b n e => by
  have m := List.mem_of_getElem? (r.rk n b e)
  exact ⟨fun z => hr (z ▸ m), fun c z => (r.noOwnDict z).1 m⟩
theorem Rep.rf_up {K : PySem.W.Frag} {w : Wd} (r : Rep K w) {F' : Hp} (s : Same w.F F') (g : ∀ b, b ∈ w.ro → w.F b = none → F' b = none) : ∀ n a, w.ro[n]? = some a → F' a = some (mkC n) ∨ F' a = none ∧ ∃ c fs, w.m.cs[n]? = some (.ins c fs) := fun n a e => by
  rcases r.rf n a e with q | ⟨q, z⟩
  · exact .inl (s _ _ q)
  · exact .inr ⟨g a (List.mem_of_getElem? e) q, z⟩
theorem fix {K : PySem.W.Frag} {w : Wd} (r : Rep K w) {p : Addr} {o : Ob} (h : OH K w.F w.H w.Z p o) (hf : w.F p = none) (hr : p ∉ w.ro) (hz : ¬ w.Z p) (ho : ¬ Own w p) :
    ∃ F', Rep K { w with F := F' } ∧ FolE w { w with F := F' } ∧ R K F' (dOf o) (.ref p) := by
  obtain ⟨F', s1, s2, rd, g1, g2, g3, g4⟩ := h.frozen r.sub hz (r.mk_ne hr)
  refine ⟨F', ⟨s2, r.le, fun i v h => ?_, fun n xs h => ?_, r.ln, r.rf_up s1 fun a e hn => ?_, fun n a e => r.rk n a (g4 a n e), r.nd, r.ow, r.zl, r.oo, ⟨r.tb.1, fun b ps e => r.tb.2.1 b ps (g3 b ps e), r.tb.2.2⟩⟩, ⟨rfl, rfl, s1, ⟨[], (List.append_nil _).symm⟩, fun a u h _ _ => h, fun a h => .inl h, fun a h => h, g1, fun a h => h⟩, rd⟩
  · obtain ⟨x, h1, h2⟩ := r.sl i v h
    refine ⟨x, h1, ?_⟩
    cases v with
    | d y => exact R.mono s1 h2
    | ob ys =>
      obtain ⟨a, e, h3, h5, h6, h7⟩ := h2
      refine ⟨a, e, h3.keep s1 (fun _ z => z) (fun _ z => z) (fun _ _ z => z), ?_, h6, h7⟩
      subst e
      have oa : Own w a := ⟨i, ys, h, h1⟩
      exact g2 a h5 (fun q => ho (q ▸ oa)) fun c z => (r.noOwnDict z).2 oa
    | cell n => exact h2
    | thk t => exact ⟨h2.1, yGg h2.2.1 s1, h2.2.2⟩
  · obtain ⟨a, h1, h2⟩ := r.cs n xs h
    exact ⟨a, h1, h2.keep s1 (fun _ z => z) (fun _ z => z) (fun _ _ z => z)⟩
  · exact g2 a hn (fun q => hr (q ▸ e)) fun c z => (r.noOwnDict z).1 e
theorem Rep.noF {K : PySem.W.Frag} {w : Wd} (r : Rep K w) {p : Addr} (hp : w.H p = none) : w.F p = none := by
  cases e : w.F p with
  | none => rfl
  | some u =>
    have := r.sub p u e fun n z => r.roLive (List.mem_of_getElem? (r.rk n p (by rw [e, z]))) hp
    rw [hp] at this
    cases this
theorem yW6 {K : PySem.W.Frag} {w : Wd} (r : Rep K w) {p : Addr} (hp : w.H p = none) (o : HO) (hno : ∀ a, o ≠ .own a := by intro _ z; first | cases z | (unfold excO at z; cases z)) (hnt : ∀ ps, o ≠ .tbl ps := by intro _ z; first | cases z | (unfold excO at z; cases z)) (hnm : ∀ n, o ≠ mkC n := by intro _ z; first | cases z | (unfold excO at z; cases z)) : Rep K { w with F := upd w.F p o, H := upd w.H p o } ∧ FolE w { w with F := upd w.F p o, H := upd w.H p o } := by
  obtain ⟨r1, f1⟩ := lay r hp o hno hnt
  have no : ¬ Own w p := fun h => (r.ownAt h).1 hp
  have nf := r.noF hp
  have sm : Same w.F (upd w.F p o) := fun a u e => by
    rw [upd_ne (ne_of_none e nf)]
    exact e
  refine ⟨⟨fun a u e n => ?_, r1.le, fun i v h => ?_, fun n xs h => ?_, r1.ln, r.rf_up sm fun a e hn => ?_, fun n a e => r.rk n a ?_, r1.nd, r1.ow, r1.zl, r1.oo, ⟨r1.tb.1, fun b ps e => ?_, r1.tb.2.2⟩⟩, ⟨rfl, rfl, sm, f1.pre, f1.frm, f1.new, f1.liv, fun a e => ?_, f1.own⟩⟩
  · have e : upd w.F p o a = some u := e
    show upd w.H p o a = some u
    by_cases q : a = p
    · subst q
      rw [upd_same] at e ⊢
      exact e
    · rw [upd_ne q] at e ⊢
      exact r.sub a u e n
  · obtain ⟨x, h1, h2⟩ := r1.sl i v h
    refine ⟨x, h1, ?_⟩
    cases v with
    | d y => exact R.mono sm h2
    | ob ys =>
      obtain ⟨a, e, h3, h5, h6⟩ := h2
      refine ⟨a, e, h3.keep sm (fun _ z => z) (fun _ z => z) (fun _ _ z => z), ?_, h6⟩
      show upd w.F p o a = none
      rw [upd_ne (fun q => no (by subst e q; exact ⟨i, ys, h, h1⟩))]
      exact h5
    | cell n => exact h2
    | thk t => exact ⟨h2.1, yGg h2.2.1 sm, h2.2.2⟩
  · obtain ⟨a, h1, h2⟩ := r1.cs n xs h
    exact ⟨a, h1, h2.keep sm (fun _ z => z) (fun _ z => z) (fun _ _ z => z)⟩
  · show upd w.F p o a = none
    rw [upd_ne (fun q : a = p => r.roLive (by rw [← q]; exact e) hp)]
    exact hn
  · have e : upd w.F p o a = some (mkC n) := e
    by_cases q : a = p
    · subst q
      rw [upd_same] at e
      exact absurd (Option.some.inj e) (hnm n)
    · rw [upd_ne q] at e
      exact e
  · have e : upd w.F p o b = some (.tbl ps) := e
    by_cases q : b = p
    · subst q
      rw [upd_same] at e
      exact hnt ps (Option.some.inj e)
    · rw [upd_ne q] at e
      exact r.tb.2.1 b ps e
  · have e : upd w.F p o a ≠ none := e
    by_cases q : a = p
    · subst q
      exact .inr fun z => r.zl _ z hp
    · rw [upd_ne q] at e
      exact .inl e
theorem wQ0 {K : PySem.W.Frag} {w : Wd} (r : Rep K w) {p : Addr} (hp : w.H p = none) {u : HO} {o : Ob} (h : OH K w.F (upd w.H p u) w.Z p o) : RE K { w with H := upd w.H p u } (.new o) (.ref p) :=
  ⟨p, rfl, h, r.noF hp, fun h => r.roLive h hp, fun h => r.zl p h hp, fun h => (r.ownAt h).1 hp⟩
theorem yHa {K : PySem.W.Frag} {w : Wd} (r : Rep K w) {p : Addr} (hp : w.H p = none) {xs : List PyData} {vs : List V} (h : RA K w.F xs vs) : RE K { w with H := upd w.H p (.lst vs) } (.fresh xs) (.ref p) := wQ0 r hp ⟨vs, upd_same, h⟩
theorem yJv {K : PySem.W.Frag} {w : Wd} (r : Rep K w) {p : Addr} (hp : w.H p = none) {xs : List PyData} {vs : List V} (h : RA K w.F xs vs) : RE K { w with F := upd w.F p (.tup vs), H := upd w.H p (.tup vs) } (.d (.tuple xs)) (.ref p) := by
  have f := (yW6 r hp (.tup vs)).2
  exact R.tup (.inl (.inl upd_same)) (h.mono f.ext)

def zU6 (m : Mem) (i : Nat) (x : PyData) : Mem := { m with sl := m.sl.set i (some (.d x)) }
def toA : EV → Pg AV
  | .d x => .ret (.d x)
  | .new o => .ret (.d (dOf o))
  | .pk i o => fun m => .ok (.d (dOf o)) (zU6 m i (dOf o))
  | .cell n => .ret (.cell n)
theorem yYp {α : Type} {l : List α} {i j : Nat} {x y : α} (h : (l.set i x)[j]? = some y) : (j = i ∧ y = x) ∨ (j ≠ i ∧ l[j]? = some y) := by
  by_cases e : i = j
  · subst e
    refine .inl ⟨rfl, ?_⟩
    by_cases q : i < l.length
    · rw [List.getElem?_set_self q] at h
      exact (Option.some.inj h).symm
    · rw [List.getElem?_eq_none (by rw [List.length_set]; omega)] at h
      cases h
  · rw [List.getElem?_set_ne e] at h
    exact .inr ⟨fun q => e q.symm, h⟩
theorem yKw {K : PySem.W.Frag} {w : Wd} (r : Rep K w) {i : Nat} {o : Ob} {x : V} (h1 : w.m.sl[i]? = some (some (SV.ob o))) (h2 : w.sg[i]? = some (some x)) :
    ∃ w' : Wd, w'.m = zU6 w.m i (dOf o) ∧ w'.sg = w.sg ∧ w'.H = w.H ∧ FolE w w' ∧ Rep K w' ∧ R K w'.F (dOf o) x := by
  obtain ⟨y, h3, a, e, hO, hF, hro, hz⟩ := r.sl i _ h1
  rw [h2] at h3
  cases h3
  subst e
  obtain ⟨F', s1, s2, rd, g1, g2, g3, g4⟩ := hO.frozen r.sub hz (r.mk_ne hro)
  have sl' : ∀ (j : Nat) (v : SV), (zU6 w.m i (dOf o)).sl[j]? = some (some v) → (j = i ∧ v = .d (dOf o)) ∨ (j ≠ i ∧ w.m.sl[j]? = some (some v)) := fun j v h => by
    rcases yYp (show (w.m.sl.set i (some (.d (dOf o))))[j]? = some (some v) from h) with ⟨q1, q2⟩ | q
    · exact .inl ⟨q1, Option.some.inj q2⟩
    · exact .inr q
  refine ⟨{ w with F := F', m := zU6 w.m i (dOf o) }, rfl, rfl, rfl, ⟨rfl, rfl, s1, ⟨[], (List.append_nil _).symm⟩, fun b u h _ _ => h, fun b h => .inl h, fun b h => h, g1, fun b ⟨j, ys, q1, q2⟩ => ?_⟩,
    ⟨s2, ?_, fun j v h => ?_, fun n ys h => ?_, r.ln, r.rf_up s1 fun b hb hn => ?_, fun n b e => r.rk n b (g4 b n e), r.nd, fun j k ys zs v p1 p2 p3 p4 => ?_, r.zl, r.oo, ⟨r.tb.1, fun b ps e => r.tb.2.1 b ps (g3 b ps e), r.tb.2.2⟩⟩, rd⟩
  · rcases sl' j _ q1 with ⟨_, q⟩ | ⟨_, q⟩
    · cases q
    · exact ⟨j, ys, q, q2⟩
  · show (w.m.sl.set i _).length ≤ _
    rw [List.length_set]
    exact r.le
  · rcases sl' j v h with ⟨q1, q2⟩ | ⟨q1, q2⟩
    · subst q1 q2
      exact ⟨.ref a, h2, rd⟩
    · obtain ⟨y, p1, p2⟩ := r.sl j v q2
      refine ⟨y, p1, ?_⟩
      cases v with
      | d z => exact R.mono s1 p2
      | ob zs =>
        obtain ⟨b, e, k1, k3, k4⟩ := p2
        refine ⟨b, e, k1.keep s1 (fun _ z => z) (fun _ z => z) (fun _ _ z => z), ?_, k4⟩
        subst e
        exact g2 b k3 (fun z => q1 (r.ow j i _ _ _ q2 h1 p1 (by rw [z]; exact h2))) fun c z => (r.noOwnDict z).2 ⟨j, zs, q2, p1⟩
      | cell n => exact p2
      | thk t => exact ⟨p2.1, yGg p2.2.1 s1, p2.2.2⟩
  · obtain ⟨b, k1, k2⟩ := r.cs n ys h
    exact ⟨b, k1, k2.keep s1 (fun _ z => z) (fun _ z => z) (fun _ _ z => z)⟩
  · exact g2 b hn (fun z => hro (z ▸ hb)) fun c z => (r.noOwnDict z).1 hb
  · rcases sl' j _ p1 with ⟨_, q⟩ | ⟨_, q⟩
    · cases q
    · rcases sl' k _ p2 with ⟨_, q'⟩ | ⟨_, q'⟩
      · cases q'
      · exact r.ow j k _ _ _ q q' p3 p4
theorem zYi {K : PySem.W.Frag} {w : Wd} (r : Rep K w) : ∀ {v : EV} {x : V}, RE K w v x → ∃ (a : AV) (w' : Wd), toA v w.m = .ok a w'.m ∧ w'.sg = w.sg ∧ w'.H = w.H ∧ FolE w w' ∧ Rep K w' ∧ RV K w' a x
  | .d y, x, h => ⟨.d y, w, rfl, rfl, rfl, FolE.refl w, r, h⟩
  | .cell n, x, h => ⟨.cell n, w, rfl, rfl, rfl, FolE.refl w, r, h⟩
  | .new o, x, ⟨a, e, h1, h3, h4, h5, h6⟩ => by
    obtain ⟨F', r1, f1, rd⟩ := fix r h1 h3 h4 h5 h6
    subst e
    exact ⟨.d (dOf o), { w with F := F' }, rfl, rfl, rfl, f1, r1, rd⟩
  | .pk i o, x, ⟨h1, h2⟩ => by
    obtain ⟨w', e1, e2, e3, f, r', h⟩ := yKw r h1 h2
    exact ⟨.d (dOf o), w', by rw [e1]; rfl, e2, e3, f, r', h⟩
def yQr : AV → Pg PyData
  | .d x => .ret x
  | .cell _ => .stuck

section
variable {X : Cx} {B : XBt} {e : Expr} {es : List Expr} {f : Pg EV} {pos : Pos}
def zQh {α : Type} : Pg (List α) := .ret []
def zQc (f : Pg EV) (g : Pg (List AV)) : Pg (List AV) := .bind f fun v => .bind (toA v) fun a => .bind g fun r => .ret (a :: r)
def zZe (f : Pg EV) (g : Pg (List OV)) : Pg (List OV) := .bind f fun v => .bind g fun r => .ret (zKn v :: r)
theorem zQe : xJz X B [] zQh := fun w Q r h => xW8 pa_nil (h w [] rfl rfl (FolE.refl w) r .nil)
theorem zQ6 : xHh X B [] zQh := fun w Q r h => xW8 pa_nil (h w [] rfl rfl (FolE.refl w) r .nil)
theorem yV7 {K : PySem.W.Frag} {w w' : Wd} (f : FolE w w') : ∀ {vs : List AV} {xs : List V}, Paired (RV K w) vs xs → Paired (RV K w') vs xs
  | _, _, .nil => .nil
  | _, _, .cons h t => .cons (h.fol f) (yV7 f t)
theorem zQa {g : Pg (List AV)} (h1 : Snd X B e f) (h2 : xJz X B es g) (hs : starEach (e :: es) X.env = (false, eval e X.env) :: starEach es X.env := by rfl) : xJz X B (e :: es) (zQc f g) := by
  intro w Q r h
  refine xW8 (pa_cons zYf xV1 hs) ?_
  refine zQ0 h1 r h fun v w1 x e1 f1 r1 re h' => ?_
  obtain ⟨a, w2, ea, e2, e3, f2, r2, rv⟩ := zYi r1 re
  have h'' := wp_bind h'
  rw [ea] at h''
  rw [← e1, ← e2, ← e3]
  have h3 : (Pg.bind g (fun r => Pg.ret (a :: r)) w2.m).wp (xU9 X.K w Q) (XW X.K B w2) := Res.wp.imp h'' (fun _ _ q => q) fun _ _ q => q.fol (f2.s r1)
  refine zY6 h2 r2 h3 fun vs w3 xs e4 f3 r3 rvs q => ?_
  exact q w3 (x :: xs) rfl (e4.trans (e2.trans e1)) (f1.trans (f2.trans f3)) r3 (.cons (rv.fol f3) rvs)
theorem zQy {g : Pg (List OV)} (h1 : Snd X B e f) (h2 : xHh X B es g) (hs : starEach (e :: es) X.env = (false, eval e X.env) :: starEach es X.env := by rfl) : xHh X B (e :: es) (zZe f g) := by
  intro w Q r h
  refine xW8 (pa_cons zYf xV1 hs) ?_
  refine zQ0 h1 r h fun v w1 x e1 f1 r1 re h' => ?_
  rw [← e1]
  refine yV1 h2 r1 h' fun vs w3 xs e4 f3 r3 rvs q => ?_
  exact q w3 (x :: xs) rfl (e4.trans e1) (f1.trans f3) r3 (.cons ((re.ro r1).fol r1 f3) rvs)
def dataOf : List AV → Option (List PyData)
  | [] => some []
  | .d x :: r => match dataOf r with
    | some xs => some (x :: xs)
    | none => none
  | .cell _ :: _ => none
theorem yQ9 {K : PySem.W.Frag} {w : Wd} : ∀ {vs : List AV} {xs : List V} {ds : List PyData}, Paired (RV K w) vs xs → dataOf vs = some ds → RA K w.F ds xs
  | [], _, _, .nil, e => by
    cases e
    exact .nil
  | .d x :: r, _, ds, .cons h t, e => by
    unfold dataOf at e
    cases q : dataOf r with
    | none =>
      rw [q] at e
      cases e
    | some zs =>
      rw [q] at e
      cases e
      exact .cons h (yQ9 t q)
  | .cell _ :: _, _, _, .cons _ _, e => by cases e
def yKp (xs : List PyData) : Bool := decide (xs.length ≤ 16777216)
theorem yUj {K : PySem.W.Frag} {F : Hp} {xs : List PyData} {vs : List V} (h : yKp xs = true) (a : RA K F xs vs) : vs.length ≤ sizeLine := by
  rw [← a.len, sizeLine_eq]
  exact of_decide_eq_true h
def xKg (vs : List AV) : Option EV := match dataOf vs with
  | some xs => if yKp xs then some (.d (.tuple xs)) else none
  | none => none
def xKh (vs : List AV) : Option EV := match dataOf vs with
  | some xs => if yKp xs then some (.fresh xs) else none
  | none => none
def zZy (g : Pg (List AV)) : Pg EV := .bind g fun vs => zK5 (xKg vs)
def zJ2 (g : Pg (List AV)) : Pg EV := .bind g fun vs => zK5 (xKh vs)
theorem zX2 {α : Type} {o : Option α} {m : Mem} {P : α → Mem → Prop} {E : Exn → Mem → Prop} (h : (zK5 o m).wp P E) : ∃ a, o = some a ∧ P a m := by
  cases o with
  | none => exact h.elim
  | some a => exact ⟨a, rfl, h⟩
theorem zQz {g : Pg (List AV)} {k : Nat} (h : xJz X B es g) : Snd X B (.Tuple es k pos) (zZy g) := by
  intro w Q r hw
  refine zKp (pe_tup xV1) ?_
  refine zY6 h r hw fun vs w1 xs e1 f1 r1 rv q => ?_
  obtain ⟨v, ev, q⟩ := zX2 q
  unfold xKg at ev
  cases ed : dataOf vs with
  | none =>
    rw [ed] at ev
    cases ev
  | some ds =>
    rw [ed] at ev
    dsimp only at ev
    split at ev
    · rename_i hl
      cases ev
      have ra := yQ9 rv ed
      refine ⟨yUj hl ra, fun p hp => ?_⟩
      obtain ⟨r2, f2⟩ := yW6 r1 hp (.tup xs)
      exact q { w1 with F := upd w1.F p (.tup xs), H := upd w1.H p (.tup xs) } _ rfl e1 (f1.trans f2) r2 (yJv r1 hp ra)
    · cases ev
theorem zZq {g : Pg (List AV)} (h : xJz X B es g) : Snd X B (.List es pos) (zJ2 g) := by
  intro w Q r hw
  refine zKp (pe_lst xV1) ?_
  refine zY6 h r hw fun vs w1 xs e1 f1 r1 rv q => ?_
  obtain ⟨v, ev, q⟩ := zX2 q
  unfold xKh at ev
  cases ed : dataOf vs with
  | none =>
    rw [ed] at ev
    cases ev
  | some ds =>
    rw [ed] at ev
    dsimp only at ev
    split at ev
    · rename_i hl
      cases ev
      have ra := yQ9 rv ed
      refine ⟨yUj hl ra, fun p hp => ?_⟩
      obtain ⟨r2, f2⟩ := lay r1 hp (.lst xs)
      exact q { w1 with H := upd w1.H p (.lst xs) } _ rfl e1 (f1.trans f2) r2 (yHa r1 hp ra)
    · cases ev

def evC (d : PyData) : Pg EV := .ret (.d d)
theorem zXe {j} : Snd X B (.Constant .none j pos) (evC .none) := fun w Q r h => zKp pe_non (h w .non rfl rfl (FolE.refl w) r .non)
theorem zX6 {b j} : Snd X B (.Constant (.bool b) j pos) (evC (.bool b)) := fun w Q r h => zKp pe_bl (h w (.bl b) rfl rfl (FolE.refl w) r (.bl b))
theorem zQf {i j} : Snd X B (.Constant (.int i) j pos) (evC (.int i)) := fun w Q r h => zKp pe_int (h w (.int i) rfl rfl (FolE.refl w) r (.int i))
theorem zQp {x j} : Snd X B (.Constant (.str x) j pos) (evC (.str x)) := fun w Q r h => zKp pe_str (h w (.str x) rfl rfl (FolE.refl w) r (.str x))
def yH3 (i : Nat) : Option (Option SV) → Option EV
  | some (some (.d x)) => some (.d x)
  | some (some (.ob o)) => some (.pk i o)
  | some (some (.cell n)) => some (.cell n)
  | _ => none
def zQd (i : Nat) : Pg EV := fun m => zK5 (yH3 i m.sl[i]?) m
theorem zQb {x : Str} (i : Nat) (hN : X.N[i]? = some x) (hv : Vis X.env.scope x) (hd : (x == ("__debug__" : Str)) = false := by decide) (hcd : (x == ("__classdict__" : Str)) = false := by decide) : Snd X B (.Name x pos) (zQd i) := by
  intro w Q r h
  refine zKp (pe_var hN hv hd hcd) ?_
  obtain ⟨v, ev, q⟩ := zX2 (show (zK5 (yH3 i w.m.sl[i]?) w.m).wp _ _ from h)
  cases es : w.m.sl[i]? with
  | none =>
    rw [es] at ev
    cases ev
  | some o =>
    cases o with
    | none =>
      rw [es] at ev
      cases ev
    | some sv =>
      obtain ⟨x, h1, h2⟩ := r.sl i sv es
      refine ⟨x, h1, q w x rfl rfl (FolE.refl w) r ?_⟩
      rw [es] at ev
      cases sv with
      | d y =>
        cases ev
        exact h2
      | ob ys =>
        cases ev
        exact ⟨es, h1⟩
      | cell n =>
        cases ev
        exact h2
      | thk t => cases ev
def GC (X : Cx) (x : Str) (d : PyData) : Prop := ∃ (v : V) (u : Value), X.mg x = some u ∧ RelV v u ∧ ∀ F : Hp, R X.K F d v
theorem zHa {x : Str} {d : PyData} (hg : Gl X x) (h : GC X x d) (hd : (x == ("__debug__" : Str)) = false := by decide) : Snd X B (.Name x pos) (evC d) := by
  obtain ⟨v, u, hm, rv, hr⟩ := h
  intro w Q r h
  exact zKp (pe_glob hg hm rv hd) (h w v rfl rfl (FolE.refl w) r (hr w.F))
end
end Ev

namespace Ev
open PySem PySem.Spec PyProof.Rows L2

def anyR (X : Cx) (f : Value → Value → Sem Value) : R2 := fun x y H Q => ∃ r, OpR X f r ∧ r x y H Q
theorem yKe {X : Cx} {f : Value → Value → Sem Value} : OpR X f (anyR X f) := by
  intro pins s sg H x y v u Q I rx ry h
  obtain ⟨r, ho, q⟩ := h
  exact ho pins s sg H x y v u Q I rx ry q

theorem xH8 (t : Addr) (items : Array Value) (n : Nat) (dd : Option Addr) (sl : Array (Option Value)) (x : Int) (u : Tok) (c0 : (decide (x < -(2 ^ 63)) || decide (x ≥ 2 ^ 63)) = false) (c1 : (items.isEmpty || x == 1) = true) :
    Meets (Builtin.«tuple.__mul__» ⟨[.ref t, .int x u], []⟩) (fun _ R s => s.heap.get? t = some { cls := .type "tuple", dict := dd, data := .seq items n, slots := sl } ∧ R (.ok (.ret (Value.ref t))) s) :=
  .of_wp fun prog w A R s h => by
    obtain ⟨hp, g, d, tk, os⟩ := s
    obtain ⟨hl, h⟩ := h
    have f1 := AutoSeq1.idx_int
    wp_walk using wpAny_loadPart' hl
    repeat (first
      | (refine wpAny_ite_false (decide_eq_false (by rw [c0]; exact Bool.false_ne_true)) ?_; wp_walk using wpAny_loadPart' hl)
      | (refine wpAny_ite_true (decide_eq_true c1) ?_; wp_walk using wpAny_loadPart' hl))
    exact ⟨_, rfl, h⟩
theorem xYv (t : Addr) (items : Array Value) (n : Nat) (dd : Option Addr) (sl : Array (Option Value)) (x : Int) (u : Tok) (c0 : (decide (x < -(2 ^ 63)) || decide (x ≥ 2 ^ 63)) = false) (c1 : (items.isEmpty || x == 1) = false) (c2 : (decide (x ≤ 0) || items.isEmpty) = true) :
    Meets (Builtin.«tuple.__mul__» ⟨[.ref t, .int x u], []⟩) (fun _ R s => s.heap.get? t = some { cls := .type "tuple", dict := dd, data := .seq items n, slots := sl } ∧
      R (.ok (.ret (Value.ref s.heap.objs.size))) { s with heap := s.heap.push { cls := Value.type "tuple", data := Data.seq #[] }, toks := s.toks }) :=
  .of_wp fun prog w A R s h => by
    obtain ⟨hp, g, d, tk, os⟩ := s
    obtain ⟨hl, h⟩ := h
    have f1 := AutoSeq1.idx_int
    wp_walk using wpAny_loadPart' hl
    repeat (first
      | (refine wpAny_ite_false (decide_eq_false (by rw [c0]; exact Bool.false_ne_true)) ?_; wp_walk using wpAny_loadPart' hl)
      | (refine wpAny_ite_false (decide_eq_false (by rw [c1]; exact Bool.false_ne_true)) ?_; wp_walk using wpAny_loadPart' hl)
      | (refine wpAny_ite_true (decide_eq_true c2) ?_; wp_walk using wpAny_loadPart' hl))
    exact ⟨_, rfl, h⟩
def wXz (K : PySem.W.Frag) : R2 := fun x y H Q => ∃ l k xs, x = .ref l ∧ y = .int k ∧ SqT K H l xs ∧ k ≤ 1000 ∧ -1000 ≤ k ∧ xs.length ≤ 1000 ∧
  ((xs = [] ∨ k = 1) → Q (.ref l) H) ∧ (¬ (xs = [] ∨ k = 1) → ∀ p, H p = none → Q (.ref p) (upd H p (.tup (List.replicate k.toNat xs).flatten)))
theorem xY4 {X : Cx} : OpR X (binaryOp .Mult) (wXz X.K) := by
  intro pins s sg H x y v u Q I rx ry h
  obtain ⟨l, k, xs, rfl, rfl, hT, h1, h0, hz, q1, q2⟩ := h
  by_cases big : xs ≠ [] ∧ 2 ≤ k
  · exact op_repT pins s sg H _ _ v u Q I rx ry ⟨l, k, xs, rfl, rfl, hT, big.1, big.2, h1, hz, q2 (fun z => z.elim big.1 fun e => by omega)⟩
  · cases rx
    obtain ⟨t, rfl⟩ := ry
    obtain ⟨its, r, ⟨⟨cls, dd, data, sl⟩, ho, hc, n, hd⟩, hs⟩ := I.tuple hT
    simp only at hc hd
    subst hc hd
    have c0 : (decide (k < -(2 ^ 63)) || decide (k ≥ 2 ^ 63)) = false := by
      rw [decide_eq_false (by omega), decide_eq_false (by omega)] <;> rfl
    by_cases one : xs = [] ∨ k = 1
    · have c1 : (its.toArray.isEmpty || k == 1) = true := by
        rcases one with e | e
        · subst e
          cases r
          rfl
        · subst e
          simp
      refine wpAny_binaryOp_repeat_ref (T := "tuple") (U := "int") (by decide) ⟨_, ho, rfl⟩ (fun s' => typeIs_int s' k t) noFill_tuple_mul F.fills_int_mul F.slot_int_rmul repeat_tuple F.slot_int_index.lookup
        (call_meets F.slot_int_rmul (typeIs_int s k t) F.entry_int_rmul (F.args_int_rmul_2 _ _) (int_rmul_tuple k t l its.toArray n dd sl)
          ⟨ho, rfl, ⟨_, ho, rfl⟩, call_meets F.slot_tuple_mul ⟨_, ho, rfl⟩ F.entry_tuple_mul (F.args_tuple_mul_2 _ _) (xH8 l its.toArray n dd sl k t c0 c1) ⟨ho, ?_⟩⟩)
      exact ⟨.ref l, H, I, rfl, q1 one⟩
    · have hne : xs ≠ [] := fun e => one (.inl e)
      have hk : k ≤ 0 := by
        have : ¬ (2 ≤ k) := fun z => big ⟨hne, z⟩
        have : k ≠ 1 := fun e => one (.inr e)
        omega
      have hi : its.toArray.isEmpty = false := by
        cases r with
        | nil => exact absurd rfl hne
        | cons a b => rfl
      have c1 : (its.toArray.isEmpty || k == 1) = false := by
        rw [hi, Bool.false_or]
        exact beq_eq_false_iff_ne.mpr (by omega)
      have c2 : (decide (k ≤ 0) || its.toArray.isEmpty) = true := by
        rw [decide_eq_true hk]
        rfl
      refine wpAny_binaryOp_repeat_ref (T := "tuple") (U := "int") (by decide) ⟨_, ho, rfl⟩ (fun s' => typeIs_int s' k t) noFill_tuple_mul F.fills_int_mul F.slot_int_rmul repeat_tuple F.slot_int_index.lookup
        (call_meets F.slot_int_rmul (typeIs_int s k t) F.entry_int_rmul (F.args_int_rmul_2 _ _) (int_rmul_tuple k t l its.toArray n dd sl)
          ⟨ho, rfl, ⟨_, ho, rfl⟩, call_meets F.slot_tuple_mul ⟨_, ho, rfl⟩ F.entry_tuple_mul (F.args_tuple_mul_2 _ _) (xYv l its.toArray n dd sl k t c0 c1 c2) ⟨ho, ?_⟩⟩)
      have q := q2 one s.heap.objs.size (I.hok.fresh (Nat.le_refl _))
      have e0 : k.toNat = 0 := by omega
      rw [e0] at q
      refine ⟨.ref s.heap.objs.size, _, I.laid (t' := s.toks) (o := .tup []) (fun b ob q => Heap.get?_push_of_some _ q) (Nat.le_refl _) ?_, rfl, q⟩
      exact ⟨Nat.zero_le _, [], .nil, IsTup.new _ _⟩

def wYj (K : PySem.W.Frag) : R2 := fun x y H Q => ∃ l b xs zs, x = .ref l ∧ y = .ref b ∧ LQ K H l xs ∧ LQ K H b zs ∧ xs.length + zs.length ≤ sizeLine ∧ ∀ p, H p = none → Q (.ref p) (upd H p (.lst (xs ++ zs)))
theorem wQp {X : Cx} : OpR X (binaryOp .Add) (wYj X.K) := by
  rintro pins s sg H x y v u Q I rx ry ⟨l, b, xs, zs, rfl, rfl, h1, h2, hz, q⟩
  cases rx
  cases ry
  obtain ⟨_, its, n, ra, la, ea⟩ := h1.at I
  obtain ⟨_, its', n', rb, lb, eb⟩ := h2.at I
  refine PySem.P.add_list ea eb ?_ (by simp only [List.size_toArray]; omega)
  rw [show its.toArray ++ its'.toArray = (its ++ its').toArray by simp]
  exact ⟨.ref _, _, I.lnew (t' := s.toks) (ra.append rb) (by simp only [List.length_append]; omega), rfl, q _ I.fresh⟩
def wYh (K : PySem.W.Frag) : R2 := fun x y H Q => ∃ l k xs, x = .ref l ∧ y = .int k ∧ LQ K H l xs ∧ -1000 ≤ k ∧ k ≤ 1000 ∧ xs.length ≤ 1000 ∧ ∀ p, H p = none → Q (.ref p) (upd H p (.lst (List.replicate k.toNat xs).flatten))
theorem xH9 (its : List Value) (k : Nat) : List.foldl (fun x1 x2 => x1 ++ x2) #[] (List.replicate (if its.toArray.isEmpty = true then 0 else k) its.toArray) = (List.replicate k its).flatten.toArray := by
  cases its with
  | nil =>
    rw [if_pos (by rfl), size_rep]
    simp
  | cons a r => rw [if_neg (by simp), size_rep]
theorem wQo {X : Cx} : OpR X (binaryOp .Mult) (wYh X.K) := by
  rintro pins s sg H x y v u Q I rx ry ⟨l, k, xs, rfl, rfl, h1, k0, k1, hz, q⟩
  cases rx
  obtain ⟨t, rfl⟩ := ry
  obtain ⟨_, its, n, ra, la, ea⟩ := h1.at I
  have ls := sizeLine_eq
  have big : its.length * k.toNat ≤ 1000 * 1000 := Nat.mul_le_mul (by omega) (by omega)
  have sz : its.toArray.size * k.toNat ≤ 1000000 := by simpa using big
  have c1 : ¬ its.toArray.size * k.toNat > (2 ^ 63 - 1) / 8 := by omega
  have c2 : ¬ (!Builtin.List.listFitsIndex k) = true := by
    rw [fitsIndex_both (by omega) (by omega)]
    simp
  have c3 : ¬ Builtin.List.listTooLong (its.toArray.size * k.toNat) = true := by
    rw [notLongL (by omega)]
    simp
  refine wpAny_binaryOp_repeat_ref (T := "list") (U := "int") (by decide) ⟨_, ea, rfl⟩ (fun s' => typeIs_int s' k t) noFill_list_mul F.fills_int_mul F.slot_int_rmul repeat_list F.slot_int_index.lookup
    (call_meets F.slot_int_rmul (typeIs_int s k t) F.entry_int_rmul (F.args_int_rmul_2 _ _) (int___rmul___int_list k t l its.toArray n)
      ⟨ea, rfl, ⟨_, ea, rfl⟩, call_meets F.slot_list_mul ⟨_, ea, rfl⟩ F.entry_list_mul (F.args_list_mul_2 _ _) (AutoListH.list___mul___list_int_3 l its.toArray n k t c2 c1 c3) ⟨ea, ?_⟩⟩)
  rw [xH9]
  exact ⟨.ref _, _, I.lnew (t' := s.toks) (ra.rep k.toNat) (by rw [PyProof.Rows.lm_len_rep_flat, Nat.mul_comm, la]; omega), rfl, q _ I.fresh⟩
def yUg (i j : Int) : Bool := (decide (-(2 ^ 64) < i) && decide (i < 2 ^ 64)) || (decide (-(2 ^ 64) < j) && decide (j < 2 ^ 64))
theorem wQv {i j : Int} (h : yUg i j = true) : CMul i j := by
  unfold yUg at h
  simp only [Bool.or_eq_true, Bool.and_eq_true, decide_eq_true_eq] at h
  exact h
def xX7 (i j : Int) : Bool := decide (0 ≤ j) && decide (j ≤ 1000000) && decide (i.natAbs < 2 ^ 64)
theorem wQi {i j : Int} (h : xX7 i j = true) : CPow i j := by
  unfold xX7 at h
  simp only [Bool.and_eq_true, decide_eq_true_eq] at h
  exact ⟨h.1.1, h.1.2, h.2⟩
def yQb (xs : List PyData) (k : Int) : Bool := decide (k ≤ 1000) && decide (-1000 ≤ k) && decide (xs.length ≤ 1000)
def yVh (op : Operator) (x y : PyData) : Option EV :=
  match op with
  | .Add => match x, y with
    | .int i, .int j => some (.d (.int (i + j)))
    | .str a, .str b => if a.length + b.length ≤ 16777216 then some (.d (.str (a ++ b))) else none
    | .tuple xs, .tuple ys => if xs.length + ys.length ≤ 16777216 then some (.d (.tuple (xs ++ ys))) else none
    | .list xs, .list ys => if xs.length + ys.length ≤ 16777216 then some (.fresh (xs ++ ys)) else none
    | _, _ => none
  | .Sub => match x, y with
    | .int i, .int j => some (.d (.int (i - j)))
    | _, _ => none
  | .Mult => match x, y with
    | .int i, .int j => if yUg i j then some (.d (.int (i * j))) else none
    | .tuple xs, .int k => if yQb xs k then some (.d (.tuple (List.replicate k.toNat xs).flatten)) else none
    | .list xs, .int k => if yQb xs k then some (.fresh (List.replicate k.toNat xs).flatten) else none
    | _, _ => none
  | .FloorDiv => match x, y with
    | .int i, .int j => if decide (0 < j) && decide (j < 1073741824) then some (.d (.int (i / j))) else none
    | _, _ => none
  | .Mod => match x, y with
    | .int i, .int j => if 0 < j then some (.d (.int (i % j))) else none
    | _, _ => none
  | .Pow => match x, y with
    | .int i, .int j => if xX7 i j then some (.d (.int (i ^ j.toNat))) else none
    | _, _ => none
  | _ => none
def xJs (w : Wd) : EV → V → Prop
  | .new _, x => ∀ a, x = .ref a → w.H a = none
  | _, _ => True
theorem xJs.back {w w1 : Wd} (f : FolE w w1) {v : EV} {x : V} (h : xJs w1 v x) : xJs w v x := by
  cases v with
  | new o => exact fun a e => Classical.byContradiction fun z => f.liv a z (h a e)
  | _ => trivial
def yJ3 (K : PySem.W.Frag) (w : Wd) (Q : VK) : EV → Mem → Prop := fun v m' => ∀ (w' : Wd) (x : V), w'.m = m' → w'.sg = w.sg → FolE w w' → Rep K w' → RE K w' v x → xJs w v x → Q x w'.H
theorem zVw.f {K : PySem.W.Frag} {w : Wd} {Q : VK} {v : EV} {m : Mem} (h : zVw K w Q v m) : yJ3 K w Q v m := fun w' x a b c d e _ => h w' x a b c d e
def xXp (K : PySem.W.Frag) (w : Wd) (v : EV) (Q : VK) : Prop := ∀ (w' : Wd) (x : V), w'.m = w.m → w'.sg = w.sg → FolE w w' → Rep K w' → RE K w' v x → xJs w v x → Q x w'.H
theorem xXp.here {K : PySem.W.Frag} {w : Wd} {v : EV} {Q : VK} (k : xXp K w v Q) (r : Rep K w) {x : V} (h : RE K w v x) (hn : xJs w v x := by trivial) : Q x w.H := k w x rfl rfl (FolE.refl w) r h hn
theorem xXp.tup {K : PySem.W.Frag} {w : Wd} {xs : List PyData} {Q : VK} (k : xXp K w (.d (.tuple xs)) Q) (r : Rep K w) {vs : List V} (a : RA K w.F xs vs) {p : Addr} (hp : w.H p = none) : Q (.ref p) (upd w.H p (.tup vs)) := by
  obtain ⟨r2, f2⟩ := yW6 r hp (.tup vs)
  exact k { w with F := upd w.F p (.tup vs), H := upd w.H p (.tup vs) } _ rfl rfl f2 r2 (yJv r hp a) trivial
theorem xXp.lst {K : PySem.W.Frag} {w : Wd} {xs : List PyData} {Q : VK} (k : xXp K w (.fresh xs) Q) (r : Rep K w) {vs : List V} (a : RA K w.F xs vs) {p : Addr} (hp : w.H p = none) : Q (.ref p) (upd w.H p (.lst vs)) := by
  obtain ⟨r2, f2⟩ := lay r hp (.lst vs)
  exact k { w with H := upd w.H p (.lst vs) } _ rfl rfl f2 r2 (yHa r hp a) fun b e => by cases e; exact hp
theorem xUl {α : Type} (n : Nat) (xs : List α) : (List.replicate n xs).flatten.length = n * xs.length := by
  induction n with
  | zero => simp
  | succ n ih => rw [List.replicate_succ, List.flatten_cons, List.length_append, ih, Nat.succ_mul, Nat.add_comm]
theorem RA.of_nil {K : PySem.W.Frag} {F : Hp} {ds : List PyData} (a : RA K F ds []) : ds = [] := by
  cases a
  rfl
theorem xHc {X : Cx} {op : Operator} {x y : PyData} {v : EV} {w : Wd} {a b : V} {Q : VK} (r : Rep X.K w) (ha : RN X.K w x a) (hb : RN X.K w y b) (e : yVh op x y = some v) (k : xXp X.K w v Q) : anyR X (binaryOp op) a b w.H Q := by
  have s := r.sub
  cases op <;> try (cases e; done)
  · -- Add
    cases x <;> try (cases e; done)
    · cases y <;> try (cases e; done)
      cases e
      rw [ha.int, hb.int]
      exact ⟨_, op_add, _, _, rfl, rfl, k.here r (.int _)⟩
    · cases y <;> try (cases e; done)
      unfold yVh at e
      dsimp only at e
      split at e
      · rename_i hl
        cases e
        rw [ha.str, hb.str]
        exact ⟨_, op_add_str, _, _, rfl, rfl, by rw [sizeLine_eq]; exact hl, k.here r (.str _)⟩
      · cases e
    · cases y <;> try (cases e; done)
      unfold yVh at e
      dsimp only at e
      split at e
      · rename_i hl
        cases e
        obtain ⟨l, vs, rfl, h1, a1⟩ := ha.lst s
        obtain ⟨l', vs', rfl, h2, a2⟩ := hb.lst s
        refine ⟨_, wQp, l, l', vs, vs', rfl, rfl, h1, h2, by rw [← a1.len, ← a2.len, sizeLine_eq]; exact hl, fun p hp => k.lst r (a1.app a2) hp⟩
      · cases e
    · cases y <;> try (cases e; done)
      unfold yVh at e
      dsimp only at e
      split at e
      · rename_i xs ys hl
        cases e
        obtain ⟨l, vs, rfl, h1, a1⟩ := ha.tup
        obtain ⟨l', vs', rfl, h2, a2⟩ := hb.tup
        refine ⟨_, op_catA, l, l', vs, vs', rfl, rfl, zXh s h1, zXh s h2, by rw [← a1.len, ← a2.len, sizeLine_eq]; exact hl, fun z => ?_, fun _ z => ?_, fun _ _ p hp => k.tup r (a1.app a2) hp⟩
        · subst z
          have := a1.of_nil
          subst this
          exact k.here r (.tup h2 a2)
        · subst z
          have := a2.of_nil
          subst this
          rw [List.append_nil] at k
          exact k.here r (.tup h1 a1)
      · cases e
  · -- Sub
    cases x <;> try (cases e; done)
    cases y <;> try (cases e; done)
    cases e
    rw [ha.int, hb.int]
    exact ⟨_, op_sub, _, _, rfl, rfl, k.here r (.int _)⟩
  · -- Mult
    cases x <;> try (cases e; done)
    · cases y <;> try (cases e; done)
      unfold yVh at e
      dsimp only at e
      split at e
      · rename_i hl
        cases e
        rw [ha.int, hb.int]
        exact ⟨_, op_mul, _, _, rfl, rfl, wQv hl, k.here r (.int _)⟩
      · cases e
    · cases y <;> try (cases e; done)
      unfold yVh at e
      dsimp only at e
      split at e
      · rename_i xs kk hl
        unfold yQb at hl
        simp only [Bool.and_eq_true, decide_eq_true_eq] at hl
        cases e
        obtain ⟨l, vs, rfl, h1, a1⟩ := ha.lst s
        rw [hb.int]
        exact ⟨_, wQo, l, kk, vs, rfl, rfl, h1, hl.1.2, hl.1.1, by rw [← a1.len]; exact hl.2, fun p hp => k.lst r (a1.rep _) hp⟩
      · cases e
    · cases y <;> try (cases e; done)
      unfold yVh at e
      dsimp only at e
      split at e
      · rename_i xs kk hl
        unfold yQb at hl
        simp only [Bool.and_eq_true, decide_eq_true_eq] at hl
        cases e
        obtain ⟨l, vs, rfl, h1, a1⟩ := ha.tup
        rw [hb.int]
        refine ⟨_, xY4, l, kk, vs, rfl, rfl, zXh s h1, hl.1.1, hl.1.2, by rw [← a1.len]; exact hl.2, fun z => ?_, fun _ p hp => k.tup r (a1.rep _) hp⟩
        rcases z with z | z
        · subst z
          have := a1.of_nil
          subst this
          have e0 : (List.replicate kk.toNat ([] : List PyData)).flatten = [] := List.eq_nil_of_length_eq_zero (by rw [xUl]; rfl)
          rw [e0] at k
          exact k.here r (.tup h1 .nil)
        · subst z
          have e0 : (List.replicate (1 : Int).toNat xs).flatten = xs := by simp
          rw [e0] at k
          exact k.here r (.tup h1 a1)
      · cases e
  · -- Mod
    cases x <;> try (cases e; done)
    cases y <;> try (cases e; done)
    unfold yVh at e
    dsimp only at e
    split at e
    · rename_i hl
      cases e
      rw [ha.int, hb.int]
      exact ⟨_, op_mod, _, _, rfl, rfl, hl, k.here r (.int _)⟩
    · cases e
  · -- Pow
    cases x <;> try (cases e; done)
    cases y <;> try (cases e; done)
    unfold yVh at e
    dsimp only at e
    split at e
    · rename_i hl
      cases e
      rw [ha.int, hb.int]
      exact ⟨_, op_pow, _, _, rfl, rfl, wQi hl, k.here r (.int _)⟩
    · cases e
  · -- FloorDiv
    cases x <;> try (cases e; done)
    cases y <;> try (cases e; done)
    unfold yVh at e
    dsimp only at e
    split at e
    · rename_i hl
      simp only [Bool.and_eq_true, decide_eq_true_eq] at hl
      cases e
      rw [ha.int, hb.int]
      exact ⟨_, op_fdiv, _, _, rfl, rfl, hl, k.here r (.int _)⟩
    · cases e
end Ev

namespace Ev
open PySem PySem.Spec PyProof.Rows L2

def SM (base : Heap) : Prop := ∃ o es ep, base.get? sysModules = some o ∧ o.data = .dict es ep
def xWt (K : PySem.W.Frag) (w : Wd) (x : Exn) (cls : Value) (d : Option Addr) : Prop := ∃ C, zH0 K x.cls C ∧ cls = .ref C ∧ ((x.fs = [] ∧ d = none) ∨ ∃ dd vs, d = some dd ∧ w.F dd = some (.xd vs) ∧ RF K w.F (zXt x.fs) vs)
def WXB (K : PySem.W.Frag) (B : XBt) : WX := fun cls d sg H => ∃ (x : Exn) (w' : Wd), Rep K w' ∧ w'.sg = sg ∧ w'.H = H ∧ xWt K w' x cls d ∧ B x w'
abbrev B0 : XBt := fun _ _ => False
structure Ctx (X : Cx) (B : XBt) : Prop where
  calm : X.calm = true
  gd : X.A.guards = some []
  rm : Room 0 X.A
  nd : X.N.Nodup
  sm : SM X.base
  tk : Takes X (WXB X.K B)
theorem xYb {X : Cx} : Takes X (WXB X.K B0) := fun u s' ⟨_, _, _, _, _, _, _, _, _, _, _, _, _, _, _, _, _, _, _, _, _, _, h⟩ => h.elim

section
variable {X : Cx} {B : XBt} {a b c e : Expr} {fa fb fc : Pg EV} {pos : Pos}

def two (g : PyData → PyData → Pg EV) (o1 o2 : OV) : Pg EV := look o1 fun x => look o2 fun y => g x y
def zXu (op : Operator) (fa fb : Pg EV) : Pg EV := .bind fa fun v => .bind fb fun u => two (fun x y => zK5 (yVh op x y)) (zKn v) (zKn u)
theorem wXj {g : PyData → PyData → Pg EV} {o1 o2 : OV} {m : Mem} {P : EV → Mem → Prop} {E : Exn → Mem → Prop} (h : (two g o1 o2 m).wp P E) : ∃ x y, lk o1 m = some x ∧ lk o2 m = some y ∧ (g x y m).wp P E := by
  obtain ⟨x, e1, h⟩ := zXs h
  obtain ⟨y, e2, h⟩ := zXs h
  exact ⟨x, y, e1, e2, h⟩
theorem zVw.keep {K : PySem.W.Frag} {w w1 : Wd} {Q : VK} {v : EV} (q : zVw K w Q v w1.m) (e1 : w1.sg = w.sg) (f1 : FolE w w1) : xXp K w1 v Q := fun w' x em es f r re _ => q w' x em (es.trans e1) (f1.trans f) r re
theorem zZd {op : Operator} (ha : Snd X B a fa) (hb : Snd X B b fb) : Snd X B (.BinOp a op b pos) (zXu op fa fb) := by
  intro w Q r h
  refine zKp (pe_op yKe zYf zYf) ?_
  refine zQ0 ha r h fun v w1 x e1 f1 r1 re h1 => ?_
  rw [← e1]
  refine zQ0 hb r1 h1 fun u w2 y e2 f2 r2 re2 h2 => ?_
  obtain ⟨d1, d2, q1, q2, h3⟩ := wXj h2
  obtain ⟨z, ez, q⟩ := zX2 h3
  have o1 := ((re.ro r1).fol r1 f2).rn r2 q1
  have o2 := (re2.ro r2).rn r2 q2
  exact xHc r2 o1 o2 ez (zVw.keep q (e2.trans e1) (f1.trans f2))

def xQk : PyData → PyData → Bool
  | .int i, .int j => decide (i = j)
  | .str a, .str b => decide (a = b)
  | _, _ => false
def yHp (es : List (PyData × PyData)) (k : PyData) : Option PyData := (es.find? fun p => xQk p.1 k).map (·.2)
def wZh (es : List (PyData × PyData)) (k v : PyData) : List (PyData × PyData) := if es.any (fun p => xQk p.1 k) then es.map (fun p => if xQk p.1 k then (p.1, v) else p) else es ++ [(k, v)]
theorem yJw {k : PyData} (h : zGc k = true) : ∃ kk, k = yVq kk := by
  cases k with
  | int i => exact ⟨.inl i, rfl⟩
  | str x => exact ⟨.inr x, rfl⟩
  | _ => cases h
theorem yKr (a b : Key) : xQk (yVq a) (yVq b) = decide (a = b) := by
  cases a <;> cases b <;> simp [yVq, xQk]
theorem RK.val {K : PySem.W.Frag} {F : Hp} : ∀ {es : List (PyData × PyData)} {kvs : List (Key × V)}, RK K F es kvs → ∀ (kk : Key), (∀ d, yHp es (yVq kk) = some d → ∃ v, valV kvs kk = some v ∧ R K F d v) ∧ (yHp es (yVq kk) = none → valV kvs kk = none)
  | _, _, .nil, kk => ⟨fun d h => by simp [yHp] at h, fun _ => rfl⟩
  | _, _, .cons (k := k) (d := d0) (es := es) (v := v0) (kvs := kvs) h t, kk => by
    obtain ⟨h1, h2⟩ := RK.val t kk
    by_cases e : k = kk
    · have e1 : yHp ((yVq k, d0) :: es) (yVq kk) = some d0 := by simp [yHp, yKr, e]
      have e2 : valV ((k, v0) :: kvs) kk = some v0 := valV_pos (p := (k, v0)) e
      rw [e1, e2]
      exact ⟨fun d z => by cases z; exact ⟨_, rfl, h⟩, fun z => by cases z⟩
    · have e1 : yHp ((yVq k, d0) :: es) (yVq kk) = yHp es (yVq kk) := by simp [yHp, yKr, e]
      have e2 : valV ((k, v0) :: kvs) kk = valV kvs kk := by simp [valV, e]
      rw [e1, e2]
      exact ⟨h1, h2⟩
theorem RK.app {K : PySem.W.Frag} {F : Hp} : ∀ {es fs : List (PyData × PyData)} {kvs lvs : List (Key × V)}, RK K F es kvs → RK K F fs lvs → RK K F (es ++ fs) (kvs ++ lvs)
  | _, _, _, _, .nil, b => b
  | _, _, _, _, .cons h a, b => .cons h (RK.app a b)
theorem RK.any {K : PySem.W.Frag} {F : Hp} : ∀ {es : List (PyData × PyData)} {kvs : List (Key × V)}, RK K F es kvs → ∀ (kk : Key), es.any (fun p => xQk p.1 (yVq kk)) = kvs.any fun p => decide (p.1 = kk)
  | _, _, .nil, kk => rfl
  | _, _, .cons (k := k) _ t, kk => by
    rw [List.any_cons, List.any_cons, RK.any t kk, yKr]
theorem RK.rep {K : PySem.W.Frag} {F : Hp} {d : PyData} {v : V} (hd : R K F d v) : ∀ {es : List (PyData × PyData)} {kvs : List (Key × V)}, RK K F es kvs → ∀ (kk : Key), RK K F (es.map fun p => if xQk p.1 (yVq kk) then (p.1, d) else p) (kvs.map fun p => if p.1 = kk then (p.1, v) else p)
  | _, _, .nil, kk => .nil
  | _, _, .cons (k := k) h t, kk => by
    rw [List.map_cons, List.map_cons]
    by_cases e : k = kk
    · simp only [yKr, e, decide_true, if_true]
      exact .cons hd (RK.rep hd t kk)
    · simp only [yKr, e, decide_false, if_false]
      exact .cons h (RK.rep hd t kk)
theorem RK.put {K : PySem.W.Frag} {F : Hp} {es : List (PyData × PyData)} {kvs : List (Key × V)} {d : PyData} {v : V} (h : RK K F es kvs) (hd : R K F d v) (kk : Key) : RK K F (wZh es (yVq kk) d) (putK kvs kk v) := by
  unfold wZh putK
  rw [h.any kk]
  by_cases e : (kvs.any fun p => decide (p.1 = kk)) = true
  · rw [if_pos e, if_pos e]
    exact h.rep hd kk
  · rw [if_neg e, if_neg e]
    exact h.app (.cons hd .nil)
theorem yKq {K : PySem.W.Frag} {w : Wd} {kk : Key} {v : V} (h : RN K w (yVq kk) v) : v = kV kk := by
  cases kk with
  | inl i => exact RN.int h
  | inr x => exact RN.str h

def intsOf : List PyData → Option (List Int)
  | [] => some []
  | .int i :: r => (intsOf r).map (i :: ·)
  | _ => none
theorem yQ2 : ∀ {xs : List PyData} {ns : List Int}, intsOf xs = some ns → xs = ns.map .int
  | [], ns, e => by cases e; rfl
  | .int i :: r, ns, e => by
    unfold intsOf at e
    cases q : intsOf r with
    | none =>
      rw [q] at e
      cases e
    | some ms =>
      rw [q] at e
      cases e
      rw [yQ2 q]
      rfl
  | .none :: _, _, e => by cases e
  | .bool _ :: _, _, e => by cases e
  | .str _ :: _, _, e => by cases e
  | .list _ :: _, _, e => by cases e
  | .tuple _ :: _, _, e => by cases e
  | .dict _ :: _, _, e => by cases e
@[simp] theorem yZi : ∀ ns : List Int, intsOf (ns.map .int) = some ns
  | [] => rfl
  | n :: ns => by
    rw [List.map_cons]
    unfold intsOf
    rw [yZi ns]
    rfl
theorem RA.intsV {K : PySem.W.Frag} {F : Hp} : ∀ {ns : List Int} {vs : List V}, RA K F (ns.map .int) vs → vs = ns.map V.int
  | [], _, .nil => rfl
  | n :: ns, _, .cons h t => by
    cases h
    rw [RA.intsV t]
    rfl
def ltL : List Int → List Int → Bool
  | [], [] => false
  | [], _ :: _ => true
  | _ :: _, [] => false
  | x :: xs, y :: ys => if x = y then ltL xs ys else decide (x < y)
theorem xG1 {ns ms : List Int} : ∀ (k i : Nat), i + k = min ns.length ms.length → Ob.lexAt (fun j => decide (ns.getD j 0 = ms.getD j 0)) (fun j => decide (ns.getD j 0 < ms.getD j 0)) (decide (ns.length < ms.length)) i k = ltL (ns.drop i) (ms.drop i)
  | 0, i, h => by
    rw [Ob.lexAt_zero]
    have h1 : i ≤ ns.length := by omega
    have h2 : i ≤ ms.length := by omega
    by_cases q : ns.length < ms.length
    · have e1 : ns.drop i = [] := List.drop_eq_nil_of_le (by omega)
      have e2 : ms.drop i = ms[i] :: ms.drop (i + 1) := List.drop_eq_getElem_cons (by omega)
      rw [e1, e2, decide_eq_true q]
      rfl
    · have e2 : ms.drop i = [] := List.drop_eq_nil_of_le (by omega)
      rw [e2, decide_eq_false q]
      cases ns.drop i <;> rfl
  | k + 1, i, h => by
    have h1 : i < ns.length := by omega
    have h2 : i < ms.length := by omega
    rw [Ob.lexAt_succ, xG1 k (i + 1) (by omega), List.drop_eq_getElem_cons h1, List.drop_eq_getElem_cons h2]
    have g1 : ns.getD i 0 = ns[i] := by simp [h1]
    have g2 : ms.getD i 0 = ms[i] := by simp [h2]
    rw [g1, g2]
    show _ = if ns[i] = ms[i] then ltL (ns.drop (i + 1)) (ms.drop (i + 1)) else decide (ns[i] < ms[i])
    by_cases q : ns[i] = ms[i]
    · rw [if_pos (decide_eq_true q), if_pos q]
    · rw [if_neg (by simpa using q), if_neg q]
def rLtT (K : PySem.W.Frag) : R2 := fun x y H Q => ∃ (a b : Addr) (ns ms : List Int), x = .ref a ∧ y = .ref b ∧ SqT K H a (ns.map V.int) ∧ SqT K H b (ms.map V.int) ∧ Q (.bl (ltL ns ms)) H
theorem op_ltT {X : Cx} (hu : X.A.units < cLine) : OpR X (compareOp .Lt) (rLtT X.K) := by
  intro pins s σ H x y v u Q I rx ry h
  obtain ⟨a, b, ns, ms, rfl, rfl, ha, hb, q⟩ := h
  cases rx
  cases ry
  obtain ⟨its, r1, p1, _⟩ := I.tuple ha
  obtain ⟨its2, r2, p2, _⟩ := I.tuple hb
  have i1 : IntsAre its ns := Vals.ints r1
  have i2 : IntsAre its2 ms := Vals.ints r2
  have e1 : its.toArray.size = ns.length := by rw [List.size_toArray]; exact i1.length
  have e2 : its2.toArray.size = ms.length := by rw [List.size_toArray]; exact i2.length
  have at1 : ∀ j (h1 : j < its.toArray.size), ∃ t, its.toArray[j] = .int (ns.getD j 0) t := fun j h1 => PyProof.Rows.IntsAre.int_at i1 _ _ (by simp at h1; simp [h1])
  have at2 : ∀ j (h1 : j < its2.toArray.size), ∃ t, its2.toArray[j] = .int (ms.getD j 0) t := fun j h1 => PyProof.Rows.IntsAre.int_at i2 _ _ (by simp at h1; simp [h1])
  have R := Ob.RcOp.tuples_lt (A := X.A) (s := s) (e := fun j => decide (ns.getD j 0 = ms.getD j 0)) (r := fun j => decide (ns.getD j 0 < ms.getD j 0)) p1 p2 hu (fun j h1 h2 => by
    obtain ⟨t, et⟩ := at1 j h1
    obtain ⟨t', et'⟩ := at2 j h2
    rw [et, et']
    have z : (ns.getD j 0 == ms.getD j 0) = decide (ns.getD j 0 = ms.getD j 0) := by
      by_cases q : ns.getD j 0 = ms.getD j 0
      · rw [decide_eq_true q]; exact beq_iff_eq.mpr q
      · rw [decide_eq_false q]; exact beq_eq_false_iff_ne.mpr q
    rw [← z]
    exact SeqAt.EqAt.int_int _ _ _ _) (fun j h1 h2 _ => by
    obtain ⟨t, et⟩ := at1 j h1
    obtain ⟨t', et'⟩ := at2 j h2
    rw [et, et']
    exact Ob.RcOp.lt_int _ _ _ _)
  rw [e1, e2, xG1 _ 0 (by omega)] at R
  have z : wpAny (model X.prog X.w) X.A (compareOp .Lt (.ref a) (.ref b)) (EP X pins σ Q) X.xe s := R X.prog X.w X.xe (EP X pins σ Q) ⟨.bl _, H, I, rfl, q⟩
  exact z
def zGy : PyData → Bool
  | .none => true
  | .bool _ => true
  | .int _ => true
  | .str _ => true
  | _ => false
theorem yHh {K : PySem.W.Frag} {F : Hp} {x : PyData} {v : V} (h : R K F x v) (f : zGy x = true) : flatV v = true := by
  cases h <;> first | rfl | simp [zGy] at f
theorem yQ6 {K : PySem.W.Frag} {w : Wd} {x : PyData} {v : V} (h : RN K w x v) (f : zGy x = true) : R K w.F x v := by
  rcases h with h | ⟨_, o, e, _⟩
  · exact h
  · subst e
    cases o <;> simp [dOf, yJx, zGy] at f
theorem wQ9 {K : PySem.W.Frag} {F F' : Hp} {x y : PyData} {v u : V} (h : R K F x v) (g : R K F' y u) (f : zGy x = true) (f' : zGy y = true) : eqV v u = PyData.eqv x y := by
  cases h <;> first | (simp [zGy] at f; done) | skip
  all_goals (cases g <;> first | (simp [zGy] at f'; done) | simp [eqV, PyData.eqv])
theorem yX6 {K : PySem.W.Frag} {F F' : Hp} {x : PyData} {v : V} (h : R K F' x v) (f : zGy x = true) : ∀ {ys : List PyData} {vs : List V}, RA K F ys vs → ys.all zGy = true → vs.all flatV = true ∧ inV v vs = ys.any fun z => PyData.eqv z x
  | [], _, .nil, _ => ⟨rfl, rfl⟩
  | y :: ys, _, .cons g t, e => by
    rw [List.all_cons, Bool.and_eq_true] at e
    obtain ⟨h1, h2⟩ := yX6 h f t e.2
    unfold inV at h2 ⊢
    exact ⟨by rw [List.all_cons, yHh g e.1, h1]; rfl, by rw [List.any_cons, List.any_cons, h2, wQ9 g h e.1 f]⟩
def inQ (x : PyData) (ys : List PyData) : Option Bool := if (zGy x && ys.all zGy) || (SeqAt.shaped x && PyData.canLayAll0 ys) then some (ys.any fun z => PyData.eqv z x) else none
def vZt (K : PySem.W.Frag) : R2 := fun x y H Q => ∃ (a b : Addr) (xs ys : List V) (k : Bool), x = .ref a ∧ y = .ref b ∧ ((SqT K H a xs ∧ SqT K H b [] ∧ k = xs.isEmpty) ∨ (SqL K H a xs ∧ SqL K H b ys ∧ xs.length ≠ ys.length ∧ k = false)) ∧ Q (.bl k) H
def vZs (K : PySem.W.Frag) : R2 := fun x y H Q => ∃ (a b : Addr) (xs ys : List V) (k : Bool), x = .ref a ∧ y = .ref b ∧ ((SqT K H a xs ∧ SqT K H b [] ∧ k = xs.isEmpty) ∨ (SqL K H a xs ∧ SqL K H b ys ∧ xs.length ≠ ys.length ∧ k = false)) ∧ Q (.bl (!k)) H
theorem wJf {X : Cx} (hu : X.A.units < cLine) : OpR X (compareOp .Eq) (vZt X.K) := by
  intro pins s σ H x y v u Q I rx ry h
  obtain ⟨a, b, xs, ys, k, rfl, rfl, h, q⟩ := h
  cases rx
  cases ry
  rcases h with ⟨ha, hb, rfl⟩ | ⟨ha, hb, hl, rfl⟩
  · obtain ⟨its, r1, p1, _⟩ := I.tuple ha
    obtain ⟨its2, r2, p2, _⟩ := I.tuple hb
    cases r2
    have R := SeqAt.RcAt.tuples (A := X.A) (s := s) (e := fun _ => true) p1 p2 hu (fun j h1 h2 => absurd h2 (by simp))
    have e : ((List.range (min its.toArray.size ([] : List Value).toArray.size)).all (fun _ => true) && its.toArray.size == ([] : List Value).toArray.size) = xs.isEmpty := by
      cases r1 <;> simp
    rw [e] at R
    have z : wpAny (model X.prog X.w) X.A (compareOp .Eq (.ref a) (.ref b)) (EP X pins σ Q) X.xe s := R X.prog X.w X.xe (EP X pins σ Q) ⟨.bl _, H, I, rfl, q⟩
    exact z
  · obtain ⟨its, r1, p1, _⟩ := I.list ha
    obtain ⟨its2, r2, p2, _⟩ := I.list hb
    have R := SeqAt.RcAt.lists_lengths (A := X.A) (s := s) p1.isList p2.isList (by
      have h1 := r1.length
      have h2 := r2.length
      simp
      omega) hu
    have z : wpAny (model X.prog X.w) X.A (compareOp .Eq (.ref a) (.ref b)) (EP X pins σ Q) X.xe s := R X.prog X.w X.xe (EP X pins σ Q) ⟨.bl _, H, I, rfl, q⟩
    exact z
theorem wJb {X : Cx} (hu : X.A.units < cLine) : OpR X (compareOp .NotEq) (vZs X.K) := by
  intro pins s σ H x y v u Q I rx ry h
  obtain ⟨a, b, xs, ys, k, rfl, rfl, h, q⟩ := h
  cases rx
  cases ry
  rcases h with ⟨ha, hb, rfl⟩ | ⟨ha, hb, hl, rfl⟩
  · obtain ⟨its, r1, p1, _⟩ := I.tuple ha
    obtain ⟨its2, r2, p2, _⟩ := I.tuple hb
    cases r2
    have R := SeqAt.RcNeAt.tuples (A := X.A) (s := s) (e := fun _ => true) p1 p2 hu (fun j h1 h2 => absurd h2 (by simp))
    have e : ((List.range (min its.toArray.size ([] : List Value).toArray.size)).all (fun _ => true) && its.toArray.size == ([] : List Value).toArray.size) = xs.isEmpty := by
      cases r1 <;> simp
    rw [e] at R
    have z : wpAny (model X.prog X.w) X.A (compareOp .NotEq (.ref a) (.ref b)) (EP X pins σ Q) X.xe s := R X.prog X.w X.xe (EP X pins σ Q) ⟨.bl _, H, I, rfl, q⟩
    exact z
  · obtain ⟨its, r1, p1, _⟩ := I.list ha
    obtain ⟨its2, r2, p2, _⟩ := I.list hb
    have R := SeqAt.RcNeAt.lists_lengths (A := X.A) (s := s) p1.isList p2.isList (by
      have h1 := r1.length
      have h2 := r2.length
      simp
      omega) hu
    have z : wpAny (model X.prog X.w) X.A (compareOp .NotEq (.ref a) (.ref b)) (EP X pins σ Q) X.xe s := R X.prog X.w X.xe (EP X pins σ Q) ⟨.bl _, H, I, rfl, q⟩
    exact z
def eqQ (x y : PyData) : Option Bool :=
  match x, y with
  | .list xs, .list ys => if xs.length ≠ ys.length then some false else if SeqAt.shaped (.list xs) && SeqAt.shaped (.list ys) then some (PyData.eqv (.list xs) (.list ys)) else none
  | .tuple xs, .tuple [] => some xs.isEmpty
  | x, y => if SeqAt.shaped x && SeqAt.shaped y then some (PyData.eqv x y) else none
def zW9 : PyData → Bool
  | .none => true
  | _ => false
def zKu (op : CmpOp) (x y : PyData) : Option Bool :=
  match op with
  | .Eq => match x, y with
    | .str a, .str b => some (decide (a = b))
    | x, y => eqQ x y
  | .NotEq => match x, y with
    | .str a, .str b => some (!decide (a = b))
    | x, y => (eqQ x y).map (!·)
  | .Lt => match x, y with
    | .int i, .int j => some (decide (i < j))
    | .tuple xs, .tuple ys => match intsOf xs, intsOf ys with
      | some ns, some ms => some (ltL ns ms)
      | _, _ => none
    | _, _ => none
  | .LtE => match x, y with
    | .int i, .int j => some (decide (i ≤ j))
    | _, _ => none
  | .Gt => match x, y with
    | .int i, .int j => some (decide (j < i))
    | _, _ => none
  | .GtE => match x, y with
    | .int i, .int j => some (decide (j ≤ i))
    | _, _ => none
  | .Is => match y with
    | .none => some (zW9 x)
    | .bool j => match x with
      | .bool i => some (decide (i = j))
      | _ => none
    | _ => none
  | .IsNot => match y with
    | .none => some (!zW9 x)
    | .bool j => match x with
      | .bool i => some (!decide (i = j))
      | _ => none
    | _ => none
  | .In => match y with
    | .tuple ys => inQ x ys
    | .list ys => inQ x ys
    | .str t => match x with
      | .str s => some (!(Builtin.Str.occurrences t s 0 t.length 1).isEmpty)
      | _ => none
    | .dict es => if zZo es && zGc x then some (yHp es x).isSome else none
    | _ => none
  | .NotIn => match y with
    | .tuple ys => (inQ x ys).map (!·)
    | .list ys => (inQ x ys).map (!·)
    | .str t => match x with
      | .str s => some (!(!(Builtin.Str.occurrences t s 0 t.length 1).isEmpty))
      | _ => none
    | .dict es => if zZo es && zGc x then some (!(yHp es x).isSome) else none
    | _ => none
theorem xV8 {K : PySem.W.Frag} {w : Wd} {x : PyData} {v : V} (h : RN K w x v) : zW9 x = decide (v = .non) := by
  rcases h with h | ⟨_, o, rfl, rfl, _⟩
  · cases h <;> simp [zW9]
  · cases o <;> simp [zW9, dOf, yJx]
theorem RN.dp {K : PySem.W.Frag} {w : Wd} (s : zG7 w.F w.H) {x : PyData} {v : V} (h : RN K w x v) (c : x.canLay0 = true) : Dp K w.H v x := by
  rcases h with h | ⟨a, o, rfl, rfl, h⟩
  · exact h.dp s c
  · cases o with
    | lst xs =>
      obtain ⟨vs, h1, h2⟩ := h
      exact .lst (LQ.of h1).sq (RA.dp s h2 (by simpa [dOf, PyData.canLay0] using c))
    | dic es => simp [dOf, PyData.canLay0] at c
    | ins c' fs => simp [dOf, yJx, PyData.canLay0] at c
theorem yUo {A : Around} {xs : List PyData} {d : PyData} (h : SeqAt.shaped d = true) (hu : A.units + 65 < cLine) : A.units + 1 + min (PyData.depthAll xs) d.depth < cLine := by
  have := SeqAt.depth_of_shaped h
  have : min (PyData.depthAll xs) d.depth ≤ d.depth := Nat.min_le_right _ _
  omega
def wHg (K : PySem.W.Frag) (neg : Bool) : R2 := fun x y H Q => ∃ d ds, Dp K H x d ∧ (Dp K H y (.tuple ds) ∨ Dp K H y (.list ds)) ∧ SeqAt.shaped d = true ∧ PyData.canLayAll0 ds = true ∧ Q (.bl (if neg then !ds.any fun z => PyData.eqv z d else ds.any fun z => PyData.eqv z d)) H
theorem xGu (hu : X.A.units + 65 < cLine) : OpR X (compareOp .In) (wHg X.K false) := by
  intro pins s sg H x y v u Q I rx ry h
  obtain ⟨d, ds, hd, he, sd, se, q⟩ := h
  obtain ⟨as, r1⟩ := Dp.reads I d x v hd rx
  rcases he with he | he
  · obtain ⟨bs, r2⟩ := Dp.reads I (.tuple ds) y u he ry
    exact SeqAt.in_tuple_reads r2 r1 se (SeqAt.canLay_of_shaped sd) (yUo sd hu) ⟨.bl _, H, I, rfl, q⟩
  · obtain ⟨bs, r2⟩ := Dp.reads I (.list ds) y u he ry
    exact SeqAt.in_list_reads r2 r1 se (SeqAt.canLay_of_shaped sd) (yUo sd hu) ⟨.bl _, H, I, rfl, q⟩
theorem yGw (hu : X.A.units + 65 < cLine) : OpR X (compareOp .NotIn) (wHg X.K true) := by
  intro pins s sg H x y v u Q I rx ry h
  obtain ⟨d, ds, hd, he, sd, se, q⟩ := h
  obtain ⟨as, r1⟩ := Dp.reads I d x v hd rx
  rcases he with he | he
  · obtain ⟨bs, r2⟩ := Dp.reads I (.tuple ds) y u he ry
    exact SeqAt.notIn_tuple_reads r2 r1 se (SeqAt.canLay_of_shaped sd) (yUo sd hu) ⟨.bl _, H, I, rfl, q⟩
  · obtain ⟨bs, r2⟩ := Dp.reads I (.list ds) y u he ry
    exact SeqAt.notIn_list_reads r2 r1 se (SeqAt.canLay_of_shaped sd) (yUo sd hu) ⟨.bl _, H, I, rfl, q⟩
def wHh (neg : Bool) : R2 := fun x y H Q => ∃ a kvs k, x = kV k ∧ y = .ref a ∧ H a = some (.dK kvs) ∧ Q (.bl (if neg then !(valV kvs k).isSome else (valV kvs k).isSome)) H
theorem wJd (hu : X.A.units + 1 < cLine) : OpR X (compareOp .In) (wHh false) := by
  intro pins s sg H x y v u Q I rx ry ⟨a, kvs, k, ex, ey, h, q⟩
  subst ex ey
  obtain rfl : u = Value.ref a := ry
  exact d_in hu I (DGet.k h) rx fun s' I' => ⟨.bl _, H, I', rfl, q⟩
theorem xV3 (hu : X.A.units + 1 < cLine) : OpR X (compareOp .NotIn) (wHh true) := by
  intro pins s sg H x y v u Q I rx ry ⟨a, kvs, k, ex, ey, h, q⟩
  subst ex ey
  obtain rfl : u = Value.ref a := ry
  exact d_notIn hu I (DGet.k h) rx fun s' I' => ⟨.bl _, H, I', rfl, q⟩
theorem RK.isSome {K : PySem.W.Frag} {F : Hp} {es : List (PyData × PyData)} {kvs : List (Key × V)} (h : RK K F es kvs) (kk : Key) : (yHp es (yVq kk)).isSome = (valV kvs kk).isSome := by
  obtain ⟨h1, h2⟩ := h.val kk
  cases e : yHp es (yVq kk) with
  | none => rw [h2 e] <;> rfl
  | some d =>
    obtain ⟨v, e2, _⟩ := h1 d e
    rw [e2] <;> rfl
theorem Ctx.u1 (C : Ctx X B) : X.A.units + 1 < cLine := by have := C.rm.un; omega
theorem Ctx.u64 (C : Ctx X B) : X.A.units + 64 < cLine := by have := C.rm.un; omega
theorem Ctx.u65 (C : Ctx X B) : X.A.units + 65 < cLine := by have := C.rm.un; omega
theorem xG7 {x y : PyData} {k : Bool} {w : Wd} {u v : V} {T : Bool → Prop} {G : Prop} (C : Ctx X B) (r : Rep X.K w) (ha : RN X.K w x u) (hb : RN X.K w y v) (e : eqQ x y = some k)
    (h1 : ∀ d e, Dp X.K w.H u d → Dp X.K w.H v e → SeqAt.shaped d = true → SeqAt.shaped e = true → T (PyData.eqv d e) → G)
    (h2 : (∃ (a b : Addr) (xs ys : List V) (k : Bool), u = .ref a ∧ v = .ref b ∧ ((SqT X.K w.H a xs ∧ SqT X.K w.H b [] ∧ k = xs.isEmpty) ∨ (SqL X.K w.H a xs ∧ SqL X.K w.H b ys ∧ xs.length ≠ ys.length ∧ k = false)) ∧ T k) → G) (q : T k) : G := by
  have s := r.sub
  have shp : ∀ {d : PyData}, SeqAt.shaped d = true → d.canLay0 = true := fun h => SeqAt.canLay_of_shaped h
  unfold eqQ at e
  split at e
  · rename_i xs ys
    obtain ⟨a, vs, rfl, g1, g2⟩ := ha.lst s
    obtain ⟨b, ws, rfl, g3, g4⟩ := hb.lst s
    split at e
    · rename_i hl
      cases e
      exact h2 ⟨a, b, vs, ws, false, rfl, rfl, .inr ⟨g1.sq, g3.sq, by rw [← g2.len, ← g4.len]; exact hl, rfl⟩, q⟩
    · split at e
      · rename_i hs
        simp only [Bool.and_eq_true] at hs
        cases e
        exact h1 _ _ (ha.dp s (shp hs.1)) (hb.dp s (shp hs.2)) hs.1 hs.2 q
      · cases e
  · rename_i xs
    cases e
    obtain ⟨a, vs, rfl, g1, g2⟩ := ha.tup
    obtain ⟨b, ws, rfl, g3, g4⟩ := hb.tup
    cases g4
    refine h2 ⟨a, b, vs, [], _, rfl, rfl, .inl ⟨zXh s g1, zXh s g3, rfl⟩, ?_⟩
    cases g2 <;> exact q
  · split at e
    · rename_i hs
      simp only [Bool.and_eq_true] at hs
      cases e
      exact h1 _ _ (ha.dp s (shp hs.1)) (hb.dp s (shp hs.2)) hs.1 hs.2 q
    · cases e
theorem yHr {op : CmpOp} {x y : PyData} {k : Bool} {w : Wd} {u v : V} {Q : VK} (C : Ctx X B) (r : Rep X.K w) (ha : RN X.K w x u) (hb : RN X.K w y v) (e : zKu op x y = some k) (q : Q (.bl k) w.H) : anyR X (compareOp op) u v w.H Q := by
  have s := r.sub
  have shp : ∀ {d : PyData}, SeqAt.shaped d = true → d.canLay0 = true := fun h => SeqAt.canLay_of_shaped h
  cases op
  · -- Eq
    unfold zKu at e
    dsimp only at e
    split at e
    · rename_i a b
      cases e
      rw [ha.str, hb.str]
      exact ⟨_, op_eq, rfl, by rw [show decide (V.str a = V.str b) = decide (a = b) from by simp]; exact q⟩
    · exact xG7 C r ha hb e (fun d e h1 h2 h3 h4 q => ⟨_, op_eqD C.u64, d, e, h1, h2, h3, h4, q⟩) (fun h => ⟨_, wJf (by have := C.u64; omega), h⟩) q
  · unfold zKu at e
    dsimp only at e
    split at e
    · rename_i a b
      cases e
      rw [ha.str, hb.str]
      exact ⟨_, op_ne, rfl, by rw [show decide (V.str a = V.str b) = decide (a = b) from by simp]; exact q⟩
    · cases e1 : eqQ x y with
      | none =>
        rw [e1] at e
        cases e
      | some k0 =>
        rw [e1] at e
        cases e
        exact xG7 C r ha hb e1 (fun d e h1 h2 h3 h4 q => ⟨_, op_neD C.u64, d, e, h1, h2, h3, h4, q⟩) (fun h => ⟨_, wJb (by have := C.u64; omega), h⟩) q
  · cases x <;> try (cases e; done)
    all_goals (cases y <;> try (cases e; done))
    · cases e
      rw [ha.int, hb.int]
      exact ⟨_, op_lt, _, _, rfl, rfl, q⟩
    · rename_i xs ys
      have e : (match intsOf xs, intsOf ys with
        | some ns, some ms => some (ltL ns ms)
        | _, _ => none) = some k := e
      split at e
      · rename_i ns ms e1 e2
        cases e
        obtain ⟨a, vs, rfl, h1, h2⟩ := ha.tup
        obtain ⟨b, us, rfl, h3, h4⟩ := hb.tup
        rw [yQ2 e1] at h2
        rw [yQ2 e2] at h4
        have q1 := h2.intsV
        have q2 := h4.intsV
        subst q1 q2
        exact ⟨_, op_ltT (by have := C.rm.un; omega), a, b, ns, ms, rfl, rfl, zXh s h1, zXh s h3, q⟩
      · cases e
  · cases x <;> try (cases e; done)
    cases y <;> try (cases e; done)
    cases e
    rw [ha.int, hb.int]
    exact ⟨_, op_le, _, _, rfl, rfl, q⟩
  · cases x <;> try (cases e; done)
    cases y <;> try (cases e; done)
    cases e
    rw [ha.int, hb.int]
    exact ⟨_, op_gt, _, _, rfl, rfl, q⟩
  · cases x <;> try (cases e; done)
    cases y <;> try (cases e; done)
    cases e
    rw [ha.int, hb.int]
    exact ⟨_, op_ge, _, _, rfl, rfl, q⟩
  · -- Is
    cases y <;> try (cases e; done)
    · cases e
      rw [xV8 ha] at q
      rw [hb.non]
      exact ⟨_, op_isN, rfl, q⟩
    · cases x <;> try (cases e; done)
      cases e
      rw [ha.bl, hb.bl]
      exact ⟨_, op_isBl, _, _, rfl, rfl, q⟩
  · cases y <;> try (cases e; done)
    · cases e
      rw [xV8 ha] at q
      rw [hb.non]
      exact ⟨_, op_notN, rfl, q⟩
    · cases x <;> try (cases e; done)
      cases e
      rw [ha.bl, hb.bl]
      exact ⟨_, op_notBl, _, _, rfl, rfl, q⟩
  · -- In
    cases y <;> try (cases e; done)
    · cases x <;> try (cases e; done)
      cases e
      rw [ha.str, hb.str]
      exact ⟨_, op_in_str, _, _, rfl, rfl, q⟩
    · rename_i ys
      have e : inQ x ys = some k := e
      unfold inQ at e
      split at e
      · rename_i hc
        cases e
        by_cases hf : (zGy x && ys.all zGy) = true
        · simp only [Bool.and_eq_true] at hf
          obtain ⟨a, vs, rfl, h1, h2⟩ := hb.lst s
          obtain ⟨g1, g2⟩ := yX6 (yQ6 ha hf.1) hf.1 h2 hf.2
          exact ⟨_, op_in_seq, a, vs, rfl, .inl h1.sq, yHh (yQ6 ha hf.1) hf.1, g1, by rw [g2]; exact q⟩
        · have hs : SeqAt.shaped x = true ∧ PyData.canLayAll0 ys = true := by
            rw [Bool.not_eq_true] at hf
            rw [hf, Bool.false_or, Bool.and_eq_true] at hc
            exact hc
          exact ⟨_, xGu C.u65, x, _, ha.dp s (shp hs.1), .inr (hb.dp s (by simpa [PyData.canLay0] using hs.2)), hs.1, hs.2, q⟩
      · cases e
    · rename_i ys
      have e : inQ x ys = some k := e
      unfold inQ at e
      split at e
      · rename_i hc
        cases e
        by_cases hf : (zGy x && ys.all zGy) = true
        · simp only [Bool.and_eq_true] at hf
          obtain ⟨a, vs, rfl, h1, h2⟩ := hb.tup
          obtain ⟨g1, g2⟩ := yX6 (yQ6 ha hf.1) hf.1 h2 hf.2
          exact ⟨_, op_in_seq, a, vs, rfl, .inr (zXh s h1), yHh (yQ6 ha hf.1) hf.1, g1, by rw [g2]; exact q⟩
        · have hs : SeqAt.shaped x = true ∧ PyData.canLayAll0 ys = true := by
            rw [Bool.not_eq_true] at hf
            rw [hf, Bool.false_or, Bool.and_eq_true] at hc
            exact hc
          exact ⟨_, xGu C.u65, x, _, ha.dp s (shp hs.1), .inl (hb.dp s (by simpa [PyData.canLay0] using hs.2)), hs.1, hs.2, q⟩
      · cases e
    · unfold zKu at e
      dsimp only at e
      split at e
      · rename_i hs
        simp only [Bool.and_eq_true] at hs
        cases e
        obtain ⟨kk, rfl⟩ := yJw hs.2
        obtain ⟨a, kvs, rfl, hH, rk⟩ := hb.dic s hs.1
        rw [rk.isSome kk] at q
        exact ⟨_, wJd C.u1, a, kvs, kk, yKq ha, rfl, hH, q⟩
      · cases e
  · cases y <;> try (cases e; done)
    · cases x <;> try (cases e; done)
      cases e
      rw [ha.str, hb.str]
      exact ⟨_, op_notin_str, _, _, rfl, rfl, q⟩
    · rename_i ys
      have e : (inQ x ys).map (!·) = some k := e
      unfold inQ at e
      split at e
      · rename_i hc
        cases e
        by_cases hf : (zGy x && ys.all zGy) = true
        · simp only [Bool.and_eq_true] at hf
          obtain ⟨a, vs, rfl, h1, h2⟩ := hb.lst s
          obtain ⟨g1, g2⟩ := yX6 (yQ6 ha hf.1) hf.1 h2 hf.2
          exact ⟨_, op_notIn_seq, a, vs, rfl, .inl h1.sq, yHh (yQ6 ha hf.1) hf.1, g1, by rw [g2]; exact q⟩
        · have hs : SeqAt.shaped x = true ∧ PyData.canLayAll0 ys = true := by
            rw [Bool.not_eq_true] at hf
            rw [hf, Bool.false_or, Bool.and_eq_true] at hc
            exact hc
          exact ⟨_, yGw C.u65, x, _, ha.dp s (shp hs.1), .inr (hb.dp s (by simpa [PyData.canLay0] using hs.2)), hs.1, hs.2, q⟩
      · cases e
    · rename_i ys
      have e : (inQ x ys).map (!·) = some k := e
      unfold inQ at e
      split at e
      · rename_i hc
        cases e
        by_cases hf : (zGy x && ys.all zGy) = true
        · simp only [Bool.and_eq_true] at hf
          obtain ⟨a, vs, rfl, h1, h2⟩ := hb.tup
          obtain ⟨g1, g2⟩ := yX6 (yQ6 ha hf.1) hf.1 h2 hf.2
          exact ⟨_, op_notIn_seq, a, vs, rfl, .inr (zXh s h1), yHh (yQ6 ha hf.1) hf.1, g1, by rw [g2]; exact q⟩
        · have hs : SeqAt.shaped x = true ∧ PyData.canLayAll0 ys = true := by
            rw [Bool.not_eq_true] at hf
            rw [hf, Bool.false_or, Bool.and_eq_true] at hc
            exact hc
          exact ⟨_, yGw C.u65, x, _, ha.dp s (shp hs.1), .inl (hb.dp s (by simpa [PyData.canLay0] using hs.2)), hs.1, hs.2, q⟩
      · cases e
    · unfold zKu at e
      dsimp only at e
      split at e
      · rename_i hs
        simp only [Bool.and_eq_true] at hs
        cases e
        obtain ⟨kk, rfl⟩ := yJw hs.2
        obtain ⟨a, kvs, rfl, hH, rk⟩ := hb.dic s hs.1
        rw [rk.isSome kk] at q
        exact ⟨_, xV3 C.u1, a, kvs, kk, yKq ha, rfl, hH, q⟩
      · cases e
def xYa (g : PyData → PyData → Option Bool) (o1 o2 : OV) : Pg Bool := look o1 fun x => look o2 fun y => zK5 (g x y)
theorem yYn {g : PyData → PyData → Option Bool} {o1 o2 : OV} {m : Mem} {P : Bool → Mem → Prop} {E : Exn → Mem → Prop} (h : (xYa g o1 o2 m).wp P E) : ∃ x y k, lk o1 m = some x ∧ lk o2 m = some y ∧ g x y = some k ∧ P k m := by
  obtain ⟨x, e1, h⟩ := zXs h
  obtain ⟨y, e2, h⟩ := zXs h
  obtain ⟨k, e3, h⟩ := zX2 h
  exact ⟨x, y, k, e1, e2, e3, h⟩
def zQs (op : CmpOp) (fa fb : Pg EV) : Pg Bool := .bind fa fun v => .bind fb fun u => xYa (zKu op) (zKn v) (zKn u)
def asV (f : Pg Bool) : Pg EV := .bind f fun k => .ret (.d (.bool k))
theorem zQm {op : CmpOp} (C : Ctx X B) (ha : Snd X B a fa) (hb : Snd X B b fb) (hm : behindInMarks op b = false := by rfl) : yHy X B (.Compare a [op] [b] pos) (zQs op fa fb) := by
  intro w Q r h
  refine xJ0 (pt_cmpR yKe zYf zYf hm) ?_
  refine zQ0 ha r h fun v w1 x e1 f1 r1 re h1 => ?_
  rw [← e1]
  refine zQ0 hb r1 h1 fun u w2 y e2 f2 r2 re2 h2 => ?_
  obtain ⟨d1, d2, k, q1, q2, ez, q⟩ := yYn h2
  have o1 := ((re.ro r1).fol r1 f2).rn r2 q1
  have o2 := (re2.ro r2).rn r2 q2
  exact yHr C r2 o1 o2 ez ⟨k, rfl, q w2 rfl (e2.trans e1) (f1.trans f2) r2⟩
theorem zZx {op : CmpOp} (C : Ctx X B) (ha : Snd X B a fa) (hb : Snd X B b fb) (hm : behindInMarks op b = false := by rfl) : Snd X B (.Compare a [op] [b] pos) (asV (zQs op fa fb)) := by
  intro w Q r h
  refine zKp (pe_cmpR yKe zYf zYf hm) ?_
  have h := wp_bind h
  refine zQ0 ha r h fun v w1 x e1 f1 r1 re h1 => ?_
  rw [← e1]
  refine zQ0 hb r1 h1 fun u w2 y e2 f2 r2 re2 h2 => ?_
  obtain ⟨d1, d2, k, q1, q2, ez, q⟩ := yYn h2
  have o1 := ((re.ro r1).fol r1 f2).rn r2 q1
  have o2 := (re2.ro r2).rn r2 q2
  exact yHr C r2 o1 o2 ez (q w2 (.bl k) rfl (e2.trans e1) (f1.trans f2) r2 (.bl k))
def yVt (op op' : CmpOp) (fa fb fc : Pg EV) : Pg Bool := .bind fa fun v => .bind fb fun u => .bind (xYa (zKu op) (zKn v) (zKn u)) fun k => if k then .bind fc fun z => xYa (zKu op') (zKn u) (zKn z) else .ret false
theorem xXy {op op' : CmpOp} (C : Ctx X B) (ha : Snd X B a fa) (hb : Snd X B b fb) (hc : Snd X B c fc) (hm : lastMarks [op, op'] [b, c] = false := by with_unfolding_all rfl) : yHy X B (.Compare a [op, op'] [b, c] pos) (yVt op op' fa fb fc) := by
  intro w Q r h
  refine xJ0 (pt_chain yKe yKe zYf zYf zYf hm) ?_
  refine zQ0 ha r h fun v w1 x e1 f1 r1 re h1 => ?_
  rw [← e1]
  refine zQ0 hb r1 h1 fun u w2 y e2 f2 r2 re2 h2 => ?_
  obtain ⟨d1, d2, k, q1, q2, ez, q⟩ := yYn (wp_bind h2)
  have o1 := ((re.ro r1).fol r1 f2).rn r2 q1
  have o2' := re2.ro r2
  have o2 := o2'.rn r2 q2
  refine yHr C r2 o1 o2 ez ⟨k, rfl, ?_⟩
  cases k with
  | false => exact ⟨false, rfl, q w2 rfl (e2.trans e1) (f1.trans f2) r2⟩
  | true =>
    rw [← e2]
    refine iteT ?_
    have q' : (Pg.bind fc (fun z => xYa (zKu op') (zKn u) (zKn z)) w2.m).wp (xU8 X.K w Q) (XW X.K B w2) := q
    refine zQ0 hc r2 q' fun z w3 y3 e3 f3 r3 re3 h3 => ?_
    obtain ⟨d1', d2', k', q1', q2', ez', q''⟩ := yYn h3
    have p1 := (o2'.fol r2 f3).rn r3 q1'
    have p2 := (re3.ro r3).rn r3 q2'
    exact yHr C r3 p1 p2 ez' ⟨k', rfl, q'' w3 rfl (e3.trans (e2.trans e1)) (f1.trans (f2.trans f3)) r3⟩
def xWw : PyData → Option Bool
  | .none => some false
  | .bool b => some b
  | .int i => some (i != 0)
  | .str s => if s.length ≤ 16777216 then some ((s.length : Int) != 0) else none
  | .list xs => some (!xs.isEmpty)
  | .tuple xs => some (!xs.isEmpty)
  | .dict es => if zZo es then some (!es.isEmpty) else none
def xWv (o : OV) : Pg Bool := look o fun x => zK5 (xWw x)
theorem RK.emp {K : PySem.W.Frag} {F : Hp} {es : List (PyData × PyData)} {kvs : List (Key × V)} (h : RK K F es kvs) : es.isEmpty = kvs.isEmpty := by
  cases h <;> rfl
theorem RA.emp {K : PySem.W.Frag} {F : Hp} {es : List PyData} {kvs : List V} (h : RA K F es kvs) : es.isEmpty = kvs.isEmpty := by
  cases h <;> rfl
theorem xQ4 {o : OV} {w : Wd} {v : V} {P : Bool → Mem → Prop} {E : Exn → Mem → Prop} (r : Rep X.K w) (h : RO X.K w o v) (hw : (xWv o w.m).wp P E) : ∃ k, TruV X.K v w.H k ∧ P k w.m := by
  have s := r.sub
  obtain ⟨x, ex, hw⟩ := zXs hw
  have h := h.rn r ex
  obtain ⟨k, ek, q⟩ := zX2 hw
  refine ⟨k, ?_, q⟩
  cases x with
  | none =>
    cases ek
    rw [h.non]
    exact rfl
  | bool b =>
    cases ek
    rw [h.bl]
    exact rfl
  | int i =>
    cases ek
    rw [h.int]
    exact rfl
  | str t =>
    unfold xWw at ek
    dsimp only at ek
    split at ek
    · rename_i hl
      cases ek
      rw [h.str]
      exact ⟨by rw [sizeLine_eq]; exact hl, rfl⟩
    · cases ek
  | list xs =>
    cases ek
    obtain ⟨a, vs, rfl, h1, h2⟩ := h.lst s
    exact .inl ⟨vs, h1.sq, by rw [h2.emp]⟩
  | tuple xs =>
    cases ek
    obtain ⟨a, vs, rfl, h1, h2⟩ := h.tup
    exact .inr (.inl ⟨vs, zXh s h1, by rw [h2.emp]⟩)
  | dict es =>
    unfold xWw at ek
    dsimp only at ek
    split at ek
    · rename_i hp
      cases ek
      obtain ⟨a, kvs, rfl, h1, h2⟩ := h.dic s hp
      exact .inr (.inr ⟨kvs, h1, by rw [h2.emp]⟩)
    · cases ek
def zYc (f : Pg EV) : Pg Bool := .bind f fun v => xWv (zKn v)
theorem zZ5 (h : Snd X B e fa) (he : ∀ whole, isTrue e X.env whole = (do let v ← whole; standAt e.pos; holding [v] (truthy v)) := by intro _; rfl) : yHy X B e (zYc fa) := by
  intro w Q r hw
  refine xJ0 (pt_truth zYf he) ?_
  refine zQ0 h r hw fun v w1 x e1 f1 r1 re h1 => ?_
  obtain ⟨k, hk, q⟩ := xQ4 r1 (re.ro r1) h1
  exact ⟨k, hk, q w1 rfl e1 f1 r1⟩
variable {rest : List Expr} {ta tb tc : Pg Bool}
def zJ7 (t : Pg Bool) : Pg Bool := .bind t fun k => .ret (!k)
def yQ8 (t u : Pg Bool) : Pg Bool := .bind t fun k => if k then u else .ret false
def zYh (t u : Pg Bool) : Pg Bool := .bind t fun k => if k then .ret true else u
theorem zZ6 (h : yHy X B a ta) : yHy X B (.UnaryOp .Not a pos) (zJ7 ta) := by
  intro w Q r hw
  refine xJ0 (pt_not xYy) ?_
  refine yQg h r hw fun k w1 e1 f1 r1 q => ?_
  exact q w1 rfl e1 f1 r1
def WW (X : Cx) (e : Expr) : TT := fun sg H Q => Cl (∀ (whole : Sem Value) (pins : List (Addr × Obj)) (s : Shared), L2.Inv X pins sg H s → wpAny (model X.prog X.w) X.A (isTrue e X.env whole) (TP X pins sg Q) X.xe s)
theorem wHk : PW X e (WW X e) := ⟨fun wh pins s _ _ _ I h => h.go wh pins s I⟩
def yZj (X : Cx) (B : XBt) (e : Expr) (f : Pg Bool) : Prop := ∀ (w : Wd) (Q : Bool → Hp → Prop), Rep X.K w → (f w.m).wp (xU8 X.K w Q) (XW X.K B w) → WW X e w.sg w.H Q
theorem zY4 (h : yHy X B a ta) : yZj X B (.BoolOp .And [a] pos) ta := fun w Q r hw => ⟨fun wh pins s I => (pw_and1 (xYy (e := a))).run wh pins s _ _ Q I (h w Q r hw)⟩
theorem zJk (h : yHy X B a ta) : yZj X B (.BoolOp .Or [a] pos) ta := fun w Q r hw => ⟨fun wh pins s I => (pw_or1 (xYy (e := a))).run wh pins s _ _ Q I (h w Q r hw)⟩
theorem zGf (h : yHy X B a ta) (h' : yZj X B (.BoolOp .And (b :: rest) pos) tb) : yZj X B (.BoolOp .And (a :: b :: rest) pos) (yQ8 ta tb) := by
  intro w Q r hw
  refine ⟨fun wh pins s I => ?_⟩
  refine (pw_and (xYy (e := a)) wHk).run wh pins s _ _ Q I ?_
  refine yQg h r hw fun k w1 e1 f1 r1 q => ?_
  cases k with
  | false => exact q w1 rfl e1 f1 r1
  | true =>
    rw [← e1]
    refine iteT (h' w1 Q r1 (q.imp (fun _ _ z w2 em es f r2 => z w2 em (es.trans e1) (f1.trans f) r2) fun _ _ z => z))
theorem zX0 (h : yHy X B a ta) (h' : yZj X B (.BoolOp .Or (b :: rest) pos) tb) : yZj X B (.BoolOp .Or (a :: b :: rest) pos) (zYh ta tb) := by
  intro w Q r hw
  refine ⟨fun wh pins s I => ?_⟩
  refine (pw_or (xYy (e := a)) wHk).run wh pins s _ _ Q I ?_
  refine yQg h r hw fun k w1 e1 f1 r1 q => ?_
  cases k with
  | true => exact q w1 rfl e1 f1 r1
  | false =>
    rw [← e1]
    refine iteF (h' w1 Q r1 (q.imp (fun _ _ z w2 em es f r2 => z w2 em (es.trans e1) (f1.trans f) r2) fun _ _ z => z))
theorem yZj.t (h : yZj X B e ta) : yHy X B e ta := fun w Q r hw => ⟨fun pins s I => (h w Q r hw).go _ pins s I⟩
def xUo (f : Pg EV) : Pg EV := .bind f fun v => .bind (xWv (zKn v)) fun k => .ret (.d (.bool (!k)))
def zHw (f g : Pg EV) : Pg EV := .bind f fun v => .bind (xWv (zKn v)) fun k => if k then g else .ret v
def wZa (f g : Pg EV) : Pg EV := .bind f fun v => .bind (xWv (zKn v)) fun k => if k then .ret v else g
theorem xHw (h : Snd X B a fa) : Snd X B (.UnaryOp .Not a pos) (xUo fa) := by
  intro w Q r hw
  refine zKp (pe_notT zYf) ?_
  refine zQ0 h r hw fun v w1 x e1 f1 r1 re h1 => ?_
  obtain ⟨k, hk, q⟩ := xQ4 r1 (re.ro r1) (wp_bind h1)
  exact ⟨k, hk, q w1 (.bl (!k)) rfl e1 f1 r1 (.bl _)⟩
theorem zVn {op} (h : Snd X B a fa) : Snd X B (.BoolOp op [a] pos) fa := fun w Q r hw => zKp (pe_one zYf) (h w Q r hw)
theorem snd_and (h : Snd X B a fa) (h' : Snd X B (.BoolOp .And (b :: rest) pos) fb) : Snd X B (.BoolOp .And (a :: b :: rest) pos) (zHw fa fb) := by
  intro w Q r hw
  refine zKp (pe_andT zYf zYf) ?_
  refine zQ0 h r hw fun v w1 x e1 f1 r1 re h1 => ?_
  obtain ⟨k, hk, q⟩ := xQ4 r1 (re.ro r1) (wp_bind h1)
  refine ⟨k, hk, ?_⟩
  cases k with
  | false => exact q w1 x rfl e1 f1 r1 re
  | true =>
    rw [← e1]
    exact iteT (h' w1 Q r1 (q.imp (fun _ _ z w2 y em es f r2 => z w2 y em (es.trans e1) (f1.trans f) r2) fun _ _ z => z))
theorem xZb (h : Snd X B a fa) (h' : Snd X B (.BoolOp .Or (b :: rest) pos) fb) : Snd X B (.BoolOp .Or (a :: b :: rest) pos) (wZa fa fb) := by
  intro w Q r hw
  refine zKp (pe_orT zYf zYf) ?_
  refine zQ0 h r hw fun v w1 x e1 f1 r1 re h1 => ?_
  obtain ⟨k, hk, q⟩ := xQ4 r1 (re.ro r1) (wp_bind h1)
  refine ⟨k, hk, ?_⟩
  cases k with
  | true => exact q w1 x rfl e1 f1 r1 re
  | false =>
    rw [← e1]
    exact iteF (h' w1 Q r1 (q.imp (fun _ _ z w2 y em es f r2 => z w2 y em (es.trans e1) (f1.trans f) r2) fun _ _ z => z))
def xJy (t : Pg Bool) (f g : Pg EV) : Pg EV := .bind t fun k => if k then f else g
theorem zWa (hc : yHy X B c tc) (ha : Snd X B a fa) (hb : Snd X B b fb) : Snd X B (.IfExp c a b pos) (xJy tc fa fb) := by
  intro w Q r hw
  refine zKp (pe_ifExp xYy zYf zYf) ?_
  refine yQg hc r hw fun k w1 e1 f1 r1 q => ?_
  rw [← e1]
  cases k with
  | true => exact iteT (ha w1 Q r1 (q.imp (fun _ _ z w2 y em es f r2 => z w2 y em (es.trans e1) (f1.trans f) r2) fun _ _ z => z))
  | false => exact iteF (hb w1 Q r1 (q.imp (fun _ _ z w2 y em es f r2 => z w2 y em (es.trans e1) (f1.trans f) r2) fun _ _ z => z))
end
end Ev

namespace Ev
open PySem PySem.Spec PyProof.Rows L2

section
variable {X : Cx} {B : XBt} {e : Expr} {es : List Expr} {pos p : Pos}
def BOk (X : Cx) (f : Value) (g : List PyData → Option EV) : Prop := ∀ (w : Wd) (ds : List PyData) (xs : List V) (v : EV) (Q : VK), Rep X.K w → Paired (RN X.K w) ds xs → g ds = some v → xXp X.K w v Q → ∃ r, CallR X f r ∧ r xs w.H Q
def yHo : List OV → Mem → Option (List PyData)
  | [], _ => some []
  | o :: r, m => match lk o m, yHo r m with
    | some x, some xs => some (x :: xs)
    | _, _ => none
theorem xK8 {K : PySem.W.Frag} {w : Wd} (rp : Rep K w) : ∀ {os : List OV} {xs : List V} {ds : List PyData}, Paired (RO K w) os xs → yHo os w.m = some ds → Paired (RN K w) ds xs
  | [], _, _, .nil, e => by
    cases e
    exact .nil
  | o :: r, _, ds, .cons h t, e => by
    unfold yHo at e
    split at e
    · rename_i x xs q1 q2
      cases e
      exact .cons (h.rn rp q1) (xK8 rp t q2)
    · cases e
def zX1 (g : List PyData → Option EV) (fo : Pg (List OV)) : Pg EV := .bind fo fun os => fun m => match yHo os m with
  | some ds => zK5 (g ds) m
  | none => .bad
theorem anyC {X : Cx} {f : Value} : CallR X f (fun xs H Q => ∃ r, CallR X f r ∧ r xs H Q) := by
  intro pins s sg H xs us Q I rv h
  obtain ⟨r, hc, q⟩ := h
  exact hc pins s sg H xs us Q I rv q
theorem xWl {f : Value} {g : List PyData → Option EV} {fo : Pg (List OV)} (hb : BOk X f g) (ha : xHh X B (e :: es) fo) {w : Wd} {Q : VK} (r : Rep X.K w) (hw : (zX1 g fo w.m).wp (zVw X.K w Q) (XW X.K B w)) :
    WA X (e :: es) w.sg w.H fun xs H => ∃ r, CallR X f r ∧ r xs H Q := by
  refine yV1 ha r hw fun os w1 xs e1 f1 r1 ro h1 => ?_
  have h1 : (match yHo os w1.m with
    | some ds => zK5 (g ds) w1.m
    | none => .bad : Res EV).wp _ _ := h1
  cases ed : yHo os w1.m with
  | none =>
    rw [ed] at h1
    exact h1.elim
  | some ds =>
    rw [ed] at h1
    obtain ⟨v, ev, q⟩ := zX2 h1
    exact hb w1 ds xs v Q r1 (xK8 r1 ro ed) ev (zVw.keep q e1 f1)
theorem zZv {id : String} {x : Str} {g : List PyData → Option EV} {fo : Pg (List OV)} (hb : BOk X (.builtin id) g) (hg : Gl X x) (hm : X.mg x = none) (hv : bootBuiltins x = some (.builtin id)) (ha : xHh X B (e :: es) fo)
    (hn : x ≠ "__name__" := by decide) (hdb : (x == ("__debug__" : Str)) = false := by decide) (he : starEach (e :: es) X.env = (false, eval e X.env) :: starEach es X.env := by rfl) (hpl : (backTo pos (starEach es X.env)).any (·.1) = false := by rfl) :
    Snd X B (.Call (.Name x p) (e :: es) [] pos) (zX1 g fo) := fun w Q r hw => zKp (pe_callB anyC hg hm hv xV1 hn hdb he hpl) (xWl hb ha r hw)
theorem zUc {id : String} {x : Str} {g : List PyData → Option EV} {fo : Pg (List OV)} (hb : BOk X (.type id) g) (hg : Gl X x) (hm : X.mg x = none) (hv : bootBuiltins x = some (.type id)) (ha : xHh X B (e :: es) fo)
    (hn : x ≠ "__name__" := by decide) (hdb : (x == ("__debug__" : Str)) = false := by decide) (he : starEach (e :: es) X.env = (false, eval e X.env) :: starEach es X.env := by rfl) (hpl : (backTo pos (starEach es X.env)).any (·.1) = false := by rfl) :
    Snd X B (.Call (.Name x p) (e :: es) [] pos) (zX1 g fo) := fun w Q r hw => zKp (pe_callTy anyC hg hm hv xV1 hn hdb he hpl) (xWl hb ha r hw)

def yZo : List PyData → Option EV
  | [.str s] => if s.length ≤ 16777216 then some (.d (.int s.length)) else none
  | [.list xs] => some (.d (.int xs.length))
  | [.tuple xs] => some (.d (.int xs.length))
  | [.dict es] => if zZo es then some (.d (.int es.length)) else none
  | _ => none
theorem zVg : BOk X (.builtin "len") yZo := by
  intro w ds xs v Q r h e k
  cases h with
  | nil => cases e
  | @cons d x ds xs h t =>
    cases t with
    | cons _ _ => cases d <;> cases e
    | nil =>
      cases d <;> try (cases e; done)
      · rename_i z
        by_cases hz : z.length ≤ 16777216
        · rw [show yZo [.str z] = some (.d (.int z.length)) from if_pos hz] at e
          cases e
          rw [h.str]
          exact ⟨_, call_len, _, _, rfl, ⟨by rw [sizeLine_eq]; exact hz, rfl⟩, k.here r (.int _)⟩
        · rw [show yZo [.str z] = none from if_neg hz] at e
          cases e
      · cases e
        obtain ⟨a, vs, rfl, h1, h2⟩ := h.lst r.sub
        exact ⟨_, call_len, _, _, rfl, .inl ⟨vs, h1.sq, h2.len⟩, k.here r (.int _)⟩
      · cases e
        obtain ⟨a, vs, rfl, h1, h2⟩ := h.tup
        exact ⟨_, call_len, _, _, rfl, .inr ⟨vs, zXh r.sub h1, h2.len⟩, k.here r (.int _)⟩
      · rename_i es
        have e : (if zZo es then some (EV.d (.int es.length)) else none) = some v := e
        split at e
        · rename_i hp
          cases e
          obtain ⟨a, kvs, rfl, h1, h2⟩ := h.dic r.sub hp
          exact ⟨_, call_lenD, a, kvs, rfl, h1, by rw [← h2.len]; exact k.here r (.int _)⟩
        · cases e

mutual
def zXv : PyData → Bool
  | .none => true
  | .bool _ => true
  | .int _ => true
  | .str _ => true
  | .list xs => zHc xs
  | .tuple xs => zHc xs
  | .dict es => zJc es
def zHc : List PyData → Bool
  | [] => true
  | x :: xs => zXv x && zHc xs
def zJc : List (PyData × PyData) → Bool
  | [] => true
  | (k, x) :: xs => zGc k && (zXv x && zJc xs)
end
theorem wYa {pins : List (Addr × Obj)} {sg : L2.St} {H : Hp} {s : Shared} (I : L2.Inv X pins sg H s) (sm : SM X.base) {a : Addr} {o : Obj} (h : s.heap.get? a = some o) (hc : ∀ es ep, o.data ≠ .dict es ep) : sysModules ≠ a := by
  obtain ⟨u, es, ep, h1, h2⟩ := sm
  intro e
  have h3 := I.bk _ _ h1
  rw [e, h] at h3
  cases h3
  exact hc es ep h2
mutual
theorem R.reads {pins : List (Addr × Obj)} {sg : L2.St} {H : Hp} {s : Shared} (I : L2.Inv X pins sg H s) (sm : SM X.base) : ∀ {d : PyData} {v : V} {u : Value}, R X.K H d v → zXv d = true → RelV v u → ∃ as, Reads s.heap u d as ∧ sysModules ∉ as
  | _, _, _, .non, _, rv => by
    cases rv
    exact ⟨_, .none, by simp⟩
  | _, _, _, .bl b, _, rv => by
    cases rv
    exact ⟨_, .bool b, by simp⟩
  | _, _, _, .int i, _, ⟨t, e⟩ => by
    subst e
    exact ⟨_, .int i t, by simp⟩
  | _, _, _, .str x, _, ⟨t, e⟩ => by
    subst e
    exact ⟨_, .str x t, by simp⟩
  | .list ds, .ref a, _, .lst h ra, c, rv => by
    cases rv
    obtain ⟨_, its, n, rvs, _, ea⟩ := h.at I
    obtain ⟨as, q, z⟩ := RA.reads I sm ra (by simpa [zXv] using c) rvs
    refine ⟨_, .list ea rfl rfl q, fun hm => ?_⟩
    rcases List.mem_cons.mp hm with e | e
    · exact wYa I sm ea (fun _ _ z => by cases z) e
    · exact z e
  | .tuple ds, .ref a, _, .tup h ra, c, rv => by
    cases rv
    obtain ⟨its, rvs, ⟨o, h1, h2, n, h3⟩, _⟩ := I.tuple h
    obtain ⟨as, q, z⟩ := RA.reads I sm ra (by simpa [zXv] using c) rvs
    exact ⟨_, .tuple h1 h2 h3 q, z⟩
  | .dict es, .ref a, _, .dic h ra, c, rv => by
    cases rv
    obtain ⟨_, ns, vs, kv, dk⟩ := I.hok a _ h
    obtain ⟨bs, q, z⟩ := RK.reads I sm ra (by simpa [zXv] using c) kv
    refine ⟨_, PyProof.V.reads_dictOf (enc := yVq) (fun k key hk => ?_) dk q, fun hm => ?_⟩
    · rcases keyIs_shape hk with ⟨i, t, rfl, rfl⟩ | ⟨x, t, rfl, rfl⟩
      · exact .int i t
      · exact .str x t
    · rcases List.mem_cons.mp hm with e | e
      · rw [← e] at ns
        simp at ns
      · exact z e
  | .dict _, .ref a, _, .ins _ _ _ _, c, rv => by simp [zXv, zJc, zGc] at c
  | .dict _, .ref a, _, .cls _, c, rv => by simp [zXv, zJc, zGc] at c
  | .dict _, .ref a, _, .exn0 _ _, c, rv => by simp [zXv, zJc, zGc] at c
  | .dict _, .ref a, _, .exn _ _ _ _, c, rv => by simp [zXv, zJc, zGc] at c
  | .dict _, .ref a, _, .cell _, c, rv => by simp [zXv, zJc, zGc] at c
theorem RA.reads {pins : List (Addr × Obj)} {sg : L2.St} {H : Hp} {s : Shared} (I : L2.Inv X pins sg H s) (sm : SM X.base) : ∀ {ds : List PyData} {vs : List V} {us : List Value}, RA X.K H ds vs → zHc ds = true → Vals vs us → ∃ as, ReadsAll s.heap us ds as ∧ sysModules ∉ as
  | _, _, _, .nil, _, .nil => ⟨_, .nil, by simp⟩
  | _, _, _, .cons h ra, c, .cons rv rvs => by
    simp only [zHc, Bool.and_eq_true] at c
    obtain ⟨as, q1, z1⟩ := R.reads I sm h c.1 rv
    obtain ⟨bs, q2, z2⟩ := RA.reads I sm ra c.2 rvs
    exact ⟨_, .cons q1 q2, fun hm => (List.mem_append.mp hm).elim z1 z2⟩
theorem RK.reads {pins : List (Addr × Obj)} {sg : L2.St} {H : Hp} {s : Shared} (I : L2.Inv X pins sg H s) (sm : SM X.base) : ∀ {es : List (PyData × PyData)} {kvs : List (Key × V)} {us : List (Key × Value)}, RK X.K H es kvs → zJc es = true → KV kvs us → ∃ as, PyProof.V.PairsRead s.heap yVq us es as ∧ sysModules ∉ as
  | _, _, _, .nil, _, .nil => ⟨_, .nil, by simp⟩
  | _, _, (k, u) :: us, .cons h ra, c, .cons rv rvs => by
    obtain ⟨e, rv⟩ := rv
    have e : _ = k := e
    subst e
    simp only [zJc, Bool.and_eq_true] at c
    obtain ⟨as, q1, z1⟩ := R.reads I sm h c.2.1 rv
    obtain ⟨bs, q2, z2⟩ := RK.reads I sm ra c.2.2 rvs
    exact ⟨_, .cons q1 q2, fun hm => (List.mem_append.mp hm).elim z1 z2⟩
end
mutual
theorem R.nowX {K : PySem.W.Frag} {F H : Hp} (s : zG7 F H) : ∀ {d : PyData} {v : V}, R K F d v → zXv d = true → R K H d v
  | _, _, .non, _ => .non
  | _, _, .bl b, _ => .bl b
  | _, _, .int i, _ => .int i
  | _, _, .str x, _ => .str x
  | _, _, .lst h a, c => .lst (h.mox s) (RA.nowX s a (by simpa [zXv] using c))
  | _, _, .tup h a, c => .tup (zXh s h) (RA.nowX s a (by simpa [zXv] using c))
  | _, _, .dic h a, c => .dic (s _ _ h xZs) (RK.nowX s a (by simpa [zXv] using c))
  | _, _, .ins _ _ _ _, c => by simp [zXv, zJc, zGc] at c
  | _, _, .cls _, c => by simp [zXv, zJc, zGc] at c
  | _, _, .exn0 _ _, c => by simp [zXv, zJc, zGc] at c
  | _, _, .exn _ _ _ _, c => by simp [zXv, zJc, zGc] at c
  | _, _, .cell _, c => by simp [zXv, zJc, zGc] at c
theorem RA.nowX {K : PySem.W.Frag} {F H : Hp} (s : zG7 F H) : ∀ {ds : List PyData} {vs : List V}, RA K F ds vs → zHc ds = true → RA K H ds vs
  | _, _, .nil, _ => .nil
  | _, _, .cons h a, c => by
    simp only [zHc, Bool.and_eq_true] at c
    exact .cons (R.nowX s h c.1) (RA.nowX s a c.2)
theorem RK.nowX {K : PySem.W.Frag} {F H : Hp} (s : zG7 F H) : ∀ {es : List (PyData × PyData)} {kvs : List (Key × V)}, RK K F es kvs → zJc es = true → RK K H es kvs
  | _, _, .nil, _ => .nil
  | _, _, .cons h a, c => by
    simp only [zJc, Bool.and_eq_true] at c
    exact .cons (R.nowX s h c.2.1) (RK.nowX s a c.2.2)
end
theorem RN.nowP {K : PySem.W.Frag} {w : Wd} (s : zG7 w.F w.H) {x : PyData} {v : V} (h : RN K w x v) (c : zXv x = true) : R K w.H x v := by
  rcases h with h | ⟨a, o, rfl, rfl, h⟩
  · exact h.nowX s c
  · cases o with
    | lst xs =>
      obtain ⟨vs, h1, h2⟩ := h
      exact .lst (.of h1) (RA.nowX s h2 (by simpa [dOf, zXv] using c))
    | dic es =>
      obtain ⟨vs, h1, h2⟩ := h
      exact .dic h1 (RK.nowX s h2 (by simpa [dOf, zXv] using c))
    | ins c' fs => simp [dOf, yJx, zXv, zJc, zGc] at c
def zH1 (d : PyData) : Bool := d.showable && decide (d.depth ≤ 64) && zXv d && decide (d.shown.length ≤ 16777216)
def wYg (K : PySem.W.Frag) : List V → Hp → VK → Prop := fun xs H Q => ∃ x d, xs = [x] ∧ R K H d x ∧ zH1 d = true ∧ Q (.str d.shown) H
theorem xJn (C : Ctx X B) : CallR X (.builtin "repr") (wYg X.K) := by
  rintro pins s sg H xs us Q I rv ⟨x, d, rfl, hd, ok, q⟩
  obtain ⟨u, rfl, rx⟩ := vals1 rv
  unfold zH1 at ok
  simp only [Bool.and_eq_true, decide_eq_true_eq] at ok
  obtain ⟨⟨⟨o1, o2⟩, o3⟩, o4⟩ := ok
  have sz : d.shown.length ≤ sizeLine := by rw [sizeLine_eq]; exact o4
  have obj : ∀ {a : Addr}, R X.K H d (.ref a) → RelV (.ref a) u → wpAny (model X.prog X.w) X.A (call (.builtin "repr") [u]) (EP X pins sg Q) X.xe s := fun {a} hd rx => by
    obtain ⟨as, rd, ns⟩ := R.reads I C.sm hd o3 rx
    cases rx
    refine repr_of_reads' rd o1 (fun _ => ns) C.gd ?_ (fun _ _ z => z) (fun h' u tk hk => ⟨.str _, H, I.kept (t' := tk) hk, ⟨_, rfl⟩, q⟩) sz
    have := C.rm.un
    omega
  cases hd with
  | non =>
    cases rx
    refine PySem.P.repr_of_none ⟨.str _, H, I.tok _, ⟨_, rfl⟩, ?_⟩
    rw [PyData.shown_none] at q
    exact q
  | bl b =>
    cases rx
    refine PySem.P.repr_of_bool ⟨.str _, H, I.tok _, ⟨_, rfl⟩, ?_⟩
    rw [PyData.shown_bool] at q
    exact q
  | int i =>
    obtain ⟨t, rfl⟩ := rx
    refine PySem.P.repr_of_int (by simpa [PyData.showable] using o1) ⟨.str _, H, I.tok _, ⟨_, rfl⟩, ?_⟩
    rw [PyData.shown_int] at q
    exact q
  | str y =>
    obtain ⟨t, rfl⟩ := rx
    rw [PyData.shown_str] at q sz
    exact PySem.P.repr_of_str ⟨.str _, H, I.tok _, ⟨_, rfl⟩, q⟩ sz
  | lst h ra => exact obj (.lst h ra) rx
  | tup h ra => exact obj (.tup h ra) rx
  | dic h ra => exact obj (.dic h ra) rx
  | ins _ _ _ _ => simp [zXv, zJc, zGc] at o3
  | cls _ => simp [zXv, zJc, zGc] at o3
  | exn0 _ _ => simp [zXv, zJc, zGc] at o3
  | exn _ _ _ _ => simp [zXv, zJc, zGc] at o3
  | cell _ => simp [zXv, zJc, zGc] at o3
def yKv : List PyData → Option EV
  | [x] => if zH1 x then some (.d (.str x.shown)) else none
  | _ => none
theorem yJp (C : Ctx X B) : BOk X (.builtin "repr") yKv := by
  intro w ds xs v Q r h e k
  cases h with
  | nil => cases e
  | @cons d x ds xs h t =>
    cases t with
    | cons _ _ => cases e
    | nil =>
      unfold yKv at e
      dsimp only at e
      split at e
      · rename_i hz
        cases e
        refine ⟨_, xJn C, x, d, rfl, h.nowP r.sub ?_, hz, k.here r (.str _)⟩
        unfold zH1 at hz
        simp only [Bool.and_eq_true] at hz
        exact hz.1.2
      · cases e

def wK1 : List PyData → Option EV
  | [.int i] => some (.d (.int (if i < 0 then -i else i)))
  | _ => none
theorem xGw : BOk X (.builtin "abs") wK1 := by
  intro w ds xs v Q r h e k
  cases h with
  | nil => cases e
  | @cons d x ds xs h t =>
    cases t with
    | cons _ _ => cases d <;> cases e
    | nil =>
      cases d <;> try (cases e; done)
      cases e
      rw [h.int]
      exact ⟨_, call_abs, _, rfl, k.here r (.int _)⟩
def wQ7 : List PyData → Option EV
  | [.int i] => some (.d (.int i))
  | [.bool b] => some (.d (.int (if b then 1 else 0)))
  | _ => none
theorem xZo : BOk X (.type "int") wQ7 := by
  intro w ds xs v Q r h e k
  cases h with
  | nil => cases e
  | @cons d x ds xs h t =>
    cases t with
    | cons _ _ => cases d <;> cases e
    | nil =>
      cases d <;> try (cases e; done)
      · cases e
        rw [h.bl]
        exact ⟨_, call_int1, .inr ⟨_, rfl, k.here r (.int _)⟩⟩
      · cases e
        rw [h.int]
        exact ⟨_, call_int1, .inl ⟨_, rfl, k.here r (.int _)⟩⟩
def wKt : List PyData → Option EV
  | [.int i, .int j] => some (.d (.int (if j < i then j else i)))
  | _ => none
theorem wJh (C : Ctx X B) : BOk X (.builtin "min") wKt := by
  intro w ds xs v Q r h e k
  cases h with
  | nil => cases e
  | @cons d x ds xs h t =>
    cases t with
    | nil => cases d <;> cases e
    | @cons d2 x2 ds2 xs2 h2 t2 =>
      cases t2 with
      | cons _ _ => cases d <;> cases d2 <;> cases e
      | nil =>
        cases d <;> try (cases e; done)
        cases d2 <;> try (cases e; done)
        cases e
        rw [h.int, h2.int]
        exact ⟨_, call_min2 C.calm, _, _, rfl, k.here r (.int _)⟩
def yYb : List PyData → Option EV
  | [.list xs] => some (.d (.tuple xs))
  | [.tuple xs] => some (.d (.tuple xs))
  | _ => none
theorem yY3 : BOk X (.type "tuple") yYb := by
  intro w ds xs v Q r h e k
  cases h with
  | nil => cases e
  | @cons d x ds xs h t =>
    cases t with
    | cons _ _ => cases d <;> cases e
    | nil =>
      cases d <;> try (cases e; done)
      · cases e
        obtain ⟨a, vs, rfl, h1, h2⟩ := h.lst r.sub
        exact ⟨_, call_tuple_of, a, vs, rfl, .inl ⟨h1.sq, fun p hp => k.tup r h2 hp⟩⟩
      · cases e
        obtain ⟨a, vs, rfl, h1, h2⟩ := h.tup
        exact ⟨_, call_tuple_of, a, vs, rfl, .inr ⟨zXh r.sub h1, k.here r (.tup h1 h2)⟩⟩
def xUj : List PyData → Option EV
  | [.list xs] => some (.fresh xs)
  | [.tuple xs] => some (.fresh xs)
  | _ => none
theorem xV7 : BOk X (.type "list") xUj := by
  intro w ds xs v Q r h e k
  cases h with
  | nil => cases e
  | @cons d x ds xs h t =>
    cases t with
    | cons _ _ => cases d <;> cases e
    | nil =>
      cases d <;> try (cases e; done)
      · cases e
        obtain ⟨a, vs, rfl, h1, h2⟩ := h.lst r.sub
        exact ⟨_, call_list_of, a, vs, rfl, .inl h1.sq, fun p hp => k.lst r h2 hp⟩
      · cases e
        obtain ⟨a, vs, rfl, h1, h2⟩ := h.tup
        exact ⟨_, call_list_of, a, vs, rfl, .inr (zXh r.sub h1), fun p hp => k.lst r h2 hp⟩

def tyName : PyData → Option String
  | .none => some "NoneType"
  | .bool _ => some "bool"
  | .int _ => some "int"
  | .str _ => some "str"
  | .list _ => some "list"
  | .tuple _ => some "tuple"
  | .dict es => if zZo es then some "dict" else none
theorem xGe {w : Wd} (s : zG7 w.F w.H) {d : PyData} {v : V} (h : RN X.K w d v) {t : String} (ht : tyName d = some t) : TyX X.K w.H v (.type t) := by
  rcases h with h | ⟨a, o, rfl, rfl, h⟩
  · cases h with
    | non => cases ht; exact .base .non
    | bl b => cases ht; exact .base (.bl b)
    | int i => cases ht; exact .base (.int i)
    | str x => cases ht; exact .base (.str x)
    | lst hq ra =>
      cases ht
      rcases hq.mox s with (q | ⟨o, q⟩) | ⟨its, n, q, _⟩
      · exact .base (.lst q)
      · exact .base (.frz q)
      · exact .kList q rfl
    | tup hq ra =>
      cases ht
      rcases zXh s hq with (q | ⟨o, q⟩) | ⟨o, its, n, q, c, _⟩
      · exact .base (.tup q)
      · exact .fTuple q
      · exact .kTuple q c
    | dic hq ra =>
      unfold tyName at ht
      dsimp only at ht
      split at ht
      · cases ht
        exact .base (.dK (s _ _ hq xZs))
      · cases ht
    | ins _ _ _ _ => simp [tyName, zZo, zGc] at ht
    | cls _ => simp [tyName, zZo, zGc] at ht
    | exn0 _ _ => simp [tyName, zZo, zGc] at ht
    | exn _ _ _ _ => simp [tyName, zZo, zGc] at ht
    | cell _ => simp [tyName, zZo, zGc] at ht
  · cases o with
    | lst xs =>
      obtain ⟨vs, h1, h2⟩ := h
      cases ht
      exact .base (.lst h1)
    | dic es =>
      obtain ⟨vs, h1, h2⟩ := h
      unfold dOf tyName at ht
      dsimp only at ht
      split at ht
      · cases ht
        exact .base (.dK h1)
      · cases ht
    | ins c' fs => simp [dOf, yJx, tyName, zZo, zGc] at ht
def yZp (T : String) (f : Pg EV) : Pg EV := .bind f fun v => look (zKn v) fun x => zK5 ((tyName x).bind fun t => (kitB t T).map fun b => EV.d (.bool b))
theorem zYk {T : String} {f : Pg EV} {p1 p2 : Pos} {x t : Str} (h : Snd X B e f) (hg : Gl X x) (hm : X.mg x = none) (hv : bootBuiltins x = some (.builtin "isinstance")) (hg2 : Gl X t) (hm2 : X.mg t = none) (hv2 : bootBuiltins t = some (.type T))
    (hn : x ≠ "__name__" := by decide) (hdb : (x == ("__debug__" : Str)) = false := by decide) (hn2 : t ≠ "__name__" := by decide) (hdb2 : (t == ("__debug__" : Str)) = false := by decide)
    (he : starEach [e, .Name t p2] X.env = (false, eval e X.env) :: starEach [.Name t p2] X.env := by rfl) : Snd X B (.Call (.Name x p1) [e, .Name t p2] [] pos) (yZp T f) := by
  intro w Q r hw
  refine zKp (pe_callB call_isi hg hm hv (pa_cons zYf (pa_cons (pe_bltn hg2 hm2 hv2 (v := .ty T) rfl hn2 hdb2) pa_nil) he) hn hdb he rfl) ?_
  refine zQ0 h r hw fun v w1 y e1 f1 r1 re h1 => ?_
  obtain ⟨x, ex, h1⟩ := zXs h1
  have ro := (re.ro r1).rn r1 ex
  obtain ⟨z, ez, q⟩ := zX2 h1
  cases et : tyName x with
  | none =>
    rw [et] at ez
    cases ez
  | some t0 =>
    rw [et] at ez
    have ez : (kitB t0 T).map (fun b => EV.d (.bool b)) = some z := ez
    cases ek : kitB t0 T with
    | none =>
      rw [ek] at ez
      cases ez
    | some b =>
      rw [ek] at ez
      cases ez
      exact ⟨y, .ty T, _, _, b, rfl, .ty T, xGe r1.sub ro et, kit_ty ek, q w1 (.bl b) rfl e1 f1 r1 (.bl b)⟩
end
end Ev

namespace Ev
open PySem PySem.Spec PyProof.Rows L2

abbrev Fn := List AV → Pg EV
def bare (w : Wd) : Wd := { F := w.F, ro := w.ro, m := ⟨[], w.m.cs⟩, sg := [], H := w.H, Z := fun a => w.H a ≠ none, T := w.T }
def yVg (K : PySem.W.Frag) (g : Fn) (B : XBt) (w0 : Wd) (args : List AV) (Q : VK) : Prop :=
  (g args w0.m).wp (fun v m' => ∀ (w' : Wd) (x : V), w'.m.sl = [] → w'.m.cs = m'.cs → w'.sg = [] → FolS w0 w' → Rep K w' → RE K w' v x → Q x w'.H) (fun x m' => ∀ w' : Wd, w'.m.sl = [] → w'.m.cs = m'.cs → w'.sg = [] → FolS w0 w' → Rep K w' → B x w')
def spG (K : PySem.W.Frag) (n : Nat) (g : Fn) : Sp := fun vs H Q E => ∃ (w0 : Wd) (args : List AV), w0.m.sl = [] ∧ w0.sg = [] ∧ w0.H = H ∧ (∀ a, H a ≠ none → w0.Z a) ∧ Rep K w0 ∧ Paired (RV K w0) args vs ∧ args.length = n ∧
  yVg K g (fun x w' => ∀ cls d, xWt K w' x cls d → E cls d w'.H) w0 args Q
structure FnG (P : Program) (w : World) (K : PySem.W.Frag) (mg : Str → Option Value) (base : Heap) (k : Nat) (f : Addr) (fd : FuncData) (ps : List Str) (sp : Sp) : Prop where
  len : ∀ vs H Q E, sp vs H Q E → vs.length = ps.length
  bnd : ∀ (A : Around) (outer : List Env) (s : Shared) (H : Hp) (args : Args) (Q : VK) (E : XK), A.guards = some [] → Room k A → Env0 P w K mg base A outer s H →
    StX.Bnd (L2.CX P w) P w K mg base fd args ps A outer s H E (fun vs H2 => sp vs H2 Q E) → codeAny (model P w) A (.call (.ref f) args) (CR (L2.CX P w) outer P w H s Q E) s
theorem FnG.go {P : Program} {w : World} {K : PySem.W.Frag} {mg : Str → Option Value} {base : Heap} {k : Nat} {f : Addr} {fd : FuncData} {ps : List Str} {sp : Sp} (F : FnG P w K mg base k f fd ps sp) (A : Around) (outer : List Env) (s : Shared) (H : Hp) (args : Args) (us : List Value) (vs : List V) (Q : VK) (E : XK)
    (hg : A.guards = some []) (hr : Room k A) (e0 : Env0 P w K mg base A outer s H) (hb : BindsTo s fd args (ps.zip us)) (r : Vals vs us) (h : sp vs H Q E) : codeAny (model P w) A (.call (.ref f) args) (CR (L2.CX P w) outer P w H s Q E) s :=
  F.bnd A outer s H args Q E hg hr e0 fun A' Ex Q' cont => hb _ _ _ _ (cont s H vs us e0 (Un.refl ..) rfl (fun _ _ z => z) r (F.len vs H Q E h) h)
theorem FnG.up {P : Program} {w : World} {K : PySem.W.Frag} {mg : Str → Option Value} {base : Heap} {j k : Nat} {f : Addr} {fd : FuncData} {ps : List Str} {sp : Sp} (F : FnG P w K mg base j f fd ps sp) (h : j ≤ k) : FnG P w K mg base k f fd ps sp :=
  ⟨F.len, fun A outer s H args Q E hg hr => F.bnd A outer s H args Q E hg (hr.mono h)⟩

theorem zZt {α β : Type} {R : α → β → Prop} : ∀ {xs : List α} {ys : List β}, Paired R xs ys → xs.length = ys.length
  | _, _, .nil => rfl
  | _, _, .cons _ t => congrArg (· + 1) (zZt t)
theorem xHv {K : PySem.W.Frag} {n : Nat} {g : Fn} {ps : List Str} (h : n = ps.length) : ∀ vs H Q E, spG K n g vs H Q E → vs.length = ps.length := by
  rintro vs H Q E ⟨w0, args, _, _, _, _, _, hv, hn, _⟩
  rw [← zZt hv, hn, h]

theorem yVw {K : PySem.W.Frag} {w : Wd} (r : Rep K w) : Rep K (bare w) :=
  ⟨r.sub, Nat.zero_le _, fun i v h => by simp [bare] at h, r.cs, r.ln, r.rf, r.rk, r.nd, fun i j xs ys x h => by simp [bare] at h, fun a h => h, r.oo, r.tb⟩
theorem yJ2 {K : PySem.W.Frag} {w : Wd} : ∀ {vs : List AV} {xs : List V}, Paired (RV K w) vs xs → Paired (RV K (bare w)) vs xs
  | _, _, .nil => .nil
  | .d _ :: _, _, .cons h t => .cons h (yJ2 t)
  | .cell _ :: _, _, .cons h t => .cons h (yJ2 t)
def back (w w' : Wd) : Wd := { F := w'.F, ro := w'.ro, m := ⟨w.m.sl, w'.m.cs⟩, sg := w.sg, H := w'.H, Z := w.Z, T := w.T }
theorem yZ8 {K : PySem.W.Frag} {w w' : Wd} (r : Rep K w) (f : FolS (bare w) w') (r' : Rep K w') : Rep K (back w w') ∧ FolE w (back w w') := by
  have zn : ∀ a, ¬ (bare w).Z a → w.H a = none := fun a h => Classical.byContradiction fun q => h q
  have kp : ∀ a o, w.H a = some o → a ∉ w.ro → (∀ ps, o ≠ .tbl ps) → w'.H a = some o := fun a o h n => f.frm a o h n (zGq h)
  have tT : w'.T = w.T := f.t
  have nf : ∀ a, w.H a ≠ none → w.F a = none → w'.F a = none := fun a h n => Classical.byContradiction fun q => (f.grow a q).elim (fun z => z n) fun z => z h
  have nr : ∀ a, w.H a ≠ none → a ∉ w.ro → a ∉ w'.ro := fun a h n q => (f.new a q).elim n fun z => z h
  refine ⟨⟨r'.sub, r.le, fun i v h => ?_, r'.cs, r'.ln, r'.rf, r'.rk, r'.nd, r.ow, fun a h => f.liv a (r.zl a h), r'.oo, by have q := r'.tb; unfold TB TK at q ⊢; rw [tT] at q; exact q⟩, ⟨rfl, rfl, f.ext, f.pre, kp, fun a h => (f.new a h).imp id (zn a), f.liv, fun a h => (f.grow a h).imp id fun z q => r.zl a q (zn a z), fun a h => h⟩⟩
  obtain ⟨x, h1, h2⟩ := r.sl i v h
  refine ⟨x, h1, ?_⟩
  cases v with
  | d y => exact R.mono f.ext h2
  | ob ys =>
    obtain ⟨a, e, q1, q3, q4, q5⟩ := h2
    obtain ⟨u, hu⟩ := q1.live
    exact ⟨a, e, q1.keep f.ext (fun u z => kp a u z q4 (q1.ntbl z)) (fun d z => kp d _ z (r.noOwnDict z).1 (by intro _ q; cases q)) (fun _ _ z => z), nf a (zGq hu) q3, nr a (zGq hu) q4, q5⟩
  | cell n =>
    obtain ⟨a, e, q⟩ := h2
    exact ⟨a, e, f.at q⟩
  | thk t => exact ⟨h2.1, yGg h2.2.1 f.ext f.pre, h2.2.2⟩
theorem yU6 {K : PySem.W.Frag} {w w' : Wd} (r : Rep K w) (f : FolS (bare w) w') (hz : w'.m.sl = []) : ∀ {v : EV} {x : V}, RE K w' v x → RE K (back w w') v x
  | .d _, _, h => h
  | .cell _, _, h => h
  | .pk i o, _, ⟨h, _⟩ => by
    rw [hz] at h
    simp at h
  | .new o, _, ⟨a, e, h1, h3, h4, h5, _⟩ => by
    have h5 : ¬ (bare w).Z a := by
      rw [← f.z]
      exact h5
    have nn : w.H a = none := Classical.byContradiction fun q => h5 q
    refine ⟨a, e, h1.keep (Same.refl _) (fun _ z => z) (fun _ z => z) (fun d _ z => ?_), h3, h4, fun z => r.zl a z nn, fun ⟨i, ys, q1, q2⟩ => (r.ownAt (show Own w a from ⟨i, ys, q1, q2⟩)).1 nn⟩
    rw [f.z]
    exact r.zl d z

section
variable {X : Cx} {B : XBt} {e : Expr} {es : List Expr} {pos p : Pos}
def zVj (g : Fn) (args : List AV) : Pg EV := fun m => match g args ⟨[], m.cs⟩ with
  | .ok v m' => .ok v ⟨m.sl, m'.cs⟩
  | .thr x m' => .thr x ⟨m.sl, m'.cs⟩
  | .bad => .bad
def zZf (g : Fn) (fa : Pg (List AV)) : Pg EV := .bind fa fun args => zVj g args
theorem yVv {g : Fn} {w : Wd} {args : List AV} {P : EV → Mem → Prop} {E : Exn → Mem → Prop} (h : (zVj g args w.m).wp P E) : (g args (bare w).m).wp (fun v m' => P v ⟨w.m.sl, m'.cs⟩) (fun x m' => E x ⟨w.m.sl, m'.cs⟩) := by
  unfold zVj at h
  show (g args ⟨[], w.m.cs⟩).wp _ _
  cases q : g args ⟨[], w.m.cs⟩ with
  | ok v m' =>
    rw [q] at h
    exact h
  | thr x m' =>
    rw [q] at h
    exact h
  | bad =>
    rw [q] at h
    exact h
theorem yVu {g : Fn} {n : Nat} {w : Wd} {args : List AV} {xs : List V} {Q : VK} (r : Rep X.K w) (hn : args.length = n) (hv : Paired (RV X.K w) args xs) (h : (zVj g args w.m).wp (fun v m' => zVw X.K w Q v m') (XW X.K B w)) :
    spG X.K n g xs w.H Q fun cls d H' => WXB X.K B cls d w.sg H' := by
  refine ⟨bare w, args, rfl, rfl, rfl, fun a h => h, yVw r, yJ2 hv, hn, ?_⟩
  refine (yVv h).imp (fun v m' q w' x e1 e2 e3 f r' re => ?_) fun x m' q w' e1 e2 e3 f r' cls d ex => ?_
  · obtain ⟨r2, f2⟩ := yZ8 r f r'
    exact q (back w w') x (by show (⟨w.m.sl, w'.m.cs⟩ : Mem) = _; rw [e2]) rfl f2 r2 (yU6 r f e1 re)
  · obtain ⟨r2, f2⟩ := yZ8 r f r'
    exact ⟨x, back w w', r2, rfl, rfl, ex, q (back w w') (by show (⟨w.m.sl, w'.m.cs⟩ : Mem) = _; rw [e2]) (f2.s r) r2⟩
variable {k : Nat} {f : Addr} {fd : FuncData} {ps : List Str} {ds : List Value} {x : Str}
theorem yGv {sg : L2.St} {H : Hp} {s s' : Shared} {pins : List (Addr × Obj)} {e : Value} (C : Ctx X B) (I : L2.Inv X pins sg H s) (h : L2.CX X.prog X.w X.stack H s (fun cls d H' => WXB X.K B cls d sg H') e s') : X.xe e s' :=
  C.tk _ _ (XE.of_call I (fun _ _ _ q => q) h)
theorem wXp {sp : Sp} {pins : List (Addr × Obj)} {sg : L2.St} {H : Hp} {s : Shared} {Q : VK} {us : List Value} {vs : List V} (C : Ctx X B) (F : FnG X.prog X.w X.K X.mg X.base k f fd ps sp) (hr : Room k X.A) (hb : Binds X.K fd ps ds) {dvs : List V} (hd : Vals dvs ds)
    (I : L2.Inv X pins sg H s) (rv : Vals vs us) (h : sp (vs ++ dvs) H Q fun cls d H' => WXB X.K B cls d sg H') : wpAny (model X.prog X.w) X.A (call (.ref f) us) (EP X pins sg Q) X.xe s := by
  have ra : Vals (vs ++ dvs) (us ++ ds) := rv.append hd
  have ln : (us ++ ds).length = ps.length := by
    have := F.len _ _ _ _ h
    rw [← ra.length]
    exact this
  refine wpAny_call (codeAny_mono (F.go X.A X.stack s H ⟨us, []⟩ (us ++ ds) (vs ++ dvs) Q _ C.gd hr I.env0 (hb s us I.kIn ln) ra h) fun r s' hq => ?_)
  match r, hq with
  | .error _, hq => exact yGv C I hq
  | .ok (.ret u), hq => exact I.after hq
  | .ok .next, hq => exact (show False from hq).elim
  | .ok .brk, hq => exact (show False from hq).elim
  | .ok .cont, hq => exact (show False from hq).elim
def xGg (X : Cx) (B : XBt) (sp : Sp) (dvs : List V) (t : TA) : TE := fun sg H Q => t sg H fun vs H1 => sp (vs ++ dvs) H1 Q fun cls d H' => WXB X.K B cls d sg H'
theorem vZv {sp : Sp} {t : TA} (C : Ctx X B) (F : FnG X.prog X.w X.K X.mg X.base k f fd ps sp) (hr : Room k X.A) (hg : Gl X x) (hm : X.mg x = some (.ref f)) (hk : PySem.W.keepIn X.K (.ref f) = true) (hb : Binds X.K fd ps ds) {dvs : List V} (hd : Vals dvs ds) (ha : PA X (e :: es) t)
    (hdb : (x == ("__debug__" : Str)) = false := by decide) (he : starEach (e :: es) X.env = (false, eval e X.env) :: starEach es X.env := by rfl) (hpl : (backTo pos (starEach es X.env)).any (·.1) = false := by rfl) : PE X (.Call (.Name x p) (e :: es) [] pos) (xGg X B sp dvs t) :=
  ⟨fun pins s sg H Q I h => wpAny_Call_Name_kw (ld_glob I hg hm (PySem.W.callWith_K (h₀ := X.base) I.ok.mod.kin hk (thn (ha.run pos pins s sg H _ I h) fun us s1 ⟨vs, H1, I1, rv, q⟩ => ⟨I1.kIn, wXp C F hr hb hd I1 rv q⟩) he hpl) hdb)⟩
theorem wYr {sp : Sp} (C : Ctx X B) (F : FnG X.prog X.w X.K X.mg X.base k f fd ps sp) (hr : Room k X.A) (hg : Gl X x) (hm : X.mg x = some (.ref f)) (hk : PySem.W.keepIn X.K (.ref f) = true) (hb : Binds X.K fd ps ds) {dvs : List V} (hd : Vals dvs ds)
    (hdb : (x == ("__debug__" : Str)) = false := by decide) : PE X (.Call (.Name x p) [] [] pos) (xGg X B sp dvs tNil) :=
  ⟨fun pins s sg H Q I h => wpAny_Call_Name_kw (ld_glob I hg hm (PySem.W.callWith_K0 I.kIn hk (wXp (us := []) C F hr hb hd I .nil h)) hdb)⟩
structure Has (X : Cx) (k : Nat) (x : Str) (ps : List Str) (g : Fn) : Prop where
  ex : ∃ (f : Addr) (fd : FuncData), FnG X.prog X.w X.K X.mg X.base k f fd ps (spG X.K ps.length g) ∧ X.mg x = some (.ref f) ∧ PySem.W.keepIn X.K (.ref f) = true ∧ Binds X.K fd ps []
def zZ4 (n : Nat) (fa : Pg (List AV)) : Pg (List AV) := .bind fa fun vs => if vs.length = n then .ret vs else .stuck
theorem zQw {g : Fn} {n : Nat} {fa : Pg (List AV)} (C : Ctx X B) (h : Has X k x ps g) (hn : ps.length = n) (hr : Room k X.A) (hg : Gl X x) (ha : xJz X B (e :: es) fa)
    (hdb : (x == ("__debug__" : Str)) = false := by decide) (he : starEach (e :: es) X.env = (false, eval e X.env) :: starEach es X.env := by rfl) (hpl : (backTo pos (starEach es X.env)).any (·.1) = false := by rfl) : Snd X B (.Call (.Name x p) (e :: es) [] pos) (zZf g (zZ4 n fa)) := by
  subst hn
  obtain ⟨f, fd, F, hm, hk, hb⟩ := h.ex
  intro w Q r hw
  refine zKp (vZv C F hr hg hm hk hb .nil xV1 hdb he hpl) ?_
  have hw := wp_bind (wp_bind hw)
  refine ha w _ r (hw.imp (fun vs m' q w1 xs em e1 f1 r1 rv => ?_) fun _ _ q => q)
  subst em
  show spG X.K ps.length g (xs ++ []) w1.H Q _
  rw [List.append_nil]
  by_cases hl : vs.length = ps.length
  · rw [if_pos hl] at q
    have q2 : (zVj g vs w1.m).wp (zVw X.K w1 Q) (XW X.K B w1) := Res.wp.imp q (fun v m' z w2 y em es f2 r2 re => z w2 y em (es.trans e1) (f1.trans f2) r2 re) fun _ _ z => z.fol (f1.s r)
    have z := yVu r1 hl rv q2
    rw [e1] at z
    exact z
  · rw [if_neg hl] at q
    exact q.elim
end
end Ev

namespace Ev
open PySem PySem.Spec PyProof.Rows L2

def toS : AV → SV
  | .d x => .d x
  | .cell n => .cell n
def zXq (n : Nat) (args : List AV) : List (Option SV) := args.map (fun a => some (toS a)) ++ List.replicate (n - args.length) none
def xV2 : EV → EV
  | .d x => .d x
  | .new o => .new o
  | .pk _ o => .new o
  | .cell n => .cell n
def vQb : Res Fl → Res EV
  | .ok (.ret v) m => .ok (xV2 v) ⟨[], m.cs⟩
  | .ok .next m => .ok (.d .none) ⟨[], m.cs⟩
  | .thr x m => .thr x ⟨[], m.cs⟩
  | _ => .bad
def zZp (n : Nat) (fb : Pg Fl) : Fn := fun args m => vQb (fb ⟨zXq n args, m.cs⟩)
theorem wZf {r : Res Fl} {P : EV → Mem → Prop} {E : Exn → Mem → Prop} (h : (vQb r).wp P E) : r.wp (fun fl m => match fl with
    | .ret v => P (xV2 v) ⟨[], m.cs⟩
    | .next => P (.d .none) ⟨[], m.cs⟩
    | _ => False) (fun x m => E x ⟨[], m.cs⟩) := by
  cases r with
  | bad => exact h
  | thr x m => exact h
  | ok fl m =>
    cases fl with
    | next => exact h
    | brk => exact h
    | cont => exact h
    | ret v => exact h
theorem xGj {K : PySem.W.Frag} {w : Wd} : ∀ {args : List AV} {vs : List V}, Paired (RV K w) args vs → ∀ (i : Nat) (v : SV), (args.map fun a => some (toS a))[i]? = some (some v) → ∃ x, (vs.map some)[i]? = some (some x) ∧ RS K w v x ∧ ∀ xs, v ≠ .ob xs
  | _, _, .nil, _, _, h => by simp at h
  | a :: _, x :: _, .cons h t, 0, v, e => by
    simp at e
    subst e
    refine ⟨x, by simp, ?_⟩
    cases a with
    | d y => exact ⟨h, fun _ z => by cases z⟩
    | cell n => exact ⟨h, fun _ z => by cases z⟩
  | _ :: _, _ :: _, .cons _ t, i + 1, v, e => by
    obtain ⟨x, h1, h2⟩ := xGj t i v (by simpa using e)
    exact ⟨x, by simpa using h1, h2⟩
theorem xXu {α : Type} {l : List (Option α)} {k i : Nat} {v : α} (h : (l ++ List.replicate k none)[i]? = some (some v)) : l[i]? = some (some v) := by
  by_cases q : i < l.length
  · rw [List.getElem?_append_left q] at h
    exact h
  · rw [List.getElem?_append_right (by omega), List.getElem?_replicate] at h
    split at h <;> cases h
def entry (N : List Str) (w0 : Wd) (args : List AV) (vs : List V) : Wd := { F := w0.F, ro := w0.ro, m := ⟨zXq N.length args, w0.m.cs⟩, sg := start N vs, H := w0.H, Z := w0.Z, T := w0.T }
theorem xK5 {K : PySem.W.Frag} {N : List Str} {w0 : Wd} {args : List AV} {vs : List V} (r : Rep K w0) (hv : Paired (RV K w0) args vs) : Rep K (entry N w0 args vs) := by
  have ln := zZt hv
  have get : ∀ (i : Nat) (v : SV), (zXq N.length args)[i]? = some (some v) → ∃ x, (start N vs)[i]? = some (some x) ∧ RS K w0 v x ∧ ∀ xs, v ≠ .ob xs := fun i v h => by
    obtain ⟨x, h1, h2⟩ := xGj hv i v (xXu h)
    refine ⟨x, ?_, h2⟩
    show (vs.map some ++ List.replicate (N.length - vs.length) none)[i]? = some (some x)
    rw [List.getElem?_append_left (List.getElem?_eq_some_iff.mp h1).1]
    exact h1
  refine ⟨r.sub, ?_, fun i v h => ?_, r.cs, r.ln, r.rf, r.rk, r.nd, fun i j xs ys x h1 h2 _ _ => ?_, r.zl, r.oo, r.tb⟩
  · show (zXq N.length args).length ≤ (start N vs).length
    unfold zXq L2.start
    simp only [List.length_append, List.length_map, List.length_replicate, ln]
    exact Nat.le_refl _
  · obtain ⟨x, h1, h2, h3⟩ := get i v h
    refine ⟨x, h1, ?_⟩
    cases v with
    | d y => exact h2
    | ob xs => exact absurd rfl (h3 xs)
    | cell n => exact h2
    | thk t => exact h2
  · obtain ⟨x, _, _, h3⟩ := get i _ h1
    exact absurd rfl (h3 xs)
theorem wX9 {K : PySem.W.Frag} {w : Wd} (r : Rep K w) {v : EV} {x : V} (h : RE K w v x) : RE K { w with m := ⟨[], w.m.cs⟩, sg := [] } (xV2 v) x := by
  cases v with
  | d y => exact h
  | cell n => exact h
  | new o =>
    obtain ⟨a, e, h1, h3, h4, h5, _⟩ := h
    exact ⟨a, e, h1, h3, h4, h5, fun ⟨i, ys, q, _⟩ => by simp at q⟩
  | pk i o =>
    obtain ⟨h1, h2⟩ := h
    obtain ⟨y, h3, a, e, q1, q3, q4, q5⟩ := r.sl i _ h1
    rw [h2] at h3
    cases h3
    exact ⟨a, e, q1, q3, q4, q5, fun ⟨i, ys, q, _⟩ => by simp at q⟩
theorem xQb {K : PySem.W.Frag} {w : Wd} (r : Rep K w) : Rep K { w with m := ⟨[], w.m.cs⟩, sg := [] } := ⟨r.sub, Nat.zero_le _, fun i v h => by simp at h, r.cs, r.ln, r.rf, r.rk, r.nd, fun i j xs ys x h => by simp at h, r.zl, r.oo, r.tb⟩
section
variable {P : Program} {w : World} {K : PySem.W.Frag} {mg : Str → Option Value} {base : Heap}
theorem wUa {x qual : Str} {st : Stmt} {f : Addr} {fd : FuncData} {N ps : List Str} {k : Nat} {fb : Pg Fl} (F : Fun K x qual st f fd) (S : FnScope N ps (defScope st)) (sm : SM base)
    (hbody : ∀ (cdv : Value) (A : Around) (outer : List Env) (s : Shared) (H : Hp) (E : XK) (B : XBt), Ctx (cxOf (L2.CX P w) P w K mg base N qual (defScope st) f cdv A outer s H E) B → PassesOwn (model P w) (cxOf (L2.CX P w) P w K mg base N qual (defScope st) f cdv A outer s H E).A (cxOf (L2.CX P w) P w K mg base N qual (defScope st) f cdv A outer s H E).env (cxOf (L2.CX P w) P w K mg base N qual (defScope st) f cdv A outer s H E).xe →
      Room k (cxOf (L2.CX P w) P w K mg base N qual (defScope st) f cdv A outer s H E).A →
      xW0 (cxOf (L2.CX P w) P w K mg base N qual (defScope st) f cdv A outer s H E) B (defBody st) fb) : FnG P w K mg base (k + 1) f fd ps (spG K ps.length (zZp N.length fb)) := by
  obtain ⟨oc, od, kV, doc, pm, an, cdv, ct, osl, rfl, lk, hcd⟩ := F.ex
  refine ⟨xHv rfl, fun A outer s H args Q E hg hr e0 hb => ?_⟩
  refine StX.run_bnd (k := k) lk hcd S hr e0 hb fun s2 H2 vs hsp rm => ?_
  obtain ⟨w0, as, z1, z2, z3, zz, r0, rv, hn, hc⟩ := hsp
  subst z3
  let B : XBt := fun x w' => ∀ cls d, xWt K w' x cls d → E cls d w'.H
  have C : Ctx (cxOf (L2.CX P w) P w K mg base N qual (defScope st) f cdv A outer s2 w0.H E) B := ⟨rfl, hg, rm.mono (Nat.zero_le _), S.nd, sm, (takes_of rfl rfl rfl rfl).imp fun cls d sg H ⟨x, w', _, _, eH, ex, b⟩ => eH ▸ b cls d ex⟩
  have body := hbody cdv A outer s2 w0.H E B C (passes_of rfl) rm
  have re := xK5 (N := N) r0 rv
  have hw : (fb (entry N w0 as vs).m).wp (zGd K (entry N w0 as vs) { nx := fun _ H' => Q .non H', rt := Q }) (XW K B (entry N w0 as vs)) := by
    refine (wZf (r := fb ⟨zXq N.length as, w0.m.cs⟩) hc).imp (fun fl m' q w' em fol r' => ?_) fun x m' q w' em fol r' => ?_
    · subst em
      have fo : FolS w0 { w' with m := ⟨[], w'.m.cs⟩, sg := [] } := ⟨fol.z, fol.t, fol.ext, fol.pre, fol.frm, fol.new, fol.liv, fol.grow⟩
      cases fl with
      | next => exact q { w' with m := ⟨[], w'.m.cs⟩, sg := [] } .non rfl rfl rfl fo (xQb r') .non
      | brk => exact q.elim
      | cont => exact q.elim
      | ret v => exact fun x re => q { w' with m := ⟨[], w'.m.cs⟩, sg := [] } x rfl rfl rfl fo (xQb r') (wX9 r' re)
    · subst em
      exact fun cls d ex => q { w' with m := ⟨[], w'.m.cs⟩, sg := [] } rfl rfl rfl ⟨fol.z, fol.t, fol.ext, fol.pre, fol.frm, fol.new, fol.liv, fol.grow⟩ (xQb r') cls d ex
  exact ⟨_, wZy, body (entry N w0 as vs) _ re hw⟩
end
end Ev

namespace Ev
open PySem PySem.Spec PyProof.Rows L2

def setM (m : Mem) (i : Nat) (v : SV) : Mem := { m with sl := m.sl.set i (some v) }
def yYq (w : Wd) (i : Nat) (v : SV) (x : V) : Wd := { w with m := setM w.m i v, sg := w.sg.set i (some x) }
theorem xZg {w : Wd} {i j : Nat} {v u : SV} {x : V} (h : (yYq w i v x).m.sl[j]? = some (some u)) : (j = i ∧ u = v ∧ i < w.m.sl.length) ∨ (j ≠ i ∧ w.m.sl[j]? = some (some u)) := by
  rcases yYp (show (w.m.sl.set i (some v))[j]? = some (some u) from h) with ⟨q1, q2⟩ | q
  · refine .inl ⟨q1, Option.some.inj q2, ?_⟩
    have := (List.getElem?_eq_some_iff.mp h).1
    rw [q1] at this
    simpa [yYq, setM] using this
  · exact .inr q
theorem yW2 {K : PySem.W.Frag} {w : Wd} (r : Rep K w) {i : Nat} {v : SV} {x : V} (h : RS K w v x) (ho : ∀ xs a, v = .ob xs → x = .ref a → ¬ Own w a) : Rep K (yYq w i v x) ∧ FolS w (yYq w i v x) := by
  have sgi : i < w.m.sl.length → (w.sg.set i (some x))[i]? = some (some x) := fun q => List.getElem?_set_self (Nat.lt_of_lt_of_le q r.le)
  have sgj : ∀ j, j ≠ i → (w.sg.set i (some x))[j]? = w.sg[j]? := fun j q => List.getElem?_set_ne (Ne.symm q)
  refine ⟨⟨r.sub, ?_, fun j u hj => ?_, r.cs, r.ln, r.rf, r.rk, r.nd, fun j k xs ys y hj hk h1 h2 => ?_, r.zl, r.oo, r.tb⟩, ⟨rfl, rfl, Same.refl _, ⟨[], (List.append_nil _).symm⟩, fun _ _ h _ _ _ => h, fun _ h => .inl h, fun _ h => h, fun _ h => .inl h⟩⟩
  · show (w.m.sl.set i _).length ≤ (w.sg.set i _).length
    rw [List.length_set, List.length_set]
    exact r.le
  · rcases xZg hj with ⟨q1, q2, q3⟩ | ⟨q1, q2⟩
    · subst q1 q2
      exact ⟨x, sgi q3, h⟩
    · obtain ⟨y, h1, h2⟩ := r.sl j u q2
      exact ⟨y, (sgj j q1).trans h1, h2⟩
  · have atJ : ∀ {j : Nat} {xs : Ob}, (yYq w i v x).m.sl[j]? = some (some (.ob xs)) → (yYq w i v x).sg[j]? = some (some y) → (j = i ∧ v = .ob xs ∧ y = x) ∨ (j ≠ i ∧ w.m.sl[j]? = some (some (.ob xs)) ∧ w.sg[j]? = some (some y)) := fun {j xs} hj hy => by
      have hy : (w.sg.set i (some x))[j]? = some (some y) := hy
      rcases xZg hj with ⟨q1, q2, q3⟩ | ⟨q1, q2⟩
      · subst q1
        rw [sgi q3] at hy
        exact .inl ⟨rfl, q2.symm, (Option.some.inj (Option.some.inj hy)).symm⟩
      · rw [sgj j q1] at hy
        exact .inr ⟨q1, q2, hy⟩
    have clash : ∀ {j : Nat} {xs ys : Ob}, v = .ob ys → y = x → w.m.sl[j]? = some (some (.ob xs)) → w.sg[j]? = some (some y) → False := fun {j xs ys} e1 e2 e3 e4 => by
      subst e1 e2
      obtain ⟨a, e, _⟩ := h
      subst e
      exact ho _ a rfl rfl ⟨j, xs, e3, e4⟩
    rcases atJ hj h1 with ⟨a1, a2, a3⟩ | ⟨a1, a2, a3⟩
    · rcases atJ hk h2 with ⟨b1, b2, b3⟩ | ⟨b1, b2, b3⟩
      · exact a1.trans b1.symm
      · exact (clash a2 a3 b2 b3).elim
    · rcases atJ hk h2 with ⟨b1, b2, b3⟩ | ⟨b1, b2, b3⟩
      · exact (clash b2 b3 a2 a3).elim
      · exact r.ow j k xs ys y a2 b2 a3 b3
theorem xH1 {K : PySem.W.Frag} {w : Wd} (r : Rep K w) {i : Nat} {v : SV} {x : V} (h : RS K w v x) (ho : ∀ xs, v ≠ .ob xs) : Rep K (yYq w i v x) ∧ FolE w (yYq w i v x) := by
  refine ⟨(yW2 r h fun xs a e _ => absurd e (ho xs)).1, ⟨rfl, rfl, Same.refl _, ⟨[], (List.append_nil _).symm⟩, fun _ _ h _ _ => h, fun _ h => .inl h, fun _ h => h, fun _ h => .inl h, fun a ⟨j, xs, h1, h2⟩ => ?_⟩⟩
  rcases xZg h1 with ⟨_, q, _⟩ | ⟨q1, q2⟩
  · exact absurd q.symm (ho xs)
  · have h2 : (w.sg.set i (some x))[j]? = some (some (.ref a)) := h2
    rw [List.getElem?_set_ne (Ne.symm q1)] at h2
    exact ⟨j, xs, q2, h2⟩
def wZo (i : Nat) (v : EV) : Pg Unit := match v with
  | .new o => fun m => .ok () (setM m i (.ob o))
  | v => .bind (toA v) fun a => fun m => .ok () (setM m i (toS a))
theorem xHe {K : PySem.W.Frag} {B : XBt} {w : Wd} (r : Rep K w) {v : EV} {x : V} (h : RE K w v x) {i : Nat} {P : Unit → Mem → Prop} {E : Exn → Mem → Prop} (hw : (wZo i v w.m).wp P E) : ∃ w' : Wd, w'.sg = w.sg.set i (some x) ∧ w'.H = w.H ∧ FolS w w' ∧ Rep K w' ∧ P () w'.m := by
  have gen : ∀ {P : Unit → Mem → Prop}, ((Pg.bind (toA v) fun a => fun m => Res.ok () (setM m i (toS a))) w.m).wp P E → ∃ w' : Wd, w'.sg = w.sg.set i (some x) ∧ w'.H = w.H ∧ FolS w w' ∧ Rep K w' ∧ P () w'.m := fun {P} hw => by
    obtain ⟨a, w1, ea, e1, e2, f1, r1, rv⟩ := zYi r h
    have hw := wp_bind hw
    rw [ea] at hw
    obtain ⟨r2, f2⟩ := yW2 (i := i) (v := toS a) (x := x) r1 (by cases a <;> exact rv) (fun xs b e _ => by cases a <;> cases e)
    exact ⟨yYq w1 i (toS a) x, by show w1.sg.set i _ = _; rw [e1], e2, (f1.s r).trans f2, r2, hw⟩
  cases v with
  | new o =>
    obtain ⟨a, e, h1, h3, h4, h5, h6⟩ := h
    subst e
    obtain ⟨r2, f2⟩ := yW2 (i := i) (v := .ob o) (x := .ref a) r ⟨a, rfl, h1, h3, h4, h5⟩ (fun ys b _ e => by cases e; exact h6)
    exact ⟨yYq w i (.ob o) (.ref a), rfl, rfl, f2, r2, hw⟩
  | d y => exact gen hw
  | pk j xs => exact gen hw
  | cell n => exact gen hw

section
variable {X : Cx} {B : XBt} {e c : Expr} {es : List Expr} {pos p : Pos} {f : Pg EV} {st : Stmt} {rest sa sb : List Stmt} {fs fb fa : Pg Fl} {tc : Pg Bool}
theorem post_of {K : PySem.W.Frag} {w w1 : Wd} {D : Ends} {fl : Fl} {m : Mem} (q : zGd K w D fl m) (f : FolS w w1) : zGd K w1 D fl m := fun w' em g r => q w' em (f.trans g) r
theorem wXe {K : PySem.W.Frag} {B : XBt} {w w1 : Wd} {D : Ends} {r : Res Fl} (q : r.wp (zGd K w D) (XW K B w)) (f : FolS w w1) : r.wp (zGd K w1 D) (XW K B w1) := q.imp (fun _ _ z => post_of z f) fun _ _ z => z.fol f

def zQ1 (f g : Pg Fl) : Pg Fl := .bind f fun fl => match fl with
  | .next => g
  | fl => .ret fl
theorem zQ2 : xW0 X B [] (.ret .next) := fun w D r h => xHn pss_nil (h w rfl (FolS.refl w) r)
theorem zQg (h1 : yGc X B st fs) (h2 : xW0 X B rest fb) : xW0 X B (st :: rest) (zQ1 fs fb) := by
  intro w D r hw
  refine xHn (pss_cons wHm wZy) ?_
  refine h1 w { D with nx := WB X rest D } r ((wp_bind hw).imp (fun fl m' q w1 em f1 r1 => ?_) fun _ _ q => q)
  subst em
  cases fl with
  | next => exact h2 w1 D r1 (wXe q f1)
  | brk => exact q w1 rfl f1 r1
  | cont => exact q w1 rfl f1 r1
  | ret v => exact q w1 rfl f1 r1
theorem zQi (h1 : yGc X B st fs) : xW0 X B [st] fs := fun w D r hw => xHn (pss_one wHm) (h1 w D r hw)

def evSet (i : Nat) (f : Pg EV) : Pg Fl := .bind f fun v => .bind (wZo i v) fun _ => .ret .next
theorem zQ5 {x : Str} {pos' : Pos} (i : Nat) (C : Ctx X B) (hi : X.N[i]? = some x) (hx : Loc X.env.scope x) (he : Snd X B e f) (hs : swapsWith e (some (.Name x pos')) pos.line X.env = pure false := by rfl)
    (hf : X.fn x = true ∨ X.env.scope.names.lookup x = some .local := by first | exact .inl rfl | exact .inr rfl | assumption) : yGc X B (.Assign [.Name x pos'] e pos) (evSet i f) := by
  intro w D r hw
  refine yQa (ps_set C.nd hi hx zYf hs hf) ?_
  refine zQ0 he r hw fun v w1 y e1 f1 r1 re h1 => ?_
  obtain ⟨w2, s2, h2, f2, r2, q⟩ := xHe (B := B) r1 re (wp_bind h1)
  have q := q w2 rfl ((f1.s r).trans f2) r2
  rw [s2, h2, e1] at q
  exact q
def zZr (f : Pg EV) : Pg Fl := .bind f fun v => .ret (.ret v)
theorem zQx (he : Snd X B e f) : yGc X B (.Return (some e) pos) (zZr f) := by
  intro w D r hw
  refine yQa (ps_ret zYf) ?_
  refine zQ0 he r hw fun v w1 y e1 f1 r1 re h1 => ?_
  exact h1 w1 rfl (f1.s r) r1 y re
def zXr (t : Pg Bool) (a b : Pg Fl) : Pg Fl := .bind t fun k => if k then a else b
theorem zZs (hc : yHy X B c tc) (ha : xW0 X B sa fa) (hb : xW0 X B sb fb) : yGc X B (.If c sa sb pos) (zXr tc fa fb) := by
  intro w D r hw
  refine yQa (ps_if xYy wZy wZy) ?_
  refine yQg hc r hw fun k w1 e1 f1 r1 q => ?_
  have fo := f1.s r
  rw [← e1]
  cases k with
  | true => exact iteT (ha w1 D r1 (q.imp (fun _ _ z => post_of z fo) fun _ _ z => z))
  | false => exact iteF (hb w1 D r1 (q.imp (fun _ _ z => post_of z fo) fun _ _ z => z))
def yHj (f : Pg EV) : Pg Fl := .bind f fun _ => .ret .next
theorem xZd (he : Snd X B e f) (hs : swapsWith e none pos.line X.env = pure false := by rfl) : yGc X B (.Expr e pos) (yHj f) := by
  intro w D r hw
  refine yQa (ps_expr zYf hs) ?_
  refine zQ0 he r hw fun v w1 y e1 f1 r1 re h1 => ?_
  have q := h1 w1 rfl (f1.s r) r1
  rw [e1] at q
  exact q

theorem yUu {K : PySem.W.Frag} {w : Wd} (r : Rep K w) {i : Nat} {o o' : Ob} {a : Addr} {u : HO} (h1 : w.m.sl[i]? = some (some (.ob o))) (h2 : w.sg[i]? = some (some (.ref a))) (h4 : OH K w.F (upd w.H a u) w.Z a o') (hni : (∀ c fs, o ≠ .ins c fs) ∨ (∀ C d vs, w.H a = some (.ins C d vs) → ∃ C' vs', u = .ins C' d vs') := by exact .inl (by intro _ _ z; cases z)) :
    Rep K { w with m := setM w.m i (.ob o'), H := upd w.H a u } ∧ FolS w { w with m := setM w.m i (.ob o'), H := upd w.H a u } := by
  have oa : Own w a := ⟨i, o, h1, h2⟩
  obtain ⟨q0, q1, q2, q3⟩ := r.ownAt oa
  have oth : ∀ b o, b ≠ a → w.H b = some o → upd w.H a u b = some o := fun b o n e => by
    rw [upd_ne n]
    exact e
  have nod : ∀ {b d : Addr}, w.H d = some (.own b) → d ≠ a := fun {b d} e z => (r.noOwnDict e).2 (z ▸ oa)
  have liv : ∀ b, w.H b ≠ none → upd w.H a u b ≠ none := fun b h => by
    by_cases e : b = a
    · rw [e, upd_same]
      simp
    · rw [upd_ne e]
      exact h
  have tb' : (TK K w).P (upd w.H a u) ∧ (∀ b ps, w.F b ≠ some (.tbl ps)) ∧ ∀ b ps, upd w.H a u b = some (.tbl ps) → ∃ q, (b, q) ∈ xJt K := by
    obtain ⟨x, hx, a', ea', hO, _⟩ := r.sl i _ h1
    rw [h2] at hx
    cases hx
    cases ea'
    exact ⟨(TK _ w).us r.tb.1 hO.soft, r.tb.2.1, yJh r.tb.2.2 (h4.ntbl upd_same)⟩
  have sl' : ∀ (j : Nat) (v : SV), (setM w.m i (.ob o')).sl[j]? = some (some v) → (j = i ∧ v = .ob o') ∨ (j ≠ i ∧ w.m.sl[j]? = some (some v)) := fun j v h => by
    rcases yYp (show (w.m.sl.set i (some (.ob o')))[j]? = some (some v) from h) with ⟨q1, q2⟩ | q
    · exact .inl ⟨q1, Option.some.inj q2⟩
    · exact .inr q
  have wX8 : ∀ (j : Nat) (zs : Ob), (setM w.m i (.ob o')).sl[j]? = some (some (.ob zs)) → ∃ us, w.m.sl[j]? = some (some (.ob us)) := fun j zs h => by
    rcases sl' j _ h with ⟨e, _⟩ | ⟨_, e⟩
    · subst e
      exact ⟨o, h1⟩
    · exact ⟨zs, e⟩
  refine ⟨⟨fun b o e hn => ?_, ?_, fun j v h => ?_, fun n zs h => ?_, r.ln, r.rf, r.rk, r.nd, fun j k us zs x p1 p2 p3 p4 => ?_, fun b h => liv b (r.zl b h), fun d b h => ?_, tb'⟩, ⟨rfl, rfl, Same.refl _, ⟨[], (List.append_nil _).symm⟩, fun b o e _ z _ => oth b o (fun q => q3 (q ▸ z)) e, fun _ h => .inl h, liv, fun _ h => .inl h⟩⟩
  · have n : b ≠ a := fun z => by
      have e : w.F b = some o := e
      rw [z, q1] at e
      cases e
    exact oth b o n (r.sub b o e hn)
  · show (w.m.sl.set i _).length ≤ _
    rw [List.length_set]
    exact r.le
  · rcases sl' j v h with ⟨e1, e2⟩ | ⟨e1, e2⟩
    · subst e1 e2
      exact ⟨.ref a, h2, a, rfl, h4, q1, q2, q3⟩
    · obtain ⟨x, p1, p2⟩ := r.sl j v e2
      refine ⟨x, p1, ?_⟩
      cases v with
      | d y => exact p2
      | cell n => exact p2
      | thk t => exact p2
      | ob zs =>
        obtain ⟨b, e, k1, k2⟩ := p2
        have nb : b ≠ a := fun z => e1 (r.ow j i _ _ _ e2 h1 p1 (by rw [e, z]; exact h2))
        exact ⟨b, e, k1.keep (Same.refl _) (fun u => oth b u nb) (fun d z => oth d _ (nod z) z) (fun _ _ z => z), k2⟩
  · obtain ⟨b, k1, k2⟩ := r.cs n zs h
    have nb : b ≠ a := fun z => q2 (z ▸ List.mem_of_getElem? k1)
    exact ⟨b, k1, k2.keep (Same.refl _) (fun u => oth b u nb) (fun d z => oth d _ (nod z) z) (fun _ _ z => z)⟩
  · obtain ⟨us', p1'⟩ := wX8 j us p1
    obtain ⟨zs', p2'⟩ := wX8 k zs p2
    exact r.ow j k us' zs' x p1' p2' p3 p4
  · have h : upd w.H a u d = some (.own b) := h
    by_cases q : d = a
    · rw [q] at h
      exact absurd h h4.noOwn
    · rw [upd_ne q] at h
      obtain ⟨C, vs, e⟩ := r.oo d b h
      by_cases z : b = a
      · subst z
        rcases hni with hni | hni
        · obtain ⟨x, hx, a', ea', hO, _⟩ := r.sl i _ h1
          rw [h2] at hx
          cases hx
          cases ea'
          cases o with
          | lst xs =>
            obtain ⟨ws, k1, _⟩ := hO
            rw [k1] at e
            cases e
          | dic es =>
            obtain ⟨ws, k1, _⟩ := hO
            rw [k1] at e
            cases e
          | ins c fs => exact absurd rfl (hni c fs)
        · obtain ⟨C', vs', eu⟩ := hni C d vs e
          exact ⟨C', vs', by rw [eu]; exact upd_same⟩
      · exact ⟨C, vs, oth b _ z e⟩
def wZp (i : Nat) (d : PyData) : Pg Fl := fun m => match m.sl[i]? with
  | some (some (.ob (.lst xs))) => if xs.length < 16777216 then .ok .next (setM m i (.own (xs ++ [d]))) else .bad
  | _ => .bad
def yWu (i : Nat) : Pg Unit := fun m => match m.sl[i]? with
  | some (some (.ob (.lst _))) => .ok () m
  | _ => .bad
theorem yUm {i : Nat} {m : Mem} {P : Unit → Mem → Prop} {E : Exn → Mem → Prop} (h : (yWu i m).wp P E) : ∃ xs, m.sl[i]? = some (some (.own xs)) ∧ P () m := by
  unfold yWu at h
  split at h
  · rename_i xs e
    exact ⟨xs, e, h⟩
  · exact h.elim
def xUq (i : Nat) (f : Pg EV) : Pg Fl := .bind (yWu i) fun _ => .bind f fun v => .bind (toA v) fun a => .bind (yQr a) fun d => wZp i d
theorem xU1 {w : Wd} {i : Nat} {d : PyData} {P : Fl → Mem → Prop} {E : Exn → Mem → Prop} (h : (wZp i d w.m).wp P E) : ∃ xs, w.m.sl[i]? = some (some (.own xs)) ∧ xs.length < 16777216 ∧ P .next (setM w.m i (.own (xs ++ [d]))) := by
  unfold wZp at h
  split at h
  · rename_i xs e
    split at h
    · rename_i hl
      exact ⟨xs, e, hl, h⟩
    · exact h.elim
  · exact h.elim
theorem zHm {a : AV} {m : Mem} {P : PyData → Mem → Prop} {E : Exn → Mem → Prop} (h : (yQr a m).wp P E) : ∃ d, a = .d d ∧ P d m := by
  cases a with
  | d x => exact ⟨x, rfl, h⟩
  | cell n => exact h.elim
theorem xHz {x : Str} {p1 p2 p3 : Pos} (i : Nat) (hi : X.N[i]? = some x) (hv : Vis X.env.scope x) (he : Snd X B e f)
    (hd : (x == ("__debug__" : Str)) = false := by decide) (hcd : (x == ("__classdict__" : Str)) = false := by decide)
    (hbase : attributeBase (.Name x p1) "append" X.env (eval (.Name x p1) X.env) = eval (.Name x p1) X.env := by rfl)
    (hfew : ((backTo p3 (starEach [e] X.env)).all (fun x => !x.1) && (backToKw p3 (keywordEach [] X.env)).all (fun x => x.1.isSome) && decide ([e].length + ([] : List Keyword).length + (if ([] : List Keyword).isEmpty then 0 else 1) < 30)) = true := by rfl)
    (hline : (p2.endLine == p3.line) = true := by rfl) (hst : starEach [e] X.env = (false, eval e X.env) :: starEach [] X.env := by rfl) :
    yGc X B (.Expr (.Call (.Attribute (.Name x p1) "append" p2) [e] [] p3) pos) (xUq i f) := by
  intro w D r hw
  refine yQa (ps_expr (pe_bm PySem.F.plainAttrs_list PySem.F.slot_list_append PySem.F.type_list_append mt_append (pe_var hi hv hd hcd) (pa_cons zYf pa_nil hst) rfl hfew hline hst rfl) rfl) ?_
  obtain ⟨us, o1, hw⟩ := yUm (wp_bind hw)
  obtain ⟨u, hu, b0, e0, ⟨vs0, k0, _⟩, _⟩ := r.sl i _ o1
  refine ⟨u, hu, ?_, ?_⟩
  · subst e0
    exact .inl ⟨rfl, vs0, .inl (.inl k0)⟩
  refine zQ0 he r hw fun v w1 y e1 f1 r1 re h1 => ?_
  obtain ⟨a, w2, ea, e2, e3, f2, r2, rv⟩ := zYi r1 re
  have h2 := wp_bind h1
  rw [ea] at h2
  obtain ⟨d, rfl, h3⟩ := zHm (wp_bind (show (Pg.bind (yQr a) (fun d => wZp i d) w2.m).wp _ _ from h2))
  obtain ⟨xs, g1, g2, q⟩ := xU1 h3
  have s2 : w2.sg = w.sg := e2.trans e1
  obtain ⟨z, g3, b, g4, ⟨vs, g5, g6⟩, _⟩ := r2.sl i _ g1
  rw [s2, hu] at g3
  cases g3
  subst g4
  obtain ⟨r3, f3⟩ := yUu (o' := .lst (xs ++ [d])) (u := .lst (vs ++ [y])) r2 g1 (by rw [s2]; exact hu) ⟨_, upd_same, g6.app (.one rv)⟩
  rw [← e3]
  refine ⟨b, vs, y, rfl, rfl, g5, by rw [← g6.len, sizeLine_eq]; exact g2, ?_⟩
  have q := q _ rfl ((f1.s r).trans ((f2.s r1).trans f3)) r3
  rw [← s2]
  exact q
end
end Ev

namespace Ev
open PySem PySem.Spec PyProof.Rows L2

def WG (X : Cx) (tg : Expr) : TG := fun v sg H Q => Cl (∀ (pins : List (Addr × Obj)) (s : Shared) (u : Value), L2.Inv X pins sg H s → RelV v u → wpAny (model X.prog X.w) X.A (assign tg X.env u) (fun _ s' => ∃ sg' H', L2.Inv X pins sg' H' s' ∧ Q sg' H') X.xe s)
theorem wYo {X : Cx} {tg : Expr} : PG X tg (WG X tg) := ⟨fun pins s _ _ _ u _ I r h => h.go pins s u I r⟩
theorem xHm {X : Cx} {tg : Expr} {t : TG} (h : PG X tg t) {v : V} {sg : L2.St} {H : Hp} {Q : L2.St → Hp → Prop} (q : t v sg H Q) : WG X tg v sg H Q := ⟨fun pins s u I r => h.run pins s sg H v u Q I r q⟩
def WGs (X : Cx) (ts : List Expr) : TGs := fun vs sg H Q => Cl (∀ (pins : List (Addr × Obj)) (s : Shared) (us : List Value), L2.Inv X pins sg H s → Vals vs us → wpAny (model X.prog X.w) X.A (assignInOrder ((assignEach ts X.env).map (·.2)) us) (fun _ s' => ∃ sg' H', L2.Inv X pins sg' H' s' ∧ Q sg' H') X.xe s)
theorem wQm {X : Cx} {ts : List Expr} : PGs X ts (WGs X ts) := ⟨fun pins s _ _ _ us _ I r h => h.go pins s us I r⟩
theorem xGd {X : Cx} {ts : List Expr} {t : TGs} (h : PGs X ts t) {vs : List V} {sg : L2.St} {H : Hp} {Q : L2.St → Hp → Prop} (q : t vs sg H Q) : WGs X ts vs sg H Q := ⟨fun pins s us I r => h.run pins s sg H vs us Q I r q⟩
def SameBut (is : List Nat) (a b : L2.St) : Prop := b.length = a.length ∧ ∀ j, j ∉ is → b[j]? = a[j]?
theorem SameBut.refl (is : List Nat) (a : L2.St) : SameBut is a a := ⟨rfl, fun _ _ => rfl⟩
theorem SameBut.trans {is : List Nat} {a b c : L2.St} (h : SameBut is a b) (g : SameBut is b c) : SameBut is a c := ⟨g.1.trans h.1, fun j n => (g.2 j n).trans (h.2 j n)⟩
theorem SameBut.mono {is js : List Nat} {a b : L2.St} (h : SameBut is a b) (s : ∀ i, i ∈ is → i ∈ js) : SameBut js a b := ⟨h.1, fun j n => h.2 j fun q => n (s j q)⟩
theorem yH9 {is : List Nat} {i : Nat} (h : i ∈ is) (a : L2.St) (x : Option V) : SameBut is a (a.set i x) := ⟨List.length_set, fun j n => List.getElem?_set_ne fun (e : i = j) => n (e ▸ h)⟩
def xU6 (X : Cx) (is : List Nat) (tg : Expr) (g : PyData → Pg Unit) : Prop := ∀ (w : Wd) (d : PyData) (x : V) (Q : L2.St → Hp → Prop), Rep X.K w → R X.K w.F d x →
  (g d w.m).wp (fun _ m' => ∀ w' : Wd, w'.m = m' → w'.H = w.H → SameBut is w.sg w'.sg → FolE w w' → Rep X.K w' → Q w'.sg w'.H) (fun _ _ => False) → WG X tg x w.sg w.H Q
def xU5 (X : Cx) (is : List Nat) (tgs : List Expr) (g : List PyData → Pg Unit) : Prop := ∀ (w : Wd) (ds : List PyData) (xs : List V) (Q : L2.St → Hp → Prop), Rep X.K w → RA X.K w.F ds xs →
  (g ds w.m).wp (fun _ m' => ∀ w' : Wd, w'.m = m' → w'.H = w.H → SameBut is w.sg w'.sg → FolE w w' → Rep X.K w' → Q w'.sg w'.H) (fun _ _ => False) → WGs X tgs xs w.sg w.H Q
def zZh (i : Nat) (d : PyData) : Pg Unit := fun m => .ok () (setM m i (.d d))
def zV7 : List PyData → Pg Unit
  | [] => .ret ()
  | _ => .stuck
def zZg (g : PyData → Pg Unit) (h : List PyData → Pg Unit) : List PyData → Pg Unit
  | [] => .stuck
  | d :: ds => .bind (g d) fun _ => h ds
def zVm (n : Nat) (g : List PyData → Pg Unit) : PyData → Pg Unit
  | .tuple ds => if ds.length = n then g ds else .stuck
  | .list ds => if ds.length = n then g ds else .stuck
  | _ => .stuck
section
variable {X : Cx} {B : XBt} {is : List Nat} {pos : Pos} {tg : Expr} {tgs : List Expr}
theorem zQq {x : Str} (i : Nat) (C : Ctx X B) (hi : X.N[i]? = some x) (hx : Loc X.env.scope x) (hm : i ∈ is) (hf : X.fn x = true ∨ X.env.scope.names.lookup x = some .local := by first | exact .inl rfl | exact .inr rfl | assumption) : xU6 X is (.Name x pos) (zZh i) := by
  intro w d x Q r h q
  obtain ⟨r2, f2⟩ := xH1 (i := i) (v := .d d) (x := x) r h fun xs e => by cases e
  exact xHm (pg_name C.nd hi hx hf) (q (yYq w i (.d d) x) rfl rfl (yH9 hm _ _) f2 r2)
theorem zX3 : xU5 X is [] zV7 := by
  intro w ds xs Q r h q
  cases h with
  | nil => exact xGd pgs_nil ⟨rfl, q w rfl rfl (SameBut.refl _ _) (FolE.refl w) r⟩
  | cons _ _ => exact q.elim
theorem zQt {g : PyData → Pg Unit} {h : List PyData → Pg Unit} (h1 : xU6 X is tg g) (h2 : xU5 X is tgs h) (hs : (assignEach (tg :: tgs) X.env).map (·.2) = assign tg X.env :: (assignEach tgs X.env).map (·.2) := by rfl) : xU5 X is (tg :: tgs) (zZg g h) := by
  intro w ds xs Q r hr q
  cases hr with
  | nil => exact q.elim
  | @cons d ds x xs hd ht =>
    refine xGd (pgs_cons wYo wQm hs) ⟨x, xs, rfl, ?_⟩
    refine h1 w d x _ r hd ((wp_bind q).imp (fun _ m' q w1 em eh sb f1 r1 => ?_) fun _ _ z => z)
    subst em
    exact h2 w1 ds xs Q r1 (ht.mono f1.ext) (q.imp (fun _ m2 z w2 em2 eh2 sb2 f2 r2 => z w2 em2 (eh2.trans eh) (sb.trans sb2) (f1.trans f2) r2) fun _ _ z => z)
theorem zJ8 {g : List PyData → Pg Unit} {k : Nat} (n : Nat) (C : Ctx X B) (h : xU5 X is tgs g) (hn : (assignEach tgs X.env).length = n := by rfl) (hst : (assignEach tgs X.env).findIdx? (·.1) = none := by rfl) : xU6 X is (.Tuple tgs k pos) (zVm n g) := by
  intro w d x Q r hr q
  cases hr with
  | tup hq ha =>
    rename_i a vs ds
    by_cases hl : ds.length = n
    · rw [show zVm n g (.tuple ds) = g ds from if_pos hl] at q
      exact xHm (pg_tup C.calm wQm hn hst) ⟨a, vs, rfl, zXh r.sub hq, by rw [← ha.len]; exact hl, h w ds vs Q r ha q⟩
    · rw [show zVm n g (.tuple ds) = .stuck from if_neg hl] at q
      exact q.elim
  | lst hq ha =>
    rename_i a vs ds
    by_cases hl : ds.length = n
    · rw [show zVm n g (.list ds) = g ds from if_pos hl] at q
      exact xHm (pg_lst C.calm wQm hn hst) ⟨a, vs, rfl, (hq.mox r.sub).sq, by rw [← ha.len]; exact hl, h w ds vs Q r ha q⟩
    · rw [show zVm n g (.list ds) = .stuck from if_neg hl] at q
      exact q.elim
  | _ => exact q.elim
def yK5 (g : PyData → Pg Unit) (f : Pg EV) : Pg Fl := .bind f fun v => .bind (toA v) fun a => .bind (yQr a) fun d => .bind (g d) fun _ => .ret .next
theorem yQf {e : Expr} {f : Pg EV} {g : PyData → Pg Unit} (he : Snd X B e f) (hg : xU6 X is tg g) (gt : ∀ d m x m', g d m ≠ .thr x m') (hs : swapsWithSole [tg] e pos.line X.env = pure false := by rfl) (hw : swappedStores [tg] e X.env = pure none := by rfl)
    (h1 : (assignEach [tg] X.env).map (·.2) = [assign tg X.env] := by rfl) : yGc X B (.Assign [tg] e pos) (yK5 g f) := by
  intro w D r hww
  refine yQa (ps_asg zYf wYo hs hw h1) ?_
  refine zQ0 he r hww fun v w1 y e1 f1 r1 re h2 => ?_
  obtain ⟨a, w2, ea, e2, e3, f2, r2, rv⟩ := zYi r1 re
  have h2 := wp_bind h2
  rw [ea] at h2
  have h2' : (Pg.bind (yQr a) (fun d => Pg.bind (g d) fun _ => Pg.ret Fl.next) w2.m).wp (zGd X.K w D) (XW X.K B w1) := h2
  obtain ⟨d, rfl, h3⟩ := zHm (wp_bind h2')
  rw [← e1, ← e2, ← e3]
  have h4 := wp_bind h3
  have fo := (f1.s r).trans (f2.s r1)
  refine hg w2 d y _ r2 rv ?_
  cases eg : g d w2.m with
  | bad =>
    rw [eg] at h4
    exact h4.elim
  | thr x m' => exact absurd eg (gt d w2.m x m')
  | ok u m' =>
    rw [eg] at h4
    exact fun w3 em eh sb f3 r3 => by
      subst em
      exact h4 w3 rfl (fo.trans (f3.s r2)) r3

def WI (X : Cx) (tg iter : Expr) : TI := fun sg H R => ∃ t, PI X tg iter t ∧ t sg H R
theorem wYn {tg iter : Expr} : PI X tg iter (WI X tg iter) := ⟨fun pins s sg H R I ⟨t, h, q⟩ => h.run pins s sg H R I q⟩
def xQy (K : PySem.W.Frag) (w : Wd) (J : It) (ds : List PyData) : Prop := ∀ w1 : Wd, FolS w w1 → Rep K w1 → ∀ i, (∀ d, ds[i]? = some d → J.go i w1.H ∧ ∀ x H', J.yld i w1.H x H' → ∃ w2 : Wd, w2.m = w1.m ∧ w2.sg = w1.sg ∧ w2.H = H' ∧ FolE w1 w2 ∧ Rep K w2 ∧ R K w2.F d x ∧ ∀ a, w2.F a ≠ none → w1.F a ≠ none ∨ w1.H a = none) ∧ (ds.length ≤ i → J.stop i w1.H)
def yWy (X : Cx) (B : XBt) (tg iter : Expr) (f : Pg (List PyData)) : Prop := ∀ (w : Wd) (Q : It → Hp → Prop), Rep X.K w →
  (f w.m).wp (fun ds m' => ∀ (w' : Wd) (J : It), w'.m = m' → w'.sg = w.sg → FolE w w' → Rep X.K w' → xQy X.K w' J ds → Q J w'.H) (XW X.K B w) → WI X tg iter w.sg w.H Q
theorem xJa {K : PySem.W.Frag} {w : Wd} {a : Addr} {vs : List V} {ds : List PyData} (h : LQ K w.F a vs) (ra : RA K w.F ds vs) : xQy K w (Itl K a) ds := by
  intro w1 f r i
  have hq : SqL K w1.H a vs := ((h.mono f.ext).mox r.sub).sq
  refine ⟨fun d hd => ?_, fun hl => ⟨vs, hq, by rw [← ra.len]; exact hl⟩⟩
  obtain ⟨v, hv, rv⟩ := ra.get hd
  refine ⟨⟨vs, v, hq, hv⟩, fun x H' y => ?_⟩
  obtain ⟨rfl, y⟩ := y
  have e := y vs hq
  rw [hv] at e
  cases e
  exact ⟨w1, rfl, rfl, rfl, FolE.refl w1, r, rv.mono f.ext, fun _ z => .inl z⟩
theorem xKn {K : PySem.W.Frag} {w : Wd} {a : Addr} {vs : List V} {ds : List PyData} (h : SqT K w.F a vs) (ra : RA K w.F ds vs) : xQy K w (Itt K a) ds := by
  intro w1 f r i
  have hq : SqT K w1.H a vs := zXh r.sub (yXb f.ext h)
  refine ⟨fun d hd => ?_, fun hl => ⟨vs, hq, by rw [← ra.len]; exact hl⟩⟩
  obtain ⟨v, hv, rv⟩ := ra.get hd
  refine ⟨⟨vs, v, hq, hv⟩, fun x H' y => ?_⟩
  obtain ⟨rfl, y⟩ := y
  have e := y vs hq
  rw [hv] at e
  cases e
  exact ⟨w1, rfl, rfl, rfl, FolE.refl w1, r, rv.mono f.ext, fun _ z => .inl z⟩
def zGw (lo : Int) (n : Nat) : List PyData := (List.range n).map fun i => .int (lo + (i : Nat))
theorem ints_get {lo : Int} {n i : Nat} {d : PyData} (h : (zGw lo n)[i]? = some d) : i < n ∧ d = .int (lo + (i : Nat)) := by
  unfold zGw at h
  rw [List.getElem?_map] at h
  by_cases q : i < n
  · rw [List.getElem?_range q] at h
    exact ⟨q, (Option.some.inj h).symm⟩
  · rw [List.getElem?_eq_none (by simpa using q)] at h
    cases h
theorem xKo {K : PySem.W.Frag} {w : Wd} {lo : Int} {n : Nat} : xQy K w (Itr lo n) (zGw lo n) := by
  intro w1 f r i
  refine ⟨fun d hd => ?_, fun hl => by
    unfold zGw at hl
    have hl : n ≤ i := by simpa using hl
    exact hl⟩
  obtain ⟨hi, rfl⟩ := ints_get hd
  refine ⟨hi, fun x H' y => ?_⟩
  obtain ⟨rfl, rfl⟩ := y
  exact ⟨w1, rfl, rfl, rfl, FolE.refl w1, r, .int _, fun _ z => .inl z⟩
def yZk : AV → Option (List PyData)
  | .d (.list xs) => some xs
  | .d (.tuple xs) => some xs
  | _ => none
def yVs (f : Pg EV) : Pg (List PyData) := .bind f fun v => .bind (toA v) fun a => zK5 (yZk a)
theorem zX7 {e : Expr} {f : Pg EV} (he : Snd X B e f) : yWy X B tg e (yVs f) := by
  intro w Q r hw
  by_cases kt : ∃ xs m', f w.m = .ok (.d (.tuple xs)) m'
  · obtain ⟨xs, m0, ef⟩ := kt
    refine ⟨_, pi_tup zYf, ?_⟩
    refine he w _ r ?_
    rw [ef]
    have hw : ((yVs f) w.m).wp _ _ := hw
    unfold yVs Pg.bind at hw
    rw [ef] at hw
    intro w1 x em e1 f1 r1 re
    subst em
    cases re with
    | tup hq ra => exact ⟨_, rfl, ⟨_, zXh r1.sub hq⟩, hw w1 _ rfl e1 f1 r1 (xKn hq ra)⟩
  · refine ⟨_, pi_list zYf, ?_⟩
    have hw2 := wp_bind hw
    refine he w _ r ?_
    cases ef : f w.m with
    | bad =>
      rw [ef] at hw2
      exact hw2
    | thr x m' =>
      rw [ef] at hw2
      exact hw2
    | ok v m' =>
      rw [ef] at hw2
      intro w1 x em e1 f1 r1 re
      subst em
      obtain ⟨a, w2, ea, e2, e3, f2, r2, rv⟩ := zYi r1 re
      have h3 := wp_bind (show (Pg.bind (toA v) (fun a => zK5 (yZk a)) w1.m).wp _ _ from hw2)
      rw [ea] at h3
      obtain ⟨ds, eds, q⟩ := zX2 (show (zK5 (yZk a) w2.m).wp _ _ from h3)
      have nt : ∀ xs, a ≠ .d (.tuple xs) := fun xs ex => by
        subst ex
        cases v with
        | d y =>
          injection ea with q _
          cases q
          exact kt ⟨xs, w1.m, ef⟩
        | new o =>
          injection ea with q _
          cases o <;> cases q
        | pk i o =>
          injection ea with q _
          cases o <;> cases q
        | cell n => injection ea with q _
      cases a with
      | cell n => cases eds
      | d y =>
        cases y <;> try (cases eds; done)
        · cases eds
          cases rv with
          | lst hq ra =>
            have q := q w2 _ rfl (e2.trans e1) (f1.trans f2) r2 (xJa hq ra)
            rw [e3] at q
            have hs := (hq.mox r2.sub).sq
            rw [e3] at hs
            exact ⟨_, rfl, ⟨_, hs⟩, q⟩
        · exact absurd rfl (nt _)
def xVp (j : Int) : Bool := decide (-(2 ^ 62) ≤ j) && decide (j < 2 ^ 62)
def wVx : List OV → Option (List PyData)
  | [.d (.int j)] => if xVp j then some (zGw 0 j.toNat) else none
  | _ => none
def xZ9 (f : Pg (List OV)) : Pg (List PyData) := .bind f fun os => zK5 (wVx os)
theorem xVj {a : Expr} {p : Pos} {f : Pg (List OV)} (hg : Gl X "range") (hm : X.mg "range" = none) (ha : xHh X B [a] f) (hs : starEach [a] X.env = [(false, eval a X.env)] := by rfl) : yWy X B tg (.Call (.Name "range" p) [a] [] pos) (xZ9 f) := by
  intro w Q r hw
  refine ⟨_, pi_range1 hg hm xV1 hs, ?_⟩
  refine yV1 ha r hw fun os w1 xs e1 f1 r1 ro h1 => ?_
  obtain ⟨ds, ed, q⟩ := zX2 h1
  unfold wVx at ed
  split at ed
  · rename_i j
    split at ed
    · rename_i hj
      cases ed
      unfold xVp at hj
      simp only [Bool.and_eq_true, decide_eq_true_eq] at hj
      cases ro with
      | cons h t =>
        cases t
        rw [(h.rn r1 rfl).int]
        exact ⟨j, rfl, hj.1, hj.2, q w1 _ rfl e1 f1 r1 xKo⟩
    · cases ed
  · cases ed
def forL (g : PyData → Pg Unit) (b : Pg Fl) : List PyData → Pg Fl
  | [] => .ret .next
  | d :: ds => .bind (g d) fun _ => .bind b fun fl => match fl with
    | .next => forL g b ds
    | .cont => forL g b ds
    | .brk => .ret .next
    | .ret v => .ret (.ret v)
def yK2 (f : Pg (List PyData)) (g : PyData → Pg Unit) (b : Pg Fl) : Pg Fl := .bind f fun ds => forL g b ds
theorem yQe {iter : Expr} {body : List Stmt} {f : Pg (List PyData)} {g : PyData → Pg Unit} {fb : Pg Fl} (C : Ctx X B) (hp : PassesOwn (model X.prog X.w) X.A X.env X.xe) (hi : yWy X B tg iter f) (hg : xU6 X is tg g) (gt : ∀ d m x m', g d m ≠ .thr x m') (hb : xW0 X B body fb)
    (hs : ∀ x, foldedSetIterable iter X.env x = pure x := by intro _; rfl) : yGc X B (.For tg iter body [] pos) (yK2 f g fb) := by
  intro w D r hw
  refine yQa (ps_for hp C.calm wYn wYo wZy hs) ?_
  refine hi w _ r ((wp_bind hw).imp (fun ds m0 hw w1 J em e1 f1 r1 itr => ?_) fun _ _ z => z)
  subst em
  have fo1 := f1.s r
  refine ⟨fun i n sg H => ∃ w2 : Wd, w2.sg = sg ∧ w2.H = H ∧ FolS w1 w2 ∧ Rep X.K w2 ∧ n = ds.length - i ∧ i ≤ ds.length ∧ (forL g fb (ds.drop i) w2.m).wp (zGd X.K w D) (XW X.K B w), ⟨ds.length, w1, e1, rfl, FolS.refl w1, r1, by omega, Nat.zero_le _, hw⟩, ?_⟩
  rintro i n sg H ⟨w2, rfl, rfl, f2, r2, rfl, hle, q⟩
  obtain ⟨itg, its⟩ := itr w2 f2 r2 i
  by_cases hlt : i < ds.length
  · have hd : ds[i]? = some ds[i] := List.getElem?_eq_getElem hlt
    obtain ⟨go, yl⟩ := itg _ hd
    rw [List.drop_eq_getElem_cons hlt] at q
    refine .inr ⟨go, fun sg' H' => ∃ w5 : Wd, w5.sg = sg' ∧ w5.H = H' ∧ FolS w1 w5 ∧ Rep X.K w5 ∧ (forL g fb (ds.drop (i + 1)) w5.m).wp (zGd X.K w D) (XW X.K B w), fun sg' H' ⟨w5, a1, a2, a3, a4, a5⟩ => ⟨ds.length - (i + 1), by omega, w5, a1, a2, a3, a4, rfl, hlt, a5⟩, fun x H' y => ?_⟩
    obtain ⟨w3, b1, b2, b3, f3, r3, rx, _⟩ := yl x H' y
    subst b3
    rw [← b2]
    have f13 := f2.trans (f3.s r2)
    have q1 := wp_bind (show (Pg.bind (g ds[i]) (fun _ => Pg.bind fb fun fl => match fl with
      | .next => forL g fb (ds.drop (i + 1))
      | .cont => forL g fb (ds.drop (i + 1))
      | .brk => .ret .next
      | .ret v => .ret (.ret v)) w3.m).wp (zGd X.K w D) (XW X.K B w) from by rw [b1]; exact q)
    refine hg w3 ds[i] x _ r3 rx ?_
    cases eg : g ds[i] w3.m with
    | bad =>
      rw [eg] at q1
      exact q1.elim
    | thr e m' => exact absurd eg (gt _ _ e m')
    | ok u m' =>
      rw [eg] at q1
      intro w4 em eh sb f4 r4
      subst em
      have q2 := wp_bind (show (Pg.bind fb _ w4.m).wp (zGd X.K w D) (XW X.K B w) from q1)
      have f14 := f13.trans (f4.s r3)
      have fw4 := fo1.trans f14
      refine hb w4 _ r4 (q2.imp (fun fl m5 z w5 em f5 r5 => ?_) fun _ _ z => z.fol fw4)
      subst em
      have f15 := f14.trans f5
      cases fl with
      | next => exact ⟨w5, rfl, rfl, f15, r5, z⟩
      | cont => exact ⟨w5, rfl, rfl, f15, r5, z⟩
      | brk => exact z w5 rfl (fo1.trans f15) r5
      | ret v => exact z w5 rfl (fo1.trans f15) r5
  · have e0 : ds.drop i = [] := List.drop_eq_nil_of_le (by omega)
    rw [e0] at q
    exact .inl ⟨its (by omega), q w2 rfl (fo1.trans f2) r2⟩
end
end Ev

namespace Ev
open PySem PySem.Spec PyProof.Rows L2

def wGz (K : PySem.W.Frag) (w : Wd) (J : It) (ds : List PyData) : Prop := ∀ w1 : Wd, FolE w w1 → Rep K w1 → ∀ i, (∀ d, ds[i]? = some d → J.go i w1.H ∧ ∀ x H', J.yld i w1.H x H' → ∃ w2 : Wd, w2.m = w1.m ∧ w2.sg = w1.sg ∧ w2.H = H' ∧ FolE w1 w2 ∧ Rep K w2 ∧ R K w2.F d x ∧ ∀ a, w2.F a ≠ none → w1.F a ≠ none ∨ w1.H a = none) ∧ (ds.length ≤ i → J.stop i w1.H)
def xWs (X : Cx) (B : XBt) (tg iter : Expr) (f : Pg (List PyData)) : Prop := ∀ (w : Wd) (Q : It → Hp → Prop), Rep X.K w →
  (f w.m).wp (fun ds m' => ∀ (w' : Wd) (J : It), w'.m = m' → w'.sg = w.sg → FolE w w' → Rep X.K w' → wGz X.K w' J ds → Q J w'.H) (XW X.K B w) → WI X tg iter w.sg w.H Q
theorem yWy.e {X : Cx} {B : XBt} {tg iter : Expr} {f : Pg (List PyData)} (h : yWy X B tg iter f) : xWs X B tg iter f := fun w Q r hw =>
  h w Q r (hw.imp (fun ds m' q w' J em es fo rp it => q w' J em es fo rp fun w1 g rp1 => it w1 (g.s rp) rp1) fun _ _ z => z)
def zKo : List Nat → List (Option SV) → List (Option SV)
  | [], l => l
  | i :: is, l => (zKo is l).set i none
def xW7 (is : List Nat) : Pg Unit := fun m => .ok () { m with sl := zKo is m.sl }
theorem xJ2 (is : List Nat) (l : List (Option SV)) : (zKo is l).length = l.length := by
  induction is with
  | nil => rfl
  | cons i is ih => rw [zKo, List.length_set, ih]
theorem zUx {is : List Nat} {l : List (Option SV)} {j : Nat} {v : SV} (h : (zKo is l)[j]? = some (some v)) : l[j]? = some (some v) ∧ j ∉ is := by
  induction is with
  | nil => exact ⟨h, by simp⟩
  | cons i is ih =>
    rw [zKo] at h
    by_cases e : i = j
    · subst e
      by_cases q : i < (zKo is l).length
      · rw [List.getElem?_set_self q] at h
        cases h
      · rw [List.getElem?_eq_none (by rw [List.length_set]; omega)] at h
        cases h
    · rw [List.getElem?_set_ne e] at h
      obtain ⟨h1, h2⟩ := ih h
      exact ⟨h1, by simp only [List.mem_cons, not_or]; exact ⟨fun q => e q.symm, h2⟩⟩
theorem yYy {K : PySem.W.Frag} {w : Wd} (r : Rep K w) {is : List Nat} {sg : L2.St} (h : SameBut is w.sg sg) : Rep K { w with m := { w.m with sl := zKo is w.m.sl }, sg := sg } ∧ FolE w { w with m := { w.m with sl := zKo is w.m.sl }, sg := sg } := by
  refine ⟨⟨r.sub, ?_, fun i v q => ?_, r.cs, r.ln, r.rf, r.rk, r.nd, fun i j xs ys x a b c d => ?_, r.zl, r.oo, r.tb⟩, ⟨rfl, rfl, Same.refl _, ⟨[], (List.append_nil _).symm⟩, fun _ _ h _ _ => h, fun _ h => .inl h, fun _ h => h, fun _ h => .inl h, fun a ⟨j, xs, q1, q2⟩ => ?_⟩⟩
  · show (zKo is w.m.sl).length ≤ sg.length
    rw [xJ2, h.1]
    exact r.le
  · obtain ⟨q1, q2⟩ := zUx q
    obtain ⟨x, h1, h2⟩ := r.sl i v q1
    exact ⟨x, (h.2 i q2).trans h1, h2⟩
  · obtain ⟨a1, a2⟩ := zUx a
    obtain ⟨b1, b2⟩ := zUx b
    exact r.ow i j xs ys x a1 b1 ((h.2 i a2).symm.trans c) ((h.2 j b2).symm.trans d)
  · obtain ⟨a1, a2⟩ := zUx q1
    exact ⟨j, xs, a1, (h.2 j a2).symm.trans q2⟩
theorem wXv {K : PySem.W.Frag} {w : Wd} (r : Rep K w) {is : List Nat} {sg : L2.St} (h : SameBut is w.sg sg) (hn : ∀ (j : Nat) (v : SV), j ∈ is → w.m.sl[j]? ≠ some (some v)) : Rep K { w with sg := sg } ∧ FolE w { w with sg := sg } := by
  have at_ : ∀ (j : Nat) (v : SV), w.m.sl[j]? = some (some v) → sg[j]? = w.sg[j]? := fun j v q => h.2 j fun z => hn j v z q
  refine ⟨⟨r.sub, by show w.m.sl.length ≤ sg.length; rw [h.1]; exact r.le, fun i v q => ?_, r.cs, r.ln, r.rf, r.rk, r.nd, fun i j xs ys x a b c d => r.ow i j xs ys x a b ((at_ i _ a).symm.trans c) ((at_ j _ b).symm.trans d), r.zl, r.oo, r.tb⟩, ⟨rfl, rfl, Same.refl _, ⟨[], (List.append_nil _).symm⟩, fun _ _ h _ _ => h, fun _ h => .inl h, fun _ h => h, fun _ h => .inl h, fun a ⟨j, xs, q1, q2⟩ => ⟨j, xs, q1, (at_ j _ q1).symm.trans q2⟩⟩⟩
  obtain ⟨x, h1, h2⟩ := r.sl i v q
  exact ⟨x, (at_ i v q).trans h1, h2⟩
theorem wHn {K : PySem.W.Frag} {w : Wd} (r : Rep K w) {p : Addr} {o : HO} (hf : w.F p = none) (hr : p ∉ w.ro) (ho : ¬ Own w p) (nd : ∀ {a d : Addr}, w.H d = some (.own a) → d ≠ p) (hni : ∀ C d vs, w.H p ≠ some (.ins C d vs)) (hh : ∃ u, w.H p = some u ∧ ¬ wVt u) (hnt : ∀ ps, o ≠ .tbl ps := by intro _ z; cases z) (hno : ∀ a, o ≠ .own a := by intro _ z; cases z) : Rep K { w with H := upd w.H p o } := by
  have up : ∀ {a : Addr} {u : HO}, a ≠ p → w.H a = some u → upd w.H p o a = some u := fun {a u} n h => by
    rw [upd_ne n]
    exact h
  refine ⟨fun a u h hn => up (fun e => ?_) (r.sub a u h hn), r.le, fun i v h => ?_, fun n xs h => ?_, r.ln, r.rf, r.rk, r.nd, r.ow, fun a h => ?_, fun d a h => ?_, ⟨(TK _ w).us r.tb.1 hh, r.tb.2.1, yJh r.tb.2.2 hnt⟩⟩
  · have h : w.F a = some u := h
    rw [e, hf] at h
    cases h
  · obtain ⟨x, h1, h2⟩ := r.sl i v h
    refine ⟨x, h1, ?_⟩
    cases v with
    | d y => exact h2
    | cell n => exact h2
    | thk t => exact h2
    | ob ys =>
      obtain ⟨a, e, k1, k2⟩ := h2
      exact ⟨a, e, k1.keep (Same.refl _) (fun u => up fun z => ho ⟨i, ys, h, by rw [h1, e, z]⟩) (fun d z => up (nd z) z) (fun _ _ z => z), k2⟩
  · obtain ⟨a, h1, h2⟩ := r.cs n xs h
    exact ⟨a, h1, h2.keep (Same.refl _) (fun u => up fun z => hr (z ▸ List.mem_of_getElem? h1)) (fun d z => up (nd z) z) (fun _ _ z => z)⟩
  · by_cases e : a = p
    · show upd w.H p o a ≠ none
      rw [e, upd_same]
      simp
    · show upd w.H p o a ≠ none
      rw [upd_ne e]
      exact r.zl a h
  · have h : upd w.H p o d = some (.own a) := h
    by_cases q : d = p
    · rw [q, upd_same] at h
      exact absurd (Option.some.inj h) (hno a)
    · rw [upd_ne q] at h
      obtain ⟨C, vs, e⟩ := r.oo d a h
      exact ⟨C, vs, up (fun z => hni C d vs (z ▸ e)) e⟩
def reZ (w : Wd) (Z : Addr → Prop) : Wd := { w with Z := Z }
theorem yYz {K : PySem.W.Frag} {w : Wd} (r : Rep K w) {Z : Addr → Prop} (h : ∀ a, Z a → w.Z a) : Rep K (reZ w Z) := by
  refine ⟨r.sub, r.le, fun i v q => ?_, r.cs, r.ln, r.rf, r.rk, r.nd, r.ow, fun a q => r.zl a (h a q), r.oo, r.tb⟩
  obtain ⟨x, h1, h2⟩ := r.sl i v q
  refine ⟨x, h1, ?_⟩
  cases v with
  | d y => exact h2
  | cell n => exact h2
  | thk t => exact h2
  | ob ys =>
    obtain ⟨a, e, k1, k3, k4, k5⟩ := h2
    exact ⟨a, e, k1.keep (Same.refl _) (fun _ z => z) (fun _ z => z) (fun d _ z => h d z), k3, k4, fun z => k5 (h a z)⟩
theorem yVm {K : PySem.W.Frag} {w : Wd} (r : Rep K w) {Z : Addr → Prop} (h : ∀ a, Z a → w.H a ≠ none) (ho : ∀ a, Own w a → ¬ Z a) (hd : ∀ d a, w.H d = some (.own a) → Z d → w.Z d) : Rep K (reZ w Z) := by
  refine ⟨r.sub, r.le, fun i v q => ?_, r.cs, r.ln, r.rf, r.rk, r.nd, r.ow, h, r.oo, r.tb⟩
  obtain ⟨x, h1, h2⟩ := r.sl i v q
  refine ⟨x, h1, ?_⟩
  cases v with
  | d y => exact h2
  | cell n => exact h2
  | thk t => exact h2
  | ob ys =>
    obtain ⟨a, e, k1, k3, k4, k5⟩ := h2
    exact ⟨a, e, k1.keep (Same.refl _) (fun _ z => z) (fun _ z => z) (fun d => hd d a), k3, k4, ho a ⟨i, ys, q, by rw [h1, e]⟩⟩
theorem wQa {w w' : Wd} (f : FolE w w') {Z : Addr → Prop} (h : ∀ a, Z a → w.Z a) : FolE (reZ w Z) (reZ w' Z) := ⟨rfl, f.t, f.ext, f.pre, f.frm, f.new, f.liv, fun a q => (f.grow a q).imp id fun z k => z (h a k), f.own⟩
theorem yVk (sg : L2.St) : ∀ (is : List Nat) (j : Nat), j ∉ is → (wipe sg is)[j]? = sg[j]?
  | [], _, _ => rfl
  | i :: is, j, h => by
    rw [wipe, List.getElem?_set_ne (fun e : i = j => h (by simp [e]))]
    exact yVk sg is j fun q => h (List.mem_cons_of_mem _ q)
theorem yHz (sg : L2.St) : ∀ (is : List Nat) (j : Nat), j ∈ is → j < sg.length → (wipe sg is)[j]? = some none
  | i :: is, j, h, hl => by
    rw [wipe]
    by_cases e : i = j
    · subst e
      rw [List.getElem?_set_self (by rw [wipe_length]; exact hl)]
    · rw [List.getElem?_set_ne e]
      refine yHz sg is j ?_ hl
      rcases List.mem_cons.mp h with q | q
      · exact absurd q.symm e
      · exact q
theorem yJ4 (is : List Nat) (sg : L2.St) : SameBut is sg (wipe sg is) := ⟨wipe_length sg is, fun j h => yVk sg is j h⟩
theorem SameBut.symm {is : List Nat} {a b : L2.St} (h : SameBut is a b) : SameBut is b a := ⟨h.1.symm, fun j n => (h.2 j n).symm⟩
theorem xHj {is : List Nat} {a b : L2.St} (h : SameBut is a b) : wipe b is = wipe a is := by
  refine List.ext_getElem? fun j => ?_
  by_cases hj : j ∈ is
  · by_cases hl : j < a.length
    · rw [yHz a is j hj hl, yHz b is j hj (by rw [h.1]; exact hl)]
    · rw [List.getElem?_eq_none (by rw [wipe_length]; have := h.1; omega), List.getElem?_eq_none (by rw [wipe_length]; omega)]
  · rw [yVk a is j hj, yVk b is j hj, h.2 j hj]

section
variable {X : Cx} {B : XBt} {tg iter elt : Expr} {ifs : List Expr} {scope : Scope} {pos : Pos}
def WTs (X : Cx) (ifs : List Expr) : TT := fun sg H Q => Cl (∀ (pins : List (Addr × Obj)) (s : Shared), L2.Inv X pins sg H s →
  wpAny (model X.prog X.w) X.A (forIn ifs true fun c r => if r = true then do let ok ← isTrue c X.env (eval c X.env); pure (ForInStep.yield ok) else pure (ForInStep.yield r)) (TP X pins sg Q) X.xe s)
theorem xGc {t : TT} (h : PTs X ifs t) {sg : L2.St} {H : Hp} {Q : Bool → Hp → Prop} (q : t sg H Q) : WTs X ifs sg H Q := ⟨fun pins s I => h.run pins s sg H Q I q⟩
def xJq (X : Cx) (B : XBt) (ifs : List Expr) (t : Pg Bool) : Prop := ∀ (w : Wd) (Q : Bool → Hp → Prop), Rep X.K w → (t w.m).wp (xU8 X.K w Q) (XW X.K B w) → WTs X ifs w.sg w.H Q
theorem yGj : xJq X B [] (.ret true) := fun w Q r h => xGc pts_nil (h w rfl rfl (FolE.refl w) r)
theorem zVx {c : Expr} {t : Pg Bool} (h : yHy X B c t) : xJq X B [c] t := fun w Q r hw => xGc (pts_one xYy) (h w Q r hw)

def zK3 (X : Cx) (scope : Scope) (φ : Cx → Prop) : Prop := ∀ (s : Shared) (H : Hp) (C : Addr) (cl : List (Str × Addr)) (fp : List Addr), φ (X.blk s H scope (compEnvC scope cl C X.env) fp)
theorem zZw {B : XBt} (C : Ctx X B) (s : Shared) (H : Hp) (Cc : Addr) (cl : List (Str × Addr)) (fp : List Addr) : Ctx (X.blk s H scope (compEnvC scope cl Cc X.env) fp) B0 := ⟨C.calm, C.gd, C.rm, C.nd, C.sm, xYb⟩
def yZb (is : List Nat) (g : PyData → Pg Unit) (t : Pg Bool) (e : Pg EV) : List PyData → List PyData → Pg EV
  | [], acc => .ret (.fresh acc)
  | d :: ds, acc => .bind (g d) fun _ => .bind (yVe t) fun k => if k then .bind (yVe e) fun v => .bind (toA v) fun a => .bind (yQr a) fun y => if acc.length < 16777216 then .bind (xW7 is) fun _ => yZb is g t e ds (acc ++ [y]) else .stuck
      else .bind (xW7 is) fun _ => yZb is g t e ds acc
def zK7 (is : List Nat) (fi : Pg (List PyData)) (g : PyData → Pg Unit) (t : Pg Bool) (e : Pg EV) : Pg EV := .bind fi fun ds => .bind (xW7 is) fun _ => yZb is g t e ds []

def wJ3 (X : Cx) (scope : Scope) (tg : Expr) : TG := fun v sg H Q => zK3 X scope fun Y => WG Y tg v sg H Q
def wXl (X : Cx) (scope : Scope) (ifs : List Expr) : TT := fun sg H Q => zK3 X scope fun Y => WTs Y ifs sg H Q
def wVa (X : Cx) (scope : Scope) (elt : Expr) : TE := fun sg H Q => zK3 X scope fun Y => WE Y elt sg H Q
theorem xUe {own : List (Str × Nat)} {fi : Pg (List PyData)} {g : PyData → Pg Unit} {t : Pg Bool} {fe : Pg EV} (gt : ∀ d m x m', g d m ≠ .thr x m') (hi : xWs X B tg iter fi)
    (hg : zK3 X scope fun Y => xU6 Y (own.map (·.2)) tg g) (ht : zK3 X scope fun Y => xJq Y B0 ifs t) (he : zK3 X scope fun Y => Snd Y B0 elt fe) {w : Wd} {Q : VK} (r : Rep X.K w)
    (hw : (zK7 (own.map (·.2)) fi g t fe w.m).wp (yJ3 X.K w Q) (XW X.K B w)) : tLc (WI X tg iter) (wJ3 X scope tg) (wXl X scope ifs) (wVa X scope elt) (own.map (·.2)) w.sg w.H Q := by
  generalize own.map (·.2) = is at *
  refine hi w _ r ((wp_bind hw).imp (fun ds m0 hw w1 J em e1 f1 r1 itr => ?_) fun _ _ z => z)
  subst em
  intro D hD
  have hw1 : (yZb is g t fe ds [] { w1.m with sl := zKo is w1.m.sl }).wp (yJ3 X.K w Q) (XW X.K B w) := hw
  obtain ⟨r1w, f1w⟩ := yYy r1 (is := is) (sg := w.sg) (by rw [e1]; exact SameBut.refl _ _)
  obtain ⟨rl, fl⟩ := lay r1w (p := D) hD (.lst [])
  have fD : w1.F D = none := r1.noF hD
  -- the new list is guarded while the block runs
  generalize hZd : (fun a => w1.Z a ∨ a = D) = Zd
  have zSub : ∀ a, w1.Z a → Zd a := fun a h => by rw [← hZd]; exact .inl h
  have zD : Zd D := by rw [← hZd]; exact .inr rfl
  have zInv : ∀ a, Zd a → w1.Z a ∨ a = D := fun a h => by rw [← hZd] at h; exact h
  have wz : w1.Z = w.Z := f1.z
  generalize hw0 : ({ F := w1.F, ro := w1.ro, m := { w1.m with sl := zKo is w1.m.sl }, sg := w.sg, H := upd w1.H D (.lst []), Z := w1.Z, T := w1.T } : Wd) = w0 at rl fl
  have oD : ∀ {H : Hp} {vs : List V} {d a : Addr}, H D = some (.lst vs) → H d = some (.own a) → Zd d → w1.Z d := fun {H vs d a} hl hd z => by
    rcases zInv d z with q | q
    · exact q
    · rw [q, hl] at hd
      cases hd
  have r0 : Rep X.K (reZ w0 Zd) := yVm rl (fun a h => by
    rcases zInv a h with q | q
    · exact rl.zl a (by rw [← hw0]; exact q)
    · rw [q, ← hw0]
      show upd w1.H D (.lst []) D ≠ none
      rw [upd_same]
      simp) (fun a h z => by
    rcases zInv a z with q | q
    · exact (rl.ownAt h).2.2.2 (by rw [← hw0]; exact q)
    · have h : Own { w1 with m := { w1.m with sl := zKo is w1.m.sl }, sg := w.sg } D := by rw [← hw0, q] at h; exact h
      exact (r1w.ownAt h).1 hD) fun d a hd z => by
    rw [← hw0] at hd ⊢
    exact oD (show (upd w1.H D (.lst [])) D = some (.lst []) from upd_same) hd z
  refine ⟨fun i n H => ∃ (w2 : Wd) (acc : List PyData) (vs : List V), w2.sg = w.sg ∧ w2.H = H ∧ w2.Z = Zd ∧ FolE w1 (reZ w2 w1.Z) ∧ Rep X.K w2 ∧ H D = some (.lst vs) ∧ RA X.K w2.F acc vs ∧ w2.F D = none ∧ D ∉ w2.ro ∧ n = ds.length - i ∧ i ≤ ds.length ∧
    (yZb is g t fe (ds.drop i) acc w2.m).wp (yJ3 X.K w Q) (XW X.K B w) ∧ (∀ (j : Nat) (v : SV), j ∈ is → w2.m.sl[j]? ≠ some (some v)),
    ⟨ds.length, reZ w0 Zd, [], [], by rw [← hw0]; rfl, by rw [← hw0]; rfl, rfl, by rw [← hw0]; rw [← hw0] at fl; exact f1w.trans fl, r0, upd_same, .nil, by rw [← hw0]; exact fD, fun h => r1.roLive (by rw [← hw0] at h; exact h) hD, by omega, Nat.zero_le _, by rw [← hw0]; exact hw1, fun j v hj q => by rw [← hw0] at q; exact (zUx q).2 hj⟩, ?_⟩
  rintro i n H ⟨w2, acc, vs, s2, rfl, z2, f2, r2, hl, ra, q1, q2, rfl, hle, q, hn⟩
  have z2s : ∀ a, w1.Z a → w2.Z a := fun a h => by rw [z2]; exact zSub a h
  have r2u : Rep X.K (reZ w2 w1.Z) := yYz r2 z2s
  obtain ⟨itg, its⟩ := itr (reZ w2 w1.Z) f2 r2u i
  by_cases hlt : i < ds.length
  · have hd : ds[i]? = some ds[i] := List.getElem?_eq_getElem hlt
    obtain ⟨go, yl⟩ := itg _ hd
    rw [List.drop_eq_getElem_cons hlt] at q
    refine .inr ⟨go, fun H' => ∃ n', n' < ds.length - i ∧ ∃ (w2 : Wd) (acc : List PyData) (vs : List V), w2.sg = w.sg ∧ w2.H = H' ∧ w2.Z = Zd ∧ FolE w1 (reZ w2 w1.Z) ∧ Rep X.K w2 ∧ H' D = some (.lst vs) ∧ RA X.K w2.F acc vs ∧ w2.F D = none ∧ D ∉ w2.ro ∧ n' = ds.length - (i + 1) ∧ i + 1 ≤ ds.length ∧
      (yZb is g t fe (ds.drop (i + 1)) acc w2.m).wp (yJ3 X.K w Q) (XW X.K B w) ∧ (∀ (j : Nat) (v : SV), j ∈ is → w2.m.sl[j]? ≠ some (some v)), fun H' h => h, fun x H' y => ?_⟩
    obtain ⟨w3u, b1, b2, b3, f3u, r3u, rx, gr⟩ := yl x H' y
    subst b3
    have r3 : Rep X.K (reZ w3u Zd) := yVm r3u (fun a h => f3u.liv a (r2.zl a (by rw [z2]; exact h))) (fun a h z => (r2.ownAt (show Own w2 a from f3u.own a h)).2.2.2 (by rw [z2]; exact z)) fun d a hd z => by
      rw [f3u.z]
      exact oD (f3u.frm D _ hl q2 (by intro _ z; cases z)) hd z
    have f3 : FolE w2 (reZ w3u Zd) := ⟨z2.symm, f3u.t, f3u.ext, f3u.pre, f3u.frm, f3u.new, f3u.liv, fun a h => (gr a h).imp id fun z k => r2.zl a k z, f3u.own⟩
    generalize hw3 : reZ w3u Zd = w3 at r3 f3
    have b1 : w3.m = w2.m := by rw [← hw3]; exact b1
    have b2 : w3.sg = w2.sg := by rw [← hw3]; exact b2
    have bH : w3u.H = w3.H := by rw [← hw3]; rfl
    have rx : R X.K w3.F ds[i] x := by rw [← hw3]; exact rx
    rw [bH]
    obtain ⟨r3w, f3w⟩ := wXv r3 (is := is) (sg := wipe w.sg is) (by rw [b2, s2]; exact yJ4 _ _) (by rw [b1]; exact hn)
    intro s H0 Cc cl fp
    have q' := wp_bind (show (yZb is g t fe (ds[i] :: ds.drop (i + 1)) acc w3.m).wp (yJ3 X.K w Q) (XW X.K B w) from by rw [b1]; exact q)
    refine hg s H0 Cc cl fp { w3 with sg := wipe w.sg is } ds[i] x _ r3w rx ?_
    show (g ds[i] w3.m).wp _ _
    cases eg : g ds[i] w3.m with
    | bad =>
      rw [eg] at q'
      exact q'.elim
    | thr e m' => exact absurd eg (gt _ _ e m')
    | ok u m' =>
      rw [eg] at q'
      intro w4 em eh sb f4 r4
      subst em
      have sb4 : SameBut is w.sg w4.sg := (yJ4 is w.sg).trans sb
      refine ⟨(xHj sb4), ?_⟩
      have f24 : FolE w2 w4 := f3.trans (f3w.trans f4)
      have toW : ∀ {w' : Wd}, FolE w2 w' → FolE w1 (reZ w' w1.Z) := fun {w'} f => f2.trans (wQa f z2s)
      have kD : ∀ {w' : Wd}, FolE w2 w' → w'.H D = some (.lst vs) ∧ D ∉ w'.ro ∧ w'.F D = none ∧ w'.Z = Zd := fun {w'} f => ⟨f.frm D _ hl q2 (by intro _ z; cases z), fun z => (f.new D z).elim q2 (zGq hl), Classical.byContradiction fun z => (f.grow D z).elim (fun k => k q1) fun k => k (by rw [z2]; exact zD), f.z.trans z2⟩
      intro s H0 Cc cl fp
      have q5 := wp_bind (show (Pg.bind (yVe t) _ w4.m).wp (yJ3 X.K w Q) (XW X.K B w) from q')
      refine ht s H0 Cc cl fp w4 _ r4 ((yXj q5).imp (fun k m5 z w5 em e5 f5 r5 => ?_) fun _ _ z => z.elim)
      subst em
      have f25 : FolE w2 w5 := f24.trans f5
      cases k with
      | false =>
        have z : (yZb is g t fe (ds.drop (i + 1)) acc { w5.m with sl := zKo is w5.m.sl }).wp (yJ3 X.K w Q) (XW X.K B w) := z
        refine iteF ?_
        obtain ⟨r6, f6⟩ := yYy r5 (is := is) (sg := w.sg) (by rw [e5]; exact sb4.symm)
        have f26 := f25.trans f6
        obtain ⟨d1, d2, d3, d4⟩ := kD f26
        exact ⟨ds.length - (i + 1), by omega, { w5 with m := { w5.m with sl := zKo is w5.m.sl }, sg := w.sg }, acc, vs, rfl, rfl, d4, toW f26, r6, d1, ra.mono f26.ext, d3, d2, rfl, hlt, z, fun j v hj q => (zUx q).2 hj⟩
      | true =>
        refine iteT ?_
        rw [← e5]
        intro s H0 Cc cl fp
        have q6 := wp_bind (show (Pg.bind (yVe fe) _ w5.m).wp (yJ3 X.K w Q) (XW X.K B w) from z)
        refine he s H0 Cc cl fp w5 _ r5 ((yXj q6).imp (fun v m6 z w6 y em e6 f6 r6 re => ?_) fun _ _ z => z.elim)
        subst em
        obtain ⟨a, w7, ea, e7, h7, f7, r7, rv⟩ := zYi r6 re
        have z := wp_bind z
        rw [ea] at z
        obtain ⟨d, ed, zz⟩ := zHm (wp_bind (show (Pg.bind (yQr a) _ w7.m).wp (yJ3 X.K w Q) (XW X.K B w) from z))
        subst ed
        clear z
        have z := zz
        have f27 : FolE w2 w7 := f25.trans (f6.trans f7)
        have s7 : SameBut is w7.sg w.sg := by
          rw [e7, e6, e5]
          exact sb4.symm
        by_cases hz : acc.length < 16777216
        · rw [if_pos hz] at z
          have z : (yZb is g t fe (ds.drop (i + 1)) (acc ++ [d]) { w7.m with sl := zKo is w7.m.sl }).wp (yJ3 X.K w Q) (XW X.K B w) := z
          obtain ⟨r8, f8⟩ := yYy r7 (is := is) (sg := w.sg) s7
          have f28 := f27.trans f8
          generalize hw8 : ({ F := w7.F, ro := w7.ro, m := { w7.m with sl := zKo is w7.m.sl }, sg := w.sg, H := w7.H, Z := w7.Z, T := w7.T } : Wd) = w8 at r8 f28
          obtain ⟨d1, d2, d3, d4⟩ := kD f28
          have nO : ¬ Own w8 D := fun z => (r8.ownAt z).2.2.2 (by rw [d4]; exact zD)
          have r9 := wHn (o := .lst (vs ++ [y])) r8 d3 d2 nO (fun {a d} z e => by rw [e, d1] at z; cases z) (fun C d vs z => by rw [d1] at z; cases z) ⟨_, d1, fun z => z⟩
          have hH : w6.H = w8.H := by rw [← hw8]; exact h7.symm
          rw [hH]
          have f18 := toW f28
          have f19 : FolE w1 (reZ { w8 with H := upd w8.H D (.lst (vs ++ [y])) } w1.Z) := ⟨rfl, f18.t, f18.ext, f18.pre, fun a o h n k => by
            show upd w8.H D (.lst (vs ++ [y])) a = some o
            rw [upd_ne (fun e => by rw [e, hD] at h; cases h)]
            exact f18.frm a o h n k, f18.new, fun a h => by
            show upd w8.H D (.lst (vs ++ [y])) a ≠ none
            rw [upd_ne (fun e => h (by rw [e]; exact hD))]
            exact f18.liv a h, f18.grow, f18.own⟩
          have ra' : RA X.K w8.F (acc ++ [d]) (vs ++ [y]) := (ra.mono f28.ext).app (.one (by rw [← hw8]; exact rv))
          refine ⟨vs, d1, by rw [← (ra.mono f28.ext).len, sizeLine_eq]; exact hz, ds.length - (i + 1), by omega, { w8 with H := upd w8.H D (.lst (vs ++ [y])) }, acc ++ [d], vs ++ [y], by rw [← hw8], rfl, d4, f19, r9, upd_same, ra', d3, d2, rfl, hlt, ?_, fun j v hj q => ?_⟩
          · show (yZb is g t fe (ds.drop (i + 1)) (acc ++ [d]) w8.m).wp _ _
            rw [← hw8]
            exact z
          · have q : w8.m.sl[j]? = some (some v) := q
            rw [← hw8] at q
            exact (zUx q).2 hj
        · rw [if_neg hz] at z
          exact z.elim
  · have e0 : ds.drop i = [] := List.drop_eq_nil_of_le (by omega)
    rw [e0] at q
    have f12 : FolE w (reZ w2 w1.Z) := f1.trans f2
    refine .inl ⟨its (by omega), q (reZ w2 w1.Z) (.ref D) rfl s2 f12 r2u ⟨D, rfl, ⟨vs, hl, ra⟩, q1, q2, fun z => r1.zl D z hD, fun z => (r2.ownAt (show Own w2 D from z)).2.2.2 (by rw [z2]; exact zD)⟩ fun b e => by cases e; exact Classical.byContradiction fun z => f1.liv D z hD⟩
theorem xKl {own : List (Str × Nat)} {fi : Pg (List PyData)} {g : PyData → Pg Unit} {t : Pg Bool} {fe : Pg EV} (gt : ∀ d m x m', g d m ≠ .thr x m') (hi : xWs X B tg iter fi)
    (hg : zK3 X scope fun Y => xU6 Y (own.map (·.2)) tg g) (ht : zK3 X scope fun Y => xJq Y B0 ifs t) (he : zK3 X scope fun Y => Snd Y B0 elt fe) {w : Wd} {Q : VK} (r : Rep X.K w)
    (hw : (zK7 (own.map (·.2)) fi g t fe w.m).wp (zVw X.K w Q) (XW X.K B w)) : tLc (WI X tg iter) (wJ3 X scope tg) (wXl X scope ifs) (wVa X scope elt) (own.map (·.2)) w.sg w.H Q :=
  xUe gt hi hg ht he r (hw.imp (fun _ _ q => q.f) fun _ _ z => z)
theorem yQd {own : List (Str × Nat)} {fi : Pg (List PyData)} {g : PyData → Pg Unit} {t : Pg Bool} {fe : Pg EV} (C : Ctx X B) (ok : BlkOk X.N X.env.scope scope own) (gt : ∀ d m x m', g d m ≠ .thr x m') (hi : xWs X B tg iter fi)
    (hg : zK3 X scope fun Y => xU6 Y (own.map (·.2)) tg g) (ht : zK3 X scope fun Y => xJq Y B0 ifs t) (he : zK3 X scope fun Y => Snd Y B0 elt fe) (hs : ∀ x, foldedSetIterable iter X.env x = pure x := by intro _; rfl) :
    Snd X B (.ListComp elt [⟨tg, iter, ifs, 0⟩] scope pos) (zK7 (own.map (·.2)) fi g t fe) := fun w Q r hw =>
  zKp (pe_lc C.calm C.nd wYn ok (fun s H Cc cl fp => ⟨fun pins s1 _ _ _ u _ I rv h => (h s H Cc cl fp).go pins s1 u I rv⟩) (fun s H Cc cl fp => ⟨fun pins s1 _ _ _ I h => (h s H Cc cl fp).go pins s1 I⟩) (fun s H Cc cl fp => ⟨fun pins s1 _ _ _ I h => (h s H Cc cl fp).go pins s1 I⟩) hs)
    (xKl gt hi hg ht he r hw)
theorem yVx {own : List (Str × Nat)} {fi : Pg (List PyData)} {g : PyData → Pg Unit} {t : Pg Bool} {fe : Pg EV} {y : Str} {py spos : Pos} (i : Nat) (C : Ctx X B) (hy : X.N[i]? = some y) (hyl : X.env.scope.names.lookup y = some .local)
    (hsw : swapsWith (.ListComp elt [⟨tg, iter, ifs, 0⟩] scope pos) (some (.Name y py)) spos.line X.env = pure true) (ok : BlkOk X.N X.env.scope scope own) (gt : ∀ d m x m', g d m ≠ .thr x m') (hi : xWs X B tg iter fi)
    (hg : zK3 X scope fun Y => xU6 Y (own.map (·.2)) tg g) (ht : zK3 X scope fun Y => xJq Y B0 ifs t) (he : zK3 X scope fun Y => Snd Y B0 elt fe) (hs : ∀ x, foldedSetIterable iter X.env x = pure x := by intro _; rfl) :
    yGc X B (.Assign [.Name y py] (.ListComp elt [⟨tg, iter, ifs, 0⟩] scope pos) spos) (evSet i (zK7 (own.map (·.2)) fi g t fe)) := by
  intro w D r hw
  refine yQa (ps_setLc C.calm C.nd hy hyl hsw wYn ok (fun s H Cc cl fp => ⟨fun pins s1 _ _ _ u _ I rv h => (h s H Cc cl fp).go pins s1 u I rv⟩) (fun s H Cc cl fp => ⟨fun pins s1 _ _ _ I h => (h s H Cc cl fp).go pins s1 I⟩) (fun s H Cc cl fp => ⟨fun pins s1 _ _ _ I h => (h s H Cc cl fp).go pins s1 I⟩) hs)
   (xKl (Q := fun x H1 => D.nx (w.sg.set i (some x)) H1) gt hi hg ht he r ((wp_bind hw).imp (fun v m' q w1 x em e1 f1 r1 re => ?_) fun _ _ z => z))
  subst em
  obtain ⟨w2, s2, h2, f2, r2, q⟩ := xHe (B := B) r1 re (wp_bind q)
  have q := q w2 rfl ((f1.s r).trans f2) r2
  rw [s2, h2, e1] at q
  exact q
end
end Ev

namespace Ev
open PySem PySem.Spec PyProof.Rows L2

theorem RA.atI {K : PySem.W.Frag} {F : Hp} {ds : List PyData} {vs : List V} {i : Int} {d : PyData} (a : RA K F ds vs) (h : atI ds i = some d) : ∃ v, atI vs i = some v ∧ R K F d v := by
  unfold L2.atI at h ⊢
  rw [← a.len]
  cases e : ixN ds.length i with
  | none =>
    rw [e] at h
    cases h
  | some j =>
    rw [e] at h
    exact a.get h
def chD (z : Str) (i : Int) : Option PyData := if z.length ≤ 16777216 then (atI z.cps.toList i).map fun c => .str ⟨#[c]⟩ else none
def ixS : PyData → PyData → Option PyData
  | .list xs, .int i => atI xs i
  | .tuple xs, .int i => atI xs i
  | .str z, .int i => chD z i
  | .dict es, k => if zZo es && zGc k then yHp es k else none
  | _, _ => none
def ixP (o i : OV) : Pg EV := look o fun x => look i fun y => zK5 ((ixS x y).map .d)
theorem xG3 {K : PySem.W.Frag} {w : Wd} {xs : List PyData} {vs : List V} {i : Int} {d : PyData} (a : RA K w.F xs vs) (h : atI xs i = some d) : ∃ v, atI vs i = some v ∧ RE K w (.d d) v := a.atI h
theorem wUx {X : Cx} : IxR X (fun x y H Q => ∃ r, IxR X r ∧ r x y H Q) := by
  intro value slice pins s sg H x y v u Q I rx ry ⟨r, hr, q⟩ hs
  exact hr value slice pins s sg H x y v u Q I rx ry q hs
def wYi : R2 := fun x y H Q => ∃ a v, x = .ref a ∧ DGet H a y (some v) ∧ Q v H
theorem wQ1 {X : Cx} (hu : X.A.units + 1 < cLine) : IxR X wYi := by
  intro value slice pins s sg H x y v u Q I rx ry ⟨a, v0, ex, g, q⟩ hs
  subst ex
  obtain rfl : v = Value.ref a := rx
  exact tail_any (dict_typeIs I g) PySem.F.slot_dict_getitem.lookup (d_getItem hu I g ry fun w' s3 I3 rw' => ⟨v0, H, I3, rw', q⟩) hs
section
variable {X : Cx} {B : XBt} {a b c e : Expr} {es : List Expr} {fa fb fc f : Pg EV} {pos p : Pos}
def zXf (fa fb : Pg EV) : Pg EV := .bind fa fun v => .bind fb fun u => ixP (zKn v) (zKn u)
theorem zQr (C : Ctx X B) (ha : Snd X B a fa) (hb : Snd X B b fb) (hs : PlainIx b := by intro _ _; rfl) : Snd X B (.Subscript a b pos) (zXf fa fb) := by
  intro w Q r h
  refine zKp (pe_ix wUx zYf zYf hs) ?_
  refine zQ0 ha r h fun v w1 x e1 f1 r1 re h1 => ?_
  rw [← e1]
  refine zQ0 hb r1 h1 fun u w2 y e2 f2 r2 re2 h2 => ?_
  obtain ⟨dx, q1, h2⟩ := zXs h2
  obtain ⟨dy, q2, h2⟩ := zXs h2
  have o1 := ((re.ro r1).fol r1 f2).rn r2 q1
  have o2 := (re2.ro r2).rn r2 q2
  have fo := f1.trans f2
  have es := e2.trans e1
  obtain ⟨z, ez, q⟩ := zX2 h2
  cases ei : ixS dx dy with
  | none =>
    rw [ei] at ez
    cases ez
  | some d =>
    rw [ei] at ez
    cases ez
    have k := zVw.keep q es fo
    cases dx with
    | list xs =>
      cases dy with
      | int i =>
        obtain rfl := o2.int
        obtain ⟨p, vs, rfl, hq, ra⟩ := o1.lst r2.sub
        obtain ⟨z, hz, rz⟩ := xG3 ra ei
        exact ⟨_, ix_list, p, vs, i, z, rfl, rfl, hq.sq, hz, k.here r2 rz⟩
      | _ => cases ei
    | tuple xs =>
      cases dy with
      | int i =>
        obtain rfl := o2.int
        obtain ⟨p, vs, rfl, hq, ra⟩ := o1.tup
        obtain ⟨z, hz, rz⟩ := xG3 ra ei
        exact ⟨_, ix_tup, p, vs, i, z, rfl, rfl, zXh r2.sub hq, hz, k.here r2 rz⟩
      | _ => cases ei
    | str s =>
      cases dy with
      | int i =>
        obtain rfl := o2.int
        obtain rfl := o1.str
        have ei : chD s i = some d := ei
        unfold chD at ei
        split at ei
        · rename_i hl
          cases ec : atI s.cps.toList i with
          | none =>
            rw [ec] at ei
            cases ei
          | some c =>
            rw [ec] at ei
            cases ei
            exact ⟨_, ix_str, s, i, c, rfl, rfl, by rw [sizeLine_eq]; exact hl, ec, k.here r2 (.str _)⟩
        · cases ei
      | _ => cases ei
    | dict es0 =>
      have ei : (if zZo es0 && zGc dy then yHp es0 dy else none) = some d := by
        cases dy <;> exact ei
      split at ei
      · rename_i hp
        simp only [Bool.and_eq_true] at hp
        obtain ⟨kk, rfl⟩ := yJw hp.2
        obtain ⟨p, kvs, rfl, hH, rk⟩ := o1.dic r2.sub hp.1
        obtain ⟨v0, e0, rv0⟩ := (rk.val kk).1 d ei
        have ey := yKq o2
        subst ey
        have u1 : X.A.units + 1 < cLine := by have := C.rm.un; omega
        exact ⟨_, wQ1 u1, p, v0, rfl, by rw [← e0]; exact DGet.k hH, k.here r2 rv0⟩
      · cases ei
    | _ => cases dy <;> cases ei

def WO (X : Cx) (e : Option Expr) : TO := fun sg H Q => Cl (∀ (pins : List (Addr × Obj)) (s : Shared), L2.Inv X pins sg H s → wpAny (model X.prog X.w) X.A (evalPart e X.env) (fun u s' => ∃ o H', L2.Inv X pins sg H' s' ∧ IsPart u o ∧ Q o H') X.xe s)
theorem wHo {e : Option Expr} : PO X e (WO X e) := ⟨fun pins s _ _ _ I h => h.go pins s I⟩
theorem wXf {e : Option Expr} {t : TO} (h : PO X e t) {sg : L2.St} {H : Hp} {Q : Option Int → Hp → Prop} (q : t sg H Q) : WO X e sg H Q := ⟨fun pins s I => h.run pins s sg H Q I q⟩
def wVr (X : Cx) (B : XBt) (e : Option Expr) (f : Pg (Option Int)) : Prop := ∀ (w : Wd) (Q : Option Int → Hp → Prop), Rep X.K w →
  (f w.m).wp (fun o m' => ∀ (w' : Wd), w'.m = m' → w'.sg = w.sg → FolE w w' → Rep X.K w' → Q o w'.H) (XW X.K B w) → WO X e w.sg w.H Q
def intD : PyData → Option (Option Int)
  | .int i => some (some i)
  | _ => none
def wY6 (o : OV) : Pg (Option Int) := look o fun x => zK5 (intD x)
def zG6 (f : Pg EV) : Pg (Option Int) := .bind f fun v => wY6 (zKn v)
theorem zY5 : wVr X B none (.ret none) := fun w Q r h => wXf po_none (h w rfl rfl (FolE.refl w) r)
theorem zKq (h : Snd X B e f) : wVr X B (some e) (zG6 f) := by
  intro w Q r hw
  refine wXf (po_some zYf) ?_
  refine zQ0 h r hw fun v w1 x e1 f1 r1 re h1 => ?_
  obtain ⟨d, q1, h1⟩ := zXs h1
  have o1 := (re.ro r1).rn r1 q1
  obtain ⟨z, ez, q⟩ := zX2 h1
  cases d with
  | int i =>
    cases ez
    obtain rfl := o1.int
    exact ⟨i, rfl, q w1 rfl e1 f1 r1⟩
  | _ => cases ez
theorem yGk {eo : Option Expr} {f : Pg (Option Int)} {α : Type} {g : Option Int → Pg α} {P : α → Mem → Prop} {w : Wd} {Q : Option Int → Hp → Prop} (h : wVr X B eo f) (r : Rep X.K w) (hw : (Pg.bind f g w.m).wp P (XW X.K B w))
    (next : ∀ (v : Option Int) (w' : Wd), w'.sg = w.sg → FolE w w' → Rep X.K w' → (g v w'.m).wp P (XW X.K B w') → Q v w'.H) : WO X eo w.sg w.H Q := by
  refine h w Q r ((wp_bind hw).imp (fun v m' q w' e1 e2 f r' => ?_) fun _ _ q => q)
  subst e1
  exact next v w' e2 f r' (q.imp (fun _ _ z => z) fun _ _ z => z.fol (f.s r))
def cutD (xs : List PyData) (lo hi : Option Int) : List PyData := (xs.drop (HT.sIx xs.length 0 lo)).take (HT.sIx xs.length xs.length hi - HT.sIx xs.length 0 lo)
def slS (x : PyData) (lo hi : Option Int) : Option EV :=
  match x with
  | .list xs => some (.fresh (cutD xs lo hi))
  | .tuple xs => some (.d (.tuple (cutD xs lo hi)))
  | .str z => if z.length ≤ 16777216 then some (.d (.str (Txt.slice z lo hi))) else none
  | _ => none
def slP (x : OV) (lo hi : Option Int) : Pg EV := look x fun x => zK5 (slS x lo hi)
def xJx (fa : Pg EV) (fl fh : Pg (Option Int)) : Pg EV := .bind fa fun v => .bind fl fun l => .bind fh fun h => slP (zKn v) l h
theorem RA.cut {K : PySem.W.Frag} {F : Hp} {ds : List PyData} {vs : List V} (a : RA K F ds vs) (lo hi : Option Int) : RA K F (cutD ds lo hi) (cutV vs lo hi) := by
  unfold cutD cutV
  rw [← a.len]
  exact (a.drop _).take _
theorem wUw : SlR X (fun x lo hi H Q => ∃ r, SlR X r ∧ r x lo hi H Q) := by
  intro pins s sg H x v vl vu lo hi sl Q I rx hs pl pu ⟨r, hr, q⟩
  exact hr pins s sg H x v vl vu lo hi sl Q I rx hs pl pu q
theorem xK9 {xs : List PyData} {lo hi : Option Int} (h : HT.sIx xs.length 0 lo = 0 ∧ HT.sIx xs.length xs.length hi = xs.length) : cutD xs lo hi = xs := by
  unfold cutD
  rw [h.1, h.2]
  simp
theorem yXd {lo hi : Option Expr} {fl fh : Pg (Option Int)} {p2 : Pos} (ha : Snd X B a fa) (hl : wVr X B lo fl) (hh : wVr X B hi fh) : Snd X B (.Subscript a (.Slice lo hi none p2) pos) (xJx fa fl fh) := by
  intro w Q r h
  refine zKp (pe_slice wUw zYf wHo wHo) ?_
  refine zQ0 ha r h fun v w1 x e1 f1 r1 re h1 => ?_
  rw [← e1]
  refine yGk hl r1 h1 fun l w2 e2 f2 r2 h2 => ?_
  rw [← e2]
  refine yGk hh r2 h2 fun h w3 e3 f3 r3 h3 => ?_
  obtain ⟨d, q1, h3⟩ := zXs h3
  have o1 := (((re.ro r1).fol r1 f2).fol r2 f3).rn r3 q1
  have fo := f1.trans (f2.trans f3)
  have es := e3.trans (e2.trans e1)
  obtain ⟨z, ez, q⟩ := zX2 h3
  have k := zVw.keep q es fo
  cases d with
  | list xs =>
    cases ez
    obtain ⟨p, vs, rfl, hq, ra⟩ := o1.lst r3.sub
    exact ⟨_, sl_list, p, vs, rfl, hq.sq, fun b hb => k.lst r3 (ra.cut l h) hb⟩
  | tuple xs =>
    cases ez
    obtain ⟨p, vs, rfl, hq, ra⟩ := o1.tup
    refine ⟨_, sl_tupA, p, vs, rfl, zXh r3.sub hq, fun hw => ?_, fun _ b hb => k.tup r3 (ra.cut l h) hb⟩
    refine k.here r3 ?_
    rw [← ra.len] at hw
    rw [xK9 hw]
    exact R.tup hq ra
  | str s =>
    have ez : (if s.length ≤ 16777216 then some (EV.d (.str (Txt.slice s l h))) else none) = some z := ez
    split at ez
    · rename_i hz
      cases ez
      obtain rfl := o1.str
      exact ⟨_, C8.sl_txt, s, rfl, by rw [sizeLine_eq]; exact hz, k.here r3 (.str _)⟩
    · cases ez
  | _ => cases ez

theorem yG0 {α : Type} : ∀ {l : List α} {i j : Nat} {a : α}, l.Nodup → l[i]? = some a → l[j]? = some a → i = j
  | [], _, _, _, _, h, _ => by simp at h
  | b :: l, 0, 0, _, _, _, _ => rfl
  | b :: l, 0, j + 1, a, n, h1, h2 => by
    simp at h1 h2
    subst h1
    exact absurd (List.mem_of_getElem? h2) (List.nodup_cons.mp n).1
  | b :: l, i + 1, 0, a, n, h1, h2 => by
    simp at h1 h2
    subst h2
    exact absurd (List.mem_of_getElem? h1) (List.nodup_cons.mp n).1
  | b :: l, i + 1, j + 1, a, n, h1, h2 => by
    simp at h1 h2
    rw [yG0 (List.nodup_cons.mp n).2 h1 h2]
theorem wZl {K : PySem.W.Frag} {w : Wd} (r : Rep K w) {n : Nat} {o o' : Ob} {a : Addr} {u : HO} (h1 : w.m.cs[n]? = some o) (h2 : w.ro[n]? = some a) (h4 : OH K w.F (upd w.H a u) (fun _ => False) a o') (hni : (∀ c fs, o ≠ .ins c fs) ∨ (∀ C d vs, w.H a = some (.ins C d vs) → ∃ C' vs', u = .ins C' d vs') := by exact .inl (by intro _ _ z; cases z)) :
    Rep K { w with m := { w.m with cs := w.m.cs.set n o' }, H := upd w.H a u } ∧ FolE w { w with m := { w.m with cs := w.m.cs.set n o' }, H := upd w.H a u } := by
  have ar : a ∈ w.ro := List.mem_of_getElem? h2
  have q1 := r.rf n a h2
  have oth : ∀ b o, b ≠ a → w.H b = some o → upd w.H a u b = some o := fun b o n e => by
    rw [upd_ne n]
    exact e
  have nod : ∀ {b d : Addr}, w.H d = some (.own b) → d ≠ a := fun {b d} e z => (r.noOwnDict e).1 (z ▸ ar)
  have liv : ∀ b, w.H b ≠ none → upd w.H a u b ≠ none := fun b h => by
    by_cases e : b = a
    · rw [e, upd_same]
      simp
    · rw [upd_ne e]
      exact h
  have tb' : (TK K w).P (upd w.H a u) ∧ (∀ b ps, w.F b ≠ some (.tbl ps)) ∧ ∀ b ps, upd w.H a u b = some (.tbl ps) → ∃ q, (b, q) ∈ xJt K := by
    obtain ⟨a', k1, k2⟩ := r.cs n _ h1
    rw [h2] at k1
    cases k1
    exact ⟨(TK _ w).us r.tb.1 k2.soft, r.tb.2.1, yJh r.tb.2.2 (h4.ntbl upd_same)⟩
  have nl : n < w.m.cs.length := (List.getElem?_eq_some_iff.mp h1).1
  have insO : (∃ c fs, o = .ins c fs) → ∃ c fs, o' = .ins c fs := by
    rintro ⟨c, fs, rfl⟩
    rcases hni with z | z
    · exact absurd rfl (z c fs)
    · obtain ⟨a', k1, k2⟩ := r.cs n _ h1
      rw [h2] at k1
      cases k1
      obtain ⟨C, dx, vs, e1, _⟩ := k2
      obtain ⟨C', vs', rfl⟩ := z C dx vs e1
      cases o' with
      | lst xs => obtain ⟨vs, z, _⟩ := h4; rw [upd_same] at z; cases z
      | dic xs => obtain ⟨vs, z, _⟩ := h4; rw [upd_same] at z; cases z
      | ins c' fs' => exact ⟨_, _, rfl⟩
  have rf' : ∀ k b, w.ro[k]? = some b → w.F b = some (mkC k) ∨ w.F b = none ∧ ∃ c fs, (w.m.cs.set n o')[k]? = some (.ins c fs) := fun k b hk => by
    rcases r.rf k b hk with q | ⟨q, c, fs, hc⟩
    · exact .inl q
    · refine .inr ⟨q, ?_⟩
      by_cases e : k = n
      · subst e
        rw [h1] at hc
        cases hc
        obtain ⟨c', fs', rfl⟩ := insO ⟨_, _, rfl⟩
        exact ⟨c', fs', List.getElem?_set_self nl⟩
      · exact ⟨c, fs, by rw [List.getElem?_set_ne (Ne.symm e)]; exact hc⟩
  refine ⟨⟨fun b o e hn => ?_, r.le, fun j v h => ?_, fun k zs h => ?_, ?_, rf', r.rk, r.nd, r.ow, fun b h => liv b (r.zl b h), fun d b h => ?_, tb'⟩, ⟨rfl, rfl, Same.refl _, ⟨[], (List.append_nil _).symm⟩, fun b o e z _ => oth b o (fun q => z (q ▸ ar)) e, fun _ h => .inl h, liv, fun _ h => .inl h, fun _ h => h⟩⟩
  · have n : b ≠ a := fun z => by
      have e : w.F b = some o := e
      rw [z] at e
      rcases q1 with q1 | ⟨q1, _⟩
      · rw [q1] at e
        cases e
        exact hn _ rfl
      · rw [q1] at e
        cases e
    exact oth b o n (r.sub b o e hn)
  · obtain ⟨x, p1, p2⟩ := r.sl j v h
    refine ⟨x, p1, ?_⟩
    cases v with
    | d y => exact p2
    | cell n => exact p2
    | thk t => exact p2
    | ob zs =>
      obtain ⟨b, e, k1, k3, k4, k5⟩ := p2
      exact ⟨b, e, k1.keep (Same.refl _) (fun u => oth b u fun z => k4 (z ▸ ar)) (fun d z => oth d _ (nod z) z) (fun _ _ z => z), k3, k4, k5⟩
  · rcases yYp (show (w.m.cs.set n o')[k]? = some zs from h) with ⟨e1, e2⟩ | ⟨e1, e2⟩
    · subst e1 e2
      exact ⟨a, h2, h4⟩
    · obtain ⟨b, k1, k2⟩ := r.cs k zs e2
      have nb : b ≠ a := fun z => e1 (by
        subst z
        exact yG0 r.nd k1 h2)
      exact ⟨b, k1, k2.keep (Same.refl _) (fun u => oth b u nb) (fun d z => oth d _ (nod z) z) (fun _ _ z => z)⟩
  · show (w.m.cs.set n o').length = _
    rw [List.length_set]
    exact r.ln
  · have h : upd w.H a u d = some (.own b) := h
    by_cases q : d = a
    · rw [q] at h
      exact absurd h h4.noOwn
    · rw [upd_ne q] at h
      obtain ⟨C, vs, e⟩ := r.oo d b h
      by_cases z : b = a
      · subst z
        rcases hni with hni | hni
        · obtain ⟨a', ha', hO⟩ := r.cs n o h1
          rw [h2] at ha'
          cases ha'
          cases o with
          | lst xs =>
            obtain ⟨ws, k1, _⟩ := hO
            rw [k1] at e
            cases e
          | dic es =>
            obtain ⟨ws, k1, _⟩ := hO
            rw [k1] at e
            cases e
          | ins c fs => exact absurd rfl (hni c fs)
        · obtain ⟨C', vs', eu⟩ := hni C d vs e
          exact ⟨C', vs', by rw [eu]; exact upd_same⟩
      · exact ⟨C, vs, oth b _ z e⟩
def putS (o : Ob) (i d : PyData) : Option Ob := match o, i with
  | .lst xs, .int k => (ixN xs.length k).map fun j => .lst (xs.set j d)
  | .dic es, k => if zGc k && decide (es.length < 16777216) then some (.dic (wZh es k d)) else none
  | _, _ => none
def putAt (v : EV) (o' : Ob) : Pg Unit := match v with
  | .cell n => fun m => .ok () { m with cs := m.cs.set n o' }
  | .pk j _ => fun m => .ok () (setM m j (.ob o'))
  | _ => .stuck
def yKu (v : EV) : Pg Ob := fun m => match v with
  | .cell n => match m.cs[n]? with
    | some o => .ok o m
    | none => .bad
  | .pk j _ => match m.sl[j]? with
    | some (some (.ob o)) => .ok o m
    | _ => .bad
  | _ => .bad
theorem wVj {K : PySem.W.Frag} {w0 w : Wd} {v : EV} {x : V} {P : Ob → Mem → Prop} {E : Exn → Mem → Prop} (r0 : Rep K w0) (re : RE K w0 v x) (r : Rep K w) (hf : FolE w0 w) (hs : w.sg = w0.sg) (h : (yKu v w.m).wp P E) :
    ∃ a o, x = .ref a ∧ OH K w.F w.H (fun _ => False) a o ∧ P o w.m ∧ ∀ (o' : Ob) (u : HO) {R : Unit → Mem → Prop} {E' : Exn → Mem → Prop}, ((∀ c fs, o ≠ .ins c fs) ∨ (∀ C d vs, w.H a = some (.ins C d vs) → ∃ C' vs', u = .ins C' d vs')) → (∀ Z, OH K w.F w.H Z a o → OH K w.F (upd w.H a u) Z a o') → (putAt v o' w.m).wp R E' → ∃ w' : Wd, w'.H = upd w.H a u ∧ w'.sg = w.sg ∧ Rep K w' ∧ FolS w w' ∧ R () w'.m := by
  cases v with
  | d _ => exact h.elim
  | new _ => exact h.elim
  | cell n =>
    obtain ⟨p, rfl, hp⟩ := re
    have hp := hf.at hp
    unfold yKu at h
    dsimp only at h
    split at h
    · rename_i o ec
      obtain ⟨p', hp', hO⟩ := r.cs n o ec
      rw [hp] at hp'
      cases hp'
      refine ⟨p, o, rfl, hO, h, fun o' u R E' hni ho q => ?_⟩
      obtain ⟨r5, f5⟩ := wZl r ec hp (ho _ hO) hni
      exact ⟨{ w with m := { w.m with cs := w.m.cs.set n o' }, H := upd w.H p u }, rfl, rfl, r5, f5.s r, q⟩
    · exact h.elim
  | pk j o0 =>
    unfold yKu at h
    dsimp only at h
    split at h
    · rename_i o ec
      obtain ⟨_, g2⟩ := re
      obtain ⟨z, g3, b, g4, g5, _⟩ := r.sl j _ ec
      have g3' := g3
      rw [hs, g2] at g3
      cases g3
      subst g4
      refine ⟨b, o, rfl, g5.any, h, fun o' u R E' hni ho q => ?_⟩
      obtain ⟨r5, f5⟩ := yUu r ec g3' (ho _ g5) hni
      exact ⟨{ w with m := setM w.m j (.ob o'), H := upd w.H b u }, rfl, rfl, r5, f5, q⟩
    · exact h.elim
def xQ7 (v : EV) (i : OV) (d : PyData) : Pg Fl := .bind (yKu v) fun o => look i fun k => .bind (zK5 (putS o k d)) fun o' => .bind (putAt v o') fun _ => .ret .next
def yZ7 (fe fo fi : Pg EV) : Pg Fl := .bind fe fun v => .bind (toA v) fun a => .bind (yQr a) fun d => .bind fo fun o => .bind fi fun i => xQ7 o (zKn i) d
theorem wVk {X : Cx} : PSet X (fun o i v H Q => ∃ t, PSet X t ∧ t o i v H Q) := by
  intro pins s sg H o i v ov iv u Q I ro ri rv ⟨t, ht, q⟩
  exact ht pins s sg H o i v ov iv u Q I ro ri rv q
theorem yXc {o i : Expr} {fo fi : Pg EV} {p2 : Pos} (C : Ctx X B) (he : Snd X B e f) (ho : Snd X B o fo) (hi : Snd X B i fi) (hs : swapsWithSole [.Subscript o i p2] e pos.line X.env = pure false := by rfl) (hw : swappedStores [.Subscript o i p2] e X.env = pure none := by rfl)
    (h1 : (assignEach [.Subscript o i p2] X.env).map (·.2) = [assign (.Subscript o i p2) X.env] := by rfl)
    (ha : ∀ v, assign (.Subscript o i p2) X.env v = (do
      let ov ← holding [v] (eval o X.env)
      let iv ← holding [v, ov] (eval i X.env)
      standAt p2
      holding [v, ov, iv] (setItem ov iv v)
      release [v, ov, iv] []) := by intro _; rfl) : yGc X B (.Assign [.Subscript o i p2] e pos) (yZ7 f fo fi) := by
  intro w D r hh
  refine yQa (ps_asg zYf (pg_sub zYf zYf wVk ha) hs hw h1) ?_
  refine zQ0 he r hh fun v w1 y e1 f1 r1 re q1 => ?_
  obtain ⟨a, w2, ea, e2, e3, f2, r2, rv⟩ := zYi r1 re
  have q2 := wp_bind q1
  rw [ea] at q2
  obtain ⟨d, ed, q3⟩ := zHm (wp_bind (show (Pg.bind (yQr a) _ w2.m).wp (zGd X.K w D) (XW X.K B w1) from q2))
  subst ed
  have s2 : w2.sg = w.sg := e2.trans e1
  have rv : R X.K w2.F d y := rv
  rw [← e3, ← s2]
  have q3 := q3.imp (fun _ _ z => z) fun _ _ z => z.fol (f2.s r1)
  refine zQ0 ho r2 q3 fun ov w3 ox e4 f3 r3 re3 q4 => ?_
  have s3 : w3.sg = w.sg := e4.trans s2
  rw [← e4]
  refine zQ0 hi r3 q4 fun iv w4 ix e5 f4 r4 re4 q5 => ?_
  have s4 : w4.sg = w.sg := e5.trans s3
  have fol : FolE w w4 := f1.trans (f2.trans (f3.trans f4))
  have rd : R X.K w4.F d y := (rv.mono f3.ext).mono f4.ext
  obtain ⟨p, o, rfl, hO, q6, next⟩ := wVj r3 re3 r4 f4 e5 (wp_bind q5)
  obtain ⟨k, ek, q7⟩ := zXs q6
  have oi := (re4.ro r4).rn r4 ek
  obtain ⟨o', eo, q8⟩ := zX2 (wp_bind q7)
  have fin : ∀ {u : HO}, (∀ Z, OH X.K w4.F w4.H Z p o → OH X.K w4.F (upd w4.H p u) Z p o') → D.nx w3.sg (upd w4.H p u) := fun {u} h => by
    have hni : ∀ c fs, o ≠ .ins c fs := fun c fs z => by
      subst z
      cases k <;> cases eo
    obtain ⟨w5, eH, es, r5, f5, z⟩ := next o' u (.inl hni) h (wp_bind q8)
    have z := z w5 rfl ((fol.s r).trans f5) r5
    rw [eH, es, e5] at z
    exact z
  cases o with
  | lst xs =>
    cases k with
    | int k =>
      have eo : (ixN xs.length k).map (fun j => Ob.lst (xs.set j d)) = some o' := eo
      cases ej : ixN xs.length k with
      | none =>
        rw [ej] at eo
        cases eo
      | some j =>
        rw [ej] at eo
        cases eo
        obtain rfl := oi.int
        obtain ⟨vs, hH, ra⟩ := hO
        exact ⟨_, set_list, p, vs, k, j, rfl, rfl, hH, by rw [← ra.len]; exact ej, fin fun Z _ => ⟨_, upd_same, ra.set j rd⟩⟩
    | _ => cases eo
  | dic es0 =>
    have eo : (if zGc k && decide (es0.length < 16777216) then some (Ob.dic (wZh es0 k d)) else none) = some o' := by
      cases k <;> exact eo
    split at eo
    · rename_i hk
      simp only [Bool.and_eq_true, decide_eq_true_eq] at hk
      cases eo
      obtain ⟨kk, rfl⟩ := yJw hk.1
      obtain rfl := yKq oi
      obtain ⟨kvs, hH, rk⟩ := hO
      have u1 : X.A.units + 1 < cLine := by have := C.rm.un; omega
      exact ⟨_, set_dict u1, p, _, rfl, DPut.k hH (by rw [← rk.len, sizeLine_eq]; exact hk.2), fin fun Z _ => ⟨_, upd_same, rk.put rd kk⟩⟩
    · cases eo
  | ins c fs => cases k <;> cases eo

variable {k : Nat} {x : Str} {ps : List Str}
theorem xVh {g : Fn} (C : Ctx X B) (h : Has X k x [] g) (hr : Room k X.A) (hg : Gl X x) (hdb : (x == ("__debug__" : Str)) = false := by decide) : Snd X B (.Call (.Name x p) [] [] pos) (zZf g zQh) := by
  obtain ⟨f, fd, F, hm, hk, hb⟩ := h.ex
  intro w Q r hw
  refine zKp (wYr C F hr hg hm hk hb .nil hdb) ?_
  have hw := wp_bind hw
  exact yVu r rfl .nil (show (zVj g [] w.m).wp _ _ from hw)
def WK (X : Cx) (kws : List Keyword) : TA := fun sg H Q => Cl (∀ (pos : Pos) (pins : List (Addr × Obj)) (s : Shared), L2.Inv X pins sg H s → wpAny (model X.prog X.w) X.A (evalAll ((backToKw pos (keywordEach kws X.env)).map (·.2))) (AP X pins sg Q) X.xe s)
theorem vZu {kws : List Keyword} : PK X kws (WK X kws) := ⟨fun pos pins s _ _ _ I h => h.go pos pins s I⟩
theorem wXg {kws : List Keyword} {t : TA} (h : PK X kws t) {sg : L2.St} {H : Hp} {Q : List V → Hp → Prop} (q : t sg H Q) : WK X kws sg H Q := ⟨fun pos pins s I => h.run pos pins s sg H Q I q⟩
def xWz (X : Cx) (B : XBt) (kws : List Keyword) (f : Pg (List AV)) : Prop := ∀ (w : Wd) (Q : List V → Hp → Prop), Rep X.K w → (f w.m).wp (xU9 X.K w Q) (XW X.K B w) → WK X kws w.sg w.H Q
theorem zJr : xWz X B [] zQh := fun w Q r h => wXg pk_nil (h w [] rfl rfl (FolE.refl w) r .nil)
theorem zU0 {kws : List Keyword} {f : Pg (List AV)} {α : Type} {g : List AV → Pg α} {P : α → Mem → Prop} {w : Wd} {Q : List V → Hp → Prop} (h : xWz X B kws f) (r : Rep X.K w) (hw : (Pg.bind f g w.m).wp P (XW X.K B w))
    (next : ∀ (v : List AV) (w' : Wd) (xs : List V), w'.sg = w.sg → FolE w w' → Rep X.K w' → Paired (RV X.K w') v xs → (g v w'.m).wp P (XW X.K B w') → Q xs w'.H) : WK X kws w.sg w.H Q := by
  refine h w Q r ((wp_bind hw).imp (fun v m' q w' x e1 e2 f r' re => ?_) fun _ _ q => q)
  subst e1
  exact next v w' x e2 f r' re (q.imp (fun _ _ z => z) fun _ _ z => z.fol (f.s r))
theorem zXc {nm : Option Str} {kpos : Pos} {kws : List Keyword} {g : Pg (List AV)} (h1 : Snd X B e f) (h2 : xWz X B kws g) : xWz X B (⟨nm, e, kpos⟩ :: kws) (zQc f g) := by
  intro w Q r h
  refine wXg (pk_cons zYf vZu) ?_
  refine zQ0 h1 r h fun v w1 x e1 f1 r1 re h' => ?_
  obtain ⟨a, w2, ea, e2, e3, f2, r2, rv⟩ := zYi r1 re
  have h'' := wp_bind h'
  rw [ea] at h''
  rw [← e1, ← e2, ← e3]
  have h3 : (Pg.bind g (fun r => Pg.ret (a :: r)) w2.m).wp (xU9 X.K w Q) (XW X.K B w2) := Res.wp.imp h'' (fun _ _ q => q) fun _ _ q => q.fol (f2.s r1)
  refine zU0 h2 r2 h3 fun vs w3 xs e4 f3 r3 rvs q => ?_
  exact q w3 (x :: xs) rfl (e4.trans (e2.trans e1)) (f1.trans (f2.trans f3)) r3 (.cons (rv.fol f3) rvs)
theorem zZ3 {α β : Type} {P : α → β → Prop} : ∀ {as : List α} {xs : List β} {bs : List α} {ys : List β}, Paired P as xs → Paired P bs ys → Paired P (as ++ bs) (xs ++ ys)
  | _, _, _, _, .nil, h => h
  | _, _, _, _, .cons h t, g => .cons h (zZ3 t g)
theorem paired_get {α β : Type} {P : α → β → Prop} : ∀ {as : List α} {xs : List β} (i : Nat), Paired P as xs → (as[i]? = none ∧ xs[i]? = none) ∨ ∃ a x, as[i]? = some a ∧ xs[i]? = some x ∧ P a x
  | _, _, _, .nil => .inl ⟨rfl, rfl⟩
  | _, _, 0, .cons h _ => .inr ⟨_, _, rfl, rfl, h⟩
  | _, _, i + 1, .cons _ t => by
    rcases paired_get i t with h | ⟨a, x, h1, h2, h3⟩
    · exact .inl (by simpa using h)
    · exact .inr ⟨a, x, by simpa using h1, by simpa using h2, h3⟩
def pick {α : Type} (is : List Nat) (l : List α) : List α := is.filterMap fun i => l[i]?
theorem zJ3 {α β : Type} {P : α → β → Prop} {as : List α} {xs : List β} (h : Paired P as xs) : ∀ is : List Nat, Paired P (pick is as) (pick is xs)
  | [] => .nil
  | i :: is => by
    unfold pick
    rcases paired_get i h with ⟨h1, h2⟩ | ⟨a, x, h1, h2, h3⟩
    · rw [List.filterMap_cons_none h1, List.filterMap_cons_none h2]
      exact zJ3 h is
    · rw [List.filterMap_cons_some h1, List.filterMap_cons_some h2]
      exact .cons h3 (zJ3 h is)
structure HasK (X : Cx) (k : Nat) (x : Str) (ps : List Str) (n : Nat) (ks : List Str) (is : List Nat) (g : Fn) : Prop where
  ex : ∃ (f : Addr) (fd : FuncData), FnG X.prog X.w X.K X.mg X.base k f fd ps (spG X.K ps.length g) ∧ X.mg x = some (.ref f) ∧ PySem.W.keepIn X.K (.ref f) = true ∧
    ∀ (s : Shared) (us ws : List Value), X.K.In s.heap → us.length = n → ws.length = ks.length → BindsTo s fd ⟨us, ks.zip ws⟩ (ps.zip (pick is (us ++ ws)))
theorem xGk {f : Addr} {fd : FuncData} {sp : Sp} {pins : List (Addr × Obj)} {sg : L2.St} {H : Hp} {s : Shared} {Q : VK} {us : List Value} {args : Args} {vs : List V} (C : Ctx X B) (F : FnG X.prog X.w X.K X.mg X.base k f fd ps sp) (hr : Room k X.A) (hb : BindsTo s fd args (ps.zip us))
    (I : L2.Inv X pins sg H s) (rv : Vals vs us) (h : sp vs H Q fun cls d H' => WXB X.K B cls d sg H') : codeAny (model X.prog X.w) X.A (.call (.ref f) args) (wants (EP X pins sg Q) X.xe) s := by
  refine codeAny_mono (F.go X.A X.stack s H args us vs Q _ C.gd hr I.env0 hb rv h) fun r s' hq => ?_
  match r, hq with
  | .error _, hq => exact yGv C I hq
  | .ok (.ret u), hq => exact I.after hq
  | .ok .next, hq => exact (show False from hq).elim
  | .ok .brk, hq => exact (show False from hq).elim
  | .ok .cont, hq => exact (show False from hq).elim
def yU0 (g : Fn) (n m q : Nat) (is : List Nat) (fa fk : Pg (List AV)) : Pg EV := .bind fa fun vs => .bind fk fun zs => if vs.length = n ∧ zs.length = m ∧ (pick is (vs ++ zs)).length = q then zVj g (pick is (vs ++ zs)) else .stuck
theorem zZz : ∀ {vs : List V} {us : List Value}, Vals vs us → Paired RelV vs us
  | _, _, .nil => .nil
  | _, _, .cons h t => .cons h (zZz t)
theorem zYn : ∀ {vs : List V} {us : List Value}, Paired RelV vs us → Vals vs us
  | _, _, .nil => .nil
  | _, _, .cons h t => .cons h (zYn t)
theorem xWh {g : Fn} {n : Nat} {is : List Nat} {ks : List Str} {w w2 : Wd} {vs zs : List AV} {xs ys : List V} {Q : VK} {pins : List (Addr × Obj)} {s : Shared} {us ws : List Value} (C : Ctx X B) (h : HasK X k x ps n ks is g) (hr : Room k X.A) {f : Addr}
    (hm : X.mg x = some (.ref f)) (I : L2.Inv X pins w2.sg w2.H s) (ru : Vals xs us) (rw : Vals ys ws) (e2 : w2.sg = w.sg) (fo : FolE w w2) (rw0 : Rep X.K w) (r2 : Rep X.K w2) (rv : Paired (RV X.K w2) vs xs) (rz : Paired (RV X.K w2) zs ys)
    (hw : ((if vs.length = n ∧ zs.length = ks.length ∧ (pick is (vs ++ zs)).length = ps.length then zVj g (pick is (vs ++ zs)) else .stuck : Pg EV) w2.m).wp (zVw X.K w Q) (XW X.K B w2)) :
    wpAny (model X.prog X.w) X.A (call (.ref f) us (ks.zip ws)) (EP X pins w2.sg Q) X.xe s := by
  obtain ⟨f', fd, F, hm', hk, hb⟩ := h.ex
  rw [hm] at hm'
  cases hm'
  split at hw
  · rename_i hl
    obtain ⟨l1, l2, l3⟩ := hl
    have q2 : (zVj g (pick is (vs ++ zs)) w2.m).wp (zVw X.K w2 Q) (XW X.K B w2) := hw.imp (fun v m' z w3 y em es f2 r2 re => z w3 y em (es.trans e2) (fo.trans f2) r2 re) fun _ _ z => z
    have pv := zJ3 (zZ3 rv rz) is
    have pu := zYn (zJ3 (zZ3 (zZz ru) (zZz rw)) is)
    have sp := yVu (n := ps.length) r2 l3 pv q2
    exact wpAny_call (xGk C F hr (hb s us ws I.kIn ((zZt (zZz ru)).symm.trans ((zZt rv).symm.trans l1)) ((zZt (zZz rw)).symm.trans ((zZt rz).symm.trans l2))) I pu sp)
  · exact hw.elim
theorem xXw {g : Fn} {m q : Nat} {is : List Nat} {ks : List Str} {fk : Pg (List AV)} {kws : List Keyword} (C : Ctx X B) (h : HasK X k x ps 0 ks is g) (hm : ks.length = m) (hq : ps.length = q) (hr : Room k X.A) (hg : Gl X x) (hkw : xWz X B kws fk)
    (hall : (backToKw pos (keywordEach kws X.env)).all (·.1.isSome) = true := by rfl) (hks : (backToKw pos (keywordEach kws X.env)).filterMap (·.1) = ks := by rfl) (hdb : (x == ("__debug__" : Str)) = false := by decide)
    (hpl : ((backTo pos (starEach [] X.env)).any (·.1) || (backToKw pos (keywordEach kws X.env)).any (·.1.isNone)) = false := by rfl) :
    Snd X B (.Call (.Name x p) [] kws pos) (yU0 g 0 m q is zQh fk) := by
  subst hm hq
  obtain ⟨f, fd, F, hm, hk, hb⟩ := id h.ex
  intro w Q r hw
  refine ⟨fun pins s I => ?_⟩
  refine wpAny_Call_Name_kw (ld_glob I hg hm ?_ hdb)
  have wa : WK X kws w.sg w.H fun ys H2 => ∃ w2 : Wd, w2.H = H2 ∧ w2.sg = w.sg ∧ ∀ pins s ws, L2.Inv X pins w2.sg w2.H s → Vals ys ws → wpAny (model X.prog X.w) X.A (call (.ref f) [] (ks.zip ws)) (EP X pins w2.sg Q) X.xe s := by
    have q : (Pg.bind fk _ w.m).wp (zVw X.K w Q) (XW X.K B w) := wp_bind hw
    refine zU0 hkw r q fun zs w2 ys e2 f2 r2 rz q2 => ?_
    exact ⟨w2, rfl, e2, fun pins s ws I rw => xWh C h hr hm I .nil rw e2 f2 r r2 .nil rz q2⟩
  refine PySem.W.callWith_KW0 (h₀ := X.base) I.ok.mod.kin hk hall ?_ hpl
  refine thn (wa.go pos pins s I) fun ws s2 ⟨zs, H2, I2, rz, w2, eH, eS, q2⟩ => ⟨I2.kIn, ?_⟩
  rw [hks]
  have z := q2 pins s2 ws (by rw [eS, eH]; exact I2) rz
  rw [eS] at z
  exact z
end
end Ev

namespace Ev
open PySem PySem.Spec PyProof.Rows L2

section
variable {X : Cx} {B : XBt} {a b c e : Expr} {es : List Expr} {fa fb fc f : Pg EV} {pos p : Pos}
def wYw : PyData → Option EV
  | .int i => some (.d (.int (-i)))
  | _ => none
def yUx (f : Pg EV) : Pg EV := .bind f fun v => look (zKn v) fun x => zK5 (wYw x)
theorem yJj (h : Snd X B a fa) : Snd X B (.UnaryOp .USub a pos) (yUx fa) := by
  intro w Q r hw
  refine zKp (pe_un un_neg zYf) ?_
  refine zQ0 h r hw fun v w1 x e1 f1 r1 re h1 => ?_
  obtain ⟨d, q1, h1⟩ := zXs h1
  have o1 := (re.ro r1).rn r1 q1
  obtain ⟨z, ez, q⟩ := zX2 h1
  cases d with
  | int i =>
    cases ez
    obtain rfl := o1.int
    exact ⟨i, rfl, (zVw.keep q e1 f1).here r1 (.int _)⟩
  | _ => cases ez

def strOk (i : Int) : Bool := decide (i.natAbs.log2 < 1920)
theorem zQ4 {i : Nat} : ∀ d m x m', zZh i d m ≠ .thr x m' := fun _ _ _ _ h => by cases h
theorem zKk : ∀ d m x m', zV7 d m ≠ .thr x m' := fun d m x m' h => by cases d <;> cases h
theorem zQ7 {g : PyData → Pg Unit} {h : List PyData → Pg Unit} (h1 : ∀ d m x m', g d m ≠ .thr x m') (h2 : ∀ d m x m', h d m ≠ .thr x m') : ∀ d m x m', zZg g h d m ≠ .thr x m' := fun d m x m' z => by
  cases d with
  | nil => cases z
  | cons d ds =>
    have z : Pg.bind (g d) (fun _ => h ds) m = .thr x m' := z
    unfold Pg.bind at z
    cases e : g d m with
    | ok u m1 =>
      rw [e] at z
      exact h2 _ _ _ _ z
    | thr x1 m1 => exact h1 _ _ _ _ e
    | bad =>
      rw [e] at z
      cases z
theorem zUa {n : Nat} {g : List PyData → Pg Unit} (h : ∀ d m x m', g d m ≠ .thr x m') : ∀ d m x m', zVm n g d m ≠ .thr x m' := fun d m x m' z => by
  cases d with
  | tuple ds =>
    have z : (if ds.length = n then g ds else .stuck) m = .thr x m' := z
    split at z
    · exact h _ _ _ _ z
    · cases z
  | list ds =>
    have z : (if ds.length = n then g ds else .stuck) m = .thr x m' := z
    split at z
    · exact h _ _ _ _ z
    · cases z
  | _ => cases z
end
end Ev

namespace Ev
open PySem PySem.Spec PyProof.Rows L2

def yUn (ns : List Int) : PyData := .list (ns.map PyData.int)
def vZg (K : PySem.W.Frag) (h : Heap) : Prop := ∀ x ∈ zUp, ∀ c P, PySem.W.tabIn K x = some (c, P) → PySem.W.CodeHd h c P ∧ h.get? P = some (PySem.W.tabObj #[]) ∧ K.lookup P = none
def xWo (K : PySem.W.Frag) : Bool := zUp.all fun x => match PySem.W.tabIn K x with
  | none => true
  | some p => zUp.all fun y => x == y || match PySem.W.tabIn K y with
    | none => true
    | some q => p.2 != q.2
structure TabG (K : PySem.W.Frag) (mg : Str → Option Value) (base : Heap) : Prop where
  b : ∀ x ∈ zUp, ∀ c P, PySem.W.tabIn K x = some (c, P) → LamX.TabB base mg c P
  ap : xWo K = true
def tabAt (K : PySem.W.Frag) (b : Addr) : Prop := b ∈ (xJt K).map Prod.fst
instance {K : PySem.W.Frag} {b : Addr} : Decidable (tabAt K b) := inferInstanceAs (Decidable (_ ∈ _))
theorem xHq {K : PySem.W.Frag} {p : Addr × Str} (h : p ∈ xJt K) : ∃ x, x ∈ zUp ∧ p.2 = wH0 x ∧ ∃ c, PySem.W.tabIn K x = some (c, p.1) := by
  obtain ⟨x, hx, q⟩ := List.mem_filterMap.mp h
  cases e : PySem.W.tabIn K x with
  | none => rw [e] at q; cases q
  | some r =>
    rw [e] at q
    cases q
    exact ⟨x, hx, rfl, r.1, e⟩
theorem xQ6 {K : PySem.W.Frag} {b : Addr} (h : tabAt K b) : ∃ x, x ∈ zUp ∧ ∃ c, PySem.W.tabIn K x = some (c, b) := by
  obtain ⟨p, hp, e⟩ := List.mem_map.mp h
  obtain ⟨x, hx, _, c, ec⟩ := xHq hp
  exact ⟨x, hx, c, e ▸ ec⟩
def wVq (K : PySem.W.Frag) (a : Addr) (H : Hp) : Prop := ∀ b, H b = none ∨ (tabAt K b ∧ H b = some (.tbl #[])) ∨ (b = a ∧ ∃ ob xs, H b = some (.frz ob (.lst xs)))
theorem xXt {K : PySem.W.Frag} {H : Hp} (h : ∀ b, tabAt K b → H b = some (.tbl #[])) : LamX.Tabs (xJt K) H := fun p hp => LamX.TabS.nil (h _ (List.mem_map.mpr ⟨p, hp, rfl⟩))
theorem xKm {P : Program} {w : World} {K : PySem.W.Frag} {mg mb : Str → Option Value} {k : Nat} {fa a : Addr} {fd : FuncData} {x : Str} {g : Fn} {s₁ : Shared} {vs : List Value} {ns : List Int}
    (KX : K.In s₁.heap) (hns : s₁.heap.Ns mainGlobals mg) (hb : s₁.heap.Ns builtinsNs mb) (hbb : ∀ x : Str, x ≠ "__name__" → mb x = bootBuiltins x) (hlim : s₁.heap.NoLimit) (hsm : ∃ mm, s₁.heap.Ns sysModules mm) (hg : s₁.gens = #[])
    (tf : vZg K s₁.heap) (hap : xWo K = true) (hbm : ∃ (bm : Addr) (ob : Obj), mg "__builtins__" = some (.ref bm) ∧ bm ≠ builtinsNs ∧ s₁.heap.get? bm = some ob ∧ ob.cls = .type "module" ∧ ob.dict = some builtinsNs ∧ ob.data = .plain)
    (ha : s₁.heap.get? a = some { cls := .type "list", data := .seq vs.toArray }) (hi : IntsAre vs ns) (hl : ns.length ≤ sizeLine) (hr : Room k callerA)
    (F : ∀ base : Heap, K.In base → base.Ns mainGlobals mg → SM base → TabG K mg base → FnG P w K mg base k fa fd [x] (spG K 1 g)) (hbind : ∀ (s : Shared) (u : Value), BindsTo s fd ⟨[u], []⟩ [(x, u)])
    (law : ∃ m, g [.d (yUn ns)] ⟨[], []⟩ = .ok (.d (.bool true)) m) :
    codeAny (model P w) callerA (.call (.ref fa) ⟨[.ref a], []⟩) (fun r s' => r = .ok (.ret (.bool true)) ∧ OldK s₁.heap s'.heap ∧ s'.os = s₁.os ∧ AllBare s'.gens) s₁ := by
  have rv := vals_ints hi
  have lenV := hi.length
  have isTab : ∀ b, tabAt K b → s₁.heap.get? b = some (PySem.W.tabObj #[]) ∧ K.lookup b = none := fun b h => by
    obtain ⟨x, hx, c, e⟩ := xQ6 h
    exact (tf x hx c b e).2
  have notA : ¬ tabAt K a := fun h => by
    have q := (isTab a h).1
    rw [ha] at q
    injection q with q
    injection q with _ _ q
    cases q
  have core : ∀ H : Hp, wVq K a H → (∀ b, tabAt K b → H b = some (.tbl #[])) → LQ K H a (ns.map V.int) → HOk P w H s₁.heap → (H a ≠ none → K.lookup a = none) →
      codeAny (model P w) callerA (.call (.ref fa) ⟨[.ref a], []⟩) (fun r s' => r = .ok (.ret (.bool true)) ∧ OldK s₁.heap s'.heap ∧ s'.os = s₁.os ∧ AllBare s'.gens) s₁ := by
    intro H hO hT hS hok hK
    have hid : ∀ {b : Addr} {o : Obj}, s₁.heap.get? b = some o → H b = none → (hidT s₁.heap H).get? b = some o := fun e n => hidT_get e n
    -- neither a list nor an empty table: nothing is told of it
    have free : ∀ {b : Addr} {o : Obj}, s₁.heap.get? b = some o → (∀ ws n, o.data ≠ .seq ws n) → o.data ≠ .fields #[] → H b = none := fun {b o} e h1 h2 => by
      rcases hO b with q | ⟨q, _⟩ | ⟨q, _⟩
      · exact q
      · rw [(isTab b q).1] at e
        cases e
        exact absurd rfl h2
      · rw [q, ha] at e
        cases e
        exact absurd rfl (h1 _ _)
    have noD : ∀ {b : Addr} {o : Obj} {es : Array DictEntry} {ep : Nat}, s₁.heap.get? b = some o → o.data = .dict es ep → H b = none := fun {b o es ep} e d =>
      free e (fun ws n z => by rw [d] at z; cases z) fun z => by rw [d] at z; cases z
    have nsK : ∀ {b : Addr} {m : Str → Option Value}, s₁.heap.Ns b m → (hidT s₁.heap H).Ns b m := fun {b m} ⟨o, es, ep, e, d, r⟩ => ⟨o, es, ep, hid e (noD e d), d, r⟩
    have hKb : K.In (hidT s₁.heap H) := fun b o e => hid (KX b o e) (by
      rcases hO b with q | ⟨q, _⟩ | ⟨q, ob, xs, z⟩
      · exact q
      · rw [(isTab b q).2] at e
        cases e
      · rw [q] at e z
        rw [hK (by rw [z]; simp)] at e
        cases e)
    have hM : Mod K mg (hidT s₁.heap H) := ⟨hKb, nsK hns, ⟨mb, nsK hb, hbb⟩, let ⟨mc, h1, h2⟩ := hlim; ⟨mc, nsK h1, h2⟩⟩
    have hTG : TabG K mg (hidT s₁.heap H) := TabG.mk (fun x hx c Q e => by
      obtain ⟨cd, tq, _⟩ := tf x hx c Q e
      have gQ : mainGlobals ≠ Q := fun z => by
        obtain ⟨o, es, ep, e1, d, _⟩ := hns
        rw [z, tq] at e1
        cases e1
        cases d
      refine ⟨?_, ?_, gQ⟩
      · obtain ⟨o, us, fi, tfi, fl, tg, fr, tx, tt, e1, k1, k2, k3, rest⟩ := cd
        refine ⟨o, us, fi, tfi, fl, tg, fr, tx, tt, hid e1 (free e1 (fun ws n z => by rw [k2] at z; cases z) fun z => ?_), k1, k2, k3, rest⟩
        rw [k2] at z
        injection z with z
        rw [z] at k3
        simp at k3
      · obtain ⟨bm, ob, b1, b2, b3, b4, b5, b6⟩ := hbm
        refine ⟨bm, ob, b1, b2, fun z => ?_, fun z => ?_, hid b3 (free b3 (fun ws n z => by rw [b6] at z; cases z) fun z => by rw [b6] at z; cases z), b4, b5, b6⟩
        · obtain ⟨o, es, ep, e1, d, _⟩ := hns
          rw [z, e1] at b3
          cases b3
          rw [d] at b6
          cases b6
        · rw [z, tq] at b3
          cases b3
          cases b6) hap
    have e0 : Env0 P w K mg (hidT s₁.heap H) callerA [] s₁ H := ⟨rfl, hM, fun b o e => of_hidT e, Nat.le_of_eq (hidT_size _ _), trivial, fun b hb => absurd (show b ∈ ([] : List Addr) from hb) (by simp), hok, .of_eq hg⟩
    have sp : spG K 1 g [.ref a] H (fun v _ => v = .bl true) fun _ _ _ => False := by
      obtain ⟨m, e⟩ := law
      have frz0 : ∀ b u, H b = some u → (∃ ob xs, u = .frz ob xs) ∨ u = .tbl #[] := fun b u z => by
        rcases hO b with q | ⟨_, q⟩ | ⟨_, ob, xs, q⟩
        · rw [q] at z; cases z
        · rw [q] at z; cases z; exact .inr rfl
        · rw [q] at z; cases z; exact .inl ⟨_, _, rfl⟩
      -- what is frozen from the start: all but the table
      let F0 : Hp := fun b => if tabAt K b then none else H b
      have fs : Same F0 H := fun b u z => by
        have z : (if tabAt K b then none else H b) = some u := z
        split at z
        · cases z
        · exact z
      have hS0 : LQ K F0 a (ns.map V.int) := by
        have e : F0 a = H a := if_neg notA
        rcases hS with (z | z) | z
        · exact .inl (.inl (e.trans z))
        · obtain ⟨ob, z⟩ := z
          exact .inl (.inr ⟨ob, e.trans z⟩)
        · exact .inr z
      refine ⟨{ F := F0, ro := [], m := ⟨[], []⟩, sg := [], H := H, Z := fun b => H b ≠ none, T := T0 }, [.d (yUn ns)], rfl, rfl, rfl, fun _ h => h, ⟨xof fs, Nat.le_refl _, fun i v h => by simp at h, fun n xs h => by simp at h, rfl, fun n b h => by simp at h, fun n b z => ?_, List.nodup_nil, fun i j xs ys x h => by simp at h, fun _ h => h, fun d c z => ?_, ⟨⟨trivial, xXt hT⟩, fun b ps z => ?_, fun b ps z => ?_⟩⟩, .cons (R.lst hS0 (RA.ints ns)) .nil, rfl, ?_⟩
      · rcases frz0 b _ (fs _ _ z) with ⟨_, _, q⟩ | q <;> cases q
      · rcases frz0 d _ z with ⟨_, _, q⟩ | q <;> cases q
      · have z : (if tabAt K b then none else H b) = some (HO.tbl ps) := z
        split at z
        · cases z
        · rename_i nt
          rcases hO b with q | ⟨q, _⟩ | ⟨_, ob, xs, q⟩
          · rw [q] at z; cases z
          · exact nt q
          · rw [q] at z; cases z
      · rcases hO b with q | ⟨q, _⟩ | ⟨_, ob, xs, q⟩
        · have z : H b = some (HO.tbl ps) := z
          rw [q] at z; cases z
        · obtain ⟨p, hp, e⟩ := List.mem_map.mp q
          exact ⟨p.2, e ▸ hp⟩
        · have z : H b = some (HO.tbl ps) := z
          rw [q] at z; cases z
      show (g [.d (yUn ns)] ⟨[], []⟩).wp _ _
      rw [e]
      intro w' y _ _ _ _ _ re
      cases re
      rfl
    have hsb : SM (hidT s₁.heap H) := by
      obtain ⟨mm, q⟩ := hsm
      obtain ⟨o, es, ep, e1, e2, _⟩ := nsK q
      exact ⟨o, es, ep, e1, e2⟩
    refine codeAny_mono ((F _ hKb (nsK hns) hsb hTG).go callerA [] s₁ H ⟨[.ref a], []⟩ [.ref a] [.ref a] _ _ rfl hr e0 (hbind s₁ (.ref a)) (.cons rfl .nil) sp) fun r s' h => ?_
    match r, h with
    | .error e, h =>
      obtain ⟨_, _, _, _, _, _, _, _, _, _, _, _, z⟩ := h
      exact z.elim
    | .ok .next, h => exact (show False from h).elim
    | .ok .brk, h => exact (show False from h).elim
    | .ok .cont, h => exact (show False from h).elim
    | .ok (.ret u), h =>
      obtain ⟨v, H', os, bare, un, hok', r', q⟩ := h
      have q' : v = .bl true := q
      subst q'
      obtain rfl : u = Value.bool true := r'
      have kept : ∀ b o, ¬ tabAt K b → s₁.heap.get? b = some o → s'.heap.get? b = some o := fun b o nt e => by
        rcases hO b with q | ⟨q, _⟩ | ⟨_, ob, xs, z⟩
        · exact un.keep b o e q (by intro z; exact absurd (show b ∈ ([] : List Addr) from z) (by simp)) (by simp)
        · exact absurd q nt
        · have z2 := un.frzs b ob _ z
          obtain ⟨e1, _⟩ := hok b _ z
          obtain ⟨e2, _⟩ := hok' b _ z2
          rw [e] at e1; cases e1
          exact e2
      have more : ∀ b, tabAt K b → ∃ ps : Array Value, s'.heap.get? b = some (PySem.W.tabObj ps) := fun b h => by
        obtain ⟨ps, z⟩ := un.tbls b #[] (hT b h)
        exact ⟨_, hok' b _ z⟩
      refine ⟨rfl, ⟨fun b o e => ?_, fun b o e => ?_⟩, os, bare⟩
      · by_cases ht : tabAt K b
        · obtain ⟨ps, z⟩ := more b ht
          obtain ⟨x, hx, c, ec⟩ := xQ6 ht
          obtain ⟨cd, tq, _⟩ := tf x hx c b ec
          rw [tq] at e
          cases e
          exact .inr (.inl ⟨(cd.tab tq).isCodeTable, rfl, #[], ps, rfl, by rw [Array.empty_append]; exact z⟩)
        · exact .inl (kept b o ht e)
      · by_cases ht : tabAt K b
        · obtain ⟨ps, z⟩ := more b ht
          exact ⟨_, z⟩
        · exact ⟨o, kept b o ht e⟩
  cases hk : K.lookup a with
  | some o =>
    have e := KX a o hk
    rw [ha] at e
    cases e
    refine core (fun b => if tabAt K b then some (.tbl #[]) else none) (fun b => ?_) (fun b h => if_pos h) (.inr ⟨vs, _, hk, by rw [lenV]; exact hl, rv⟩) (fun b u z => ?_) fun z => absurd (if_neg notA) z
    · by_cases ht : tabAt K b
      · exact .inr (.inl ⟨ht, if_pos ht⟩)
      · exact .inl (if_neg ht)
    · by_cases ht : tabAt K b
      · have z' := (if_pos ht).symm.trans z
        cases z'
        exact (isTab b ht).1
      · have z' := (if_neg ht).symm.trans z
        cases z'
  | none =>
    refine core (fun b => if b = a then some (.frz { cls := .type "list", data := .seq vs.toArray } (.lst (ns.map V.int))) else if tabAt K b then some (.tbl #[]) else none) (fun b => ?_) (fun b h => (if_neg (fun z : b = a => notA (z ▸ h))).trans (if_pos h)) (.inl (.inr ⟨{ cls := .type "list", data := .seq vs.toArray }, if_pos rfl⟩)) (fun b u z => ?_) fun _ => hk
    · by_cases hb : b = a
      · exact .inr (.inr ⟨hb, _, _, if_pos hb⟩)
      · by_cases ht : tabAt K b
        · exact .inr (.inl ⟨ht, (if_neg hb).trans (if_pos ht)⟩)
        · exact .inl ((if_neg hb).trans (if_neg ht))
    · by_cases hb : b = a
      · have z' := (if_pos hb).symm.trans z
        cases z'
        subst hb
        exact ⟨ha, by rw [List.length_map]; exact hl, vs, _, rv, ha⟩
      · have z1 := (if_neg hb).symm.trans z
        by_cases ht : tabAt K b
        · have z' := (if_pos ht).symm.trans z1
          cases z'
          exact (isTab b ht).1
        · have z' := (if_neg ht).symm.trans z1
          cases z'
def wGy (n : Nat) (g : Fn) : Prop := ∀ ns : List Int, ns.length ≤ n → (∀ z ∈ ns, Builtin.Int.intBits z ≤ 1048576) → ∃ m, g [.d (yUn ns)] ⟨[], []⟩ = .ok (.d (.bool true)) m
def xGf (K : PySem.W.Frag) : Bool := xWo K && zUp.all fun x => match PySem.W.tabIn K x with
  | some p => (K.lookup p.2).isNone
  | none => true
def wJo (q : Program) (K : PySem.W.Frag) : Bool := zUp.all fun x => (PySem.W.tabIn K x).isNone || ((recsOf q).find? fun e : DefRec => e.name == x).isSome
theorem wXi {l : PySem.W.OpenLaw} {n k : Nat} {q : Program} {loose : List Str} {XP : (Str → Option Value) → Heap → Prop} {YP : World → Heap → Prop} {d : DefRec} {K : Params → PySem.W.Frag} {x : Str} {g : Fn}
    (hi : importsNone q = true) (hn : l.most = some n) (hn2 : n ≤ sizeLine) (hdf : d.params.defaults = []) (hr : Room k callerA)
    (hY : ∀ (w : World) (h : Heap), YP w h → (K w.params).In h)
    (hd' : ∀ w : World, wJo q (K w.params) = true) (hto : ∀ w : World, xGf (K w.params) = true)
    (F : ∀ (w : World) (mg : Str → Option Value) (fa : Addr) (h : Heap), (K w.params).In h → h.Ns mainGlobals mg → mg d.name = some (.ref fa) →
      ∃ fd : FuncData, (∀ (s : Shared) (u : Value), BindsTo s fd ⟨[u], []⟩ [(x, u)]) ∧
        ∀ base : Heap, (K w.params).In base → base.Ns mainGlobals mg → SM base → TabG (K w.params) mg base → FnG l.prog w (K w.params) mg base k fa fd [x] (spG (K w.params) 1 g))
    (law : wGy n g) : PySem.W.WalkO q loose XP YP l.row.toRowW d [] (fun f vs => PySem.call f vs) := by
  refine Att.attach_callB hn hdf fun w s₀ s₁ mg mb fa o pm cd doc a vs ns G Y ho hd hcd hmg hobj hints hlen hbits hg => ?_
  have KX := hY w _ Y
  obtain ⟨fd, hb, hF⟩ := F w mg fa _ KX G.T.g hmg
  have o := hto w
  unfold xGf at o
  obtain ⟨hap, o⟩ := Bool.and_eq_true_iff.mp o
  have tf : vZg (K w.params) s₁.heap := fun x hx c P e => by
    have hl := List.all_eq_true.mp (hd' w) x hx
    rw [e] at hl
    obtain ⟨d', ed⟩ := Option.isSome_iff_exists.mp (by simpa using hl : ((recsOf q).find? fun e : DefRec => e.name == x).isSome = true)
    obtain ⟨h1, h2⟩ := PySem.W.tab_of G.T KX ed e
    refine ⟨h1, h2, ?_⟩
    have o := List.all_eq_true.mp o x hx
    rw [e] at o
    exact Option.isNone_iff_eq_none.mp o
  exact xKm KX G.T.g G.T.b G.T.builtins G.T.nolimit (let ⟨mm, z, _⟩ := (G.T.seer hi).mods; ⟨mm, z⟩) hg tf hap G.T.bmain hobj hints (Nat.le_trans hlen hn2) hr hF hb (law ns hlen hbits)
end Ev

namespace Ev
open PySem PySem.Spec PyProof.Rows L2

def vQi (N : List Str) (sc scope : Scope) (own : List (Str × Nat)) : Bool :=
  decide (scope.kind = .function) && scope.names.all (fun y => decide (scope.names.lookup y.1 = some y.2)) && own.all (fun p => decide (N[p.2]? = some p.1)) &&
    scope.names.all (fun y => decide (y.2 ≠ .free) || decide (sc.names.lookup y.1 = some .cell) || decide (sc.names.lookup y.1 = some .free)) &&
    scope.names.all (fun y => !(decide (y.2 = .local) || decide (y.2 = .cell)) || decide (y.1 ∈ own.map (·.1)) || decide (y.1 ∉ N))
theorem zGp {N : List Str} {sc scope : Scope} {own : List (Str × Nat)} (h : vQi N sc scope own = true) : BlkOk N sc scope own := by
  unfold vQi at h
  simp only [Bool.and_eq_true, List.all_eq_true, decide_eq_true_eq, Bool.or_eq_true, Bool.not_eq_true', Bool.or_eq_false_iff, decide_eq_false_iff_not] at h
  obtain ⟨⟨⟨⟨h1, h2⟩, h3⟩, h4⟩, h5⟩ := h
  refine ⟨h1, h2, h3, fun y hy e => ?_, fun y hy e => ?_⟩
  · rcases h4 y hy with (q | q) | q
    · exact absurd e q
    · exact .inl q
    · exact .inr q
  · rcases h5 y hy with (q | q) | q
    · rcases e with e | e
      · exact absurd e q.1
      · exact absurd e q.2
    · exact .inl q
    · exact .inr q
def GM (K : PySem.W.Frag) (mg : Str → Option Value) (x : Str) (d : PyData) : Prop := ∃ (v : V) (u : Value), mg x = some u ∧ RelV v u ∧ ∀ F : Hp, R K F d v
def FM (K : PySem.W.Frag) (mg : Str → Option Value) (x : Str) (st : Stmt) (ps : List Str) : Prop := ∃ (f : Addr) (fd : FuncData), Fun K x x st f fd ∧ mg x = some (.ref f) ∧ Binds K fd ps []
def yJe (P : Program) (w : World) (K : PySem.W.Frag) (mg : Str → Option Value) (base : Heap) (k : Nat) (x : Str) (ps : List Str) (g : Fn) : Prop :=
  ∃ (f : Addr) (fd : FuncData), FnG P w K mg base k f fd ps (spG K ps.length g) ∧ mg x = some (.ref f) ∧ PySem.W.keepIn K (.ref f) = true ∧ Binds K fd ps []
section
variable {P : Program} {w : World} {K : PySem.W.Frag} {mg : Str → Option Value} {base : Heap}
theorem zJ6 {x : Str} {st : Stmt} {ps : List Str} {g : Fn} {j k : Nat} (h : FM K mg x st ps) (hk : j ≤ k) (ok : ∀ {f : Addr} {fd : FuncData}, Fun K x x st f fd → FnG P w K mg base j f fd ps (spG K ps.length g)) : yJe P w K mg base k x ps g := by
  obtain ⟨f, fd, F, hm, hb⟩ := h
  exact ⟨f, fd, (ok F).up hk, hm, F.kp, hb⟩
theorem wJy {x s : Str} {n : Nat} (h : mg x = some (.str s n)) : GM K mg x (.str s) := ⟨.str s, _, h, ⟨n, rfl⟩, fun _ => .str s⟩
theorem zYg {x : Str} {st : Stmt} {ps : List Str} {f : Addr} {oc : Value} {od an : Option Addr} {osl : Array (Option Value)} {kV doc pm cdv ct : Value} (hm : mg x = some (.ref f))
    (l : K.lookup f = some ⟨oc, od, .func (PySem.W.fnOf x x (defArgs st) (defBody st) (defScope st) .none kV doc pm an cdv ct), osl⟩) (c : PySem.W.codeIn K cdv x = true) (k : PySem.W.keepIn K (.ref f) = true)
    (hb : ∀ (kV doc pm : Value) (an : Option Addr) (cdv ct : Value) (us : List Value), us.length = ps.length → bindArgs (PySem.W.fnOf x x (defArgs st) (defBody st) (defScope st) .none kV doc pm an cdv ct) ⟨us, []⟩ = pure (ps.zip us)) : FM K mg x st ps :=
  ⟨f, _, fun_mk l c k, hm, (fun_mk l c k).binds hb⟩
theorem wQ4 {x : Str} {st : Stmt} {ps : List Str} {g : Fn} {j k n : Nat} {ks : List Str} {is : List Nat} (h : FM K mg x st ps) (hk : j ≤ k) (ok : ∀ {f : Addr} {fd : FuncData}, Fun K x x st f fd → FnG P w K mg base j f fd ps (spG K ps.length g))
    (hb : ∀ (kV doc pm : Value) (an : Option Addr) (cdv ct : Value) (us ws : List Value), us.length = n → ws.length = ks.length → bindArgs (PySem.W.fnOf x x (defArgs st) (defBody st) (defScope st) .none kV doc pm an cdv ct) ⟨us, ks.zip ws⟩ = pure (ps.zip (pick is (us ++ ws)))) :
    ∃ (f : Addr) (fd : FuncData), FnG P w K mg base k f fd ps (spG K ps.length g) ∧ mg x = some (.ref f) ∧ PySem.W.keepIn K (.ref f) = true ∧
      ∀ (s : Shared) (us ws : List Value), K.In s.heap → us.length = n → ws.length = ks.length → BindsTo s fd ⟨us, ks.zip ws⟩ (ps.zip (pick is (us ++ ws))) := by
  obtain ⟨f, fd, F, hm, _⟩ := h
  refine ⟨f, fd, (ok F).up hk, hm, F.kp, fun s us ws _ l1 l2 => ?_⟩
  obtain ⟨oc, od, kV, doc, pm, an, cdv, ct, osl, rfl, _, _⟩ := F.ex
  exact .of_eq (hb kV doc pm an cdv ct us ws l1 l2)
end
end Ev

namespace Ev
open PySem PySem.Spec PyProof.Rows L2

def wV4 (i : Nat) : EV → Pg Unit
  | .new o => fun m => .ok () { sl := m.sl.set i (some (.cell m.cs.length)), cs := m.cs ++ [o] }
  | _ => .stuck
def shW (w : Wd) (a : Addr) (o : Ob) : Wd := { w with F := upd w.F a (mkC w.m.cs.length), ro := w.ro ++ [a], m := { w.m with cs := w.m.cs ++ [o] } }
theorem xYp {K : PySem.W.Frag} {w : Wd} (r : Rep K w) {a : Addr} {o : Ob} (h1 : OH K w.F w.H w.Z a o) (h3 : w.F a = none) (h4 : a ∉ w.ro) (h6 : ¬ Own w a) (h5 : ¬ w.Z a) :
    Rep K (shW w a o) ∧ FolS w (shW w a o) := by
  have ro_at : ∀ {n : Nat} {b : Addr}, w.ro[n]? = some b → (w.ro ++ [a])[n]? = some b := fun {n b} q => by
    rw [List.getElem?_append_left (List.getElem?_eq_some_iff.mp q).1]
    exact q
  have sm : Same w.F (upd w.F a (mkC w.m.cs.length)) := fun b u e => by
    rw [upd_ne (ne_of_none e h3)]
    exact e
  have kp : ∀ {b : Addr} {ob : Ob} {Z Z' : Addr → Prop}, OH K w.F w.H Z b ob → (∀ d, Z' d → Z d) → OH K (upd w.F a (mkC w.m.cs.length)) w.H Z' b ob := fun h z => h.keep sm (fun _ z => z) (fun _ z => z) fun d _ q => z d q
  refine ⟨⟨fun b u e hn => ?_, r.le, fun j v h => ?_, fun n ys h => ?_, ?_, fun n b hb => ?_, fun n b e => ?_, ?_, r.ow, r.zl, r.oo, ⟨r.tb.1, fun b ps e => ?_, r.tb.2.2⟩⟩, ⟨rfl, rfl, sm, ⟨[a], rfl⟩, fun b o e _ _ _ => e, fun b hb => ?_, fun b e => e, fun b e => ?_⟩⟩
  · have e : upd w.F a (mkC w.m.cs.length) b = some u := e
    by_cases q : b = a
    · subst q
      rw [upd_same] at e
      exact absurd (Option.some.inj e).symm (hn _)
    · rw [upd_ne q] at e
      exact r.sub b u e hn
  · obtain ⟨y, p1, p2⟩ := r.sl j v h
    refine ⟨y, p1, ?_⟩
    cases v with
    | d z => exact R.mono sm p2
    | ob zs =>
      obtain ⟨b, e, k1, k3, k4, k5⟩ := p2
      have nb : b ≠ a := fun q => by
        subst q
        exact h6 ⟨j, zs, h, by rw [p1, e]⟩
      refine ⟨b, e, kp k1 fun _ z => z, ?_, fun hb => ?_, k5⟩
      · show upd w.F a _ b = none
        rw [upd_ne nb]
        exact k3
      · rcases List.mem_append.mp hb with q | q
        · exact k4 q
        · exact nb (List.mem_singleton.mp q)
    | cell n =>
      obtain ⟨b, e, q⟩ := p2
      exact ⟨b, e, ro_at q⟩
    | thk t => exact ⟨p2.1, yGg p2.2.1 sm ⟨[a], rfl⟩, p2.2.2⟩
  · by_cases hn : n < w.m.cs.length
    · have h : w.m.cs[n]? = some ys := by
        rw [← h]
        exact (List.getElem?_append_left hn).symm
      obtain ⟨b, k1, k2⟩ := r.cs n ys h
      exact ⟨b, ro_at k1, kp k2 fun _ z => z⟩
    · have h : (w.m.cs ++ [o])[n]? = some ys := h
      rw [List.getElem?_append_right (by omega)] at h
      have hz : n - w.m.cs.length = 0 := by
        have := (List.getElem?_eq_some_iff.mp h).1
        simp only [List.length_singleton] at this
        omega
      rw [hz] at h
      cases h
      refine ⟨a, ?_, kp h1.any fun _ z => z⟩
      show (w.ro ++ [a])[n]? = some a
      rw [List.getElem?_append_right (by rw [← r.ln]; omega), ← r.ln, hz]
      rfl
  · show (w.m.cs ++ [o]).length = (w.ro ++ [a]).length
    rw [List.length_append, List.length_append, r.ln]
    rfl
  · have hb : (w.ro ++ [a])[n]? = some b := hb
    show upd w.F a _ b = _ ∨ upd w.F a _ b = none ∧ _
    by_cases hn : n < w.ro.length
    · rw [List.getElem?_append_left hn] at hb
      have nb : b ≠ a := fun z => h4 (z ▸ List.mem_of_getElem? hb)
      rw [upd_ne nb]
      rcases r.rf n b hb with q | ⟨q, c, fs, z⟩
      · exact .inl q
      · exact .inr ⟨q, c, fs, by
          show (w.m.cs ++ [o])[n]? = _
          rw [List.getElem?_append_left (by rw [r.ln]; exact hn)]
          exact z⟩
    · rw [List.getElem?_append_right (by omega)] at hb
      have hz : n - w.ro.length = 0 := by
        have := (List.getElem?_eq_some_iff.mp hb).1
        simp only [List.length_singleton] at this
        omega
      rw [hz] at hb
      cases hb
      rw [upd_same]
      have : n = w.m.cs.length := by rw [r.ln]; omega
      rw [this]
      exact .inl rfl
  · have e : upd w.F a (mkC w.m.cs.length) b = some (mkC n) := e
    show (w.ro ++ [a])[n]? = some b
    by_cases q : b = a
    · subst q
      rw [upd_same] at e
      have := wQw (Option.some.inj e)
      rw [← this, List.getElem?_append_right (by rw [r.ln]; exact Nat.le_refl _), r.ln, Nat.sub_self]
      rfl
    · rw [upd_ne q] at e
      exact ro_at (r.rk n b e)
  · show (w.ro ++ [a]).Nodup
    rw [List.nodup_append]
    refine ⟨r.nd, by simp, fun b hb c hc => ?_⟩
    rw [List.mem_singleton.mp hc]
    exact fun z => h4 (z ▸ hb)
  · have e : upd w.F a (mkC w.m.cs.length) b = some (.tbl ps) := e
    by_cases q : b = a
    · subst q
      rw [upd_same] at e
      cases e
    · rw [upd_ne q] at e
      exact r.tb.2.1 b ps e
  · rcases List.mem_append.mp hb with q | q
    · exact .inl q
    · rw [List.mem_singleton.mp q]
      exact .inr h5
  · have e : upd w.F a (mkC w.m.cs.length) b ≠ none := e
    by_cases q : b = a
    · rw [q]
      exact .inr h5
    · rw [upd_ne q] at e
      exact .inl e
theorem wQs {K : PySem.W.Frag} {w : Wd} (r : Rep K w) {v : EV} {x : V} (h : RE K w v x) {i : Nat} {P : Unit → Mem → Prop} {E : Exn → Mem → Prop} (hw : (wV4 i v w.m).wp P E) : ∃ w' : Wd, w'.sg = w.sg.set i (some x) ∧ w'.H = w.H ∧ FolS w w' ∧ Rep K w' ∧ P () w'.m := by
  cases v with
  | d y => exact hw.elim
  | pk j xs => exact hw.elim
  | cell n => exact hw.elim
  | new o =>
    obtain ⟨a, e, h1, h3, h4, h5, h6⟩ := h
    subst e
    obtain ⟨r1, f1⟩ := xYp r h1 h3 h4 h6 h5
    obtain ⟨r2, f2⟩ := yW2 (i := i) (v := .cell w.m.cs.length) (x := .ref a) r1 ⟨a, rfl, by
      show (w.ro ++ [a])[w.m.cs.length]? = some a
      rw [r.ln, List.getElem?_append_right (Nat.le_refl _), Nat.sub_self]
      rfl⟩ (fun ys b e => by cases e)
    exact ⟨yYq (shW w a o) i (.cell w.m.cs.length) (.ref a), rfl, rfl, f1.trans f2, r2, hw⟩
section
open HT
section
variable {prog : Program} {w : World} {A : Around} {E : Value → Shared → Prop} {s : Shared}
end
end
section
variable {X : Cx} {B : XBt} {e c : Expr} {es : List Expr} {pos p : Pos} {f fa : Pg EV}
def xZ8 (i : Nat) (f : Pg EV) : Pg Fl := .bind f fun v => .bind (wV4 i v) fun _ => .ret .next
theorem xYk {x : Str} {pos' : Pos} (i : Nat) (C : Ctx X B) (hi : X.N[i]? = some x) (hx : Loc X.env.scope x) (he : Snd X B e f) (hs : swapsWith e (some (.Name x pos')) pos.line X.env = pure false := by rfl)
    (hf : X.fn x = true ∨ X.env.scope.names.lookup x = some .local := by first | exact .inl rfl | exact .inr rfl | assumption) : yGc X B (.Assign [.Name x pos'] e pos) (xZ8 i f) := by
  intro w D r hw
  refine yQa (ps_set C.nd hi hx zYf hs hf) ?_
  refine zQ0 he r hw fun v w1 y e1 f1 r1 re h1 => ?_
  obtain ⟨w2, s2, h2, f2, r2, q⟩ := wQs r1 re (wp_bind h1)
  have q := q w2 rfl ((f1.s r).trans f2) r2
  rw [s2, h2, e1] at q
  exact q
end
end Ev
namespace Ev
open PySem PySem.Spec PyProof.Rows L2
section
variable {P : Program} {w : World} {K : PySem.W.Frag} {mg : Str → Option Value} {base : Heap}
theorem zVs {x qual : Str} {st : Stmt} {f : Addr} {fd : FuncData} {N ps : List Str} {k n m : Nat} {fb : Pg Fl} (F : Fun K x qual st f fd) (S : FnScope N ps (defScope st)) (sm : SM base) (hn : N.length = n) (hm : ps.length = m)
    (hbody : ∀ (cdv : Value) (A : Around) (outer : List Env) (s : Shared) (H : Hp) (E : XK) (B : XBt), Ctx (cxOf (L2.CX P w) P w K mg base N qual (defScope st) f cdv A outer s H E) B → PassesOwn (model P w) (cxOf (L2.CX P w) P w K mg base N qual (defScope st) f cdv A outer s H E).A (cxOf (L2.CX P w) P w K mg base N qual (defScope st) f cdv A outer s H E).env (cxOf (L2.CX P w) P w K mg base N qual (defScope st) f cdv A outer s H E).xe →
      Room k (cxOf (L2.CX P w) P w K mg base N qual (defScope st) f cdv A outer s H E).A →
      xW0 (cxOf (L2.CX P w) P w K mg base N qual (defScope st) f cdv A outer s H E) B (defBody st) fb) : FnG P w K mg base (k + 1) f fd ps (spG K m (zZp n fb)) := by
  subst hn hm
  exact wUa F S sm hbody
end
end Ev
namespace Ev
open PySem PySem.Spec PyProof.Rows L2
theorem zQl {c k p} : PlainIx (.Constant c k p) := fun _ _ => rfl
theorem zK2 {x p} : PlainIx (.Name x p) := fun _ _ => rfl
theorem xGq {a o b p} : PlainIx (.BinOp a o b p) := fun _ _ => rfl
theorem xYx {o a p} : PlainIx (.UnaryOp o a p) := fun _ _ => rfl
theorem yQj {f a k p} : PlainIx (.Call f a k p) := fun _ _ => rfl
theorem yJ5 {a b p} : PlainIx (.Subscript a b p) := fun _ _ => rfl
end Ev

namespace Ev
open PySem PySem.Spec PyProof.Rows L2

structure W {α : Type} (p : Pg α) (m : Mem) (X : Exn → Mem → Prop) (Q : α → Mem → Prop) : Prop where
  go : (p m).wp Q X
abbrev noX : Exn → Mem → Prop := fun _ _ => False
theorem zHy {α : Type} {p : Pg α} {m : Mem} {X : Exn → Mem → Prop} {Q : α → Mem → Prop} : W p m X Q ↔ (p m).wp Q X := ⟨fun h => h.go, fun h => ⟨h⟩⟩
section
variable {α β : Type} {m : Mem} {X : Exn → Mem → Prop} {P Q : α → Mem → Prop} {R : β → Mem → Prop} {E : EV → Mem → Prop} {F : Fl → Mem → Prop} {T : Bool → Mem → Prop}
theorem W.mono {p : Pg α} (h : W p m X P) (i : ∀ a m, P a m → Q a m) : W p m X Q := ⟨Res.wp.imp h.go i fun _ _ z => z⟩
theorem W.no {p : Pg α} (h : W p m noX Q) : W p m X Q := ⟨Res.wp.imp h.go (fun _ _ z => z) fun _ _ z => z.elim⟩
@[simp] theorem zZc {f : Pg α} {g : α → Pg β} : W (Pg.bind f g) m X R ↔ W f m X fun a m' => W (g a) m' X R := by
  rw [zHy, zHy]
  unfold Pg.bind
  cases f m with
  | ok a m' => exact (zHy (p := g a)).symm
  | thr x m' => exact Iff.rfl
  | bad => exact Iff.rfl
@[simp] theorem yU8 {f : Pg α} : W (yVe f) m X Q ↔ W f m noX Q := by
  rw [zHy, zHy]
  unfold yVe
  cases f m <;> exact Iff.rfl
@[simp] theorem zH8 {a : α} : W (Pg.ret a) m X Q ↔ Q a m := ⟨fun h => h.go, fun h => ⟨h⟩⟩
@[simp] theorem xQv : W (Pg.stuck : Pg α) m X Q ↔ False := ⟨fun h => h.go, fun h => ⟨h⟩⟩
@[simp] theorem yU7 {o : Option α} : W (zK5 o) m X Q ↔ ∃ a, o = some a ∧ Q a m := by
  cases o with
  | none => exact ⟨fun h => h.go.elim, fun ⟨_, e, _⟩ => by cases e⟩
  | some a => exact ⟨fun h => ⟨a, rfl, h.go⟩, fun ⟨_, e, h⟩ => by cases e; exact ⟨h⟩⟩
@[simp high] theorem vQv {a : α} : W (zK5 (some a)) m X Q ↔ Q a m := ⟨fun h => h.go, fun h => ⟨h⟩⟩
@[simp] theorem wH9 {c : Prop} [Decidable c] {x : α} {P : α → Prop} : (∃ a, (if c then some x else none) = some a ∧ P a) ↔ c ∧ P x := by
  by_cases h : c
  · simp [h]
  · simp [h]
@[simp] theorem vQa {c : Prop} {x : α} {P : α → Prop} : (∃ a, (c ∧ x = a) ∧ P a) ↔ c ∧ P x :=
  ⟨fun ⟨_, ⟨h, e⟩, q⟩ => ⟨h, e ▸ q⟩, fun ⟨h, q⟩ => ⟨x, ⟨h, rfl⟩, q⟩⟩
@[simp] theorem xWy {c : Prop} [Decidable c] {p q : Pg α} : W (if c then p else q) m X Q ↔ (c → W p m X Q) ∧ (¬c → W q m X Q) := by
  by_cases h : c
  · simp [h]
  · simp [h]
@[simp] theorem W_c {d : PyData} : W (evC d) m X E ↔ E (.d d) m := ⟨fun h => h.go, fun h => ⟨h⟩⟩
@[simp] theorem vJ5 {i : Nat} : W (zQd i) m X E ↔ ∃ v, yH3 i m.sl[i]? = some v ∧ E v m := by
  have h := yU7 (o := yH3 i m.sl[i]?) (m := m) (X := X) (Q := E)
  rw [zHy] at h ⊢
  exact h
@[simp] theorem wYb {i : Nat} {x : PyData} : yH3 i (some (some (.d x))) = some (.d x) := rfl
@[simp] theorem wVv {i : Nat} {o : Ob} : yH3 i (some (some (.ob o))) = some (.pk i o) := rfl
@[simp] theorem wZv {i n : Nat} : yH3 i (some (some (.cell n))) = some (.cell n) := rfl
@[simp] theorem wHt {x : PyData} : zKn (.d x) = .d x := rfl
@[simp] theorem wV3 {o : Ob} : zKn (.new o) = .d (dOf o) := rfl
@[simp] theorem wJa {n : Nat} : zKn (.cell n) = .cell n := rfl
@[simp] theorem wYt {i : Nat} {o : Ob} : zKn (.pk i o) = .d (dOf o) := rfl
@[simp] theorem vJk {xs : List PyData} : dOf (.lst xs) = .list xs := rfl
@[simp] theorem vJm {es : List (PyData × PyData)} : dOf (.dic es) = .dict es := rfl
@[simp] theorem vJl {c : Str} {fs : List (Str × PyData)} : dOf (.ins c fs) = yJx c fs := rfl
@[simp] theorem wWt {x : PyData} {k : PyData → Pg α} : W (look (.d x) k) m X Q ↔ W (k x) m X Q := ⟨fun h => ⟨h.go⟩, fun h => ⟨h.go⟩⟩
@[simp] theorem wWu {n : Nat} {k : PyData → Pg α} : W (look (.cell n) k) m X Q ↔ ∃ o, m.cs[n]? = some o ∧ W (k (dOf o)) m X Q := by
  have h : look (.cell n) k m = match m.cs[n]?.map dOf with
    | some x => k x m
    | none => .bad := rfl
  rw [zHy, h]
  cases e : m.cs[n]? with
  | none => simp [Res.wp]
  | some o => simp [zHy]
@[simp] theorem vVl {op : Operator} {fa fb : Pg EV} : W (zXu op fa fb) m X E ↔ W fa m X fun v m1 => W fb m1 X fun u m2 => W (two (fun x y => zK5 (yVh op x y)) (zKn v) (zKn u)) m2 X E := by
  unfold zXu
  simp only [zZc]
@[simp] theorem wG4 {g : PyData → PyData → Pg EV} {o1 o2 : OV} : two g o1 o2 = look o1 fun x => look o2 fun y => g x y := rfl
@[simp] theorem wUu {i j : Int} : yVh .Add (.int i) (.int j) = some (.d (.int (i + j))) := rfl
@[simp] theorem wWj {a b : Str} : yVh .Add (.str a) (.str b) = if a.length + b.length ≤ 16777216 then some (.d (.str (a ++ b))) else none := rfl
@[simp] theorem wWi {xs ys : List PyData} : yVh .Add (.tuple xs) (.tuple ys) = if xs.length + ys.length ≤ 16777216 then some (.d (.tuple (xs ++ ys))) else none := rfl
@[simp] theorem wWk {xs ys : List PyData} : yVh .Add (.list xs) (.list ys) = if xs.length + ys.length ≤ 16777216 then some (.fresh (xs ++ ys)) else none := rfl
@[simp] theorem wUp {i j : Int} : yVh .Sub (.int i) (.int j) = some (.d (.int (i - j))) := rfl
@[simp] theorem wUr {i j : Int} : yVh .Mult (.int i) (.int j) = if yUg i j then some (.d (.int (i * j))) else none := rfl
@[simp] theorem wWg {xs : List PyData} {k : Int} : yVh .Mult (.tuple xs) (.int k) = if yQb xs k then some (.d (.tuple (List.replicate k.toNat xs).flatten)) else none := rfl
@[simp] theorem wWh {xs : List PyData} {k : Int} : yVh .Mult (.list xs) (.int k) = if yQb xs k then some (.fresh (List.replicate k.toNat xs).flatten) else none := rfl
@[simp] theorem wUt {i j : Int} : yVh .FloorDiv (.int i) (.int j) = if decide (0 < j) && decide (j < 1073741824) then some (.d (.int (i / j))) else none := rfl
@[simp] theorem wUs {i j : Int} : yVh .Mod (.int i) (.int j) = if 0 < j then some (.d (.int (i % j))) else none := rfl
@[simp] theorem wUq {i j : Int} : yVh .Pow (.int i) (.int j) = if xX7 i j then some (.d (.int (i ^ j.toNat))) else none := rfl
@[simp] theorem wJk {i j : Int} : yUg i j = true ↔ (-18446744073709551616 < i ∧ i < 18446744073709551616) ∨ (-18446744073709551616 < j ∧ j < 18446744073709551616) := by
  unfold yUg
  simp
@[simp] theorem wX3 {i j : Int} : xX7 i j = true ↔ 0 ≤ j ∧ j ≤ 1000000 ∧ i.natAbs < 18446744073709551616 := by
  unfold xX7
  simp [and_assoc]
@[simp] theorem xHp {xs : List PyData} {k : Int} : yQb xs k = true ↔ k ≤ 1000 ∧ -1000 ≤ k ∧ xs.length ≤ 1000 := by
  unfold yQb
  simp [and_assoc]
@[simp] theorem wJn {xs : List PyData} : yKp xs = true ↔ xs.length ≤ 16777216 := by
  unfold yKp
  simp
@[simp] theorem vVj {op : CmpOp} {fa fb : Pg EV} : W (zQs op fa fb) m X T ↔ W fa m X fun v m1 => W fb m1 X fun u m2 => W (xYa (zKu op) (zKn v) (zKn u)) m2 X T := by
  unfold zQs
  simp only [zZc]
@[simp] theorem wGn {op op' : CmpOp} {fa fb fc : Pg EV} : W (yVt op op' fa fb fc) m X T ↔ W fa m X fun v m1 => W fb m1 X fun u m2 => W (xYa (zKu op) (zKn v) (zKn u)) m2 X fun k m3 =>
    (k = true → W fc m3 X fun z m4 => W (xYa (zKu op') (zKn u) (zKn z)) m4 X T) ∧ (¬ k = true → T false m3) := by
  unfold yVt
  simp only [zZc, xWy, zH8]
@[simp] theorem vQj {g : PyData → PyData → Option Bool} {o1 o2 : OV} : W (xYa g o1 o2) m X T ↔ W (look o1 fun x => look o2 fun y => zK5 (g x y)) m X T := Iff.rfl
@[simp] theorem vQf {i j : Int} : zKu .Lt (.int i) (.int j) = some (decide (i < j)) := rfl
@[simp] theorem vQg {i j : Int} : zKu .LtE (.int i) (.int j) = some (decide (i ≤ j)) := rfl
@[simp] theorem cmp_gt {i j : Int} : zKu .Gt (.int i) (.int j) = some (decide (j < i)) := rfl
@[simp] theorem vQh {i j : Int} : zKu .GtE (.int i) (.int j) = some (decide (j ≤ i)) := rfl
@[simp] theorem wUn {i j : Int} : zKu .Eq (.int i) (.int j) = some (decide (i = j)) := by
  by_cases h : i = j <;> simp [zKu, eqQ, SeqAt.shaped, PyData.canLay0, PyData.depth, PyData.eqv, h]
@[simp] theorem wUh {i j : Int} : zKu .NotEq (.int i) (.int j) = some (decide (i ≠ j)) := by
  by_cases h : i = j <;> simp [zKu, eqQ, SeqAt.shaped, PyData.canLay0, PyData.depth, PyData.eqv, h]
@[simp] theorem wUo {i j : Bool} : zKu .Eq (.bool i) (.bool j) = some (decide (i = j)) := by
  cases i <;> cases j <;> decide +kernel
@[simp] theorem wUi {i j : Bool} : zKu .NotEq (.bool i) (.bool j) = some (decide (i ≠ j)) := by
  cases i <;> cases j <;> decide +kernel
@[simp] theorem wWc {xs : List PyData} : zKu .Eq (.tuple xs) (.tuple []) = some xs.isEmpty := rfl
@[simp] theorem wWa {xs : List PyData} : zKu .NotEq (.tuple xs) (.tuple []) = some (!xs.isEmpty) := rfl
@[simp] theorem wWd {xs : List PyData} : zKu .Eq (.list xs) (.list []) = some xs.isEmpty := by
  cases xs with
  | nil => decide +kernel
  | cons x xs => simp [zKu, eqQ]
@[simp] theorem wWb {xs : List PyData} : zKu .NotEq (.list xs) (.list []) = some (!xs.isEmpty) := by
  cases xs with
  | nil => decide +kernel
  | cons x xs => simp [zKu, eqQ]
@[simp] theorem wUm {a b : Str} : zKu .Eq (.str a) (.str b) = some (decide (a = b)) := rfl
@[simp] theorem wUg {a b : Str} : zKu .NotEq (.str a) (.str b) = some (decide (a ≠ b)) := by
  by_cases h : a = b <;> simp [zKu, h]
@[simp] theorem wUk {x : PyData} : zKu .Is x .none = some (zW9 x) := rfl
@[simp] theorem wZ8 {x : PyData} : zKu .IsNot x .none = some (!zW9 x) := rfl
@[simp] theorem wUl {a b : Bool} : zKu .Is (.bool a) (.bool b) = some (decide (a = b)) := rfl
@[simp] theorem wZ9 {a b : Bool} : zKu .IsNot (.bool a) (.bool b) = some (decide (a ≠ b)) := by
  cases a <;> cases b <;> rfl
@[simp] theorem wKk : zW9 .none = true := rfl
@[simp] theorem wKm {i : Int} : zW9 (.int i) = false := rfl
@[simp] theorem wKo {i : Bool} : zW9 (.bool i) = false := rfl
@[simp] theorem wKj {i : Str} : zW9 (.str i) = false := rfl
@[simp] theorem wKi {i : List PyData} : zW9 (.tuple i) = false := rfl
@[simp] theorem wKl {i : List PyData} : zW9 (.list i) = false := rfl
@[simp] theorem wKn {i : List (PyData × PyData)} : zW9 (.dict i) = false := rfl
@[simp] theorem vVm {f : Pg Bool} : W (asV f) m X E ↔ W f m X fun k m1 => E (.d (.bool k)) m1 := by
  unfold asV
  simp only [zZc, zH8]
@[simp] theorem vJ7 {f : Pg EV} : W (zYc f) m X T ↔ W f m X fun v m1 => W (xWv (zKn v)) m1 X T := by
  unfold zYc
  simp only [zZc]
@[simp] theorem vQk {o : OV} : W (xWv o) m X T ↔ W (look o fun x => zK5 (xWw x)) m X T := Iff.rfl
@[simp] theorem wHa {k : Bool} : xWw (.bool k) = some k := rfl
@[simp] theorem wG7 : xWw .none = some false := rfl
@[simp] theorem wG9 {i : Int} : xWw (.int i) = some (i != 0) := rfl
@[simp] theorem wG8 {xs : List PyData} : xWw (.list xs) = some (!xs.isEmpty) := rfl
@[simp] theorem wG5 {xs : List PyData} : xWw (.tuple xs) = some (!xs.isEmpty) := rfl
@[simp] theorem wG6 {x : Str} : xWw (.str x) = if x.length ≤ 16777216 then some ((x.length : Int) != 0) else none := rfl
@[simp] theorem vQw {t : Pg Bool} : W (zJ7 t) m X T ↔ W t m X fun k m1 => T (!k) m1 := by
  unfold zJ7
  simp only [zZc, zH8]
@[simp] theorem vZf {t u : Pg Bool} : W (yQ8 t u) m X T ↔ W t m X fun k m1 => (k = true → W u m1 X T) ∧ (¬ k = true → T false m1) := by
  unfold yQ8
  simp only [zZc, zH8, xWy]
@[simp] theorem vVa {t u : Pg Bool} : W (zYh t u) m X T ↔ W t m X fun k m1 => (k = true → T true m1) ∧ (¬ k = true → W u m1 X T) := by
  unfold zYh
  simp only [zZc, zH8, xWy]
@[simp] theorem vVb {f : Pg EV} : W (xUo f) m X E ↔ W f m X fun v m1 => W (xWv (zKn v)) m1 X fun k m2 => E (.d (.bool (!k))) m2 := by
  unfold xUo
  simp only [zZc, zH8]
@[simp] theorem vVn {f g : Pg EV} : W (zHw f g) m X E ↔ W f m X fun v m1 => W (xWv (zKn v)) m1 X fun k m2 => (k = true → W g m2 X E) ∧ (¬ k = true → E v m2) := by
  unfold zHw
  simp only [zZc, zH8, xWy]
@[simp] theorem vVv {f g : Pg EV} : W (wZa f g) m X E ↔ W f m X fun v m1 => W (xWv (zKn v)) m1 X fun k m2 => (k = true → E v m2) ∧ (¬ k = true → W g m2 X E) := by
  unfold wZa
  simp only [zZc, zH8, xWy]
@[simp] theorem vQ6 {t : Pg Bool} {f g : Pg EV} : W (xJy t f g) m X E ↔ W t m X fun k m1 => (k = true → W f m1 X E) ∧ (¬ k = true → W g m1 X E) := by
  unfold xJy
  simp only [zZc, xWy]
@[simp] theorem vJ6 {g : Pg (List AV)} : W (zZy g) m X E ↔ W g m X fun vs m1 => ∃ v, xKg vs = some v ∧ E v m1 := by
  unfold zZy
  simp only [zZc, yU7]
@[simp] theorem vVe {g : Pg (List AV)} : W (zJ2 g) m X E ↔ W g m X fun vs m1 => ∃ v, xKh vs = some v ∧ E v m1 := by
  unfold zJ2
  simp only [zZc, yU7]
@[simp] theorem vVc {P : List α → Mem → Prop} : W (zQh : Pg (List α)) m X P ↔ P [] m := ⟨fun h => h.go, fun h => ⟨h⟩⟩
@[simp] theorem wGk {f : Pg EV} {g : Pg (List AV)} {P : List AV → Mem → Prop} : W (zQc f g) m X P ↔ W f m X fun v m1 => W (toA v) m1 X fun a m2 => W g m2 X fun r m3 => P (a :: r) m3 := by
  unfold zQc
  simp only [zZc, zH8]
@[simp] theorem wGj {f : Pg EV} {g : Pg (List OV)} {P : List OV → Mem → Prop} : W (zZe f g) m X P ↔ W f m X fun v m1 => W g m1 X fun r m3 => P (zKn v :: r) m3 := by
  unfold zZe
  simp only [zZc, zH8]
@[simp] theorem vQn {x : PyData} {P : AV → Mem → Prop} : W (toA (.d x)) m X P ↔ P (.d x) m := ⟨fun h => h.go, fun h => ⟨h⟩⟩
@[simp] theorem vQm {o : Ob} {P : AV → Mem → Prop} : W (toA (.new o)) m X P ↔ P (.d (dOf o)) m := ⟨fun h => h.go, fun h => ⟨h⟩⟩
@[simp] theorem vQl {i : Nat} {o : Ob} {P : AV → Mem → Prop} : W (toA (.pk i o)) m X P ↔ P (.d (dOf o)) (zU6 m i (dOf o)) := ⟨fun h => h.go, fun h => ⟨h⟩⟩
@[simp] theorem vQo {n : Nat} {P : AV → Mem → Prop} : W (toA (.cell n)) m X P ↔ P (.cell n) m := ⟨fun h => h.go, fun h => ⟨h⟩⟩
@[simp] theorem wZ3 {i : Nat} {x : PyData} {sl : List (Option SV)} {cs : List Ob} : zU6 ⟨sl, cs⟩ i x = ⟨sl.set i (some (.d x)), cs⟩ := rfl
@[simp] theorem wZ7 : dataOf [] = some [] := rfl
@[simp] theorem xQt {x : PyData} {r : List AV} : dataOf (.d x :: r) = (dataOf r).map (x :: ·) := by
  show (match dataOf r with
    | some xs => some (x :: xs)
    | none => none) = _
  cases dataOf r <;> rfl
@[simp] theorem wV8 {vs : List AV} {xs : List PyData} (h : dataOf vs = some xs) : xKg vs = if yKp xs then some (.d (.tuple xs)) else none := by
  unfold xKg
  rw [h]
@[simp] theorem wV9 {vs : List AV} {xs : List PyData} (h : dataOf vs = some xs) : xKh vs = if yKp xs then some (.fresh xs) else none := by
  unfold xKh
  rw [h]
@[simp] theorem wK8 : yHo [] m = some [] := rfl
@[simp] theorem wVb {x : PyData} {r : List OV} : yHo (.d x :: r) m = (yHo r m).map (x :: ·) := by
  show (match some x, yHo r m with
    | some x, some xs => some (x :: xs)
    | _, _ => none) = _
  cases yHo r m <;> rfl
@[simp] theorem wVc {n : Nat} {r : List OV} : yHo (.cell n :: r) m = (m.cs[n]?).bind fun o => (yHo r m).map (dOf o :: ·) := by
  show (match (m.cs[n]?).map dOf, yHo r m with
    | some x, some xs => some (x :: xs)
    | _, _ => none) = _
  cases m.cs[n]? <;> cases yHo r m <;> rfl
@[simp] theorem vVk {g : List PyData → Option EV} {fo : Pg (List OV)} : W (zX1 g fo) m X E ↔ W fo m X fun os m1 => ∃ ds, yHo os m1 = some ds ∧ ∃ v, g ds = some v ∧ E v m1 := by
  unfold zX1
  simp only [zZc]
  constructor
  · intro h
    refine h.mono fun os m1 q => ?_
    rw [zHy] at q
    cases e : yHo os m1 with
    | none =>
      rw [e] at q
      exact q.elim
    | some ds =>
      rw [e] at q
      have q : W (zK5 (g ds)) m1 X E := ⟨q⟩
      exact ⟨ds, rfl, yU7.mp q⟩
  · intro h
    refine h.mono fun os m1 ⟨ds, e, q⟩ => ?_
    rw [zHy, e]
    exact (yU7.mpr q).go
@[simp] theorem wJ1 {xs : List PyData} : yZo [.list xs] = some (.d (.int xs.length)) := rfl
@[simp] theorem wKx {xs : List PyData} : yZo [.tuple xs] = some (.d (.int xs.length)) := rfl
@[simp] theorem wKy {s : Str} : yZo [.str s] = if s.length ≤ 16777216 then some (.d (.int s.length)) else none := rfl
@[simp] theorem wK0 {i : Int} : wK1 [.int i] = some (.d (.int (if i < 0 then -i else i))) := rfl
@[simp] theorem wKz {i : Int} : wQ7 [.int i] = some (.d (.int i)) := rfl
@[simp] theorem wJ2 {b : Bool} : wQ7 [.bool b] = some (.d (.int (if b then 1 else 0))) := rfl
@[simp] theorem xZ5 {i j : Int} : wKt [.int i, .int j] = some (.d (.int (if j < i then j else i))) := rfl
@[simp] theorem wKs {xs : List PyData} : yYb [.list xs] = some (.d (.tuple xs)) := rfl
@[simp] theorem wKr {xs : List PyData} : yYb [.tuple xs] = some (.d (.tuple xs)) := rfl
@[simp] theorem wY9 {xs : List PyData} : xUj [.list xs] = some (.fresh xs) := rfl
@[simp] theorem wY8 {xs : List PyData} : xUj [.tuple xs] = some (.fresh xs) := rfl
@[simp] theorem zHu {d : PyData} : yKv [d] = if zH1 d then some (.d (.str d.shown)) else none := rfl
@[simp] theorem vVg {t : String} {f : Pg EV} : W (yZp t f) m X E ↔ W f m X fun v m1 => W (look (zKn v) fun x => zK5 ((tyName x).bind fun t0 => (kitB t0 t).map fun b => EV.d (.bool b))) m1 X E := by
  unfold yZp
  simp only [zZc]
@[simp] theorem wGo {g : Fn} {args : List AV} : W (zVj g args) m X E ↔ W (g args) ⟨[], m.cs⟩ (fun x m' => X x ⟨m.sl, m'.cs⟩) fun v m' => E v ⟨m.sl, m'.cs⟩ := by
  rw [zHy, zHy]
  unfold zVj
  cases g args ⟨[], m.cs⟩ <;> exact Iff.rfl
@[simp] theorem vZa {g : Fn} {fa : Pg (List AV)} : W (zZf g fa) m X E ↔ W fa m X fun args m1 => W (zVj g args) m1 X E := by
  unfold zZf
  simp only [zZc]
@[simp] theorem wGw {n : Nat} {fa : Pg (List AV)} {P : List AV → Mem → Prop} : W (zZ4 n fa) m X P ↔ W fa m X fun vs m1 => vs.length = n ∧ P vs m1 := by
  unfold zZ4
  simp only [zZc, xWy, zH8, xQv]
  constructor
  · intro h
    refine h.mono fun vs m1 ⟨q1, q2⟩ => ?_
    by_cases e : vs.length = n
    · exact ⟨e, q1 e⟩
    · exact (q2 e).elim
  · intro h
    exact h.mono fun vs m1 ⟨q1, q2⟩ => ⟨fun _ => q2, fun z => z q1⟩
@[simp] theorem wGp {g : Fn} {n k q : Nat} {is : List Nat} {fa fk : Pg (List AV)} : W (yU0 g n k q is fa fk) m X E ↔ W fa m X fun vs m1 => W fk m1 X fun zs m2 => (vs.length = n ∧ zs.length = k ∧ (pick is (vs ++ zs)).length = q) ∧ W (zVj g (pick is (vs ++ zs))) m2 X E := by
  unfold yU0
  simp only [zZc, xWy, xQv]
  constructor
  · intro h
    refine h.mono fun vs m1 h => h.mono fun zs m2 ⟨q1, q2⟩ => ?_
    by_cases e : vs.length = n ∧ zs.length = k ∧ (pick is (vs ++ zs)).length = q
    · exact ⟨e, q1 e⟩
    · exact (q2 e).elim
  · intro h
    exact h.mono fun vs m1 h => h.mono fun zs m2 ⟨q1, q2⟩ => ⟨fun _ => q2, fun z => (z q1).elim⟩
theorem zYe {n : Nat} {fb : Pg Fl} {args : List AV} : W (zZp n fb args) m X E ↔ W fb ⟨zXq n args, m.cs⟩ (fun x m' => X x ⟨[], m'.cs⟩) fun fl m' => match fl with
    | .ret v => E (xV2 v) ⟨[], m'.cs⟩
    | .next => E (.d .none) ⟨[], m'.cs⟩
    | _ => False := by
  rw [zHy, zHy]
  unfold zZp
  cases fb ⟨zXq n args, m.cs⟩ with
  | bad => exact Iff.rfl
  | thr x m' => exact Iff.rfl
  | ok fl m' => cases fl <;> exact Iff.rfl
@[simp] theorem wHr {x : PyData} : xV2 (.d x) = .d x := rfl
@[simp] theorem wHq {o : Ob} : xV2 (.new o) = .new o := rfl
@[simp] theorem wHp {i : Nat} {o : Ob} : xV2 (.pk i o) = .new o := rfl
@[simp] theorem wHs {n : Nat} : xV2 (.cell n) = .cell n := rfl
@[simp] theorem vZk {x : PyData} : toS (.d x) = .d x := rfl
@[simp] theorem vZl {n : Nat} : toS (.cell n) = .cell n := rfl
@[simp] theorem wZs {f g : Pg Fl} : W (zQ1 f g) m X F ↔ W f m X fun fl m' => match fl with
    | .next => W g m' X F
    | .brk => F .brk m'
    | .cont => F .cont m'
    | .ret v => F (.ret v) m' := by
  unfold zQ1
  simp only [zZc]
  constructor
  · intro h
    refine h.mono fun fl m' q => ?_
    cases fl
    · exact q
    · exact q.go
    · exact q.go
    · exact q.go
  · intro h
    refine h.mono fun fl m' q => ?_
    cases fl
    · exact q
    · exact ⟨q⟩
    · exact ⟨q⟩
    · exact ⟨q⟩
@[simp] theorem wZt {i : Nat} {f : Pg EV} : W (evSet i f) m X F ↔ W f m X fun v m1 => W (wZo i v) m1 X fun _ m2 => F .next m2 := by
  unfold evSet
  simp only [zZc, zH8]
@[simp] theorem wGu {i : Nat} {x : PyData} {sl : List (Option SV)} {cs : List Ob} {P : Unit → Mem → Prop} : W (wZo i (.d x)) ⟨sl, cs⟩ X P ↔ P () ⟨sl.set i (some (.d x)), cs⟩ := ⟨fun h => h.go, fun h => ⟨h⟩⟩
@[simp] theorem wGt {i : Nat} {x : Ob} {sl : List (Option SV)} {cs : List Ob} {P : Unit → Mem → Prop} : W (wZo i (.new x)) ⟨sl, cs⟩ X P ↔ P () ⟨sl.set i (some (.ob x)), cs⟩ := ⟨fun h => h.go, fun h => ⟨h⟩⟩
@[simp] theorem wGv {i n : Nat} {sl : List (Option SV)} {cs : List Ob} {P : Unit → Mem → Prop} : W (wZo i (.cell n)) ⟨sl, cs⟩ X P ↔ P () ⟨sl.set i (some (.cell n)), cs⟩ := ⟨fun h => h.go, fun h => ⟨h⟩⟩
@[simp] theorem wGs {i j : Nat} {x : Ob} {sl : List (Option SV)} {cs : List Ob} {P : Unit → Mem → Prop} : W (wZo i (.pk j x)) ⟨sl, cs⟩ X P ↔ P () ⟨(sl.set j (some (.d (dOf x)))).set i (some (.d (dOf x))), cs⟩ := ⟨fun h => h.go, fun h => ⟨h⟩⟩
@[simp] theorem wWz {i : Nat} {f : Pg EV} : W (xZ8 i f) m X F ↔ W f m X fun v m1 => W (wV4 i v) m1 X fun _ m2 => F .next m2 := by
  unfold xZ8
  simp only [zZc, zH8]
@[simp] theorem vQx {i : Nat} {x : Ob} {sl : List (Option SV)} {cs : List Ob} {P : Unit → Mem → Prop} : W (wV4 i (.new x)) ⟨sl, cs⟩ X P ↔ P () ⟨sl.set i (some (.cell cs.length)), cs ++ [x]⟩ := ⟨fun h => h.go, fun h => ⟨h⟩⟩
@[simp] theorem xWq {f : Pg EV} : W (zZr f) m X F ↔ W f m X fun v m1 => F (.ret v) m1 := by
  unfold zZr
  simp only [zZc, zH8]
@[simp] theorem wGc {t : Pg Bool} {a b : Pg Fl} : W (zXr t a b) m X F ↔ W t m X fun k m1 => (k = true → W a m1 X F) ∧ (¬ k = true → W b m1 X F) := by
  unfold zXr
  simp only [zZc, xWy]
@[simp] theorem wW0 {f : Pg EV} : W (yHj f) m X F ↔ W f m X fun v m1 => F .next m1 := by
  unfold yHj
  simp only [zZc, zH8]
@[simp] theorem yU9 {a : AV} {P : PyData → Mem → Prop} : W (yQr a) m X P ↔ ∃ d, a = .d d ∧ P d m := by
  cases a with
  | d x => exact ⟨fun h => ⟨x, rfl, h.go⟩, fun ⟨_, e, h⟩ => by cases e; exact ⟨h⟩⟩
  | cell n => exact ⟨fun h => h.go.elim, fun ⟨_, e, _⟩ => by cases e⟩
@[simp] theorem wGf {i : Nat} {f : Pg EV} : W (xUq i f) m X F ↔ W (yWu i) m X fun _ m0 => W f m0 X fun v m1 => W (toA v) m1 X fun a m2 => ∃ d, a = .d d ∧ W (wZp i d) m2 X F := by
  unfold xUq
  simp only [zZc, yU9]
@[simp] theorem wU4 {i : Nat} {P : Unit → Mem → Prop} : W (yWu i) m X P ↔ ∃ xs, m.sl[i]? = some (some (.own xs)) ∧ P () m := by
  rw [zHy]
  unfold yWu
  split
  · rename_i xs e
    exact ⟨fun h => ⟨xs, e, h⟩, fun ⟨_, _, h⟩ => h⟩
  · rename_i h
    exact ⟨fun h => h.elim, fun ⟨xs, e, _⟩ => h xs e⟩
@[simp] theorem vZe {i : Nat} {d : PyData} {sl : List (Option SV)} {cs : List Ob} : W (wZp i d) ⟨sl, cs⟩ X F ↔ ∃ xs, sl[i]? = some (some (.own xs)) ∧ xs.length < 16777216 ∧ F .next ⟨sl.set i (some (.own (xs ++ [d]))), cs⟩ := by
  rw [zHy]
  unfold wZp
  split
  · rename_i xs e
    have e : sl[i]? = some (some (.own xs)) := e
    split
    · rename_i hl
      exact ⟨fun h => ⟨xs, e, hl, h⟩, fun ⟨ys, e2, _, h⟩ => by rw [e] at e2; cases e2; exact h⟩
    · rename_i hl
      exact ⟨fun h => h.elim, fun ⟨ys, e2, h2, _⟩ => by rw [e] at e2; cases e2; exact hl h2⟩
  · rename_i h
    exact ⟨fun h => h.elim, fun ⟨xs, e, _⟩ => h xs e⟩
@[simp] theorem wUz {fe fo fi : Pg EV} : W (yZ7 fe fo fi) m X F ↔ W fe m X fun v m1 => W (toA v) m1 X fun a m2 => ∃ d, a = .d d ∧ W fo m2 X fun o m3 => W fi m3 X fun i m4 => W (xQ7 o (zKn i) d) m4 X F := by
  unfold yZ7
  simp only [zZc, yU9]
@[simp] theorem wWq {v : EV} {i : OV} {d : PyData} : W (xQ7 v i d) m X F ↔ W (yKu v) m X fun o m1 => W (look i fun k => .bind (zK5 (putS o k d)) fun o' => .bind (putAt v o') fun _ => .ret .next) m1 X F := by
  unfold xQ7
  simp only [zZc]
@[simp] theorem vQ2 {n : Nat} {P : Ob → Mem → Prop} : W (yKu (.cell n)) m X P ↔ ∃ o, m.cs[n]? = some o ∧ P o m := by
  rw [zHy]
  unfold yKu
  cases e : m.cs[n]? <;> simp [Res.wp, e]
@[simp] theorem vQ0 {j : Nat} {o0 : Ob} {P : Ob → Mem → Prop} : W (yKu (.pk j o0)) m X P ↔ ∃ o, m.sl[j]? = some (some (.ob o)) ∧ P o m := by
  rw [zHy]
  unfold yKu
  dsimp only
  split
  · rename_i o e
    exact ⟨fun h => ⟨o, e, h⟩, fun ⟨_, e2, h⟩ => by rw [e] at e2; cases e2; exact h⟩
  · rename_i h
    exact ⟨fun h => h.elim, fun ⟨o, e, _⟩ => h o e⟩
@[simp] theorem vQt {n : Nat} {o : Ob} {sl : List (Option SV)} {cs : List Ob} {P : Unit → Mem → Prop} : W (putAt (.cell n) o) ⟨sl, cs⟩ X P ↔ P () ⟨sl, cs.set n o⟩ := ⟨fun h => h.go, fun h => ⟨h⟩⟩
@[simp] theorem vQs {j : Nat} {o o0 : Ob} {sl : List (Option SV)} {cs : List Ob} {P : Unit → Mem → Prop} : W (putAt (.pk j o0) o) ⟨sl, cs⟩ X P ↔ P () ⟨sl.set j (some (.ob o)), cs⟩ := ⟨fun h => h.go, fun h => ⟨h⟩⟩
@[simp] theorem wHl {xs : List PyData} {k : Int} {d : PyData} : putS (.lst xs) (.int k) d = (ixN xs.length k).map fun j => .lst (xs.set j d) := rfl
@[simp] theorem wGe {g : PyData → Pg Unit} {f : Pg EV} : W (yK5 g f) m X F ↔ W f m X fun v m1 => W (toA v) m1 X fun a m2 => ∃ d, a = .d d ∧ W (g d) m2 X fun _ m3 => F .next m3 := by
  unfold yK5
  simp only [zZc, yU9, zH8]
@[simp] theorem xU2 {i : Nat} {d : PyData} {sl : List (Option SV)} {cs : List Ob} {P : Unit → Mem → Prop} : W (zZh i d) ⟨sl, cs⟩ X P ↔ P () ⟨sl.set i (some (.d d)), cs⟩ := ⟨fun h => h.go, fun h => ⟨h⟩⟩
@[simp] theorem wZr {n : Nat} {g : List PyData → Pg Unit} {ds : List PyData} {P : Unit → Mem → Prop} : W (zVm n g (.tuple ds)) m X P ↔ ds.length = n ∧ W (g ds) m X P := by
  show W (if ds.length = n then g ds else .stuck) m X P ↔ _
  rw [xWy, xQv]
  exact ⟨fun ⟨h1, h2⟩ => (by
    by_cases e : ds.length = n
    · exact ⟨e, h1 e⟩
    · exact (h2 e).elim), fun ⟨h1, h2⟩ => ⟨fun _ => h2, fun z => z h1⟩⟩
@[simp] theorem wWo {n : Nat} {g : List PyData → Pg Unit} {ds : List PyData} {P : Unit → Mem → Prop} : W (zVm n g (.list ds)) m X P ↔ ds.length = n ∧ W (g ds) m X P := wZr
@[simp] theorem wUy {P : Unit → Mem → Prop} : W (zV7 []) m X P ↔ P () m := ⟨fun h => h.go, fun h => ⟨h⟩⟩
@[simp] theorem wWp {g : PyData → Pg Unit} {h : List PyData → Pg Unit} {d : PyData} {ds : List PyData} {P : Unit → Mem → Prop} : W (zZg g h (d :: ds)) m X P ↔ W (g d) m X fun _ m1 => W (h ds) m1 X P := zZc
theorem xHd {α : Type} {xs : List α} {i : Int} (h : 0 ≤ i) : atI xs i = xs[i.toNat]? := by
  unfold atI ixN
  by_cases h2 : i < xs.length
  · rw [if_pos h, if_pos h2]
    rfl
  · rw [if_pos h, if_neg h2, List.getElem?_eq_none (by omega)]
    rfl
theorem wZn {α β : Type} {xs : List α} {i : Int} {f : α → β} : atI (xs.map f) i = (atI xs i).map f := by
  unfold atI
  rw [List.length_map]
  cases ixN xs.length i with
  | none => rfl
  | some j => simp
@[simp] theorem vJ3 {α : Type} {xs : List α} : atI xs 0 = xs[0]? := by
  unfold atI ixN
  by_cases h : (0 : Int) < xs.length
  · rw [if_pos (by omega), if_pos h]
    rfl
  · rw [if_pos (by omega), if_neg h, List.getElem?_eq_none (by omega)]
    rfl
@[simp] theorem vJ2 {α : Type} {xs : List α} : atI xs 1 = xs[1]? := by
  unfold atI ixN
  by_cases h : (1 : Int) < xs.length
  · rw [if_pos (by omega), if_pos h]
    rfl
  · rw [if_pos (by omega), if_neg h, List.getElem?_eq_none (by omega)]
    rfl
@[simp] theorem vJ1 {α : Type} {xs : List α} : atI xs 2 = xs[2]? := by
  unfold atI ixN
  by_cases h : (2 : Int) < xs.length
  · rw [if_pos (by omega), if_pos h]
    rfl
  · rw [if_pos (by omega), if_neg h, List.getElem?_eq_none (by omega)]
    rfl
@[simp] theorem vJ0 {α : Type} {xs : List α} : atI xs 3 = xs[3]? := by
  unfold atI ixN
  by_cases h : (3 : Int) < xs.length
  · rw [if_pos (by omega), if_pos h]
    rfl
  · rw [if_pos (by omega), if_neg h, List.getElem?_eq_none (by omega)]
    rfl
@[simp] theorem vJz {α : Type} {xs : List α} : atI xs 4 = xs[4]? := by
  unfold atI ixN
  by_cases h : (4 : Int) < xs.length
  · rw [if_pos (by omega), if_pos h]
    rfl
  · rw [if_pos (by omega), if_neg h, List.getElem?_eq_none (by omega)]
    rfl
@[simp] theorem vJy {α : Type} {xs : List α} : atI xs 5 = xs[5]? := by
  unfold atI ixN
  by_cases h : (5 : Int) < xs.length
  · rw [if_pos (by omega), if_pos h]
    rfl
  · rw [if_pos (by omega), if_neg h, List.getElem?_eq_none (by omega)]
    rfl
@[simp] theorem vJx {α : Type} {xs : List α} : atI xs 6 = xs[6]? := by
  unfold atI ixN
  by_cases h : (6 : Int) < xs.length
  · rw [if_pos (by omega), if_pos h]
    rfl
  · rw [if_pos (by omega), if_neg h, List.getElem?_eq_none (by omega)]
    rfl
@[simp] theorem vJw {α : Type} {xs : List α} : atI xs 7 = xs[7]? := by
  unfold atI ixN
  by_cases h : (7 : Int) < xs.length
  · rw [if_pos (by omega), if_pos h]
    rfl
  · rw [if_pos (by omega), if_neg h, List.getElem?_eq_none (by omega)]
    rfl
@[simp] theorem vJv {α : Type} {xs : List α} : atI xs 8 = xs[8]? := by
  unfold atI ixN
  by_cases h : (8 : Int) < xs.length
  · rw [if_pos (by omega), if_pos h]
    rfl
  · rw [if_pos (by omega), if_neg h, List.getElem?_eq_none (by omega)]
    rfl
@[simp] theorem vVw {fa fb : Pg EV} : W (zXf fa fb) m X E ↔ W fa m X fun v m1 => W fb m1 X fun u m2 => W (ixP (zKn v) (zKn u)) m2 X E := by
  unfold zXf
  simp only [zZc]
@[simp] theorem vVf {o i : OV} : W (ixP o i) m X E ↔ W (look o fun x => look i fun y => zK5 ((ixS x y).map .d)) m X E := Iff.rfl
@[simp] theorem vJh {β γ : Type} {p : β → Prop} {f : β → γ} {P : γ → Prop} : (∃ a, (∃ b, p b ∧ f b = a) ∧ P a) ↔ ∃ b, p b ∧ P (f b) :=
  ⟨fun ⟨_, ⟨b, h, e⟩, q⟩ => ⟨b, h, e ▸ q⟩, fun ⟨b, h, q⟩ => ⟨_, ⟨b, h, rfl⟩, q⟩⟩
@[simp] theorem ex_map {β γ : Type} {o : Option β} {f : β → γ} {P : γ → Prop} : (∃ a, o.map f = some a ∧ P a) ↔ ∃ b, o = some b ∧ P (f b) := by
  cases o <;> simp
@[simp] theorem vZ4 {xs : List PyData} {i : Int} : ixS (.list xs) (.int i) = atI xs i := rfl
@[simp] theorem vZ3 {xs : List PyData} {i : Int} : ixS (.tuple xs) (.int i) = atI xs i := rfl
@[simp] theorem vQu {f : Pg EV} {P : Option Int → Mem → Prop} : W (zG6 f) m X P ↔ W f m X fun v m1 => W (wY6 (zKn v)) m1 X P := by
  unfold zG6
  simp only [zZc]
@[simp] theorem vQz {o : OV} {P : Option Int → Mem → Prop} : W (wY6 o) m X P ↔ W (look o fun x => zK5 (intD x)) m X P := Iff.rfl
@[simp] theorem wH4 {i : Int} : intD (.int i) = some (some i) := rfl
@[simp] theorem vVu {fa : Pg EV} {fl fh : Pg (Option Int)} : W (xJx fa fl fh) m X E ↔ W fa m X fun v m1 => W fl m1 X fun l m2 => W fh m2 X fun h m3 => W (slP (zKn v) l h) m3 X E := by
  unfold xJx
  simp only [zZc]
@[simp] theorem vJ8 {o : OV} {l h : Option Int} : W (slP o l h) m X E ↔ W (look o fun x => zK5 (slS x l h)) m X E := Iff.rfl
@[simp] theorem vZr {xs : List PyData} {l h : Option Int} : slS (.list xs) l h = some (.fresh (cutD xs l h)) := rfl
@[simp] theorem vZq {xs : List PyData} {l h : Option Int} : slS (.tuple xs) l h = some (.d (.tuple (cutD xs l h))) := rfl
@[simp] theorem vVd {f : Pg EV} : W (yUx f) m X E ↔ W f m X fun v m1 => W (look (zKn v) fun x => zK5 (wYw x)) m1 X E := by
  unfold yUx
  simp only [zZc]
@[simp] theorem wV5 {i : Int} : wYw (.int i) = some (.d (.int (-i))) := rfl
@[simp] theorem wW6 {l : List (Option SV)} : zKo [] l = l := rfl
@[simp] theorem wW7 {i : Nat} {is : List Nat} {l : List (Option SV)} : zKo (i :: is) l = (zKo is l).set i none := rfl
@[simp] theorem wGb {f : Pg (List PyData)} {g : PyData → Pg Unit} {b : Pg Fl} : W (yK2 f g b) m X F ↔ W f m X fun ds m1 => W (forL g b ds) m1 X F := by
  unfold yK2
  simp only [zZc]
theorem xXo {g : PyData → Pg Unit} {b : Pg Fl} (I : List PyData → Mem → Prop) : ∀ {ds : List PyData} {m : Mem}, I ds m →
    (∀ d ds m, I (d :: ds) m → W (g d) m X fun _ m1 => W b m1 X fun fl m2 => match fl with
      | .next => I ds m2
      | .cont => I ds m2
      | .brk => F .next m2
      | .ret v => F (.ret v) m2) → (∀ m, I [] m → F .next m) → W (forL g b ds) m X F
  | [], m, h0, _, h2 => ⟨h2 m h0⟩
  | d :: ds, m, h0, h1, h2 => by
    show W (Pg.bind (g d) _) m X F
    rw [zZc]
    refine (h1 d ds m h0).mono fun _ m1 q => ?_
    rw [zZc]
    refine q.mono fun fl m2 q => ?_
    cases fl with
    | next => exact xXo I q h1 h2
    | cont => exact xXo I q h1 h2
    | brk => exact ⟨q⟩
    | ret v => exact ⟨q⟩
@[simp] theorem vQ5 {f : Pg EV} {P : List PyData → Mem → Prop} : W (yVs f) m X P ↔ W f m X fun v m1 => W (toA v) m1 X fun a m2 => ∃ ds, yZk a = some ds ∧ P ds m2 := by
  unfold yVs
  simp only [zZc, yU7]
@[simp] theorem wYd {xs : List PyData} : yZk (.d (.list xs)) = some xs := rfl
@[simp] theorem wYc {xs : List PyData} : yZk (.d (.tuple xs)) = some xs := rfl
@[simp] theorem vQq {f : Pg (List OV)} {P : List PyData → Mem → Prop} : W (xZ9 f) m X P ↔ W f m X fun os m1 => ∃ ds, wVx os = some ds ∧ P ds m1 := by
  unfold xZ9
  simp only [zZc, yU7]
theorem yHu {is : List Nat} {P : Unit → Mem → Prop} : W (xW7 is) m X P ↔ P () ⟨zKo is m.sl, m.cs⟩ := ⟨fun h => h.go, fun h => ⟨h⟩⟩
@[simp] theorem vQ8 {is : List Nat} {fi : Pg (List PyData)} {g : PyData → Pg Unit} {t : Pg Bool} {e : Pg EV} : W (zK7 is fi g t e) m X E ↔ W fi m X fun ds m1 => W (yZb is g t e ds []) ⟨zKo is m1.sl, m1.cs⟩ X E := by
  unfold zK7
  simp only [zZc, yHu]
theorem yGb {is : List Nat} {g : PyData → Pg Unit} {t : Pg Bool} {e : Pg EV} (I : List PyData → List PyData → Mem → Prop) : ∀ {ds acc : List PyData} {m : Mem}, I ds acc m →
    (∀ d ds acc m, I (d :: ds) acc m → W (g d) m X fun _ m1 => W t m1 noX fun k m2 => if k = true then W e m2 noX fun v m3 => W (toA v) m3 X fun a m4 => ∃ x, a = .d x ∧ acc.length < 16777216 ∧ I ds (acc ++ [x]) ⟨zKo is m4.sl, m4.cs⟩ else I ds acc ⟨zKo is m2.sl, m2.cs⟩) →
    (∀ acc m, I [] acc m → E (.fresh acc) m) → W (yZb is g t e ds acc) m X E
  | [], acc, m, h0, _, h2 => ⟨h2 acc m h0⟩
  | d :: ds, acc, m, h0, h1, h2 => by
    have go := h1 d ds acc m h0
    unfold yZb
    rw [zZc]
    refine go.mono fun _ m1 q => ?_
    rw [zZc, yU8]
    refine q.mono fun k m2 q => ?_
    cases k with
    | false =>
      have q : I ds acc ⟨zKo is m2.sl, m2.cs⟩ := q
      have z := yGb I q h1 h2
      simp
      exact yHu.mpr z
    | true =>
      have q : W e m2 noX fun v m3 => W (toA v) m3 X fun a m4 => ∃ x, a = .d x ∧ acc.length < 16777216 ∧ I ds (acc ++ [x]) ⟨zKo is m4.sl, m4.cs⟩ := q
      simp
      refine q.mono fun v m3 q => q.mono fun a m4 ⟨x, ea, hl, q⟩ => ?_
      have z := yGb I q h1 h2
      refine ⟨x, ea, ?_⟩
      exact ⟨fun _ => yHu.mpr z, hl⟩
end
end Ev

namespace Ev
open PySem PySem.Spec PyProof.Rows L2

structure Fit (k B : Nat) (d : PyData) : Prop where
  pl : zXv d = true
  dep : d.depth ≤ k
  shw : d.showable = true
  len : d.shown.length ≤ B
theorem Fit.mono {k B k' B' : Nat} {d : PyData} (h : Fit k B d) (h1 : k ≤ k') (h2 : B ≤ B') : Fit k' B' d := ⟨h.pl, Nat.le_trans h.dep h1, h.shw, Nat.le_trans h.len h2⟩
theorem Fit.shaped {k B : Nat} {d : PyData} (h : Fit k B d) (hc : d.canLay0 = true) (hk : k ≤ 64) : SeqAt.shaped d = true := by
  unfold SeqAt.shaped
  simp only [hc, Bool.true_and, decide_eq_true_eq]
  exact Nat.le_trans h.dep hk
theorem Fit.repr {k B : Nat} {d : PyData} (h : Fit k B d) (hk : k ≤ 64) (hB : B ≤ 16777216) : zH1 d = true := by
  unfold zH1
  simp only [h.shw, Bool.true_and, h.pl, Bool.and_true, Bool.and_eq_true, decide_eq_true_eq]
  exact ⟨Nat.le_trans h.dep hk, Nat.le_trans h.len hB⟩
theorem xUn {b : Bool} : Fit 0 5 (.bool b) := ⟨by simp [zXv], by simp [PyData.depth], by simp [PyData.showable], by cases b <;> simp only [PyData.shown] <;> decide⟩
def isI : PyData → Bool
  | .int _ => true
  | .bool _ => true
  | _ => false
def isB : PyData → Bool
  | .bool _ => true
  | _ => false
def isS : PyData → Bool
  | .str _ => true
  | _ => false
def isL : PyData → Bool
  | .list _ => true
  | _ => false
def isT : PyData → Bool
  | .tuple _ => true
  | _ => false
def isD : PyData → Bool
  | .dict _ => true
  | _ => false
def kindB (t : String) (x : PyData) : Option Bool := (tyName x).bind fun t0 => kitB t0 t
def zVk : PyData → Bool
  | .dict es => zZo es
  | _ => true
@[simp] theorem wY3 {x : PyData} {t : String} : ((tyName x).bind fun t0 => (kitB t0 t).map fun b => EV.d (.bool b)) = (kindB t x).map fun b => EV.d (.bool b) := by
  unfold kindB
  cases tyName x <;> rfl
@[simp] theorem wKh {x : PyData} : kindB "int" x = if zVk x then some (isI x) else none := by
  cases x with
  | dict es =>
    show Option.bind (if zZo es = true then some "dict" else none) (fun t0 => kitB t0 "int") = if zZo es = true then some (isI (.dict es)) else none
    by_cases h : zZo es = true
    · rw [if_pos h, if_pos h]
      dsimp only [isI, isB, isS, isL, isT, isD]
      decide +kernel
    · rw [if_neg h, if_neg h]
      rfl
  | _ =>
    simp only [kindB, tyName, zVk, isI, isB, isS, isL, isT, isD, if_true]
    decide +kernel
@[simp] theorem wJr {x : PyData} : kindB "bool" x = if zVk x then some (isB x) else none := by
  cases x with
  | dict es =>
    show Option.bind (if zZo es = true then some "dict" else none) (fun t0 => kitB t0 "bool") = if zZo es = true then some (isB (.dict es)) else none
    by_cases h : zZo es = true
    · rw [if_pos h, if_pos h]
      dsimp only [isI, isB, isS, isL, isT, isD]
      decide +kernel
    · rw [if_neg h, if_neg h]
      rfl
  | _ =>
    simp only [kindB, tyName, zVk, isI, isB, isS, isL, isT, isD, if_true]
    decide +kernel
@[simp] theorem wKg {x : PyData} : kindB "str" x = if zVk x then some (isS x) else none := by
  cases x with
  | dict es =>
    show Option.bind (if zZo es = true then some "dict" else none) (fun t0 => kitB t0 "str") = if zZo es = true then some (isS (.dict es)) else none
    by_cases h : zZo es = true
    · rw [if_pos h, if_pos h]
      dsimp only [isI, isB, isS, isL, isT, isD]
      decide +kernel
    · rw [if_neg h, if_neg h]
      rfl
  | _ =>
    simp only [kindB, tyName, zVk, isI, isB, isS, isL, isT, isD, if_true]
    decide +kernel
@[simp] theorem wJp {x : PyData} : kindB "list" x = if zVk x then some (isL x) else none := by
  cases x with
  | dict es =>
    show Option.bind (if zZo es = true then some "dict" else none) (fun t0 => kitB t0 "list") = if zZo es = true then some (isL (.dict es)) else none
    by_cases h : zZo es = true
    · rw [if_pos h, if_pos h]
      dsimp only [isI, isB, isS, isL, isT, isD]
      decide +kernel
    · rw [if_neg h, if_neg h]
      rfl
  | _ =>
    simp only [kindB, tyName, zVk, isI, isB, isS, isL, isT, isD, if_true]
    decide +kernel
@[simp] theorem wZ2 {x : PyData} : kindB "tuple" x = if zVk x then some (isT x) else none := by
  cases x with
  | dict es =>
    show Option.bind (if zZo es = true then some "dict" else none) (fun t0 => kitB t0 "tuple") = if zZo es = true then some (isT (.dict es)) else none
    by_cases h : zZo es = true
    · rw [if_pos h, if_pos h]
      dsimp only [isI, isB, isS, isL, isT, isD]
      decide +kernel
    · rw [if_neg h, if_neg h]
      rfl
  | _ =>
    simp only [kindB, tyName, zVk, isI, isB, isS, isL, isT, isD, if_true]
    decide +kernel
@[simp] theorem wJq {x : PyData} : kindB "dict" x = if zVk x then some (isD x) else none := by
  cases x with
  | dict es =>
    show Option.bind (if zZo es = true then some "dict" else none) (fun t0 => kitB t0 "dict") = if zZo es = true then some (isD (.dict es)) else none
    by_cases h : zZo es = true
    · rw [if_pos h, if_pos h]
      dsimp only [isI, isB, isS, isL, isT, isD]
      decide +kernel
    · rw [if_neg h, if_neg h]
      rfl
  | _ =>
    simp only [kindB, tyName, zVk, isI, isB, isS, isL, isT, isD, if_true]
    decide +kernel
@[simp] theorem wKc : zVk .none = true := rfl
@[simp] theorem wKf {b : Bool} : zVk (.bool b) = true := rfl
@[simp] theorem wKe {b : Int} : zVk (.int b) = true := rfl
@[simp] theorem wKb {b : Str} : zVk (.str b) = true := rfl
@[simp] theorem wKd {b : List PyData} : zVk (.list b) = true := rfl
@[simp] theorem wKa {b : List PyData} : zVk (.tuple b) = true := rfl
@[simp] theorem yUl {b : List (PyData × PyData)} : zVk (.dict b) = zZo b := rfl
@[simp] theorem wZx : zZo [] = true := rfl
theorem Fit.zVk {k B : Nat} {d : PyData} (h : Fit k B d) : zVk d = true := by
  cases d with
  | dict es =>
    have := h.pl
    simp only [zXv] at this
    show zZo es = true
    clear h
    induction es with
    | nil => rfl
    | cons p es ih =>
      obtain ⟨a, b⟩ := p
      simp only [zJc, Bool.and_eq_true] at this
      unfold zZo
      rw [List.all_cons, Bool.and_eq_true]
      exact ⟨this.1, ih this.2.2⟩
  | _ => rfl
theorem xJe {lo : Int} : zGw lo 0 = [] := rfl
theorem xJf {lo : Int} {n : Nat} : zGw lo (n + 1) = .int lo :: zGw (lo + 1) n := by
  unfold zGw
  rw [List.range_succ_eq_map, List.map_cons, List.map_map]
  congr 1
  · simp
  · refine List.map_congr_left fun i _ => ?_
    simp only [Function.comp]
    congr 1
    omega
section
variable {X : Exn → Mem → Prop} {F : Fl → Mem → Prop} {E : EV → Mem → Prop}
theorem xWp {g : PyData → Pg Unit} {b : Pg Fl} (I : Int → Mem → Prop) : ∀ (n : Nat) (lo : Int) {m : Mem}, I lo m →
    (∀ i m, lo ≤ i → i < lo + n → I i m → W (g (.int i)) m X fun _ m1 => W b m1 X fun fl m2 => match fl with
      | .next => I (i + 1) m2
      | .cont => I (i + 1) m2
      | .brk => F .next m2
      | .ret v => F (.ret v) m2) → (∀ m, I (lo + n) m → F .next m) → W (forL g b (zGw lo n)) m X F
  | 0, lo, m, h0, _, h2 => by
    rw [xJe]
    exact ⟨h2 m (by simpa using h0)⟩
  | n + 1, lo, m, h0, h1, h2 => by
    rw [xJf]
    show W (Pg.bind (g (.int lo)) _) m X F
    rw [zZc]
    have hI : ∀ m, I (lo + 1) m → W (forL g b (zGw (lo + 1) n)) m X F := fun m h => xWp I n (lo + 1) h (fun i m a b => h1 i m (by omega) (by omega)) fun m h => h2 m (by rw [show lo + ((n + 1 : Nat) : Int) = lo + 1 + (n : Int) by omega]; exact h)
    refine (h1 lo m (Int.le_refl _) (by omega) h0).mono fun _ m1 q => ?_
    rw [zZc]
    refine q.mono fun fl m2 q => ?_
    cases fl with
    | next => exact hI m2 q
    | cont => exact hI m2 q
    | brk => exact ⟨q⟩
    | ret v => exact ⟨q⟩
end
@[simp] theorem wXt {j : Int} : xVp j = true ↔ -4611686018427387904 ≤ j ∧ j < 4611686018427387904 := by
  unfold xVp
  simp
@[simp] theorem wVw {j : Int} : wVx [.d (.int j)] = if xVp j then some (zGw 0 j.toNat) else none := rfl
theorem xWm {α : Type} {xs : List α} {i : Int} (h : 0 ≤ i) (h2 : i < xs.length) : ∃ d, atI xs i = some d ∧ d ∈ xs := by
  rw [xHd h]
  exact ⟨_, List.getElem?_eq_getElem (by omega), List.getElem_mem _⟩
theorem menu {α : Type} {xs : List α} {i : Int} {P : α → Prop} (h : 0 ≤ i) (h2 : i < xs.length) (g : ∀ d, d ∈ xs → P d) : ∃ d, atI xs i = some d ∧ P d := by
  obtain ⟨d, e, q⟩ := xWm h h2
  exact ⟨d, e, g d q⟩
theorem xGs : ∀ {xs : List PyData} {x : PyData}, zHc xs = true → x ∈ xs → zXv x = true
  | y :: ys, x, h, hx => by
    simp only [zHc, Bool.and_eq_true] at h
    rcases List.mem_cons.mp hx with q | q
    · rw [q]
      exact h.1
    · exact xGs h.2 q
theorem xVk : ∀ {xs : List PyData} {x : PyData}, PyData.showableAll xs = true → x ∈ xs → x.showable = true
  | y :: ys, x, h, hx => by
    simp only [PyData.showableAll, Bool.and_eq_true] at h
    rcases List.mem_cons.mp hx with q | q
    · rw [q]
      exact h.1
    · exact xVk h.2 q
theorem xK7 : ∀ {xs : List PyData} {x : PyData}, x ∈ xs → x.depth ≤ PyData.depthAll xs
  | y :: ys, x, hx => by
    simp only [PyData.depthAll]
    rcases List.mem_cons.mp hx with q | q
    · rw [q]
      exact Nat.le_max_left _ _
    · exact Nat.le_trans (xK7 q) (Nat.le_max_right _ _)
theorem yGt : ∀ {xs : List PyData} {x : PyData}, x ∈ xs → x.shown.length ≤ piled (PyData.shownAll xs)
  | y :: ys, x, hx => by
    simp only [PyData.shownAll, piled_cons]
    rcases List.mem_cons.mp hx with q | q
    · rw [q]
      omega
    · have := yGt q
      omega
theorem Fit.tup_mem {k B : Nat} {xs : List PyData} {x : PyData} (h : Fit k B (.tuple xs)) (hx : x ∈ xs) : Fit k B x := by
  obtain ⟨h1, h2, h3, h4⟩ := h
  simp only [zXv] at h1
  simp only [PyData.depth] at h2
  simp only [PyData.showable] at h3
  simp only [PyData.shown] at h4
  have := xK7 hx
  exact ⟨xGs h1 hx, by omega, xVk h3 hx, Nat.le_trans (yGt hx) (Nat.le_trans (piled_le_tupleText _) h4)⟩
theorem xUf {n : Nat} {g : Fn} (h : ∀ ns : List Int, ns.length ≤ n → (∀ z ∈ ns, Builtin.Int.intBits z ≤ 1048576) → W (g [.d (yUn ns)]) ⟨[], []⟩ noX fun v _ => v = .d (.bool true)) : wGy n g := fun ns h1 h2 => by
  have z := h ns h1 h2
  have z := z.go
  cases e : g [.d (yUn ns)] ⟨[], []⟩ with
  | bad =>
    rw [e] at z
    exact z.elim
  | thr x m =>
    rw [e] at z
    exact z.elim
  | ok v m =>
    rw [e] at z
    have z : v = .d (.bool true) := z
    exact ⟨m, by rw [z]⟩
theorem xUw {ns : List Int} {k : Nat} : cutD (ns.map PyData.int) none (some (k : Int)) = (ns.take k).map PyData.int := by
  unfold cutD
  rw [HT.sIx_nat, HT.sIx_none, List.drop_zero, Nat.sub_zero, List.length_map, ← List.map_take]
  by_cases h : k ≤ ns.length
  · rw [Nat.min_eq_left h]
  · rw [Nat.min_eq_right (by omega), List.take_of_length_le (Nat.le_refl _), List.take_of_length_le (by omega)]
@[simp] theorem wVy {b : Bool} : zH1 (.bool b) = true := xUn.repr (by decide) (by decide)
theorem zHz {X : Exn → Mem → Prop} {f g : Pg Fl} {m : Mem} {F : Fl → Mem → Prop} (I : Mem → Prop) (h1 : W f m X fun fl m' => match fl with
    | .next => I m'
    | .brk => F .brk m'
    | .cont => F .cont m'
    | .ret v => F (.ret v) m') (h2 : ∀ m', I m' → W g m' X F) : W (zQ1 f g) m X F :=
  wZs.mpr (h1.mono fun fl m' q => by
    cases fl with
    | next => exact h2 m' q
    | brk => exact q
    | cont => exact q
    | ret v => exact q)
end Ev

namespace Ev
open PySem PySem.Spec PyProof.Rows L2

def yGd (t : Pg Bool) (b : Pg Fl) : Nat → Pg Fl
  | 0 => .stuck
  | n + 1 => .bind t fun k => if k then .bind b fun fl => match fl with
      | .next => yGd t b n
      | .cont => yGd t b n
      | .brk => .ret .next
      | .ret v => .ret (.ret v)
    else .ret .next
def xKz (t : Pg Bool) (b : Pg Fl) : Pg Fl := fun m => yGd t b 1000000 m
section
variable {X : Cx} {B : XBt} {e c : Expr} {es : List Expr} {pos p : Pos} {f : Pg EV} {tc : Pg Bool} {fb : Pg Fl}
theorem xVc {body : List Stmt} (hp : PassesOwn (model X.prog X.w) X.A X.env X.xe) (hc : yHy X B c tc) (hb : xW0 X B body fb) : yGc X B (.While c body [] pos) (xKz tc fb) := by
  intro w D r hw
  refine yQa (ps_while hp xYy wZy) ?_
  refine ⟨fun n sg H => ∃ w2 : Wd, w2.sg = sg ∧ w2.H = H ∧ FolS w w2 ∧ Rep X.K w2 ∧ (yGd tc fb n w2.m).wp (zGd X.K w D) (XW X.K B w), ⟨1000000, w, rfl, rfl, FolS.refl w, r, hw⟩, ?_⟩
  rintro n sg H ⟨w2, rfl, rfl, f2, r2, q⟩
  cases n with
  | zero => exact q.elim
  | succ n =>
    refine hc w2 _ r2 ((wp_bind q).imp (fun k m3 z w3 em e3 f3 r3 => ?_) fun _ _ z => z.fol f2)
    subst em
    have f23 := f2.trans (f3.s r2)
    cases k with
    | false =>
      have z := z w3 rfl f23 r3
      rw [e3] at z
      exact z
    | true =>
      refine ⟨fun sg' H' => ∃ w5 : Wd, w5.sg = sg' ∧ w5.H = H' ∧ FolS w w5 ∧ Rep X.K w5 ∧ (yGd tc fb n w5.m).wp (zGd X.K w D) (XW X.K B w), fun sg' H' h => ⟨n, Nat.lt_succ_self n, h⟩, ?_⟩
      have z := wp_bind (show (Pg.bind fb _ w3.m).wp (zGd X.K w D) (XW X.K B w) from z)
      rw [← e3]
      refine hb w3 _ r3 (z.imp (fun fl m5 z w5 em f5 r5 => ?_) fun _ _ z => z.fol f23)
      subst em
      have f25 := f23.trans f5
      cases fl with
      | next => exact ⟨w5, rfl, rfl, f25, r5, z⟩
      | cont => exact ⟨w5, rfl, rfl, f25, r5, z⟩
      | brk => exact z w5 rfl f25 r5
      | ret v => exact z w5 rfl f25 r5

def vZ2 (i : Nat) : Pg PyData := fun m => match m.sl[i]? with
  | some (some (.ob (.lst xs))) => match xs[xs.length - 1]? with
    | some d => .ok d (setM m i (.ob (.lst xs.dropLast)))
    | none => .bad
  | _ => .bad
theorem RA.dropLast {K : PySem.W.Frag} {F : Hp} {ds : List PyData} {vs : List V} (a : RA K F ds vs) : RA K F ds.dropLast vs.dropLast := by
  rw [List.dropLast_eq_take, List.dropLast_eq_take, a.len]
  exact a.take _
def wK4 (i : Nat) : EV → Pg Fl
  | .new (.lst ys) => fun m => match m.sl[i]? with
    | some (some (.ob (.lst xs))) => if xs.length + ys.length ≤ 16777216 then .ok .next (setM m i (.ob (.lst (xs ++ ys)))) else .bad
    | _ => .bad
  | _ => .stuck
def xK2 (i : Nat) (f : Pg EV) : Pg Fl := .bind (yWu i) fun _ => .bind f fun v => wK4 i v
theorem xVg {x : Str} {p1 p2 p3 : Pos} (i : Nat) (hi : X.N[i]? = some x) (hv : Vis X.env.scope x) (he : Snd X B e f)
    (hd : (x == ("__debug__" : Str)) = false := by decide) (hcd : (x == ("__classdict__" : Str)) = false := by decide)
    (hbase : attributeBase (.Name x p1) "extend" X.env (eval (.Name x p1) X.env) = eval (.Name x p1) X.env := by rfl)
    (hfew : ((backTo p3 (starEach [e] X.env)).all (fun x => !x.1) && (backToKw p3 (keywordEach [] X.env)).all (fun x => x.1.isSome) && decide ([e].length + ([] : List Keyword).length + (if ([] : List Keyword).isEmpty then 0 else 1) < 30)) = true := by rfl)
    (hline : (p2.endLine == p3.line) = true := by rfl) (hst : starEach [e] X.env = (false, eval e X.env) :: starEach [] X.env := by rfl) :
    yGc X B (.Expr (.Call (.Attribute (.Name x p1) "extend" p2) [e] [] p3) pos) (xK2 i f) := by
  intro w D r hw
  refine yQa (ps_expr (pe_bm PySem.F.plainAttrs_list PySem.F.slot_list_extend PySem.F.type_list_extend mt_extend (pe_var hi hv hd hcd) (pa_cons zYf pa_nil hst) rfl hfew hline hst rfl) rfl) ?_
  obtain ⟨us, o1, hw⟩ := yUm (wp_bind hw)
  obtain ⟨u, hu, b0, e0, ⟨vs0, k0, _⟩, _⟩ := r.sl i _ o1
  refine ⟨u, hu, ?_, ?_⟩
  · subst e0
    exact .inl ⟨rfl, vs0, .inl (.inl k0)⟩
  refine zQ0 he r hw fun v w1 y e1 f1 r1 re h1 => ?_
  cases v with
  | d _ => exact h1.elim
  | pk _ _ => exact h1.elim
  | cell _ => exact h1.elim
  | new o =>
    cases o with
    | dic _ => exact h1.elim
    | ins _ _ => exact h1.elim
    | lst ys =>
      obtain ⟨a, ea, ⟨ws, hH, rw2⟩, hF, hro, hz, no⟩ := re
      subst ea
      have h1 : ((match w1.m.sl[i]? with
        | some (some (.ob (.lst xs))) => if xs.length + ys.length ≤ 16777216 then .ok .next (setM w1.m i (.ob (.lst (xs ++ ys)))) else .bad
        | _ => .bad) : Res Fl).wp (zGd X.K w D) (XW X.K B w1) := h1
      split at h1
      · rename_i xs g1
        split at h1
        · rename_i hl
          obtain ⟨z, g3, b, g4, ⟨vs, g5, g6⟩, _⟩ := r1.sl i _ g1
          rw [e1, hu] at g3
          cases g3
          subst g4
          obtain ⟨r3, f3⟩ := yUu (o' := .lst (xs ++ ys)) (u := .lst (vs ++ ws)) r1 g1 (by rw [e1]; exact hu) ⟨_, upd_same, g6.app rw2⟩
          refine ⟨b, a, vs, ws, rfl, rfl, g5, hH, by rw [← g6.len, ← rw2.len, sizeLine_eq]; exact hl, ?_⟩
          have q := h1 _ rfl ((f1.s r).trans f3) r3
          rw [← e1]
          exact q
        · exact h1.elim
      · exact h1.elim

def xJd (ns : List Int) : List Int := ns.mergeSort fun a b => decide (a ≤ b)
theorem xJc (ns : List Int) : (xJd ns).Perm ns := List.mergeSort_perm ns _
theorem xUh (ns : List Int) : (xJd ns).Pairwise (· ≤ ·) := by
  have h := List.pairwise_mergeSort (le := fun a b : Int => decide (a ≤ b)) (fun a b c h1 h2 => by simp at *; omega) (fun a b => by simp; omega) ns
  exact h.imp fun h => by simpa using h
theorem xKp {ns ms : List Int} (h : ms.Perm ns) (g : ms.Pairwise (· ≤ ·)) : ms = xJd ns :=
  (h.trans (xJc ns).symm).eq_of_pairwise (fun a b _ _ h1 h2 => Int.le_antisymm h1 h2) g (xUh ns)
def xQr : List PyData → Option EV
  | [.list xs] => (intsOf xs).map fun ns => .fresh ((xJd ns).map .int)
  | _ => none
theorem xV5 : BOk X (.builtin "sorted") xQr := by
  intro w ds xs v Q r h e k
  cases h with
  | nil => cases e
  | @cons d x ds xs h t =>
    cases t with
    | cons _ _ => cases d <;> cases e
    | nil =>
      cases d <;> try (cases e; done)
      rename_i ys
      have e : (intsOf ys).map (fun ns => EV.fresh ((xJd ns).map .int)) = some v := e
      cases q : intsOf ys with
      | none =>
        rw [q] at e
        cases e
      | some ns =>
        rw [q] at e
        cases e
        obtain ⟨a, vs, rfl, h1, h2⟩ := h.lst r.sub
        rw [yQ2 q] at h2
        have ev := h2.intsV
        subst ev
        refine ⟨_, cr_sortedI, a, ns, rfl, h1.sq, fun ns' p g1 g2 hp => ?_⟩
        rw [xKp g1 g2]
        exact k.lst r (.ints _) hp
def yYc : List PyData → Option EV
  | [.dict es] => if zZo es then some (.fresh (es.map (·.1))) else none
  | ds => xUj ds
theorem RK.keys {K : PySem.W.Frag} {F : Hp} : ∀ {es : List (PyData × PyData)} {kvs : List (Key × V)}, RK K F es kvs → RA K F (es.map (·.1)) (kvs.map fun kv => kV kv.1)
  | _, _, .nil => .nil
  | _, _, .cons (k := k) _ t => .cons (by cases k; exact .int _; exact .str _) (RK.keys t)
theorem xZn (C : Ctx X B) : BOk X (.type "list") yYc := by
  intro w ds xs v Q r h e k
  cases h with
  | nil => cases e
  | @cons d x ds xs h t =>
    cases t with
    | cons a b => exact xV7 w _ _ v Q r (.cons h (.cons a b)) (by cases d <;> exact e) k
    | nil =>
      cases d with
      | dict es =>
        have e : (if zZo es then some (EV.fresh (es.map (·.1))) else none) = some v := e
        split at e
        · rename_i hp
          cases e
          obtain ⟨a, kvs, rfl, h1, h2⟩ := h.dic r.sub hp
          exact ⟨_, call_listD C.calm, a, kvs, rfl, .inl h1, fun p hp => k.lst r h2.keys hp⟩
        · cases e
      | _ => exact xV7 w _ _ v Q r (.cons h .nil) e k
end
section
variable {m : Mem} {X : Exn → Mem → Prop} {F : Fl → Mem → Prop} {E : EV → Mem → Prop}
@[simp] theorem wGd {i : Nat} {f : Pg EV} : W (xK2 i f) m X F ↔ W (yWu i) m X fun _ m0 => W f m0 X fun v m1 => W (wK4 i v) m1 X F := by
  unfold xK2
  simp only [zZc]
@[simp] theorem vQ4 {i : Nat} {ys : List PyData} {sl : List (Option SV)} {cs : List Ob} : W (wK4 i (.new (.lst ys))) ⟨sl, cs⟩ X F ↔ ∃ xs, sl[i]? = some (some (.ob (.lst xs))) ∧ xs.length + ys.length ≤ 16777216 ∧ F .next ⟨sl.set i (some (.ob (.lst (xs ++ ys)))), cs⟩ := by
  rw [zHy]
  unfold wK4
  dsimp only
  split
  · rename_i xs e
    split
    · rename_i hl
      exact ⟨fun h => ⟨xs, e, hl, h⟩, fun ⟨ys, e2, _, h⟩ => by rw [e] at e2; cases e2; exact h⟩
    · rename_i hl
      exact ⟨fun h => h.elim, fun ⟨ys, e2, h, _⟩ => by rw [e] at e2; cases e2; exact hl h⟩
  · rename_i h
    exact ⟨fun h => h.elim, fun ⟨xs, e, _⟩ => h xs e⟩
@[simp] theorem wJ0 {xs : List PyData} : xQr [.list xs] = (intsOf xs).map fun ns => .fresh ((xJd ns).map .int) := rfl
@[simp] theorem wKw {es : List (PyData × PyData)} : yYc [.dict es] = if zZo es then some (.fresh (es.map (·.1))) else none := rfl
@[simp] theorem wKv {xs : List PyData} : yYc [.list xs] = some (.fresh xs) := rfl
@[simp] theorem wKu {xs : List PyData} : yYc [.tuple xs] = some (.fresh xs) := rfl
end
end Ev

namespace Ev
open PySem PySem.Spec PyProof.Rows L2

theorem xHa {K : PySem.W.Frag} {x qual : Str} {params : Arguments} {body : List Stmt} {scope : Scope} {kws : List (Str × V)} {f : Addr} {fd : FuncData} {ps : List Str} (F : FunD K x qual params body scope [] kws f fd) (n : Nat) (ks : List Str) (ms : List (Str × V)) (is : List Nat) (hk : kws ≠ []) (hms : ∀ q ∈ ms, q ∈ kws)
    (h : ∀ (D : Addr) (doc pm : Value) (an : Option Addr) (cdv ct : Value) (us mv ws : List Value), us.length = n → mv.length = ms.length → ws.length = ks.length →
      KwChain D ((ms.map (·.1)).zip mv) (bindArgs (PySem.W.fnOf x qual params body scope .none (.ref D) doc pm an cdv ct) ⟨us, ks.zip ws⟩) (ps.zip (pick is (us ++ ws ++ mv)))) :
    ∃ mv : List Value, Vals (ms.map (·.2)) mv ∧ ∀ (s : Shared) (us ws : List Value), K.In s.heap → us.length = n → ws.length = ks.length → BindsTo s fd ⟨us, ks.zip ws⟩ (ps.zip (pick is (us ++ ws ++ mv))) := by
  obtain ⟨oc, od, dV, kV, doc, pm, an, cdv, ct, osl, rfl, lk, hcd, hD, hK⟩ := F.ex
  rcases hD with ⟨_, rfl⟩ | ⟨e, _⟩
  · rcases hK with e | ⟨D, rfl, hq⟩
    · exact absurd e hk
    · obtain ⟨mv, hl, rk, hks⟩ := kwd_vals (ms := ms) fun q hm => hq q (hms q hm)
      exact ⟨mv, rk, fun s us ws X l1 l2 => BindsTo.of_looks fun M => KwChain.looks X hks (h D doc pm an cdv ct us mv ws l1 hl l2)⟩
  · exact absurd rfl e
def Chain {α : Type} (D : Addr) : List (Str × Value) → Sem α → Sem α → Prop
  | [], t, r => t = r
  | q :: l, t, r => ∃ (β γ : Type) (k1 : Option Value → Sem β) (k2 : β → Sem γ) (k3 : γ → Sem α) (a : β), t = ((nsGet D q.1 >>= k1) >>= k2) >>= k3 ∧ k1 (some q.2) = pure a ∧ Chain D l (k2 a >>= k3) r
theorem Chain.go {α : Type} {K : PySem.W.Frag} {M : Model} {D : Addr} {A : Around} {Q : α → Shared → Prop} {E : Value → Shared → Prop} {s : Shared} (X : K.In s.heap) : ∀ {l : List (Str × Value)} {t r : Sem α}, (∀ q ∈ l, PySem.W.nsIn K D q.1 = some (some q.2)) → Chain D l t r → wpAny M A r Q E s → wpAny M A t Q E s
  | [], t, r, _, e, h => by
    have e : t = r := e
    rw [e]
    exact h
  | q :: l, t, r, hl, e, h => by
    obtain ⟨β, γ, k1, k2, k3, a, e1, e2, e3⟩ := e
    have l1 : PySem.W.Looks M s.heap (nsGet D q.1 >>= k1) a := (PySem.W.looks_nsIn X (hl q (List.mem_cons_self ..))).andThen (PySem.W.Looks.of_pure e2)
    rw [e1, bind_assoc]
    exact wpAny_bind (l1.here (Chain.go X (fun p hp => hl p (List.mem_cons_of_mem _ hp)) e3 h))
def xHg (s : Shared) (fd : FuncData) (args : Args) (b : List (Str × Value)) (pv : Str) (rest : List Value) : Prop := ∀ (M : Model) (A : Around) (Q : List (Str × Value) → Shared → Prop) (E : Value → Shared → Prop), wpAny M A (newTuple rest >>= fun t => pure (b ++ [(pv, t)])) Q E s → wpAny M A (bindArgs fd args) Q E s
theorem wXo {full : Bool} {K : PySem.W.Frag} {x qual : Str} {params : Arguments} {body : List Stmt} {scope : Scope} {kws : List (Str × V)} {f : Addr} {fd : FuncData} {ps : List Str} {pv : Str} (F : FunD K x qual params body scope [] kws f fd) (n : Nat) (ks : List Str) (ms : List (Str × V)) (is : List Nat) (hk : kws ≠ []) (hms : ∀ q ∈ ms, q ∈ kws)
    (h : ∀ (D : Addr) (doc pm : Value) (an : Option Addr) (cdv ct : Value) (us mv ws rest : List Value), us.length = n → mv.length = ms.length → ws.length = ks.length → (full = true ∨ rest = []) →
      Chain D ((ms.map (·.1)).zip mv) (bindArgs (PySem.W.fnOf x qual params body scope .none (.ref D) doc pm an cdv ct) ⟨us ++ rest, ks.zip ws⟩) (newTuple rest >>= fun t => pure (ps.zip (pick is (us ++ ws ++ mv)) ++ [(pv, t)]))) :
    ∃ mv : List Value, Vals (ms.map (·.2)) mv ∧ ∀ (s : Shared) (us ws rest : List Value), K.In s.heap → us.length = n → ws.length = ks.length → (full = true ∨ rest = []) → xHg s fd ⟨us ++ rest, ks.zip ws⟩ (ps.zip (pick is (us ++ ws ++ mv))) pv rest := by
  obtain ⟨oc, od, dV, kV, doc, pm, an, cdv, ct, osl, rfl, lk, hcd, hD, hK⟩ := F.ex
  rcases hD with ⟨_, rfl⟩ | ⟨e, _⟩
  · rcases hK with e | ⟨D, rfl, hq⟩
    · exact absurd e hk
    · obtain ⟨mv, hl, rk, hks⟩ := kwd_vals (ms := ms) fun q hm => hq q (hms q hm)
      exact ⟨mv, rk, fun s us ws rest X l1 l2 l3 M A Q E hw => Chain.go X hks (h D doc pm an cdv ct us mv ws rest l1 hl l2 l3) hw⟩
  · exact absurd rfl e
theorem wQ8 {K : PySem.W.Frag} {x : Str} {st : Stmt} {kws : List (Str × V)} {f : Addr} {fd : FuncData} (F : FunD K x x (defArgs st) (defBody st) (defScope st) [] kws f fd) : Fun K x x st f fd := by
  obtain ⟨oc, od, dV, kV, doc, pm, an, cdv, ct, osl, e, lk, hcd, hD, hK⟩ := F.ex
  rcases hD with ⟨_, rfl⟩ | ⟨z, _⟩
  · exact ⟨⟨oc, od, kV, doc, pm, an, cdv, ct, osl, e, lk, hcd⟩, F.kp⟩
  · exact absurd rfl z
structure HasD (X : Cx) (k : Nat) (x : Str) (ps : List Str) (n : Nat) (ks : List Str) (is : List Nat) (ds : List PyData) (g : Fn) : Prop where
  ex : ∃ (f : Addr) (fd : FuncData) (dv : List Value) (dvs : List V), FnG X.prog X.w X.K X.mg X.base k f fd ps (spG X.K ps.length g) ∧ X.mg x = some (.ref f) ∧ PySem.W.keepIn X.K (.ref f) = true ∧ Vals dvs dv ∧ (∀ F : Hp, RA X.K F ds dvs) ∧
    ∀ (s : Shared) (us ws : List Value), X.K.In s.heap → us.length = n → ws.length = ks.length → BindsTo s fd ⟨us, ks.zip ws⟩ (ps.zip (pick is (us ++ ws ++ dv)))
def dAV (ds : List PyData) : List AV := ds.map .d
theorem xVt {K : PySem.W.Frag} {w : Wd} : ∀ {ds : List PyData} {vs : List V}, RA K w.F ds vs → Paired (RV K w) (dAV ds) vs
  | _, _, .nil => .nil
  | _, _, .cons h t => .cons h (xVt t)
section
variable {X : Cx} {B : XBt} {e : Expr} {es : List Expr} {pos p : Pos} {k : Nat} {ps : List Str} {x pv : Str}
def yQ7 (g : Fn) (n m q : Nat) (is : List Nat) (ds : List PyData) (fa fk : Pg (List AV)) : Pg EV := .bind fa fun vs => .bind fk fun zs => if vs.length = n ∧ zs.length = m ∧ (pick is (vs ++ zs ++ dAV ds)).length = q then zVj g (pick is (vs ++ zs ++ dAV ds)) else .stuck
def xYu (l : List AV) : Option (List PyData) := match dataOf l with
  | some xs => if yKp xs then some xs else none
  | none => none
theorem yHs {g : Fn} {n : Nat} {is : List Nat} {ks : List Str} {ds : List PyData} {w w2 : Wd} {vs zs : List AV} {xs ys : List V} {Q : VK} {pins : List (Addr × Obj)} {s : Shared} {us ws : List Value} (C : Ctx X B) (h : HasD X k x ps n ks is ds g) (hr : Room k X.A) {f : Addr}
    (hm : X.mg x = some (.ref f)) (I : L2.Inv X pins w2.sg w2.H s) (ru : Vals xs us) (rw : Vals ys ws) (e2 : w2.sg = w.sg) (fo : FolE w w2) (r2 : Rep X.K w2) (rv : Paired (RV X.K w2) vs xs) (rz : Paired (RV X.K w2) zs ys)
    (hw : ((if vs.length = n ∧ zs.length = ks.length ∧ (pick is (vs ++ zs ++ dAV ds)).length = ps.length then zVj g (pick is (vs ++ zs ++ dAV ds)) else .stuck : Pg EV) w2.m).wp (zVw X.K w Q) (XW X.K B w2)) :
    wpAny (model X.prog X.w) X.A (call (.ref f) us (ks.zip ws)) (EP X pins w2.sg Q) X.xe s := by
  obtain ⟨f', fd, dv, dvs, F, hm', hk, hdv, hra, hb⟩ := h.ex
  rw [hm] at hm'
  cases hm'
  split at hw
  · rename_i hl
    obtain ⟨l1, l2, l3⟩ := hl
    have q2 : (zVj g (pick is (vs ++ zs ++ dAV ds)) w2.m).wp (zVw X.K w2 Q) (XW X.K B w2) := hw.imp (fun v m' z w3 y em es f2 r2 re => z w3 y em (es.trans e2) (fo.trans f2) r2 re) fun _ _ z => z
    have pv := zJ3 (zZ3 (zZ3 rv rz) (xVt (hra w2.F))) is
    have pu := zYn (zJ3 (zZ3 (zZ3 (zZz ru) (zZz rw)) (zZz hdv)) is)
    have sp := yVu (n := ps.length) r2 l3 pv q2
    exact wpAny_call (xGk C F hr (hb s us ws I.kIn ((zZt (zZz ru)).symm.trans ((zZt rv).symm.trans l1)) ((zZt (zZz rw)).symm.trans ((zZt rz).symm.trans l2))) I pu sp)
  · exact hw.elim
theorem zHi {α β : Type} {P : α → β → Prop} : ∀ {as : List α} {xs : List β} (n : Nat), Paired P as xs → Paired P (as.take n) (xs.take n)
  | _, _, 0, _ => by rw [List.take_zero, List.take_zero]; exact .nil
  | _, _, n + 1, .nil => by rw [List.take_nil, List.take_nil]; exact .nil
  | _, _, n + 1, .cons h a => .cons h (zHi n a)
theorem zHj {α β : Type} {P : α → β → Prop} : ∀ {as : List α} {xs : List β} (n : Nat), Paired P as xs → Paired P (as.drop n) (xs.drop n)
  | _, _, 0, a => a
  | _, _, n + 1, .nil => by rw [List.drop_nil, List.drop_nil]; exact .nil
  | _, _, n + 1, .cons h a => zHj n a
theorem yVz {g : Fn} {n m q : Nat} {is : List Nat} {ks : List Str} {ds : List PyData} {fa fk : Pg (List AV)} {kws : List Keyword} (C : Ctx X B) (h : HasD X k x ps n ks is ds g) (hm : ks.length = m) (hq : ps.length = q) (hr : Room k X.A) (hg : Gl X x) (ha : xJz X B (e :: es) fa) (hkw : xWz X B kws fk)
    (hall : (backToKw pos (keywordEach kws X.env)).all (·.1.isSome) = true := by rfl) (hks : (backToKw pos (keywordEach kws X.env)).filterMap (·.1) = ks := by rfl) (hdb : (x == ("__debug__" : Str)) = false := by decide)
    (he : starEach (e :: es) X.env = (false, eval e X.env) :: starEach es X.env := by rfl) (hpl : ((backTo pos (starEach (e :: es) X.env)).any (·.1) || (backToKw pos (keywordEach kws X.env)).any (·.1.isNone)) = false := by rfl) :
    Snd X B (.Call (.Name x p) (e :: es) kws pos) (yQ7 g n m q is ds fa fk) := by
  subst hm hq
  obtain ⟨f, fd, dv, dvs, F, hm, hk, hdv, hra, hb⟩ := id h.ex
  intro w Q r hw
  refine ⟨fun pins s I => ?_⟩
  refine wpAny_Call_Name_kw (ld_glob I hg hm ?_ hdb)
  have wa : WA X (e :: es) w.sg w.H fun xs H1 => WK X kws w.sg H1 fun ys H2 => ∃ w2 : Wd, w2.H = H2 ∧ w2.sg = w.sg ∧ ∀ pins s us ws, L2.Inv X pins w2.sg w2.H s → Vals xs us → Vals ys ws → wpAny (model X.prog X.w) X.A (call (.ref f) us (ks.zip ws)) (EP X pins w2.sg Q) X.xe s := by
    refine zY6 ha r hw fun vs w1 xs e1 f1 r1 rv q => ?_
    rw [← e1]
    refine zU0 hkw r1 q fun zs w2 ys e2 f2 r2 rz q2 => ?_
    exact ⟨w2, rfl, e2, fun pins s us ws I ru rw => yHs C h hr hm I ru rw (e2.trans e1) (f1.trans f2) r2 (yV7 f2 rv) rz q2⟩
  refine PySem.W.callWith_KW (h₀ := X.base) I.ok.mod.kin hk hall (thn (wa.go pos pins s I) fun us s1 ⟨vs, H1, I1, r1, q⟩ => ?_) hpl he
  refine thn (q.go pos pins s1 I1) fun ws s2 ⟨zs, H2, I2, rz, w2, eH, eS, q2⟩ => ⟨I2.kIn, ?_⟩
  rw [hks]
  have z := q2 pins s2 us ws (by rw [eS, eH]; exact I2) r1 rz
  rw [eS] at z
  exact z
theorem xXx {g : Fn} {m q : Nat} {is : List Nat} {ks : List Str} {ds : List PyData} {fk : Pg (List AV)} {kws : List Keyword} (C : Ctx X B) (h : HasD X k x ps 0 ks is ds g) (hm : ks.length = m) (hq : ps.length = q) (hr : Room k X.A) (hg : Gl X x) (hkw : xWz X B kws fk)
    (hall : (backToKw pos (keywordEach kws X.env)).all (·.1.isSome) = true := by rfl) (hks : (backToKw pos (keywordEach kws X.env)).filterMap (·.1) = ks := by rfl) (hdb : (x == ("__debug__" : Str)) = false := by decide)
    (hpl : ((backTo pos (starEach [] X.env)).any (·.1) || (backToKw pos (keywordEach kws X.env)).any (·.1.isNone)) = false := by rfl) :
    Snd X B (.Call (.Name x p) [] kws pos) (yQ7 g 0 m q is ds zQh fk) := by
  subst hm hq
  obtain ⟨f, fd, dv, dvs, F, hm, hk, hdv, hra, hb⟩ := id h.ex
  intro w Q r hw
  refine ⟨fun pins s I => ?_⟩
  refine wpAny_Call_Name_kw (ld_glob I hg hm ?_ hdb)
  have wa : WK X kws w.sg w.H fun ys H2 => ∃ w2 : Wd, w2.H = H2 ∧ w2.sg = w.sg ∧ ∀ pins s ws, L2.Inv X pins w2.sg w2.H s → Vals ys ws → wpAny (model X.prog X.w) X.A (call (.ref f) [] (ks.zip ws)) (EP X pins w2.sg Q) X.xe s := by
    have q : (Pg.bind fk _ w.m).wp (zVw X.K w Q) (XW X.K B w) := wp_bind hw
    refine zU0 hkw r q fun zs w2 ys e2 f2 r2 rz q2 => ?_
    exact ⟨w2, rfl, e2, fun pins s ws I rw => yHs C h hr hm I .nil rw e2 f2 r2 .nil rz q2⟩
  refine PySem.W.callWith_KW0 (h₀ := X.base) I.ok.mod.kin hk hall ?_ hpl
  refine thn (wa.go pos pins s I) fun ws s2 ⟨zs, H2, I2, rz, w2, eH, eS, q2⟩ => ⟨I2.kIn, ?_⟩
  rw [hks]
  have z := q2 pins s2 ws (by rw [eS, eH]; exact I2) rz
  rw [eS] at z
  exact z
end

def FMD (K : PySem.W.Frag) (mg : Str → Option Value) (x : Str) (st : Stmt) (kws : List (Str × V)) : Prop := ∃ (f : Addr) (fd : FuncData), FunD K x x (defArgs st) (defBody st) (defScope st) [] kws f fd ∧ mg x = some (.ref f)
section
variable {P : Program} {w : World} {K : PySem.W.Frag} {mg : Str → Option Value} {base : Heap} {x pv : Str} {st : Stmt} {ps : List Str} {kws : List (Str × V)} {g : Fn} {j k q : Nat}
theorem xQp (h : FMD K mg x st kws) (hk : j ≤ k) (ok : ∀ {f : Addr} {fd : FuncData}, Fun K x x st f fd → FnG P w K mg base j f fd ps (spG K ps.length g)) (n : Nat) (ks : List Str) (ms : List (Str × V)) (is : List Nat) (ds : List PyData) (hne : kws ≠ []) (hms : ∀ q ∈ ms, q ∈ kws) (hds : ∀ F : Hp, RA K F ds (ms.map (·.2)))
    (hb : ∀ (D : Addr) (doc pm : Value) (an : Option Addr) (cdv ct : Value) (us mv ws : List Value), us.length = n → mv.length = ms.length → ws.length = ks.length →
      KwChain D ((ms.map (·.1)).zip mv) (bindArgs (PySem.W.fnOf x x (defArgs st) (defBody st) (defScope st) .none (.ref D) doc pm an cdv ct) ⟨us, ks.zip ws⟩) (ps.zip (pick is (us ++ ws ++ mv)))) :
    ∃ (f : Addr) (fd : FuncData) (dv : List Value) (dvs : List V), FnG P w K mg base k f fd ps (spG K ps.length g) ∧ mg x = some (.ref f) ∧ PySem.W.keepIn K (.ref f) = true ∧ Vals dvs dv ∧ (∀ F : Hp, RA K F ds dvs) ∧
      ∀ (s : Shared) (us ws : List Value), K.In s.heap → us.length = n → ws.length = ks.length → BindsTo s fd ⟨us, ks.zip ws⟩ (ps.zip (pick is (us ++ ws ++ dv))) := by
  obtain ⟨f, fd, F, hm⟩ := h
  obtain ⟨mv, rk, hb'⟩ := xHa F n ks ms is hne hms hb
  exact ⟨f, fd, mv, ms.map (·.2), (ok (wQ8 F)).up hk, hm, F.kp, rk, hds, hb'⟩
def FMS (K : PySem.W.Frag) (mg : Str → Option Value) (x : Str) (st : Stmt) : Prop := ∃ (f : Addr) (fd : FuncData), Fun K x x st f fd ∧ mg x = some (.ref f)
theorem wJ7 {f D : Addr} {oc : Value} {od an : Option Addr} {osl : Array (Option Value)} {doc pm cdv ct : Value} (hm : mg x = some (.ref f)) (l : K.lookup f = some ⟨oc, od, .func (PySem.W.fnOf x x (defArgs st) (defBody st) (defScope st) .none (.ref D) doc pm an cdv ct), osl⟩)
    (c : PySem.W.codeIn K cdv x = true) (k : PySem.W.keepIn K (.ref f) = true) (h : ∀ q ∈ kws, ∃ u, PySem.W.nsIn K D q.1 = some (some u) ∧ RelV q.2 u) : FMD K mg x st kws :=
  ⟨f, _, ⟨⟨oc, od, .none, .ref D, doc, pm, an, cdv, ct, osl, rfl, l, c, .inl ⟨rfl, rfl⟩, .inr ⟨D, rfl, h⟩⟩, k⟩, hm⟩
theorem wJ6 {f : Addr} {oc kV : Value} {od an : Option Addr} {osl : Array (Option Value)} {doc pm cdv ct : Value} (hm : mg x = some (.ref f)) (l : K.lookup f = some ⟨oc, od, .func (PySem.W.fnOf x x (defArgs st) (defBody st) (defScope st) .none kV doc pm an cdv ct), osl⟩)
    (c : PySem.W.codeIn K cdv x = true) (k : PySem.W.keepIn K (.ref f) = true) : FMS K mg x st := ⟨f, _, fun_mk l c k, hm⟩
theorem xZy {D : Addr} : ∀ q ∈ ([] : List (Str × V)), ∃ u, PySem.W.nsIn K D q.1 = some (some u) ∧ RelV q.2 u := fun q h => by cases h
theorem yQ1 {D : Addr} {y : Str} {v : V} {l : List (Str × V)} (h : ∃ u, PySem.W.nsIn K D y = some (some u) ∧ RelV v u) (t : ∀ q ∈ l, ∃ u, PySem.W.nsIn K D q.1 = some (some u) ∧ RelV q.2 u) : ∀ q ∈ (y, v) :: l, ∃ u, PySem.W.nsIn K D q.1 = some (some u) ∧ RelV q.2 u := fun q h' => by
  rcases List.mem_cons.mp h' with e | e
  · rw [e]
    exact h
  · exact t q e
end
end Ev

namespace Ev
open PySem PySem.Spec PyProof.Rows L2

abbrev wXm (w : World) : Obj := ⟨.type "set", none, .set #[] 0 (.fresh 0 0 (!w.params.followText "set-order")), #[]⟩
theorem yU3 {P : Program} {w : World} {A : Around} {E : Value → Shared → Prop} {s : Shared} {l : Addr} {items : Array Value} (ns : List Int) {Q : Value → Shared → Prop} (free : A.handled = none) (isL : s.heap.IsList l items) (are : IntsAre items.toList ns) (few : ns.length + 1 < scanBound)
    (fin : ∀ (h1 : Heap) (tk c : Nat), SetR w h1 s.heap.objs.size (fun j => decide (j ∈ ns)) c → c ≤ ns.length → (∀ b o, s.heap.get? b = some o → h1.get? b = some o) → Q (.ref s.heap.objs.size) { s with heap := h1, toks := tk }) :
    wpAny (model P w) A (call (.type "set") [.ref l]) Q E s := by
  have size : items.size = ns.length := by have := are.length; rwa [Array.length_toList] at this
  obtain ⟨cc, tl, g1⟩ := F.called_set.mro; have g2 := F.called_set.made; have g3 := F.called_set.sub
  refine wpAny_call (codeAny_of_tree ?_); show wpAny _ _ (callAny (.type "set") _) _ _ _
  refine wpAny_pure ⟨Code.quiet_builtin _ (by decide +kernel), codeAny_builtin F.entry_type_call ?_⟩; rw [Around.under_plain (weight_type_call_type "set" [.ref l] []) rfl]
  have g4 := F.called_set.notType; have g5 := F.called_set.canCreate; have g6 := F.typeCall_set_1 (.ref l)
  repeat (any_goals (first | assumption | wp_step))
  let S := s.heap.objs.size; let hS := s.heap.push (wXm w)
  refine codeAny_mono (code_set_led1 (.ref l) (E := E) (Q₁ := fun o t => o = .ref S ∧ t = { s with heap := hS }) ⟨rfl, rfl⟩) fun r t hr => ?_
  match r, hr with
  | .error _, hr => exact hr
  | .ok .next, hr => exact hr.elim
  | .ok .brk, hr => exact hr.elim
  | .ok .cont, hr => exact hr.elim
  | .ok (.ret obj), hr =>
    obtain ⟨rfl, rfl⟩ := hr
    have at0 : hS.get? S = some (wXm w) := Heap.get?_push_size _ rfl
    have isT : Shared.TypeIs { s with heap := hS } (.ref S) "set" := ⟨_, at0, rfl⟩
    have g7 := F.called_set.init.lookup; have g8 := F.called_set.init.bind (.ref S)
    repeat (any_goals (first | assumption | wp_step))
    refine codeAny_mono (codeAny_call_builtin (R := wants (fun r t => r = .none ∧ ∃ h1 tk c, t = { s with heap := h1, toks := tk } ∧ SetR w h1 S (fun j => decide (j ∈ ns)) c ∧ c ≤ ns.length ∧ ∀ b o, s.heap.get? b = some o → h1.get? b = some o) E) F.called_set.init.plain F.entry_set_init (check_set_init_1 isT ?_)) fun r t hr => ?_
    · obtain ⟨⟨c1, d1, dt, sl⟩, hol, e1, nl, e2⟩ := id isL
      dsimp only at e1 e2; subst e1 e2
      have lS : l < S := Heap.lt_size hol
      have n1 := F.sub_list_set; have n2 := F.sub_list_frozenset; have n3 : (Value.type "list" == Value.type "dict") = false := by decide
      have hl1 : hS.IsList l items := ⟨_, Heap.get?_push_of_some _ hol, rfl, nl, rfl⟩
      have hol1 : hS.get? l = some { cls := .type "list", dict := d1, data := .seq items nl, slots := sl } := Heap.get?_push_of_some _ hol
      unfold Builtin.«set.__init__» noKeywords Builtin.Frozenset.updateFrom; generalize hPI : pyIter = PI
      wp_walk
      subst hPI; refine wpAny_pyIter_list hl1 (wpAny_bind (wpAny_runValue ?_))
      have zS : hS.objs.size = S + 1 := Heap.size_push ..
      have free3 : A.in1.in1.in1.handled = none := by simp [free]
      have n4 : l ≠ hS.objs.size := by rw [zS]; exact Nat.ne_of_lt (Nat.lt_succ_of_lt lS)
      have n5 : S ∉ [hS.objs.size, l] := by rw [zS]; simp only [List.mem_cons, List.not_mem_nil, or_false, not_or]; exact ⟨Nat.ne_of_lt (Nat.lt_succ_self _), Nat.ne_of_gt lS⟩
      have val : ∀ (i : Nat) (v : Value), items[i]? = some v → ∃ k t, ns[i]? = some k ∧ v = .int k t := fun i v hv => by
        have hi : i < ns.length := by rw [← size]; exact (Array.getElem?_eq_some_iff.mp hv).1
        obtain ⟨t, e⟩ := IntsAre.int_at are i v (by rw [Array.getElem?_toList]; exact hv)
        exact ⟨ns[i], t, List.getElem?_eq_getElem hi, by rw [e, List.getD_eq_getElem?_getD, List.getElem?_eq_getElem hi]; rfl⟩
      refine set_update_ints ((Walks.list free3 _ l n4 items).toS) S n5 ns size few val (items.size - 0) 0 _ (by omega) (Nat.zero_le _) ⟨⟨_, Heap.get?_push_size _ rfl, rfl, rfl⟩, (hl1.push _)⟩ ⟨0, Nat.le_refl 0, setR_new_at (Heap.get?_push_of_some _ at0)⟩ ?_
      rintro ⟨h1, g9, d9, tk, os⟩ c hm hc hR
      obtain rfl : g9 = s.gens := hm.gens
      obtain rfl : d9 = s.drawn := hm.drawn
      obtain rfl : os = s.os := hm.os
      show wpAny _ _ _ _ _ _; refine wpAny_pure ?_; show wpAny _ _ (ret Value.none) _ _ _
      refine wpAny_pure ⟨rfl, h1, tk, c, rfl, hR, size ▸ hc, fun b o e => ?_⟩
      have hb := Heap.lt_size e
      exact hm.heap b o (by rw [zS]; simp only [List.mem_cons, List.not_mem_nil, or_false, not_or]; exact ⟨Nat.ne_of_lt hb, Nat.ne_of_lt (Nat.lt_succ_of_lt hb)⟩) (Heap.get?_push_of_some _ (Heap.get?_push_of_some _ e))
    · match r, hr with
      | .error _, hr => exact hr
      | .ok .next, hr => exact hr.elim
      | .ok .brk, hr => exact hr.elim
      | .ok .cont, hr => exact hr.elim
      | .ok (.ret r), hr =>
        obtain ⟨rfl, h1, tk, c, rfl, q1, q2, q3⟩ := hr
        repeat (any_goals (first | assumption | wp_step))
        exact fin _ _ _ q1 q2 q3
end Ev

namespace Ev
open PySem PySem.Spec PyProof.Rows L2

def xW9 (x : Int) : List Int → List Int
  | [] => [x]
  | y :: ys => if x < y then x :: y :: ys else if x = y then y :: ys else y :: xW9 x ys
def zUb (ns : List Int) : List Int := ns.foldr xW9 []
theorem yUh {x k : Int} : ∀ {ys : List Int}, k ∈ xW9 x ys ↔ k = x ∨ k ∈ ys
  | [] => by simp [xW9]
  | y :: ys => by
    unfold xW9
    split
    · simp
    · split
      · rename_i e
        subst e
        simp
      · simp only [List.mem_cons, yUh (ys := ys)]
        constructor
        · rintro (h | h | h)
          · exact .inr (.inl h)
          · exact .inl h
          · exact .inr (.inr h)
        · rintro (h | h | h)
          · exact .inr (.inl h)
          · exact .inl h
          · exact .inr (.inr h)
theorem xJ5 {x : Int} : ∀ {ys : List Int}, ys.Pairwise (· < ·) → (xW9 x ys).Pairwise (· < ·)
  | [], _ => by simp [xW9]
  | y :: ys, h => by
    have h' := List.pairwise_cons.mp h
    unfold xW9
    split
    · rename_i e
      refine List.pairwise_cons.mpr ⟨fun z hz => ?_, h⟩
      rcases List.mem_cons.mp hz with q | q
      · rw [q]; exact e
      · exact Int.lt_trans e (h'.1 z q)
    · split
      · exact h
      · refine List.pairwise_cons.mpr ⟨fun z hz => ?_, xJ5 h'.2⟩
        rcases yUh.mp hz with q | q
        · rw [q]; omega
        · exact h'.1 z q
@[simp] theorem yKn {k : Int} : ∀ {ns : List Int}, k ∈ zUb ns ↔ k ∈ ns
  | [] => by simp [zUb]
  | n :: ns => by
    show k ∈ xW9 n (zUb ns) ↔ _
    rw [yUh, yKn, List.mem_cons]
theorem yYm : ∀ ns : List Int, (zUb ns).Pairwise (· < ·)
  | [] => .nil
  | n :: ns => xJ5 (yYm ns)
theorem xWn : ∀ {ns ms : List Int}, ns.Pairwise (· < ·) → ms.Pairwise (· < ·) → (∀ k, k ∈ ns ↔ k ∈ ms) → ns = ms
  | [], [], _, _, _ => rfl
  | [], m :: ms, _, _, h => by simpa using (h m).mpr (by simp)
  | n :: ns, [], _, _, h => by simpa using (h n).mp (by simp)
  | n :: ns, m :: ms, h1, h2, h => by
    have a1 := List.pairwise_cons.mp h1
    have a2 := List.pairwise_cons.mp h2
    have e : n = m := by
      have b1 := (h n).mp (by simp)
      have b2 := (h m).mpr (by simp)
      rcases List.mem_cons.mp b1 with q | q
      · exact q
      · rcases List.mem_cons.mp b2 with q2 | q2
        · exact q2.symm
        · have := a1.1 _ q2
          have := a2.1 _ q
          omega
    subst e
    rw [xWn a1.2 a2.2 fun k => ?_]
    constructor
    · intro hk
      rcases List.mem_cons.mp ((h k).mp (List.mem_cons_of_mem _ hk)) with q | q
      · exact absurd (a1.1 k hk) (by omega)
      · exact q
    · intro hk
      rcases List.mem_cons.mp ((h k).mpr (List.mem_cons_of_mem _ hk)) with q | q
      · exact absurd (a2.1 k hk) (by omega)
      · exact q
theorem xJ4 {ns ms : List Int} (g : ms.Pairwise (· < ·)) (h : ∀ k, k ∈ ms ↔ k ∈ ns) : ms = zUb ns := xWn g (yYm ns) fun k => (h k).trans yKn.symm
section
variable {X : Cx} {B : XBt} {e : Expr} {pos p p2 pos2 : Pos} {f : Pg EV}
def xVu (K : PySem.W.Frag) (w : World) : List V → Hp → VK → Prop := fun xs H Q => ∃ (a : Addr) (ns : List Int), xs = [.ref a] ∧ (SqL K H a (ns.map V.int) ∨ SqT K H a (ns.map V.int)) ∧ ns.length ≤ 4000 ∧ ∀ (p : Addr), H p = none → Q (.ref p) (upd H p (SetO w p (fun j => decide (j ∈ ns)) (zUb ns).length))
theorem xVl {w : World} {h : Heap} {a : Addr} {ns : List Int} {c : Nat} (R : SetR w h a (fun j => decide (j ∈ ns)) c) : c = (zUb ns).length := by
  obtain ⟨o, es, ep, t, _, _, _, _, nd, hm, _, _, hn, _⟩ := R
  have p : (es.toList.map keyOf).Perm (zUb ns) := (List.perm_ext_iff_of_nodup nd ((yYm ns).imp fun h e => by rw [e] at h; omega)).mpr fun k => by
    rw [← hm k, yKn]
    simp
  have l := p.length_eq
  rw [List.length_map, Array.length_toList, hn] at l
  exact l
theorem xWb (hc : X.calm = true) : CallR X (.type "set") (xVu X.K X.w) := by
  intro pins s sg H xs us Q I r ⟨a, ns, ex, hq, hl, q⟩
  subst ex
  rw [Vals.ref1 r]
  have few : ns.length + 1 < scanBound := by unfold scanBound; omega
  have fin : ∀ (h1 : Heap) (tk c : Nat), SetR X.w h1 s.heap.objs.size (fun j => decide (j ∈ ns)) c → c ≤ ns.length → (∀ b o, s.heap.get? b = some o → h1.get? b = some o) → EP X pins sg Q (.ref s.heap.objs.size) { s with heap := h1, toks := tk } := fun h1 tk c R hc k =>
    ⟨.ref s.heap.objs.size, upd H s.heap.objs.size (SetO X.w s.heap.objs.size (fun j => decide (j ∈ ns)) c), I.laid (t' := tk) k (Nat.le_refl _) (setO_new R), rfl, by
      have z := q _ (I.hok.fresh (Nat.le_refl s.heap.objs.size))
      rw [← xVl R] at z
      exact z⟩
  rcases hq with hq | hq
  · obtain ⟨its, rv, pl, hz⟩ := I.list hq
    exact yU3 ns (I.ok.hd hc) pl.isList (by simpa using RZ.intsAre_vals rv) few fin
  · obtain ⟨its, rv, pl, hz⟩ := I.tuple hq
    exact call_set_tupI ns (I.ok.hd hc) pl (by simpa using RZ.intsAre_vals rv) few fin
def xH2 : PyData → Option EV
  | .list xs => match intsOf xs with
    | some ns => if (zUb ns).length < 64 ∧ ns.length ≤ 4000 then some (.fresh ((zUb ns).map .int)) else none
    | none => none
  | .tuple xs => match intsOf xs with
    | some ns => if (zUb ns).length < 64 ∧ ns.length ≤ 4000 then some (.fresh ((zUb ns).map .int)) else none
    | none => none
  | _ => none
def yX9 (f : Pg EV) : Pg EV := .bind f fun v => look (zKn v) fun x => zK5 (xH2 x)
theorem yW1 {y z : Str} (C : Ctx X B) (h : Snd X B e f) (hg : Gl X y) (hm : X.mg y = none) (hv : bootBuiltins y = some (.builtin "sorted")) (hg2 : Gl X z) (hm2 : X.mg z = none) (hv2 : bootBuiltins z = some (.type "set"))
    (hn : y ≠ "__name__" := by decide) (hdb : (y == ("__debug__" : Str)) = false := by decide) (hn2 : z ≠ "__name__" := by decide) (hdb2 : (z == ("__debug__" : Str)) = false := by decide)
    (he : starEach [e] X.env = (false, eval e X.env) :: starEach [] X.env := by rfl) (he2 : starEach [.Call (.Name z p2) [e] [] pos2] X.env = (false, eval (.Call (.Name z p2) [e] [] pos2) X.env) :: starEach [] X.env := by rfl) :
    Snd X B (.Call (.Name y p) [.Call (.Name z p2) [e] [] pos2] [] pos) (yX9 f) := by
  intro w Q r hw
  refine zKp (pe_callB (cr_sortedSet C.calm) hg hm hv (pa_cons (pe_callTy (xWb C.calm) hg2 hm2 hv2 (pa_cons zYf pa_nil he) hn2 hdb2 he rfl) pa_nil he2) hn hdb he2 rfl) ?_
  refine zQ0 h r hw fun v w1 y e1 f1 r1 re h1 => ?_
  obtain ⟨x, ex, h1⟩ := zXs h1
  have ro := (re.ro r1).rn r1 ex
  obtain ⟨u, eu, q⟩ := zX2 h1
  have k := zVw.keep q e1 f1
  have fin : ∀ {xs : List PyData} {a : Addr} {vs : List V}, (match intsOf xs with
      | some ns => if (zUb ns).length < 64 ∧ ns.length ≤ 4000 then some (EV.fresh ((zUb ns).map .int)) else none
      | none => none) = some u → RA X.K w1.F xs vs → (SqL X.K w1.H a vs ∨ SqT X.K w1.H a vs) → xVu X.K X.w [V.ref a] w1.H fun x H => rSortedSet X.w [x] H Q := fun {xs a vs} es ra hq => by
    cases ei : intsOf xs with
    | none =>
      rw [ei] at es
      cases es
    | some ns =>
      rw [ei] at es
      have es : (if (zUb ns).length < 64 ∧ ns.length ≤ 4000 then some (EV.fresh ((zUb ns).map .int)) else none) = some u := es
      split at es
      · rename_i hl
        cases es
        rw [yQ2 ei] at ra
        have ev := ra.intsV
        subst ev
        refine ⟨a, ns, rfl, hq, hl.2, fun p hp => ⟨p, _, _, rfl, upd_same, hl.1, fun ms q g1 g2 _ hq => ?_⟩⟩
        have hms : ms = zUb ns := xJ4 g1 fun k => (g2 k).trans (by simp)
        subst hms
        obtain ⟨r2, f2⟩ := lay r1 hp (SetO X.w p (fun j => decide (j ∈ ns)) (zUb ns).length)
        have k2 : xXp X.K { w1 with H := upd w1.H p (SetO X.w p (fun j => decide (j ∈ ns)) (zUb ns).length) } (.fresh ((zUb ns).map .int)) Q := fun w' x em es f3 r3 re hn => k w' x em es (f2.trans f3) r3 re (hn.back f2)
        exact k2.lst r2 (.ints _) hq
      · cases es
  cases x with
  | list xs =>
    obtain ⟨a, vs, rfl, h1, h2⟩ := ro.lst r1.sub
    exact fin eu h2 (.inl h1.sq)
  | tuple xs =>
    obtain ⟨a, vs, rfl, h1, h2⟩ := ro.tup
    exact fin eu h2 (.inr (zXh r1.sub h1))
  | _ => cases eu
def vZj : List OV → Option EV
  | [.d (.int j)] => if -(2 ^ 62) ≤ j ∧ j ≤ 16777216 then some (.d (.tuple (zGw 0 j.toNat))) else none
  | _ => none
def xK0 (f : Pg EV) : Pg EV := .bind f fun v => look (zKn v) fun x => match x with
  | .int j => if -(2 ^ 62) ≤ j ∧ j ≤ 16777216 then .ret (.d (.tuple (zGw 0 j.toNat))) else .stuck
  | _ => .stuck
theorem xVq {j : Int} : zGw 0 j.toNat = ((List.range j.toNat).map fun i : Nat => (0 : Int) + (i : Int)).map .int := by
  unfold zGw
  rw [List.map_map]
  rfl
theorem xGl {j : Int} : rgV 0 j = ((List.range j.toNat).map fun i : Nat => (0 : Int) + (i : Int)).map V.int := by
  unfold rgV
  rw [List.map_map, Int.sub_zero]
  rfl
theorem xVd (C : Ctx X B) (h : Snd X B e f) (hg : Gl X "tuple") (hm : X.mg "tuple" = none) (hg2 : Gl X "range") (hm2 : X.mg "range" = none)
    (he : starEach [e] X.env = (false, eval e X.env) :: starEach [] X.env := by rfl) (he2 : starEach [.Call (.Name "range" p2) [e] [] pos2] X.env = (false, eval (.Call (.Name "range" p2) [e] [] pos2) X.env) :: starEach [] X.env := by rfl) :
    Snd X B (.Call (.Name "tuple" p) [.Call (.Name "range" p2) [e] [] pos2] [] pos) (xK0 f) := by
  intro w Q r hw
  refine zKp (pe_tupRg C.calm hg hm (prg_1 hg2 hm2 zYf he) he2) ?_
  refine zQ0 h r hw fun v w1 y e1 f1 r1 re h1 => ?_
  obtain ⟨x, ex, h1⟩ := zXs h1
  have ro := (re.ro r1).rn r1 ex
  cases x <;> try exact h1.elim
  rename_i j
  have h1 : ((if -(2 ^ 62) ≤ j ∧ j ≤ 16777216 then Pg.ret (EV.d (.tuple (zGw 0 j.toNat))) else .stuck) w1.m).wp (zVw X.K w Q) (XW X.K B w1) := h1
  split at h1
  · rename_i hj
    refine ⟨j, ro.int, ⟨by decide, by decide, hj.1, by omega, by omega⟩, fun q hq => ?_⟩
    have k : xXp X.K w1 (.d (.tuple (zGw 0 j.toNat))) Q := zVw.keep h1 e1 f1
    rw [xVq] at k
    rw [xGl]
    exact k.tup r1 (.ints _) hq
  · exact h1.elim
end
section
variable {m : Mem} {X : Exn → Mem → Prop} {E : EV → Mem → Prop} {P : List AV → Mem → Prop}
@[simp] theorem wWr {f : Pg EV} : W (yX9 f) m X E ↔ W f m X fun v m1 => W (look (zKn v) fun x => zK5 (xH2 x)) m1 X E := by
  unfold yX9
  simp only [zZc]
@[simp] theorem wHf {ns : List Int} : xH2 (.list (ns.map .int)) = if (zUb ns).length < 64 ∧ ns.length ≤ 4000 then some (.fresh ((zUb ns).map .int)) else none := by
  simp only [xH2, yZi]
@[simp] theorem wHe {ns : List Int} : xH2 (.tuple (ns.map .int)) = if (zUb ns).length < 64 ∧ ns.length ≤ 4000 then some (.fresh ((zUb ns).map .int)) else none := by
  simp only [xH2, yZi]
@[simp] theorem wGq {g : Fn} {n k q : Nat} {is : List Nat} {ds : List PyData} {fa fk : Pg (List AV)} : W (yQ7 g n k q is ds fa fk) m X E ↔ W fa m X fun vs m1 => W fk m1 X fun zs m2 => W (if vs.length = n ∧ zs.length = k ∧ (pick is (vs ++ zs ++ dAV ds)).length = q then zVj g (pick is (vs ++ zs ++ dAV ds)) else .stuck) m2 X E := by
  unfold yQ7
  simp only [zZc]
@[simp] theorem yYg : ∀ xs : List PyData, dataOf (dAV xs) = some xs
  | [] => rfl
  | x :: xs => by
    show dataOf (.d x :: dAV xs) = _
    rw [xQt, yYg xs]
    rfl
end
end Ev

namespace Ev
open PySem PySem.Spec PyProof.Rows L2

def rdL (f : Value → Option PyData) : List Value → Option (List PyData)
  | [] => some []
  | u :: us => (f u).bind fun d => (rdL f us).map (d :: ·)
def rdK (K : PySem.W.Frag) : Nat → Value → Option PyData
  | _, .none => some .none
  | _, .bool b => some (.bool b)
  | _, .int i _ => some (.int i)
  | _, .str s _ => some (.str s)
  | n + 1, .ref a => (K.lookup a).bind fun o => match o.data with
    | .seq its _ => if o.cls == .type "tuple" && decide (its.size ≤ 1000) then (rdL (rdK K n) its.toList).map .tuple else none
    | _ => none
  | _, _ => none
theorem xGp {K : PySem.W.Frag} {f : Value → Option PyData} (hf : ∀ u d, f u = some d → ∃ v, RelV v u ∧ ∀ F, R K F d v) : ∀ {us : List Value} {ds : List PyData}, rdL f us = some ds → ∃ vs, Vals vs us ∧ ∀ F, RA K F ds vs
  | [], ds, e => by
    cases e
    exact ⟨[], .nil, fun _ => .nil⟩
  | u :: us, ds, e => by
    unfold rdL at e
    cases e1 : f u with
    | none =>
      rw [e1] at e
      cases e
    | some d =>
      rw [e1] at e
      cases e2 : rdL f us with
      | none =>
        rw [e2] at e
        cases e
      | some es =>
        rw [e2] at e
        cases e
        obtain ⟨v, h1, h2⟩ := hf u d e1
        obtain ⟨vs, h3, h4⟩ := xGp hf e2
        exact ⟨v :: vs, .cons h1 h3, fun F => .cons (h2 F) (h4 F)⟩
def vVo (K : PySem.W.Frag) (a : Addr) (ds : List PyData) : Prop := ∃ (o : Obj) (its : Array Value) (n : Nat) (vs : List V), K.lookup a = some o ∧ o.cls = .type "tuple" ∧ o.data = .seq its n ∧ its.size ≤ 1000 ∧ Vals vs its.toList ∧ ∀ F, RA K F ds vs
theorem wQb {K : PySem.W.Frag} {n : Nat} {a : Addr} {d : PyData} (hf : ∀ u d, rdK K n u = some d → ∃ v, RelV v u ∧ ∀ F, R K F d v) (e : rdK K (n + 1) (.ref a) = some d) : ∃ ds, d = .tuple ds ∧ vVo K a ds := by
  have e : ((K.lookup a).bind fun o => match o.data with
    | .seq its _ => if o.cls == .type "tuple" && decide (its.size ≤ 1000) then (rdL (rdK K n) its.toList).map PyData.tuple else none
    | _ => none) = some d := e
  cases el : K.lookup a with
  | none =>
    rw [el] at e
    cases e
  | some o =>
    rw [el] at e
    have e : (match o.data with
      | .seq its _ => if o.cls == .type "tuple" && decide (its.size ≤ 1000) then (rdL (rdK K n) its.toList).map PyData.tuple else none
      | _ => none) = some d := e
    split at e
    · rename_i its m ed
      split at e
      · rename_i hc
        simp only [Bool.and_eq_true, decide_eq_true_eq] at hc
        cases e2 : rdL (rdK K n) its.toList with
        | none =>
          rw [e2] at e
          cases e
        | some ds =>
          rw [e2] at e
          cases e
          obtain ⟨vs, h3, h4⟩ := xGp hf e2
          exact ⟨ds, rfl, o, its, m, vs, el, beq_iff_eq.mp hc.1, ed, hc.2, h3, h4⟩
      · cases e
    · cases e
theorem xVr {K : PySem.W.Frag} : ∀ (n : Nat) (u : Value) (d : PyData), rdK K n u = some d → ∃ v, RelV v u ∧ ∀ F, R K F d v
  | n, .none, d, e => by
    cases n <;> (cases e; exact ⟨.non, rfl, fun _ => .non⟩)
  | n, .bool b, d, e => by
    cases n <;> (cases e; exact ⟨.bl b, rfl, fun _ => .bl b⟩)
  | n, .int i t, d, e => by
    cases n <;> (cases e; exact ⟨.int i, ⟨t, rfl⟩, fun _ => .int i⟩)
  | n, .str s t, d, e => by
    cases n <;> (cases e; exact ⟨.str s, ⟨t, rfl⟩, fun _ => .str s⟩)
  | 0, .ref a, d, e => by cases e
  | n + 1, .ref a, d, e => by
    obtain ⟨ds, rfl, o, its, m, vs, h1, h2, h3, h4, h5, h6⟩ := wQb (xVr n) e
    exact ⟨.ref a, rfl, fun F => .tup (.inr ⟨o, its, m, h1, h2, h3, by rw [sizeLine_eq]; omega, h5⟩) (h6 F)⟩
  | n, .float _ _, d, e => by cases n <;> cases e
  | n, .bytes _ _, d, e => by cases n <;> cases e
  | n, .type _, d, e => by cases n <;> cases e
  | n, .builtin _, d, e => by cases n <;> cases e
  | n, .ellipsis, d, e => by cases n <;> cases e
  | n, .notImplemented, d, e => by cases n <;> cases e
theorem wQ5 {K : PySem.W.Frag} {mg : Str → Option Value} {x : Str} {u : Value} {n : Nat} {d : PyData} (h : mg x = some u) (e : rdK K n u = some d) : GM K mg x d := by
  obtain ⟨v, h1, h2⟩ := xVr n u d e
  exact ⟨v, u, h, h1, h2⟩
end Ev

namespace Ev
open PySem PySem.Spec PyProof.Rows L2
section
variable {X : Cx} {B : XBt} {e o : Expr} {es : List Expr} {pos p : Pos} {f fo fa : Pg EV}
end
section
variable {X : Cx} {B : XBt}
def yX1 (es more : List (PyData × PyData)) : List (PyData × PyData) := more.foldl (fun acc kv => wZh acc kv.1 kv.2) es
theorem RK.merge {K : PySem.W.Frag} {F : Hp} {more : List (PyData × PyData)} : ∀ {es : List (PyData × PyData)} {mvs kvs : List (Key × V)}, RK K F es kvs → RK K F more mvs → RK K F (yX1 es more) (mergeK kvs mvs) := by
  induction more with
  | nil =>
    intro es mvs kvs h g
    cases g
    exact h
  | cons p more ih =>
    intro es mvs kvs h g
    cases g with
    | @cons k d es' v kvs' hd t =>
      show RK K F (yX1 (wZh es (yVq k) d) more) (mergeK (putK kvs k v) kvs')
      exact ih (h.put hd k) t
theorem wY4 {K : PySem.W.Frag} {F : Hp} {kk : Key} {v : V} (h : R K F (yVq kk) v) : v = kV kk := by
  cases kk with
  | inl i =>
    cases (show R K F (.int i) v from h)
    rfl
  | inr i =>
    cases (show R K F (.str i) v from h)
    rfl
end
theorem yKd {K : PySem.W.Frag} {w1 : Wd} {T : Addr} {x y : V} {d e : PyData} (r : Rep K w1) (hT : w1.H T = none) (hx : R K w1.F d x) (hy : R K w1.F e y) :
    ∃ w2 : Wd, w2.m = w1.m ∧ w2.sg = w1.sg ∧ w2.H = upd w1.H T (.tup [x, y]) ∧ FolE w1 w2 ∧ Rep K w2 ∧ R K w2.F (.tuple [d, e]) (.ref T) ∧ ∀ a, w2.F a ≠ none → w1.F a ≠ none ∨ w1.H a = none := by
  obtain ⟨r2, f2⟩ := yW6 r hT (.tup [x, y])
  refine ⟨{ w1 with F := upd w1.F T (.tup [x, y]), H := upd w1.H T (.tup [x, y]) }, rfl, rfl, rfl, f2, r2, .tup (.inl (.inl upd_same)) (.cons (hx.mono f2.ext) (.cons (hy.mono f2.ext) .nil)), fun a h => ?_⟩
  by_cases q : a = T
  · rw [q]
    exact .inr hT
  · exact .inl (by
      have h : upd w1.F T (.tup [x, y]) a ≠ none := h
      rw [upd_ne q] at h
      exact h)
section
variable {X : Cx} {B : XBt} {e e2 : Expr} {p pos tpos : Pos} {elts : List Expr} {kk : Nat} {fa : Pg (List AV)}
def yVf (xs : List PyData) : List PyData := xs.mapIdx fun i x => .tuple [.int (i : Nat), x]
theorem xJb {K : PySem.W.Frag} {w : Wd} {a : Addr} {xs : List V} {ds : List PyData} (ha : LQ K w.F a xs) (ra : RA K w.F ds xs) : xQy K w (Ite K a) (yVf ds) := by
  intro w1 f r i
  have qa : SqL K w1.H a xs := ((ha.mono f.ext).mox r.sub).sq
  refine ⟨fun d hd => ?_, fun hl => ⟨xs, qa, ?_⟩⟩
  · unfold yVf at hd
    rw [List.getElem?_mapIdx] at hd
    cases e1 : ds[i]? with
    | none =>
      rw [e1] at hd
      cases hd
    | some d1 =>
      rw [e1] at hd
      cases hd
      obtain ⟨x, hx, rx⟩ := ra.get e1
      refine ⟨⟨xs, x, qa, hx⟩, fun v H' yl => ?_⟩
      obtain ⟨T, x', rfl, hT, rfl, g1⟩ := yl
      have e1 := (g1 xs qa).symm.trans hx
      cases e1
      exact yKd r hT (.int _) (rx.mono f.ext)
  · rw [← ra.len]
    unfold yVf at hl
    rw [List.length_mapIdx] at hl
    exact hl
end
end Ev

namespace Ev
open PySem PySem.Spec PyProof.Rows L2
section
variable {X : Cx} {B : XBt} {e o c : Expr} {es : List Expr} {pos p : Pos} {f fo fa fc : Pg EV}
def xU4 (X : Cx) (B : XBt) (pos : Pos) (ks : List (Option Expr)) (vs : List Expr) (f : Pg (List (PyData × PyData))) : Prop := ∃ trs : List (TE × TE), PPs X pos ks vs trs ∧ ∀ (w : Wd) (Q : List (V × V) → Hp → Prop), Rep X.K w →
  (f w.m).wp (fun es m' => ∀ (w' : Wd) (kvs : List (Key × V)), w'.m = m' → w'.sg = w.sg → FolE w w' → Rep X.K w' → RK X.K w'.F es kvs → Q (kvs.map fun kv => (kV kv.1, kv.2)) w'.H) (XW X.K B w) → tPairs trs w.sg w.H Q
theorem xVi : xU4 X B pos [] [] (.ret []) := ⟨[], pps_nil, fun w Q r h => h w [] rfl rfl (FolE.refl w) r .nil⟩
def zGa (fk fv : Pg EV) (g : Pg (List (PyData × PyData))) : Pg (List (PyData × PyData)) := .bind fk fun k => .bind (toA k) fun ka => .bind (yQr ka) fun kd => if zGc kd then .bind fv fun v => .bind (toA v) fun va => .bind (yQr va) fun vd => .bind g fun r => .ret ((kd, vd) :: r) else .stuck
theorem zK4 {ks : List (Option Expr)} {vs : List Expr} {g : Pg (List (PyData × PyData))} (hk : Snd X B e f) (hv : Snd X B o fo) (hr : xU4 X B pos ks vs g) : xU4 X B pos (some e :: ks) (o :: vs) (zGa f fo g) := by
  obtain ⟨trs, pp, run⟩ := hr
  refine ⟨(WE X e, WE X o) :: trs, pps_cons zYf zYf pp, fun w Q r hw => ?_⟩
  show WE X e w.sg w.H _
  refine zQ0 hk r hw fun k w1 x e1 f1 r1 re h1 => ?_
  obtain ⟨ka, w2, ea, e2, e3, f2, r2, rv⟩ := zYi r1 re
  have h2 := wp_bind h1
  rw [ea] at h2
  obtain ⟨kd, rfl, h3⟩ := zHm (wp_bind (show (Pg.bind (yQr ka) _ w2.m).wp _ _ from h2))
  rw [← e3, ← e1, ← e2]
  split at h3
  · rename_i hkb
    obtain ⟨kk, rfl⟩ := yJw hkb
    have rv : R X.K w2.F (yVq kk) x := rv
    refine zQ0 hv r2 (h3.imp (fun _ _ z => z) fun _ _ z => z.fol (f2.s r1)) fun v w3 y e4 f3 r3 re3 h4 => ?_
    obtain ⟨va, w4, ea4, e5, e6, f4, r4, rv4⟩ := zYi r3 re3
    have h5 := wp_bind h4
    rw [ea4] at h5
    obtain ⟨vd, rfl, h6⟩ := zHm (wp_bind (show (Pg.bind (yQr va) _ w4.m).wp _ _ from h5))
    have rv4 : R X.K w4.F vd y := rv4
    rw [← e6, ← e4, ← e5]
    refine run w4 _ r4 ((wp_bind h6).imp (fun es m' q w5 kvs em e7 f5 r5 rk => ?_) fun _ _ z => z.fol (f4.s r3))
    subst em
    have q := q w5 ((kk, y) :: kvs) rfl (e7.trans (e5.trans (e4.trans (e2.trans e1)))) (f1.trans (f2.trans (f3.trans (f4.trans f5)))) r5 (.cons (rv4.mono f5.ext) rk)
    rw [wY4 rv]
    exact q
  · exact h3.elim
def xXc (f : Pg (List (PyData × PyData))) : Pg EV := .bind (yVe f) fun es => if es.length ≤ 15 then .ret (.new (.dic (yX1 [] es))) else .stuck
theorem xYn {keys : List (Option Expr)} {values : List Expr} {fp : Pg (List (PyData × PyData))} (h : xU4 X B pos keys values fp) (hall : keys.all (·.isSome) = true := by rfl) (hl : keys.length = values.length := by rfl) (h0 : keys ≠ [] := by simp)
    (h15 : keys.length ≤ 15 := by decide) : Snd X B (.Dict keys values pos) (xXc fp) := by
  obtain ⟨trs, pp, run⟩ := h
  intro w Q r hw
  refine zKp (pe_disp pp hall hl h0 h15) ?_
  intro p hp
  obtain ⟨rl, fl⟩ := lay r hp (.dK [])
  have fD : w.F p = none := r.noF hp
  generalize hZd : (fun a => w.Z a ∨ a = p) = Zd
  have zSub : ∀ a, w.Z a → Zd a := fun a h => by rw [← hZd]; exact .inl h
  have zD : Zd p := by rw [← hZd]; exact .inr rfl
  have zInv : ∀ a, Zd a → w.Z a ∨ a = p := fun a h => by rw [← hZd] at h; exact h
  have r0 : Rep X.K (reZ { w with H := upd w.H p (.dK []) } Zd) := yVm rl (fun a h => by
    rcases zInv a h with q | q
    · exact rl.zl a q
    · rw [q]
      show upd w.H p (.dK []) p ≠ none
      rw [upd_same]
      simp) (fun a h z => by
    rcases zInv a z with q | q
    · exact (rl.ownAt h).2.2.2 q
    · rw [q] at h
      exact (r.ownAt (show Own w p from h)).1 hp) fun d a hd z => by
    rcases zInv d z with q | q
    · exact q
    · rw [q] at hd
      have hd : upd w.H p (.dK []) p = some (.own a) := hd
      rw [upd_same] at hd
      cases hd
  have hw' := yXj (wp_bind hw)
  refine run (reZ { w with H := upd w.H p (.dK []) } Zd) _ r0 (Res.wp.imp hw' (fun es m' q w' kvs em e1 f1 r1 rk => ?_) fun _ _ z => z.elim)
  have pro : p ∉ w.ro := fun z => r.roLive z hp
  have z' : w'.Z = Zd := f1.z
  have d1 : w'.H p = some (.dK []) := f1.frm p _ (show upd w.H p (.dK []) p = _ from upd_same) pro (by intro _ z; cases z)
  have d2 : p ∉ w'.ro := fun z => (f1.new p z).elim pro fun q => by
    have q : upd w.H p (.dK []) p = none := q
    rw [upd_same] at q
    cases q
  have d3 : w'.F p = none := Classical.byContradiction fun q => (f1.grow p q).elim (fun z => z fD) fun z => z zD
  have nO : ¬ Own w' p := fun z => (r1.ownAt z).2.2.2 (by rw [z']; exact zD)
  refine ⟨d1, kvs, rfl, ?_, ?_⟩
  · have q : ((if es.length ≤ 15 then .ret (.new (.dic (yX1 [] es))) else .stuck : Pg EV) m').wp (zVw X.K w Q) (XW X.K B w) := q
    split at q
    · rename_i hl
      rw [← rk.len]
      exact hl
    · exact q.elim
  have q : ((if es.length ≤ 15 then .ret (.new (.dic (yX1 [] es))) else .stuck : Pg EV) m').wp (zVw X.K w Q) (XW X.K B w) := q
  split at q
  · have r9 := wHn (o := .dK (mergeK [] kvs)) r1 d3 d2 nO (fun {a d} z e => by rw [e, d1] at z; cases z) (fun C d vs z => by rw [d1] at z; cases z) ⟨_, d1, fun z => z⟩
    have r10 := yYz r9 (Z := w.Z) fun a h => by
      show w'.Z a
      rw [z']
      exact zSub a h
    have fo : FolE w (reZ { w' with H := upd w'.H p (.dK (mergeK [] kvs)) } w.Z) := ⟨rfl, f1.t, f1.ext, f1.pre, fun a o h n k => by
      have na : a ≠ p := fun e => by rw [e, hp] at h; cases h
      show upd w'.H p (.dK (mergeK [] kvs)) a = some o
      rw [upd_ne na]
      exact f1.frm a o (by show upd w.H p (.dK []) a = some o; rw [upd_ne na]; exact h) n k, fun a h => (f1.new a h).imp id fun q => by
      by_cases na : a = p
      · rw [na]; exact hp
      · have q : upd w.H p (.dK []) a = none := q
        rw [upd_ne na] at q
        exact q, fun a h => by
      have na : a ≠ p := fun e => h (by rw [e]; exact hp)
      show upd w'.H p (.dK (mergeK [] kvs)) a ≠ none
      rw [upd_ne na]
      exact f1.liv a (by show upd w.H p (.dK []) a ≠ none; rw [upd_ne na]; exact h), fun a h => (f1.grow a h).imp id fun q z => q (zSub a z), fun a h => f1.own a h⟩
    exact q (reZ { w' with H := upd w'.H p (.dK (mergeK [] kvs)) } w.Z) (.ref p) em e1 fo r10 ⟨p, rfl, ⟨_, upd_same, RK.merge .nil rk⟩, d3, d2, fun z => r.zl p z hp, nO⟩
  · exact q.elim
end
end Ev

namespace Ev
open PySem PySem.Spec PyProof.Rows L2
section
variable {α β : Type} {m : Mem} {X : Exn → Mem → Prop} {P Q : α → Mem → Prop} {R : β → Mem → Prop} {E : EV → Mem → Prop} {F : Fl → Mem → Prop} {T : Bool → Mem → Prop} {D : List (PyData × PyData) → Mem → Prop} {L : List PyData → Mem → Prop}
@[simp] theorem vQ7 {f : Pg (List (PyData × PyData))} : W (xXc f) m X E ↔ W f m noX fun es m1 => es.length ≤ 15 ∧ E (.new (.dic (yX1 [] es))) m1 := by
  unfold xXc
  rw [zZc, yU8]
  constructor
  · intro h
    refine h.mono fun es m1 q => ?_
    by_cases hl : es.length ≤ 15
    · rw [if_pos hl] at q
      exact ⟨hl, q.go⟩
    · rw [if_neg hl] at q
      exact q.go.elim
  · intro h
    refine h.mono fun es m1 ⟨hl, q⟩ => ?_
    rw [if_pos hl]
    exact ⟨q⟩
@[simp] theorem wGi {fk fv : Pg EV} {g : Pg (List (PyData × PyData))} : W (zGa fk fv g) m X D ↔ W fk m X fun k m1 => W (toA k) m1 X fun ka m2 => W (yQr ka) m2 X fun kd m3 => W (if zGc kd then .bind fv fun v => .bind (toA v) fun va => .bind (yQr va) fun vd => .bind g fun r => .ret ((kd, vd) :: r) else .stuck) m3 X D := by
  unfold zGa
  simp only [zZc]
@[simp] theorem wH1 {s : Str} : zGc (.str s) = true := rfl
@[simp] theorem wH2 {s : Int} : zGc (.int s) = true := rfl
@[simp] theorem wZ1 {es : List (PyData × PyData)} : yX1 es [] = es := rfl
@[simp] theorem wQx {es r : List (PyData × PyData)} {k v : PyData} : yX1 es ((k, v) :: r) = yX1 (wZh es k v) r := rfl
@[simp] theorem wUj {ns ms : List Int} : zKu .Lt (.tuple (ns.map .int)) (.tuple (ms.map .int)) = some (ltL ns ms) := by
  simp only [zKu, yZi]
theorem xWr {is : List Nat} {g : PyData → Pg Unit} {t : Pg Bool} {e : Pg EV} {ds : List PyData} (b : PyData → Bool) (φ : PyData → PyData) (hl : ds.length < 16777216)
    (h : ∀ d, d ∈ ds → W (g d) m X fun _ m1 => W t m1 noX fun k m2 => k = b d ∧ if k = true then W e m2 noX fun v m3 => W (toA v) m3 X fun a m4 => a = .d (φ d) ∧ (⟨zKo is m4.sl, m4.cs⟩ : Mem) = m else (⟨zKo is m2.sl, m2.cs⟩ : Mem) = m)
    (hE : E (.fresh ((ds.filter b).map φ)) m) : W (yZb is g t e ds []) m X E := by
  refine yGb (fun ds' acc m' => ∃ pre, ds = pre ++ ds' ∧ acc = (pre.filter b).map φ ∧ m' = m) ⟨[], rfl, rfl, rfl⟩ ?_ ?_
  · rintro d ds' acc m' ⟨pre, e1, rfl, rfl⟩
    have hd : d ∈ ds := by rw [e1]; simp
    have la : ((pre.filter b).map φ).length < 16777216 := by
      rw [List.length_map]
      have h1 := List.length_filter_le b pre
      have h2 : pre.length ≤ ds.length := by rw [e1, List.length_append]; omega
      omega
    have e2 : ds = (pre ++ [d]) ++ ds' := by rw [e1]; simp
    refine (h d hd).mono fun _ m1 q => q.mono fun k m2 q => ?_
    obtain ⟨hk, q⟩ := q
    cases k with
    | true =>
      rw [if_pos rfl] at q ⊢
      refine q.mono fun v m3 q => q.mono fun a m4 q => ?_
      exact ⟨φ d, q.1, la, pre ++ [d], e2, by rw [List.filter_append, List.map_append, List.filter_cons, ← hk]; simp, q.2⟩
    | false =>
      rw [if_neg (by simp)] at q ⊢
      exact ⟨pre ++ [d], e2, by rw [List.filter_append, List.map_append, List.filter_cons, ← hk]; simp, q⟩
  · rintro acc m' ⟨pre, e1, rfl, rfl⟩
    rw [List.append_nil] at e1
    rw [← e1]
    exact hE
structure Kin (t : PyData) : Prop where
  k : zVk t = true
  i : ∀ xs x, t = .tuple xs → x ∈ xs → zVk x = true
theorem Fit.kin {k B : Nat} {d : PyData} (h : Fit k B d) : Kin d := ⟨h.zVk, fun xs x e hx => by
  subst e
  exact (h.tup_mem hx).zVk⟩
@[simp] theorem vXs  : isI .none = false := rfl
@[simp] theorem vXw {b : Bool} : isI (.bool b) = true := rfl
@[simp] theorem vXu {i : Int} : isI (.int i) = true := rfl
@[simp] theorem vXr {z : Str} : isI (.str z) = false := rfl
@[simp] theorem vXt {xs : List PyData} : isI (.list xs) = false := rfl
@[simp] theorem vXq {xs : List PyData} : isI (.tuple xs) = false := rfl
@[simp] theorem vXv {es : List (PyData × PyData)} : isI (.dict es) = false := rfl
@[simp] theorem vX6  : isB .none = false := rfl
@[simp] theorem vJa {b : Bool} : isB (.bool b) = true := rfl
@[simp] theorem vX8 {i : Int} : isB (.int i) = false := rfl
@[simp] theorem vX5 {z : Str} : isB (.str z) = false := rfl
@[simp] theorem vX7 {xs : List PyData} : isB (.list xs) = false := rfl
@[simp] theorem vX4 {xs : List PyData} : isB (.tuple xs) = false := rfl
@[simp] theorem vX9 {es : List (PyData × PyData)} : isB (.dict es) = false := rfl
@[simp] theorem vXe  : isS .none = false := rfl
@[simp] theorem vXi {b : Bool} : isS (.bool b) = false := rfl
@[simp] theorem vXg {i : Int} : isS (.int i) = false := rfl
@[simp] theorem vXd {z : Str} : isS (.str z) = true := rfl
@[simp] theorem vXf {xs : List PyData} : isS (.list xs) = false := rfl
@[simp] theorem vXc {xs : List PyData} : isS (.tuple xs) = false := rfl
@[simp] theorem vXh {es : List (PyData × PyData)} : isS (.dict es) = false := rfl
@[simp] theorem vXl  : isL .none = false := rfl
@[simp] theorem vXp {b : Bool} : isL (.bool b) = false := rfl
@[simp] theorem vXn {i : Int} : isL (.int i) = false := rfl
@[simp] theorem vXk {z : Str} : isL (.str z) = false := rfl
@[simp] theorem vXm {xs : List PyData} : isL (.list xs) = true := rfl
@[simp] theorem vXj {xs : List PyData} : isL (.tuple xs) = false := rfl
@[simp] theorem vXo {es : List (PyData × PyData)} : isL (.dict es) = false := rfl
@[simp] theorem vZ7  : isT .none = false := rfl
@[simp] theorem vXb {b : Bool} : isT (.bool b) = false := rfl
@[simp] theorem vZ9 {i : Int} : isT (.int i) = false := rfl
@[simp] theorem vZ6 {z : Str} : isT (.str z) = false := rfl
@[simp] theorem vZ8 {xs : List PyData} : isT (.list xs) = false := rfl
@[simp] theorem vZ5 {xs : List PyData} : isT (.tuple xs) = true := rfl
@[simp] theorem vXa {es : List (PyData × PyData)} : isT (.dict es) = false := rfl
@[simp] theorem vXz  : isD .none = false := rfl
@[simp] theorem vX3 {b : Bool} : isD (.bool b) = false := rfl
@[simp] theorem vX1 {i : Int} : isD (.int i) = false := rfl
@[simp] theorem vXy {z : Str} : isD (.str z) = false := rfl
@[simp] theorem vX0 {xs : List PyData} : isD (.list xs) = false := rfl
@[simp] theorem vXx {xs : List PyData} : isD (.tuple xs) = false := rfl
@[simp] theorem vX2 {es : List (PyData × PyData)} : isD (.dict es) = true := rfl
end
end Ev

namespace Ev
open PySem PySem.Spec PyProof.Rows L2
section
variable {X : Cx} {B : XBt} {e o c : Expr} {es : List Expr} {st : Stmt} {pos p : Pos} {f fo fa fc : Pg EV}
end
section
variable {m : Mem} {X : Exn → Mem → Prop} {E : EV → Mem → Prop}
end
end Ev

namespace PySem.W
open PySem PySem.Spec PySem.Calls PyProof.Rows
section
variable {M : Model} {K : Frag}
end
end PySem.W
namespace Ev
open PySem PySem.Spec PyProof.Rows L2
section
variable {X : Cx} {n : Str} {ty : Expr} {km : Value → Option Bool} {i : Nat} {body suite : List Stmt} {b₀ : Stmt} {np pos pos' : Pos} {tb : WX → TS} {ts : Addr → Value → Option Addr → TS} {Wout : WX}
end
end Ev

namespace Ev
open PySem PySem.Spec PyProof.Rows L2
structure OexG (K : PySem.W.Frag) (C : Addr) : Prop where
  bs : ∃ (N nI iI : String) (tl : List Value), ExcBaseFacts N nI iI tl ∧ StoreFacts N tl "object.__setattr__" "object" ∧ PySem.W.excInitIn K C tl nI = true ∧ PySem.W.excOver K C tl = true
  hd : PySem.W.hasDictIn K C = true
  sa : PySem.W.findIn K (.ref C) "__setattr__" = some (some (.builtin "object.__setattr__"))
  ex : PySem.W.subIn K (.ref C) (.type "BaseException") = some true
  ty : PySem.W.typeIn K (.ref C) = some (.type "type")
  kp : PySem.W.keepIn K (.ref C) = true
theorem xV9 {K : PySem.W.Frag} {C : Addr} {f : Str} (h : PySem.W.findIn K (.ref C) f = some none) : PySem.W.takerIn K C f = some none := by
  unfold PySem.W.takerIn
  rw [h] <;> rfl
section
variable {X : Cx} {pins : List (Addr × Obj)} {sg : L2.St} {H : Hp} {s : Shared} {a C dx : Addr} {f : Str} {y : V} {u : Value} {fs : List (Str × V)} {Q : Unit → Shared → Prop} {E : Value → Shared → Prop} {A : Around}
theorem xHt (T : OexG X.K C) (I : L2.Inv X pins sg H s) (e : H a = some (exo a C none)) (hno : PySem.W.findIn X.K (.ref C) f = some none) (ry : RelV y u)
    (h : ∀ dx s', H dx = none → dx ≠ a → L2.Inv X pins sg (upd (upd H dx (exd dx [(f, y)])) a (exo a C (some dx))) s' → Q () s') : wpAny (model X.prog X.w) A (setAttr (.ref a) f u) Q E s := by
  obtain ⟨N, nI, iI, tl, _, SF, _, hov⟩ := T.bs
  obtain ⟨t1, ho⟩ := exo_at I.hok e
  obtain ⟨hp, g, d, t, os⟩ := s
  have at0 : PySem.W.InstAt hp a { cls := .ref C, dict := none, data := .fields #[.ref t1, .none, .none, .none, .bool false, .none] } C none := ⟨ho, rfl, rfl, trivial⟩
  refine PySem.W.set_plain I.kIn at0 T.sa (PySem.W.osa_openX (s := ⟨hp, g, d, t + 1, os⟩) SF I.kIn at0 hov (xV9 hno) fun b => ?_)
  obtain ⟨cd, hc, hd'⟩ := PySem.W.any_some T.hd
  have Lc : PySem.W.Looks (model X.prog X.w) hp (classData C) cd := PySem.W.looks_clsIn I.kIn hc
  have lt : a < hp.objs.size := Heap.lt_size ho
  have nas : a ≠ hp.objs.size := Nat.ne_of_lt lt
  refine wpAny_bind (wpAny_pure (wpAny_bind ?_))
  refine PySem.W.instanceDict_exc (s := ⟨hp, g, d, t + 1, os⟩) (t := t1) (c2 := .none) ho Lc hd' ?_
  show wpAny _ _ (Builtin.ObjectAttr.storeInDict hp.objs.size (.str f t) f u) _ _ _
  refine PySem.HandSPX.store_in_new ?_ fun h' tk' hn' hs => ?_
  · exact ⟨_, #[], _, (Heap.get?_update_ne _ _ _ _ nas.symm).trans (Heap.get?_push_at rfl rfl), rfl, fun e he => absurd he (by simp), fun _ => rfl⟩
  have hnd : H hp.objs.size = none := I.hok.fresh (Nat.le_refl _)
  have na : ∀ {b : Addr}, H b = none → b ≠ a := fun {b} n z => by
    rw [z, e] at n
    cases n
  have ls : ∀ {b : Addr} {o : Obj}, hp.get? b = some o → b ≠ hp.objs.size := fun {b o} q => Nat.ne_of_lt (Heap.lt_size q)
  have keep : ∀ b o, b ≠ a → hp.get? b = some o → h'.get? b = some o := fun b o hb q => by
    rw [hs.2 b (ls q), Heap.get?_update_ne _ _ _ _ hb]
    exact Heap.get?_push_of_some _ q
  have hx : h'.get? a = some ({ cls := .ref C, dict := some hp.objs.size, data := .fields #[.ref t1, .none, .none, .none, .bool false, .none] } : Obj) := by
    rw [hs.2 a nas]
    exact Heap.get?_update_self _ (Heap.get?_push_of_some _ ho) rfl
  have U : Un X.fs [] H (upd (upd H hp.objs.size (exd hp.objs.size [(f, y)])) a (exo a C (some hp.objs.size))) hp h' := {
    keep := fun b o q n _ _ => keep b o (na n) q
    slot := fun b o q n _ _ => ⟨o.slots, keep b o (na n) q⟩
    free := fun b o q n _ => by
      rw [upd_ne (na n), upd_ne (ls q)]
      exact n
    there := fun b o q _ => by
      by_cases hb : b = a
      · subst hb
        exact ⟨_, hx⟩
      · exact ⟨o, keep b o hb q⟩
    tups := fun b xs q => by
      rw [upd_ne (at_ne e q exo_tup), upd_ne (ne_of_none q hnd)]
      exact q
    frzs := fun b o v q => by
      rw [upd_ne (at_ne e q exo_frz), upd_ne (ne_of_none q hnd)]
      exact q
    tbls := fun b ps q => ⟨#[], by
      rw [upd_ne (at_ne e q exo_tbl), upd_ne (ne_of_none q hnd), q]
      simp⟩ }
  refine h hp.objs.size _ hnd nas.symm (I.un (t' := tk') U fun b o q => ?_)
  by_cases hb : b = a
  · subst hb
    rw [upd_same] at q
    cases q
    exact exo_ok hx
  · rw [upd_ne hb] at q
    by_cases hd : b = hp.objs.size
    · subst hd
      rw [upd_same] at q
      cases q
      exact exd_ok hn' (relO_put (fs := []) ry fun g => True.intro)
    · rw [upd_ne hd] at q
      refine (I.hok b o q).stay (fun c v hc z => keep c v ?_ z) (fun c hc => ?_) fun c xs hc => ?_
      · rcases hc with hc | hc
        · rw [hc]
          exact hb
        · exact at_ne e hc exo_own
      · rw [upd_ne (at_ne e hc exo_own), upd_ne (ne_of_none hc hnd)]
        exact hc
      · rw [upd_ne (at_ne e hc exo_tup), upd_ne (ne_of_none hc hnd)]
        exact hc
theorem xHs (T : OexG X.K C) (I : L2.Inv X pins sg H s) (e : H a = some (exo a C (some dx))) (ed : H dx = some (exd dx fs)) (hl : fs.length ≤ 900) (hno : PySem.W.findIn X.K (.ref C) f = some none) (ry : RelV y u)
    (h : ∀ s', L2.Inv X pins sg (upd H dx (exd dx ((f, y) :: fs))) s' → Q () s') : wpAny (model X.prog X.w) A (setAttr (.ref a) f u) Q E s := by
  obtain ⟨N, nI, iI, tl, _, SF, _, hov⟩ := T.bs
  obtain ⟨t1, ho⟩ := exo_at I.hok e
  obtain ⟨mA, hns, rel⟩ := exd_at I.hok ed
  have hw := within_of rel
  obtain ⟨hp, g, d, t, os⟩ := s
  obtain ⟨oD, _, _, hoD, _, _⟩ := hns.count hw
  have at0 : PySem.W.InstAt hp a { cls := .ref C, dict := some dx, data := .fields #[.ref t1, .none, .none, .none, .bool false, .none] } C (some oD) := ⟨ho, rfl, rfl, hoD⟩
  refine PySem.W.set_plain I.kIn at0 T.sa (PySem.W.osa_openX (s := ⟨hp, g, d, t + 1, os⟩) SF I.kIn at0 hov (xV9 hno) fun b => ?_)
  obtain ⟨cd, hc, hd'⟩ := PySem.W.any_some T.hd
  have Lc : PySem.W.Looks (model X.prog X.w) hp (classData C) cd := PySem.W.looks_clsIn I.kIn hc
  refine wpAny_bind (wpAny_pure (wpAny_bind (wpAny_bind (wpAny_loadPart ho (wpAny_bind (Lc.here ?_))))))
  rw [hd']
  refine wpAny_pure (a := some dx) ?_
  show wpAny _ _ (Builtin.ObjectAttr.storeInDict dx (.str f t) f u) _ _ _
  refine PySem.OEX.store_in_old hns hw (by rw [List.length_map]; omega) fun h' tk' hn hs => ?_
  have hd : ∃ o, h'.get? dx = some o := by
    obtain ⟨o, _, _, e', _⟩ := hn
    exact ⟨o, e'⟩
  exact h _ (I.write (t' := tk') (x := dx) (e := dx) (o := exd dx ((f, y) :: fs)) (by rw [ed]; exact True.intro) (.inl rfl) (fun b o hb q => (hs.2 b hb).trans q) hd (exd_ok hn (relO_put ry rel)))
end
def vZn (K : PySem.W.Frag) (f : Str) (to te : TE) : TS := fun D sg H => te sg H fun y H1 => to sg H1 fun x H2 => ∃ a C : Addr, x = .ref a ∧ OexG K C ∧ PySem.W.findIn K (.ref C) f = some none ∧
  ((H2 a = some (exo a C none) ∧ ∀ dx, H2 dx = none → dx ≠ a → D.nx sg (upd (upd H2 dx (exd dx [(f, y)])) a (exo a C (some dx)))) ∨
    ∃ (dx : Addr) (fs : List (Str × V)), H2 a = some (exo a C (some dx)) ∧ H2 dx = some (exd dx fs) ∧ fs.length ≤ 900 ∧ D.nx sg (upd H2 dx (exd dx ((f, y) :: fs))))
def vZo (C : Addr) (sp : Sp) (dvs : List V) (ta : TA) : L2.St → Hp → XK → Prop := fun sg H Q => ta sg H fun vs H1 => vs.length ≤ 1000 ∧ ∀ a, H1 a = none → sp (.ref a :: (vs ++ dvs)) (upd H1 a (exo a C none))
  (fun v H2 => v = .non ∧ ∃ (d : Addr) (fs : List (Str × V)), H2 a = some (exo a C (some d)) ∧ H2 d = some (exd d fs) ∧ H1 d = none ∧ Q (.ref C) (some d) (upd (del H2 a) d (.xd fs))) (fun _ _ _ => False)
section
variable {X : Cx} {o e : Expr} {es : List Expr} {to te : TE} {ta : TA} {f : Str} {p p' p1 p2 pos : Pos}
theorem wX1 (ho : PE X o to) (he : PE X e te) (hs : swapsWith e (some (.Attribute o f p')) pos.line X.env = pure false := by rfl) : PS X (.Assign [.Attribute o f p'] e pos) (vZn X.K f to te) := by
  refine ⟨fun pins s sg H D I h => ?_⟩
  refine plainObj_wpAny_Assign_Attribute (thn (he.run pins s sg H _ I h) fun v s1 ⟨y, H1, I1, r1, q1⟩ => ?_) hs
  refine thn (ho.run pins s1 sg H1 _ I1 q1) fun u s2 ⟨x, H2, I2, r2, a, C, ex, T, hno, q⟩ => ?_
  subst ex
  obtain rfl : u = Value.ref a := r2
  rcases q with ⟨ea, q⟩ | ⟨dx, fs, ea, ed, hl, q⟩
  · exact xHt T I2 ea hno r1 fun dx s' n ne J => ⟨sg, _, J, q dx n ne⟩
  · exact xHs T I2 ea ed hl hno r1 fun s' J => ⟨sg, _, J, q⟩
theorem wYm {CX : CXT} {x : Str} {C fI : Addr} {k : Nat} {fd : FuncData} {ps : List Str} {sp : Sp} {ds : List Value} {dvs : List V} (T : OexG X.K C) (iC : PySem.W.findIn X.K (.ref C) "__init__" = some (some (.ref fI))) (tI : PySem.W.typeIn X.K (.ref fI) = some (.type "function"))
    (F1 : FnOk X.prog X.w X.K X.mg X.base CX k fI fd ps sp) (hr : Room (k + 1) X.A) (hb : Binds X.K fd ps ds) (hd : Vals dvs ds) (hx : Passes CX X (fun _ _ _ => False)) (hg : Gl X x) (hm : X.mg x = some (.ref C)) (ha : PA X (e :: es) ta)
    (hdb : (x == ("__debug__" : Str)) = false := by decide) (he : starEach (e :: es) X.env = (false, eval e X.env) :: starEach es X.env := by rfl) (hpl : (backTo pos (starEach es X.env)).any (·.1) = false := by rfl) :
    PMk X (.Call (.Name x p) (e :: es) [] pos) (vZo C sp dvs ta) := by
  intro pins s sg H Q I h
  obtain ⟨N, nI, iI, tl, FB, _, hi, _⟩ := T.bs
  refine wpAny_Call_Name_kw (ld_glob I hg hm ?_ hdb)
  refine PySem.W.callWith_K (h₀ := X.base) I.ok.mod.kin T.kp (thn (ha.run pos pins s sg H _ I h) fun us s1 ⟨vs, H1, I1, r1, hz, q1⟩ => ⟨I1.kIn, ?_⟩) he hpl
  show wpAny _ _ (call (.ref C) us) _ _ _
  obtain ⟨hp, g, dr, tk, os⟩ := s1
  obtain ⟨nm, N', qn, bs, bm, hdct, sn, sub, ab, col, dd, k0, k1, k2, k3, k5, hC, hT⟩ := PySem.W.excInit_of I1.kIn hi
  have hsz : hp.objs.size ≤ hp.objs.size + 1 := Nat.le_succ _
  have hn : H1 (hp.objs.size + 1) = none := I1.hok.fresh hsz
  have hq := q1 (hp.objs.size + 1) hn
  have kk : ∀ b o, hp.get? b = some o → ((hp.push (PySem.W.kdv_tup us)).push (PySem.HandSPX.excO C hp.objs.size)).get? b = some o := fun b o z => Heap.get?_push_of_some _ (Heap.get?_push_of_some _ z)
  have hget : ((hp.push (PySem.W.kdv_tup us)).push (PySem.HandSPX.excO C hp.objs.size)).get? (hp.objs.size + 1) = some (PySem.HandSPX.excO C hp.objs.size) := by heap_get
  have I2 : L2.Inv X pins sg (upd H1 (hp.objs.size + 1) (exo (hp.objs.size + 1) C none)) ⟨(hp.push (PySem.W.kdv_tup us)).push (PySem.HandSPX.excO C hp.objs.size), g, dr, tk, os⟩ :=
    I1.laid (t' := tk) (a := hp.objs.size + 1) (o := exo (hp.objs.size + 1) C none) (h' := (hp.push (PySem.W.kdv_tup us)).push (PySem.HandSPX.excO C hp.objs.size)) kk hsz (exo_ok hget)
  have rv : Vals (V.ref (hp.objs.size + 1) :: (vs ++ dvs)) (Value.ref (hp.objs.size + 1) :: (us ++ ds)) := .cons rfl (r1.append hd)
  have hl : (Value.ref (hp.objs.size + 1) :: us ++ ds).length = ps.length := by
    have z := rv.length
    rw [F1.len _ _ _ _ hq] at z
    exact z.symm
  have hus : us.length ≤ sizeLine := by
    rw [← Paired.length r1, sizeLine_eq]
    omega
  refine wpAny_call (PySem.HandSPX.call_own FB hT hC (PySem.W.looks_findIn I1.kIn iC) (fun self => PySem.W.bind_fn I1.kIn self tI) hus ?_)
  have run := F1.run _ X.stack _ _ ⟨Value.ref (hp.objs.size + 1) :: us, []⟩ (Value.ref (hp.objs.size + 1) :: (us ++ ds)) _ _ (fun _ _ _ => False) (hr.make C us []) (I2.env0.make C us []) (hb _ (Value.ref (hp.objs.size + 1) :: us) I2.kIn hl) rv hq
  refine codeAny_mono run fun r s' hq' => ?_
  match r, hq' with
  | .error er, hq' => exact hx pins sg _ _ er s' I2 hq'
  | .ok (.ret u), hq' =>
    obtain ⟨v, H2, os2, bare2, un2, hok2, rv2, ev, d, fs, ea, ed, hd1, q2⟩ := hq'
    subst ev
    obtain ⟨h2, g2, d2, t2, os'⟩ := s'
    exact ⟨rv2, mk_end (raises_own T.ex T.ty) I1 hsz kk un2 hok2 os2 bare2 ea ed hd1 q2⟩
  | .ok .next, hq' => exact False.elim hq'
  | .ok .brk, hq' => exact False.elim hq'
  | .ok .cont, hq' => exact False.elim hq'
end
end Ev

namespace Ev
open PySem PySem.Spec PyProof.Rows L2
def xI (H : Hp) (a C d : Addr) (fs : List (Str × V)) : Hp := upd (upd H d (exd d fs)) a (exo a C (some d))
def spI (K : PySem.W.Frag) (C : Addr) (fs : List Str) : Sp := fun vs H Q _ => ∃ (a : Addr) (ws : List V), vs = .ref a :: ws ∧ ws.length = fs.length ∧ OexG K C ∧ (∀ f, f ∈ fs → PySem.W.findIn K (.ref C) f = some none) ∧ H a = some (exo a C none) ∧
  ∀ d, H d = none → d ≠ a → Q .non (xI H a C d (fs.zip ws).reverse)
theorem xHu {K : PySem.W.Frag} {C : Addr} {fs : List Str} : ∀ vs H Q E, spI K C fs vs H Q E → vs.length = ("self" :: fs : List Str).length := by
  rintro vs H Q E ⟨a, ws, rfl, h, _⟩
  simp [h]
section
variable {P : Program} {w : World} {K : PySem.W.Frag} {mg : Str → Option Value} {base : Heap} {C : Addr}
theorem wY7 {f qual : Str} {st : Stmt} {fI : Addr} {fd : FuncData} {k : Nat} {p1 p2 p3 p4 : Pos} (F : Fun K "__init__" qual st fI fd) (S : FnScope ["self", f] ["self", f] (defScope st)) (hb : defBody st = [.Assign [.Attribute (.Name "self" p1) f p2] (.Name f p3) p4])
    (hs : (defScope st).names.lookup ("self" : Str) = some .local) (hf : (defScope st).names.lookup f = some .local) (hd : (f == ("__debug__" : Str)) = false) (hcd : (f == ("__classdict__" : Str)) = false) : FnOk P w K mg base (L2.CX P w) (k + 1) fI fd ["self", f] (spI K C [f]) := by
  refine F.okX S xHu fun cdv A outer s H vs Q E hr hsp => ?_
  obtain ⟨a, ws, rfl, hl, T, hno, ea, q⟩ := hsp
  rw [hb]
  match ws, hl with
  | [y], _ =>
    refine ⟨_, pss_one (wX1 (pe_var (i := 0) rfl (.inl hs)) (pe_var (i := 1) rfl (.inl hf) hd hcd) (by rfl)), y, rfl, .ref a, rfl, a, C, rfl, T, hno f (by simp), .inl ⟨ea, fun dx n ne => ?_⟩⟩
    exact q dx n ne
end
def ExX (P : Program) (w : World) (K : PySem.W.Frag) (mg : Str → Option Value) (base : Heap) (k : Nat) (x : Str) (fs : List Str) : Prop :=
  ∃ (C fI : Addr) (fd : FuncData), mg x = some (.ref C) ∧ zH0 K x C ∧ OexG K C ∧ PySem.W.findIn K (.ref C) "__init__" = some (some (.ref fI)) ∧ PySem.W.typeIn K (.ref fI) = some (.type "function") ∧ (∀ f, f ∈ fs → PySem.W.findIn K (.ref C) f = some none) ∧
    FnOk P w K mg base (L2.CX P w) k fI fd ("self" :: fs) (spI K C fs) ∧ Binds K fd ("self" :: fs) []
def yJ0 (x : Str) (fs : List Str) (fa : Pg (List AV)) : Pg Fl := .bind fa fun as => match dataOf as with
  | some ds => if ds.length = fs.length then (fun m => .thr ⟨x, (fs.zip ds).reverse⟩ m) else .stuck
  | none => .stuck
theorem xGo {K : PySem.W.Frag} {F : Hp} : ∀ {fs gs : List (PyData × PyData)} {vs ws : List (Str × V)}, RF K F fs vs → RF K F gs ws → RF K F (fs ++ gs) (vs ++ ws)
  | _, _, _, _, .nil, h => h
  | _, _, _, _, .cons h t, g => .cons h (xGo t g)
theorem xGm {K : PySem.W.Frag} {F : Hp} : ∀ {fs : List Str} {ds : List PyData} {vs : List V}, RA K F ds vs → RF K F (zXt (fs.zip ds).reverse) (fs.zip vs).reverse
  | [], _, _, _ => .nil
  | f :: fs, _, _, .nil => .nil
  | f :: fs, d :: ds, v :: vs, .cons h t => by
    rw [List.zip_cons_cons, List.zip_cons_cons, List.reverse_cons, List.reverse_cons]
    unfold zXt
    rw [List.map_append]
    exact xGo (xGm t) (.cons h .nil)
section
variable {X : Cx} {B : XBt} {e : Expr} {es : List Expr} {fa : Pg (List AV)} {p pos pos' : Pos} {x : Str} {fs : List Str} {k : Nat}
theorem yVy (C : Ctx X B) (h : ExX X.prog X.w X.K X.mg X.base k x fs) (hr : Room (k + 1) X.A) (hz : fs.length ≤ 900) (hg : Gl X x) (ha : xJz X B (e :: es) fa)
    (hdb : (x == ("__debug__" : Str)) = false := by decide) (he : starEach (e :: es) X.env = (false, eval e X.env) :: starEach es X.env := by rfl) (hpl : (backTo pos (starEach es X.env)).any (·.1) = false := by rfl) :
    yGc X B (.Raise (some (.Call (.Name x p) (e :: es) [] pos)) none pos') (yJ0 x fs fa) := by
  obtain ⟨D, fI, fd, hm, hc, T, iC, tI, hno, F, hb⟩ := h
  intro w En r hw
  refine yQa (ps_raise C.calm C.tk (wYm T iC tI F hr hb .nil (fun _ _ _ _ _ _ _ z => by
    obtain ⟨_, _, _, _, _, _, _, _, _, _, _, _, z⟩ := z
    exact z.elim) hg hm xV1 hdb he hpl)) ?_
  refine zY6 ha r hw fun vs w1 xs e1 f1 r1 rv q => ?_
  cases ed : dataOf vs with
  | none =>
    rw [ed] at q
    exact q.elim
  | some ds =>
    rw [ed] at q
    dsimp only at q
    split at q
    · rename_i hl
      have ra := yQ9 rv ed
      have lx : xs.length = fs.length := by rw [← ra.len, hl]
      refine ⟨by omega, fun a hn => ⟨a, xs, by rw [List.append_nil], lx, T, hno, upd_same, fun d hd hda => ⟨rfl, d, (fs.zip xs).reverse, upd_same, ?_, ?_, ?_⟩⟩⟩
      · unfold xI
        rw [upd_ne hda, upd_same]
      · rw [upd_ne hda] at hd
        exact hd
      · rw [upd_ne hda] at hd
        have eH : upd (del (xI (upd w1.H a (exo a D none)) a D d (fs.zip xs).reverse) a) d (.xd (fs.zip xs).reverse) = upd w1.H d (.xd (fs.zip xs).reverse) := by
          funext b
          by_cases h1 : b = d
          · subst h1
            rw [upd_same, upd_same]
          · rw [upd_ne h1, upd_ne h1]
            by_cases h2 : b = a
            · subst h2
              rw [del_same, hn]
            · rw [del_ne h2]
              unfold xI
              rw [upd_ne h2, upd_ne h1, upd_ne h2]
        rw [eH]
        obtain ⟨r2, f2⟩ := yW6 r1 hd (.xd (fs.zip xs).reverse)
        refine ⟨⟨x, (fs.zip ds).reverse⟩, _, r2, e1, rfl, ⟨D, hc, rfl, .inr ⟨d, _, rfl, upd_same, (xGm ra).mono f2.ext⟩⟩, q _ rfl (f2.s r1) r2⟩
    · exact q.elim
end

section
variable {X : Cx} {B : XBt} {n : Str} {ty : Expr} {km : Value → Option Bool} {i : Nat} {body suite : List Stmt} {b₀ : Stmt} {pos pos' : Pos} {fb : Pg Fl} {fx : Exn → Pg Fl} {tb : List (Str × Bool)}
theorem xWt.fol {K : PySem.W.Frag} {w w' : Wd} {x : Exn} {cls : Value} {d : Option Addr} (h : xWt K w x cls d) (f : Same w.F w'.F) : xWt K w' x cls d := by
  obtain ⟨C, h1, h2, h | ⟨dd, vs, h3, h4, h5⟩⟩ := h
  · exact ⟨C, h1, h2, .inl h⟩
  · exact ⟨C, h1, h2, .inr ⟨dd, vs, h3, f _ _ h4, h5.mono f⟩⟩
end
section
variable {m : Mem} {X : Exn → Mem → Prop} {F : Fl → Mem → Prop}
@[simp] theorem wU2 {x : Str} {fs : List Str} {fa : Pg (List AV)} : W (yJ0 x fs fa) m X F ↔ W fa m X fun vs m1 => ∃ ds, dataOf vs = some ds ∧ ds.length = fs.length ∧ X ⟨x, (fs.zip ds).reverse⟩ m1 := by
  unfold yJ0
  rw [zZc]
  refine iff_of_eq (congrArg _ (funext fun vs => funext fun m1 => propext ?_))
  cases e : dataOf vs with
  | none => exact ⟨fun h => h.go.elim, fun ⟨_, z, _⟩ => by cases z⟩
  | some ds =>
    dsimp only
    by_cases h : ds.length = fs.length
    · rw [if_pos h]
      exact ⟨fun q => ⟨ds, rfl, h, q.go⟩, fun ⟨_, z, _, q⟩ => by cases z; exact ⟨q⟩⟩
    · rw [if_neg h]
      exact ⟨fun q => q.go.elim, fun ⟨_, z, q, _⟩ => by cases z; exact absurd q h⟩
end
end Ev

namespace Ev
open PySem PySem.Spec PyProof.Rows L2
structure ExcF (K : PySem.W.Frag) (D : Addr) : Prop where
  cl : (PySem.W.clsIn K D).isSome = true
  hg : PySem.W.findIn K (.ref D) "__getattribute__" = some (some (.builtin "BaseException.__getattribute__"))
  hk : PySem.W.findIn K (.ref D) "__getattr__" = some none
  hs : PySem.W.subIn K (.ref D) (.type "BaseException") = some true
  ha : PySem.W.findIn K (.ref D) "__class__" = some (some (.builtin "object.__class__"))
  hn : PySem.W.specialIn K (.builtin "object.__class__") "__get__" = some (some (.builtin "getset_descriptor.__get__"))
  ht : PySem.W.takesIn K (.builtin "object.__class__") = some true
  hm : PySem.W.mroIn K D (.type "object") = some true
  hd : PySem.W.hasDictIn K D = true
def vVr : PyData → Option (Str × List (PyData × PyData))
  | .dict ((.none, .int i) :: (.none, .str c) :: fs) => if i = 0 then some (c, fs) else none
  | _ => none
section
variable {X : Cx} {pins : List (Addr × Obj)} {σ : L2.St} {H : Hp} {s : Shared}
end
inductive ClsL (X : Cx) : List Expr → List V → List Value → Prop
  | nil : ClsL X [] [] []
  | cons {e : Expr} {es : List Expr} {c : V} {cs : List V} {u : Value} {us : List Value} : PE X e (tC c) → ClsV c u → starEach (e :: es) X.env = (false, eval e X.env) :: starEach es X.env → ClsL X es cs us → ClsL X (e :: es) (c :: cs) (u :: us)
theorem ClsL.vs {X : Cx} : ∀ {es : List Expr} {cs : List V} {us : List Value}, ClsL X es cs us → Paired ClsV cs us
  | _, _, _, .nil => .nil
  | _, _, _, .cons _ k _ t => .cons k t.vs
section
variable {X : Cx} {B : XBt} {e c : Expr} {es : List Expr} {f : Pg EV} {p1 p2 pos : Pos} {x : Str} {us : List Value} {t1 : List (String × Bool)} {t2 : List (Str × Bool)}
def yVr (n : Str) : List (PyData × PyData) → Option PyData
  | (.str k, d) :: r => if n = k then some d else yVr n r
  | _ => none
theorem xKy {K : PySem.W.Frag} {F : Hp} {n : Str} : ∀ {fs : List (PyData × PyData)} {vs : List (Str × V)} {d : PyData}, RF K F fs vs → yVr n fs = some d → ∃ v, vs.lookup n = some v ∧ R K F d v
  | _, _, _, .nil, h => by cases h
  | _, _, d, .cons (k := k) h t, e => by
    unfold yVr at e
    by_cases q : n = k
    · subst q
      rw [if_pos rfl] at e
      cases e
      exact ⟨_, by simp [List.lookup], h⟩
    · rw [if_neg q] at e
      obtain ⟨v, h1, h2⟩ := xKy t e
      exact ⟨v, by rw [List.lookup_cons, show (n == k) = false from beq_eq_false_iff_ne.mpr q]; exact h1, h2⟩
end
end Ev

namespace PySem
open Sem (wp)
section
theorem yZn {v : Value} {o : Obj} {H : Heap → Prop} (B : Begins v o H) :
    Meets (Builtin.«enumerate.__new__» ⟨[.type "enumerate", v], []⟩) (fun _ R s => H s.heap ∧
      R (.ok (.ret (.ref (s.heap.push o).objs.size))) { s with heap := (s.heap.push o).push { cls := .type "enumerate", data := .fields #[.none, .bool false, .ref s.heap.objs.size, rawInt 0, .none, .none] } }) :=
  .of_wp fun prog w A R s h => by
    obtain ⟨hp, g, d, tk, os⟩ := s; obtain ⟨h1, h⟩ := h
    have hsub := sub_enumerate
    have q1 : ∀ {A' : Around} {E : Value → Shared → Prop} {Q : Value → Shared → Prop}, Q (.ref hp.objs.size) ⟨hp.push o, g, d, tk, os⟩ → wpAny (model prog w) A' (pyIter v) Q E ⟨hp, g, d, tk, os⟩ :=
      fun q => B.iter prog w _ _ ⟨hp, g, d, tk, os⟩ _ h1 q
    wp_walk using q1
    refine wpAny_stack_any fun st => wpAny_pure ?_
    split
    · rename_i c _ _ _ _ _
      cases (c == Value.type "enumerate")
      · wp_walk using q1
        exact ⟨_, rfl, h⟩
      · wp_walk using q1
        exact ⟨_, rfl, h⟩
    · wp_walk using q1
      exact ⟨_, rfl, h⟩
variable {prog : Program} {w : World} {A : Around} {E : Value → Shared → Prop} {s : Shared}
theorem yHl {e it t : Addr} {i : Nat} {j : Int} {items : Array Value} {old : Value} {Q : Option Value → Shared → Prop} (hh : A.handled = none) (he : IsEnum s.heap e it j old) (hit : s.heap.IsTupleIter it t i) (ht : s.heap.IsTuple t items) (hx : items[i]? = none)
    (hQ : ∀ h', Heap.ExtBut it s.heap h' → Q none { s with heap := h' }) : wpAny (model prog w) A (pyNext (.ref e)) Q E s := by
  have hT : s.TypeIs (.ref e) "enumerate" := ⟨_, he, rfl⟩
  unfold pyNext
  refine wpAny_bind (wpAny_attempt (wpAny_callSpecial?_slot (name := Str.ofString "__next__") hT F.slot_enumerate_next
    (wpAny_call_entry F.slot_enumerate_next hT F.entry_enumerate_next ?_ (F.args_enumerate_next_1 _))))
  show wpAny _ _ (field (.ref e) 2 >>= _) _ _ _
  refine wpAny_bind (wpAny_field he rfl (x := .ref it) rfl ?_)
  refine wpAny_bind (wpAny_nextOf_tuple_end hh hit ht hx fun h' x he' hx' => ?_)
  obtain ⟨o, ho, hc⟩ := hx'
  refine wpAny_bind (wpAny_isInstance (T := "StopIteration") (b := true) ⟨o, ho, hc⟩ isSubtype_stop ?_)
  exact wpAny_pure (hQ _ he')
theorem yHm {v : Value} {o : Obj} {H : Heap → Prop} {Q : Value → Shared → Prop} (B : Begins v o H) (h1 : H s.heap)
    (h : ∀ h', IsEnum h' (s.heap.objs.size + 1) s.heap.objs.size 0 .none → h'.get? s.heap.objs.size = some o → h'.objs.size = s.heap.objs.size + 2 →
      (∀ b o, s.heap.get? b = some o → h'.get? b = some o) → Q (.ref (s.heap.objs.size + 1)) { s with heap := h' }) :
    wpAny (model prog w) A (call (.type "enumerate") [v]) Q E s := by
  refine callType_new F.called_enumerate (by decide) (F.typeCall_enumerate_1 _) (F.newCall_enumerate_1 _) (fun obj => F.args_object_init_2 obj _) F.entry_enumerate_new
    (yZn B) ⟨h1, ?_⟩
  have hz : (s.heap.push o).objs.size = s.heap.objs.size + 1 := Heap.size_push ..
  show _ ∧ _
  rw [hz]
  have he : IsEnum ((s.heap.push o).push { cls := .type "enumerate", data := .fields #[.none, .bool false, .ref s.heap.objs.size, rawInt 0, .none, .none] }) (s.heap.objs.size + 1) s.heap.objs.size 0 .none := by
    have := Heap.get?_push_size (s.heap.push o) (o := { cls := .type "enumerate", data := .fields #[.none, .bool false, .ref s.heap.objs.size, rawInt 0, .none, .none] }) rfl
    rw [hz] at this; exact this
  refine ⟨⟨_, he, rfl⟩, h _ he (Heap.get?_push_of_some _ (Heap.get?_push_size _ B.free)) (by rw [Heap.size_push, hz]) fun b o x => Heap.get?_push_of_some _ (Heap.get?_push_of_some _ x)⟩
end
end PySem
namespace Ev
open PySem PySem.Spec PyProof.Rows L2
def wG0 (K : PySem.W.Frag) (a : Addr) : It :=
  ⟨fun i H => ∃ (xs : List V) (x : V), SqT K H a xs ∧ xs[i]? = some x, fun i H v H' => ∃ T x, v = .ref T ∧ H T = none ∧ H' = upd H T (.tup [.int (i : Nat), x]) ∧ ∀ xs, SqT K H a xs → xs[i]? = some x, fun i H => ∃ xs : List V, SqT K H a xs ∧ xs.length ≤ i⟩
theorem xXr {P : Program} {w : World} {K : PySem.W.Frag} {elts : List Expr} {kk : Nat} {tpos : Pos} (a e it : Addr) :
    Turn P w K (.Tuple elts kk tpos) (wG0 K a) [e, it] e (fun i h => (∃ old, IsEnum h e it ((i : Nat) : Int) old) ∧ h.IsTupleIter it a i ∧ e ≠ it) where
  mem := by simp
  obj := fun i h st b hb => by
    obtain ⟨⟨old, he⟩, ⟨o, ho, hc, hd⟩, _⟩ := st
    have e' : b = e ∨ b = it := by simpa using hb
    rcases e' with z | z
    · rw [z]; exact ⟨_, he, fun v q => nomatch q⟩
    · rw [z]; exact ⟨o, ho, fun v q => by rw [hd] at q; cases q⟩
  keep := fun i h h' st k => let ⟨⟨old, he⟩, hi, hne⟩ := st; ⟨⟨old, k e (by simp) _ he⟩, hi.at fun o q => k it (by simp) o q, hne⟩
  item := by
    intro X hP hw hK hc i pins s σ H E I hf st hg
    subst hP hw hK
    obtain ⟨⟨old, he⟩, hit, hne⟩ := st
    obtain ⟨xs, x, hq, hx⟩ := hg
    obtain ⟨its, rv, p, hz⟩ := I.tuple hq
    obtain ⟨u, hu, ru⟩ := rv.get hx
    have hel : e < s.heap.objs.size := Heap.lt_size he
    have hil : it < s.heap.objs.size := by obtain ⟨_, q, _⟩ := hit; exact Heap.lt_size q
    have hp : s.heap.IsTuple a its.toArray := p
    have hai : a ≠ it := fun z => by
      obtain ⟨o1, e1, _, n, d1⟩ := hp
      obtain ⟨o2, e2, _, d2⟩ := hit
      rw [z, e2] at e1
      cases e1
      rw [d1] at d2
      cases d2
    have hea : e ≠ a := fun z => by
      obtain ⟨o1, e1, c1, _⟩ := hp
      have he' : s.heap.get? e = _ := he
      rw [z, e1] at he'
      cases he'
      exact absurd c1 (by simp)
    have hil2 : i < its.toArray.size := by
      have := (List.getElem?_eq_some_iff.mp hu).1
      simpa using this
    refine wpAny_pyNext_enum_itemD (Draws.tuple (show X.A.in1.handled = none from I.ok.hd hc) it a hai its.toArray) he ⟨hit, hp⟩ hil2 hne (by simp [hne, hea]) fun x' h' tk hP ho hst' hT hsz hk => ?_
    have hx' : x' = u := by
      have h1 : its.toArray[i]? = some x' := hP
      have h2 : its.toArray[i]? = some u := by simpa using hu
      rw [h1] at h2
      exact Option.some.inj h2
    subst hx'
    obtain ⟨hit', _⟩ := hst'
    refine ⟨_, rfl, wpAny_letOwnedTupleGo_enum (s := { s with heap := h', toks := tk + 1 }) ho fun h'' he' sb => ?_⟩
    have hT2 : h''.get? s.heap.objs.size = some { cls := .type "tuple", data := .seq #[.int i tk, x'] } := (sb.2 _ (Nat.ne_of_gt hel)).trans hT
    have new : ObjOk X.prog X.w (upd H s.heap.objs.size (.tup [.int (i : Nat), x])) h'' s.heap.objs.size (.tup [.int (i : Nat), x]) :=
      ⟨by show 2 ≤ sizeLine; decide, [.int i tk, x'], .cons ⟨_, rfl⟩ (.cons ru .nil), ⟨_, hT2, rfl, _, rfl⟩⟩
    have I1 : L2.Inv X pins σ (upd H s.heap.objs.size (.tup [.int (i : Nat), x])) { s with heap := h'', toks := tk + 1 } :=
      I.turnedNew (ch := [e, it]) (fun b ob hb q => (sb.2 b (fun z => hb (by simp [z]))).trans (hk b ob (fun z => hb (by simp [z])) (fun z => hb (by simp [z])) q)) hf (Nat.le_refl _) new
    refine ⟨.ref s.heap.objs.size, _, I1, rfl, ⟨_, x, rfl, I.hok.fresh (Nat.le_refl _), rfl, fun ys hy => by rw [I.tuple_inj hy hq]; exact hx⟩, ⟨⟨x', ?_⟩, hit'.at fun o q => (sb.2 it (Ne.symm hne)).trans q, hne⟩, fun b hb => ?_⟩
    · have e1 : ((i + 1 : Nat) : Int) = (i : Int) + 1 := by omega
      rw [e1]; exact he'
    · have hb' : b < s.heap.objs.size := by
        have e' : b = e ∨ b = it := by simpa using hb
        rcases e' with z | z
        · rw [z]; exact hel
        · rw [z]; exact hil
      rw [upd_ne (Nat.ne_of_lt hb')]
      exact (hf b hb).1
  done := by
    intro X hP hw hK hc i pins s σ H E I hf st hg
    subst hP hw hK
    obtain ⟨⟨old, he⟩, hit, hne⟩ := st
    obtain ⟨xs, hq, hx⟩ := hg
    obtain ⟨its, rv, p, hz⟩ := I.tuple hq
    obtain ⟨f0, f1, f2, f3, f4, f5⟩ := hf it (by simp)
    have hp : s.heap.IsTuple a its.toArray := p
    have hai : a ≠ it := fun z => by
      obtain ⟨o1, e1, _, n, d1⟩ := hp
      obtain ⟨o2, e2, _, d2⟩ := hit
      rw [z, e2] at e1
      cases e1
      rw [d1] at d2
      cases d2
    have hl := rv.length
    exact yHl (I.ok.hd hc) he hit hp (by simp; omega) fun h' eb => ⟨rfl, I.turned (t' := s.toks) (fun b o hb q => eb b o hb q) f0 f1 f3 f4 f5⟩
  self := fun A i s Q E st h => let ⟨⟨_, he⟩, _⟩ := st; wpAny_pyIter_enum he h
def wJv (K : PySem.W.Frag) (ta : TA) : TI := fun σ H R => ta σ H fun vs H1 => ∃ a xs, vs = [.ref a] ∧ ((SqT K H1 a xs ∧ R (wG0 K a) H1) ∨ (SqL K H1 a xs ∧ R (Ite K a) H1))
theorem xY2 {X : Cx} {e : Expr} {ta : TA} {p pos tpos : Pos} {elts : List Expr} {kk : Nat} (hg : Gl X "enumerate") (hm : X.mg "enumerate" = none) (ha : PA X [e] ta) (hs : starEach [e] X.env = [(false, eval e X.env)] := by rfl) :
    PI X (.Tuple elts kk tpos) (.Call (.Name "enumerate" p) [e] [] pos) (wJv X.K ta) := by
  refine ⟨fun pins s σ H R I h => ?_⟩
  refine Call_ (ld_blt I hg hm boot_enumerate (PyProof.Rows.callWith_type1 (thn (ha.run pos pins s σ H _ I h) fun us s1 ⟨vs, H1, I1, r1, q1⟩ => ?_) hs rfl))
  obtain ⟨a, xs, ex, q1⟩ := q1
  subst ex
  cases r1 with
  | cons r rr =>
    cases rr
    cases r
    have fp : ∀ b, b ∈ [s1.heap.objs.size + 1, s1.heap.objs.size] → s1.heap.objs.size ≤ b := fun b hb => by
      have e' : b = s1.heap.objs.size + 1 ∨ b = s1.heap.objs.size := by simpa using hb
      rcases e' with z | z
      · rw [z]; exact Nat.le_add_right _ _
      · rw [z]; exact Nat.le_refl _
    rcases q1 with ⟨hq, q⟩ | ⟨hq, q⟩
    · obtain ⟨its, rv, p', hz⟩ := I1.tuple hq
      refine yHm (begins_tuple a its.toArray) (show s1.heap.IsTuple a its.toArray from p') fun h' he hit hsz hk => wpAny_pyIter_enum he ?_
      have I2 : L2.Inv X pins σ H1 { s1 with heap := h' } := I1.kept (t' := s1.toks) hk
      have hit' : h'.IsTupleIter s1.heap.objs.size a 0 := ⟨_, hit, rfl, rfl⟩
      exact ⟨s1.heap.objs.size + 1, [s1.heap.objs.size + 1, s1.heap.objs.size], _, _, H1, rfl, I2, xXr a (s1.heap.objs.size + 1) s1.heap.objs.size, ⟨⟨.none, he⟩, hit', Nat.succ_ne_self _⟩, fun b hb => I1.fpOk (fp b hb) (I1.hok.fresh (fp b hb)), q⟩
    · obtain ⟨its, rv, p', hz⟩ := I1.list hq
      refine call_enumerate_list p'.isList fun h' he hit hsz hk => wpAny_pyIter_enum he ?_
      have I2 : L2.Inv X pins σ H1 { s1 with heap := h' } := I1.kept (t' := s1.toks) hk
      exact ⟨s1.heap.objs.size + 1, [s1.heap.objs.size + 1, s1.heap.objs.size], _, _, H1, rfl, I2, turn_enum a (s1.heap.objs.size + 1) s1.heap.objs.size, ⟨⟨.none, he⟩, hit, Nat.succ_ne_self _⟩, fun b hb => I1.fpOk (fp b hb) (I1.hok.fresh (fp b hb)), q⟩
theorem xQl {K : PySem.W.Frag} {w : Wd} {a : Addr} {xs : List V} {ds : List PyData} (ha : SqT K w.F a xs) (ra : RA K w.F ds xs) : xQy K w (wG0 K a) (yVf ds) := by
  intro w1 f r i
  have qa : SqT K w1.H a xs := zXh r.sub (yXb f.ext ha)
  refine ⟨fun d hd => ?_, fun hl => ⟨xs, qa, ?_⟩⟩
  · unfold yVf at hd
    rw [List.getElem?_mapIdx] at hd
    cases e1 : ds[i]? with
    | none =>
      rw [e1] at hd
      cases hd
    | some d1 =>
      rw [e1] at hd
      cases hd
      obtain ⟨x, hx, rx⟩ := ra.get e1
      refine ⟨⟨xs, x, qa, hx⟩, fun v H' yl => ?_⟩
      obtain ⟨T, x', rfl, hT, rfl, g1⟩ := yl
      have e1 := (g1 xs qa).symm.trans hx
      cases e1
      exact yKd r hT (.int _) (rx.mono f.ext)
  · rw [← ra.len]
    unfold yVf at hl
    rw [List.length_mapIdx] at hl
    exact hl
def yHn : List AV → Option (List PyData)
  | [.d (.list xs)] => some (yVf xs)
  | [.d (.tuple xs)] => some (yVf xs)
  | _ => none
def yUz (fa : Pg (List AV)) : Pg (List PyData) := .bind fa fun vs => zK5 (yHn vs)
section
variable {X : Cx} {B : XBt} {e : Expr} {fa : Pg (List AV)} {p pos tpos : Pos} {elts : List Expr} {kk : Nat}
theorem xX0 (hg : Gl X "enumerate") (hm : X.mg "enumerate" = none) (ha : xJz X B [e] fa) (hs : starEach [e] X.env = [(false, eval e X.env)] := by rfl) :
    yWy X B (.Tuple elts kk tpos) (.Call (.Name "enumerate" p) [e] [] pos) (yUz fa) := by
  intro w Q r hw
  refine ⟨_, xY2 hg hm xV1 hs, ?_⟩
  refine zY6 ha r hw fun vs w1 xs e1 f1 r1 rv h1 => ?_
  obtain ⟨ds, ed, q⟩ := zX2 h1
  unfold yHn at ed
  split at ed
  · cases ed
    cases rv with
    | cons h t =>
      cases t
      cases h with
      | lst ha ra => exact ⟨_, _, rfl, .inr ⟨(ha.mox r1.sub).sq, q w1 _ rfl e1 f1 r1 (xJb ha ra)⟩⟩
  · cases ed
    cases rv with
    | cons h t =>
      cases t
      cases h with
      | tup ha ra => exact ⟨_, _, rfl, .inl ⟨zXh r1.sub ha, q w1 _ rfl e1 f1 r1 (xQl ha ra)⟩⟩
  · cases ed
end
section
variable {m : Mem} {X : Exn → Mem → Prop}
@[simp] theorem wGh {fa : Pg (List AV)} {P : List PyData → Mem → Prop} : W (yUz fa) m X P ↔ W fa m X fun vs m1 => ∃ ds, yHn vs = some ds ∧ P ds m1 := by
  unfold yUz
  simp
@[simp] theorem wK7 {xs : List PyData} : yHn [.d (.list xs)] = some (yVf xs) := rfl
@[simp] theorem wK6 {xs : List PyData} : yHn [.d (.tuple xs)] = some (yVf xs) := rfl
variable {E : EV → Mem → Prop}
@[simp] theorem wJ8 {n k : Str} {d : PyData} {r : List (Str × PyData)} : yVr n (zXt ((k, d) :: r)) = if n = k then some d else yVr n (zXt r) := rfl
end
def yUw (x : Str) : Pg Fl := fun m => .thr ⟨x, []⟩ m
def wG2 (K : PySem.W.Frag) (mg : Str → Option Value) (x : Str) : Prop :=
  ∃ C : Addr, mg x = some (.ref C) ∧ zH0 K x C ∧ PySem.W.keepIn K (.ref C) = true ∧ PySem.W.excIn K C [.type "ValueError", .type "Exception", .type "BaseException", .type "object"] "ValueError.__new__" = true ∧
    PySem.W.subIn K (.ref C) (.type "BaseException") = some true ∧ PySem.W.typeIn K (.ref C) = some (.type "type")
section
variable {X : Cx} {B : XBt} {x : Str} {p pos pos' : Pos}
theorem xY1 {C : Addr} {bmB : List Value} {B newId initId : String} (F : ExcBaseFacts B newId initId bmB) (q : PySem.W.excIn X.K C bmB newId = true) (gC : X.mg x = some (.ref C)) (kC : PySem.W.keepIn X.K (.ref C) = true) (r : Raises X (.ref C)) (hg : Gl X x)
    (hdb : (x == ("__debug__" : Str)) = false := by decide) : PMk X (.Call (.Name x p) [] [] pos) (fun _ H Q => Q (.ref C) none H) := by
  intro pins s σ H Q I h
  refine wpAny_Call_Name_kw (ld_glob I hg gC ?_ hdb)
  refine PySem.W.callWith_K0 I.kIn kC ?_
  obtain ⟨bm, N, nm, qn, bs, hdct, sn, sub, ab, col, dd, k0, k1, k2, k3, k5, mN, hC, hN, hni, T⟩ := exc_obj I.kIn q
  refine wpAny_call_exc_subT F T hC hN hni (fun h' e hm => ?_) (by show 0 ≤ sizeLine; rw [sizeLine_eq]; omega)
  exact mk_of I hm r h (I.hok.gone hm.new)
theorem xXv (C : Ctx X B) (h : wG2 X.K X.mg x) (hg : Gl X x) (hdb : (x == ("__debug__" : Str)) = false := by decide) :
    yGc X B (.Raise (some (.Call (.Name x p) [] [] pos)) none pos') (yUw x) := by
  obtain ⟨D, hm, hc, kC, q, h1, h2⟩ := h
  intro w En r hw
  refine yQa (ps_raise C.calm C.tk (xY1 PySem.F.excBase_ValueError q hm kC (raises_own h1 h2) hg hdb)) ?_
  exact ⟨⟨x, []⟩, w, r, rfl, rfl, ⟨D, hc, rfl, .inl ⟨rfl, rfl⟩⟩, hw w rfl (FolS.refl w) r⟩
end
section
variable {m : Mem} {X : Exn → Mem → Prop} {F : Fl → Mem → Prop}
@[simp] theorem wWs {x : Str} : W (yUw x) m X F ↔ X ⟨x, []⟩ m := ⟨fun h => h.go, fun h => ⟨h⟩⟩
end
section
variable {X : Cx} {B : XBt} {e c : Expr} {es : List Expr} {f : Pg EV} {p1 p2 pos : Pos} {x : Str} {ns : List Str} {t1 : List (String × Bool)} {t2 : List (Str × Bool)}
end
def ExN (K : PySem.W.Frag) (x : Str) (fs : List Str) : Prop := ∃ D, zH0 K x D ∧ ExcF K D ∧ ∀ f, f ∈ fs → PySem.W.findIn K (.ref D) f = some none
end Ev

namespace Ev
open PySem PySem.Spec PyProof.Rows L2
def zK6 (s : Stmt) (j : Nat) : Stmt := match s with
  | .ClassDef _ _ _ b _ _ _ _ _ _ _ => b.getD j (.Pass ⟨0, 0, 0, 0⟩)
  | _ => .Pass ⟨0, 0, 0, 0⟩
def wZz (K : PySem.W.Frag) (C : Addr) (nI : String) (tl : List Value) : Bool := PySem.W.excInitIn K C tl nI && PySem.W.excOver K C tl
def wZ0 (K : PySem.W.Frag) (C : Addr) : Bool := (wZz K C "ValueError.__new__" [.type "ValueError", .type "Exception", .type "BaseException", .type "object"] || wZz K C "IndexError.__new__" [.type "IndexError", .type "LookupError", .type "Exception", .type "BaseException", .type "object"] ||
  wZz K C "LookupError.__new__" [.type "LookupError", .type "Exception", .type "BaseException", .type "object"] || wZz K C "OverflowError.__new__" [.type "OverflowError", .type "ArithmeticError", .type "Exception", .type "BaseException", .type "object"]) &&
  PySem.W.hasDictIn K C && decide (PySem.W.findIn K (.ref C) "__setattr__" = some (some (.builtin "object.__setattr__"))) && decide (PySem.W.subIn K (.ref C) (.type "BaseException") = some true) && decide (PySem.W.typeIn K (.ref C) = some (.type "type")) && PySem.W.keepIn K (.ref C)
theorem yUa {K : PySem.W.Frag} {C : Addr} {N nI iI : String} {tl : List Value} (FB : ExcBaseFacts N nI iI tl) (SF : StoreFacts N tl "object.__setattr__" "object") (h : wZz K C nI tl = true) : ∃ (N nI iI : String) (tl : List Value), ExcBaseFacts N nI iI tl ∧ StoreFacts N tl "object.__setattr__" "object" ∧ PySem.W.excInitIn K C tl nI = true ∧ PySem.W.excOver K C tl = true := by
  unfold wZz at h
  simp only [Bool.and_eq_true] at h
  exact ⟨_, _, _, _, FB, SF, h.1, h.2⟩
theorem wQr {K : PySem.W.Frag} {C : Addr} (h : wZ0 K C = true) : OexG K C := by
  unfold wZ0 at h
  simp only [Bool.and_eq_true, Bool.or_eq_true, decide_eq_true_eq] at h
  obtain ⟨⟨⟨⟨⟨h, h0⟩, h1⟩, h2⟩, h3⟩, h4⟩ := h
  refine ⟨?_, h0, h1, h2, h3, h4⟩
  rcases h with ((h | h) | h) | h
  · exact yUa F.excBase_ValueError F.store_ValueError h
  · exact yUa F.excBase_IndexError F.store_IndexError h
  · exact yUa F.excBase_LookupError F.store_LookupError h
  · exact yUa F.excBase_OverflowError F.store_OverflowError h
def xKt (K : PySem.W.Frag) (C fI : Addr) (fs : List Str) : Bool := decide (PySem.W.typeIn K (.ref fI) = some (.type "function")) && fs.all fun f => decide (PySem.W.findIn K (.ref C) f = some none)
def wUd (K : PySem.W.Frag) (C : Addr) : Bool := PySem.W.keepIn K (.ref C) && PySem.W.excIn K C [.type "ValueError", .type "Exception", .type "BaseException", .type "object"] "ValueError.__new__" && decide (PySem.W.subIn K (.ref C) (.type "BaseException") = some true) && decide (PySem.W.typeIn K (.ref C) = some (.type "type"))
def wZ4 (K : PySem.W.Frag) (D : Addr) (fs : List Str) : Bool := (PySem.W.clsIn K D).isSome && decide (PySem.W.findIn K (.ref D) "__getattribute__" = some (some (.builtin "BaseException.__getattribute__"))) && decide (PySem.W.findIn K (.ref D) "__getattr__" = some none) && decide (PySem.W.subIn K (.ref D) (.type "BaseException") = some true) &&
  decide (PySem.W.findIn K (.ref D) "__class__" = some (some (.builtin "object.__class__"))) && decide (PySem.W.specialIn K (.builtin "object.__class__") "__get__" = some (some (.builtin "getset_descriptor.__get__"))) && decide (PySem.W.takesIn K (.builtin "object.__class__") = some true) &&
  decide (PySem.W.mroIn K D (.type "object") = some true) && PySem.W.hasDictIn K D && fs.all fun f => decide (PySem.W.findIn K (.ref D) f = some none)
theorem xZ7 {K : PySem.W.Frag} {x : Str} {D : Addr} {fs : List Str} (hx : zH0 K x D) (h : wZ4 K D fs = true) : ExN K x fs := by
  unfold wZ4 at h
  simp only [Bool.and_eq_true, decide_eq_true_eq, List.all_eq_true] at h
  obtain ⟨⟨⟨⟨⟨⟨⟨⟨⟨h1, h2⟩, h3⟩, h4⟩, h5⟩, h6⟩, h7⟩, h8⟩, h9⟩, h10⟩ := h
  exact ⟨D, hx, ⟨h1, h2, h3, h4, h5, h6, h7, h8, h9⟩, h10⟩
def XI (K : PySem.W.Frag) (mg : Str → Option Value) (x qual : Str) (st : Stmt) (fs : List Str) : Prop :=
  ∃ (C fI : Addr) (fd : FuncData), mg x = some (.ref C) ∧ zH0 K x C ∧ OexG K C ∧ PySem.W.findIn K (.ref C) "__init__" = some (some (.ref fI)) ∧ PySem.W.typeIn K (.ref fI) = some (.type "function") ∧ (∀ f, f ∈ fs → PySem.W.findIn K (.ref C) f = some none) ∧
    Fun K "__init__" qual st fI fd ∧ Binds K fd ("self" :: fs) []
theorem xHi {K : PySem.W.Frag} {mg : Str → Option Value} {x qual : Str} {st : Stmt} {fs : List Str} {C fI : Addr} {oc : Value} {od an : Option Addr} {osl : Array (Option Value)} {kV doc pm cdv ct : Value} (hm : mg x = some (.ref C)) (hx : zH0 K x C) (ho : wZ0 K C = true) (hi : PySem.W.findIn K (.ref C) "__init__" = some (some (.ref fI))) (hb : xKt K C fI fs = true)
    (l : K.lookup fI = some ⟨oc, od, .func (PySem.W.fnOf "__init__" qual (defArgs st) (defBody st) (defScope st) .none kV doc pm an cdv ct), osl⟩) (c : PySem.W.codeIn K cdv qual = true) (k : PySem.W.keepIn K (.ref fI) = true)
    (hbn : ∀ (kV doc pm : Value) (an : Option Addr) (cdv ct : Value) (us : List Value), us.length = ("self" :: fs : List Str).length → bindArgs (PySem.W.fnOf "__init__" qual (defArgs st) (defBody st) (defScope st) .none kV doc pm an cdv ct) ⟨us, []⟩ = pure (("self" :: fs : List Str).zip us)) : XI K mg x qual st fs := by
  unfold xKt at hb
  simp only [Bool.and_eq_true, decide_eq_true_eq, List.all_eq_true] at hb
  exact ⟨C, fI, _, hm, hx, wQr ho, hi, hb.1, hb.2, fun_mk l c k, (fun_mk l c k).binds hbn⟩
theorem wW5 {K : PySem.W.Frag} {mg : Str → Option Value} {x : Str} {C : Addr} (hm : mg x = some (.ref C)) (hx : zH0 K x C) (h : wUd K C = true) : wG2 K mg x := by
  unfold wUd at h
  simp only [Bool.and_eq_true, decide_eq_true_eq] at h
  exact ⟨C, hm, hx, h.1.1.1, h.1.1.2, h.1.2, h.2⟩
section
variable {P : Program} {w : World} {K : PySem.W.Frag} {mg : Str → Option Value} {base : Heap} {x qual f g : Str} {st : Stmt} {k : Nat} {p1 p2 p3 p4 r1 r2 r3 r4 : Pos}
theorem wUc (h : XI K mg x qual st [f]) (hk : 1 ≤ k) (S : FnScope ["self", f] ["self", f] (defScope st)) (hb : defBody st = [.Assign [.Attribute (.Name "self" p1) f p2] (.Name f p3) p4])
    (hs : (defScope st).names.lookup ("self" : Str) = some .local) (hf : (defScope st).names.lookup f = some .local) (hd : (f == ("__debug__" : Str)) = false) (hcd : (f == ("__classdict__" : Str)) = false) : ExX P w K mg base k x [f] := by
  obtain ⟨C, fI, fd, h1, h2, h3, h4, h5, h6, h7, h8⟩ := h
  exact ⟨C, fI, fd, h1, h2, h3, h4, h5, h6, (wY7 h7 S hb hs hf hd hcd (k := 0)).mono hk, h8⟩
end
section
variable {X : Cx} {B : XBt} {x n v : Str} {i j : Nat} {body : List Stmt} {np p1 p2 p3 pos pos' : Pos} {fb : Pg Fl} {tb : List (Str × Bool)}
end
section
variable {X : Cx} {B : XBt} {n v : Str} {i j k : Nat} {es : List Expr} {ns : List Str} {body : List Stmt} {tpos p1 p2 p3 pos pos' : Pos} {fb : Pg Fl} {tb : List (Str × Bool)}
end
end Ev

namespace Ev
open PySem PySem.Spec PyProof.Rows L2
section
variable {X : Cx} {B : XBt} {x : Str} {body suite : List Stmt} {b₀ : Stmt} {np pos pos' : Pos} {fb fg : Pg Fl} {tb : List (Str × Bool)}
end
end Ev

namespace Ev
open PySem PySem.Spec PyProof.Rows L2
def zG8 (P : Program) (w : World) (K : PySem.W.Frag) (mg : Str → Option Value) (base : Heap) (k : Nat) (f : Addr) (ks : List Str) (h : Fn) : Prop :=
  ∀ (A : Around) (outer : List Env) (s : Shared) (w0 : Wd) (us ws : List Value) (args : List AV) (xs ys : List V) (Q : VK) (E : XK), A.guards = some [] → Room k A → Env0 P w K mg base A outer s w0.H → w0.m.sl = [] → w0.sg = [] → (∀ a, w0.H a ≠ none → w0.Z a) → Rep K w0 →
    Paired (RV K w0) args (xs ++ ys) → Vals xs us → Vals ys ws → ys.length = ks.length → yVg K h (fun x w' => ∀ cls d, xWt K w' x cls d → E cls d w'.H) w0 args Q →
    codeAny (model P w) A (.call (.ref f) ⟨us, ks.zip ws⟩) (CR (L2.CX P w) outer P w w0.H s Q E) s
theorem zG8.up {P : Program} {w : World} {K : PySem.W.Frag} {mg : Str → Option Value} {base : Heap} {j k : Nat} {f : Addr} {ks : List Str} {h : Fn} (F : zG8 P w K mg base j f ks h) (e : j ≤ k) : zG8 P w K mg base k f ks h :=
  fun A outer s w0 us ws args xs ys Q E hg hr => F A outer s w0 us ws args xs ys Q E hg (hr.mono e)
def xWu (X : Cx) (B : XBt) (u : Value) (ks : List Str) (h : Fn) : Prop :=
  ∀ (w : Wd) (pins : List (Addr × Obj)) (s : Shared) (us ws : List Value) (args : List AV) (xs ys : List V) (Q : VK), L2.Inv X pins w.sg w.H s → Rep X.K w → Paired (RV X.K w) args (xs ++ ys) → Vals xs us → Vals ys ws → ys.length = ks.length →
    (zVj h args w.m).wp (zVw X.K w Q) (XW X.K B w) → wpAny (model X.prog X.w) X.A (call u us (ks.zip ws)) (EP X pins w.sg Q) X.xe s
section
variable {X : Cx} {B : XBt} {k : Nat} {f : Addr} {ks : List Str} {h : Fn}
theorem xXj {w : Wd} {args : List AV} {Q : VK} (r : Rep X.K w) (hw : (zVj h args w.m).wp (fun v m' => zVw X.K w Q v m') (XW X.K B w)) :
    yVg X.K h (fun x w' => ∀ cls d, xWt X.K w' x cls d → WXB X.K B cls d w.sg w'.H) (bare w) args Q := by
  refine (yVv hw).imp (fun v m' q w' x e1 e2 e3 f r' re => ?_) fun x m' q w' e1 e2 e3 f r' cls d ex => ?_
  · obtain ⟨r2, f2⟩ := yZ8 r f r'
    exact q (back w w') x (by show (⟨w.m.sl, w'.m.cs⟩ : Mem) = _; rw [e2]) rfl f2 r2 (yU6 r f e1 re)
  · obtain ⟨r2, f2⟩ := yZ8 r f r'
    exact ⟨x, back w w', r2, rfl, rfl, ex, q (back w w') (by show (⟨w.m.sl, w'.m.cs⟩ : Mem) = _; rw [e2]) (f2.s r) r2⟩
theorem yU4 (C : Ctx X B) (F : zG8 X.prog X.w X.K X.mg X.base k f ks h) (hr : Room k X.A) : xWu X B (.ref f) ks h := by
  intro w pins s us ws args xs ys Q I r hv ru rw hl hw
  refine wpAny_call (codeAny_mono (F X.A X.stack s (bare w) us ws args xs ys Q (fun cls d H' => WXB X.K B cls d w.sg H') C.gd hr I.env0 rfl rfl (fun _ h => h) (yVw r) (yJ2 hv) ru rw hl (xXj r hw)) fun r s' hq => ?_)
  match r, hq with
  | .error _, hq => exact yGv C I hq
  | .ok (.ret u), hq => exact I.after hq
  | .ok .next, hq => exact (show False from hq).elim
  | .ok .brk, hq => exact (show False from hq).elim
  | .ok .cont, hq => exact (show False from hq).elim
end
def pD (n m q : Nat) (is : List Nat) (ds : List PyData) (g : Fn) : Fn := fun args => if args.length = n + m ∧ (pick is (args ++ dAV ds)).length = q then g (pick is (args ++ dAV ds)) else .stuck
section
variable {P : Program} {w : World} {K : PySem.W.Frag} {mg : Str → Option Value} {base : Heap} {k : Nat} {f : Addr} {ks ps : List Str} {fd : FuncData}
theorem xWe {n q : Nat} {is : List Nat} {ds : List PyData} {dv : List Value} {dvs : List V} {g : Fn} (F : FnG P w K mg base k f fd ps (spG K ps.length g)) (hq : ps.length = q) (hd : Vals dvs dv) (hra : ∀ F : Hp, RA K F ds dvs)
    (hb : ∀ (s : Shared) (us ws : List Value), K.In s.heap → us.length = n → ws.length = ks.length → BindsTo s fd ⟨us, ks.zip ws⟩ (ps.zip (pick is (us ++ ws ++ dv)))) : zG8 P w K mg base k f ks (pD n ks.length q is ds g) := by
  subst hq
  intro A outer s w0 us ws args xs ys Q E hg hr e0 z1 z2 hz r hv ru rw hl hc
  unfold yVg pD at hc
  split at hc
  · rename_i hlen
    obtain ⟨l1, l2⟩ := hlen
    have lx : xs.length + ys.length = args.length := by
      rw [← List.length_append]
      exact (zZt hv).symm
    have pv := zJ3 (zZ3 hv (xVt (hra w0.F))) is
    have pu := zYn (zJ3 (zZ3 (zZ3 (zZz ru) (zZz rw)) (zZz hd)) is)
    exact F.go A outer s w0.H ⟨us, ks.zip ws⟩ _ _ Q E hg hr e0 (hb s us ws (e0.mod.kin.keeps fun b o e => (e0.bs b o e).1) (by rw [← ru.length]; omega) (by rw [← rw.length]; exact hl)) pu ⟨w0, _, z1, z2, rfl, hz, r, pv, l2, hc⟩
  · exact hc.elim
theorem wXx {w' : Wd} {Z : Addr → Prop} (hs : ∀ a, Z a → w'.Z a) : ∀ {v : EV} {x : V}, RE K w' v x → RE K (reZ w' Z) v x
  | .d _, _, h => h
  | .cell _, _, h => h
  | .pk _ _, _, h => h
  | .new o, _, ⟨a, e, h1, h3, h4, h5, h6⟩ => ⟨a, e, h1.keep (Same.refl _) (fun _ z => z) (fun _ z => z) (fun d _ z => hs d z), h3, h4, fun z => h5 (hs a z), h6⟩
theorem xJo {g : Fn} {B : XBt} {w0 w3 : Wd} {args : List AV} {Q : VK} (r : Rep K w0) (em : w3.m = w0.m) (ero : w3.ro = w0.ro) (eF : Same w0.F w3.F) (eH : ∀ a o, w0.H a = some o → w3.H a = some o) (eG : ∀ a, w3.F a ≠ none → w0.F a ≠ none ∨ w0.H a = none) (hZ : ∀ a, w3.Z a ↔ w3.H a ≠ none) (eT : w3.T = w0.T)
    (hB : ∀ x w', B x (reZ w' w0.Z) → B x w') (hc : yVg K g B w0 args Q) : yVg K g B w3 args Q := by
  have hs : ∀ {a}, w0.Z a → w3.Z a := fun {a} z => (hZ a).mpr (by
    cases e : w0.H a with
    | none => exact absurd e (r.zl a z)
    | some u => rw [eH a u e]; simp)
  have nz : ∀ {a}, ¬ w3.Z a → ¬ w0.Z a := fun h z => h (hs z)
  have fo : ∀ {w' : Wd}, FolS w3 w' → FolS w0 (reZ w' w0.Z) := fun {w'} f => ⟨rfl, f.t.trans eT, eF.trans f.ext, by rw [← ero]; exact f.pre, fun a o h n z k => f.frm a o (eH a o h) (by rw [ero]; exact n) (hs z) k, fun a h => by
      rcases f.new a h with q | q
      · rw [ero] at q
        exact .inl q
      · exact .inr (nz q), fun a h => f.liv a (by
        cases e : w0.H a with
        | none => exact absurd e h
        | some u => rw [eH a u e]; simp), fun a h => by
      rcases f.grow a h with q | q
      · exact (eG a q).imp id fun e z => r.zl a z e
      · exact .inr (nz q)⟩
  unfold yVg at hc ⊢
  rw [em]
  refine hc.imp (fun v m' q w' x e1 e2 e3 f r' re => ?_) fun x m' q w' e1 e2 e3 f r' => ?_
  · have sub : ∀ a, w0.Z a → w'.Z a := fun a z => by rw [f.z]; exact hs z
    exact q (reZ w' w0.Z) x e1 e2 e3 (fo f) (yYz r' sub) (wXx sub re)
  · have sub : ∀ a, w0.Z a → w'.Z a := fun a z => by rw [f.z]; exact hs z
    exact hB x w' (q (reZ w' w0.Z) e1 e2 e3 (fo f) (yYz r' sub))
def pS (full : Bool) (n m q : Nat) (is : List Nat) (ds : List PyData) (g : Fn) : Fn := fun args =>
  if m ≤ args.length ∧ (full = true ∨ args.length - m = n) ∧ n ≤ args.length - m ∧ (pick is ((args.take (args.length - m)).take n ++ args.drop (args.length - m) ++ dAV ds)).length + 1 = q then
    .bind (zK5 (xYu ((args.take (args.length - m)).drop n))) fun xs => g (pick is ((args.take (args.length - m)).take n ++ args.drop (args.length - m) ++ dAV ds) ++ [.d (.tuple xs)]) else .stuck
theorem xWd {full : Bool} {n q : Nat} {is : List Nat} {ds : List PyData} {dv : List Value} {dvs : List V} {g : Fn} {pv : Str} (F : FnG P w K mg base k f fd (ps ++ [pv]) (spG K (ps.length + 1) g)) (hq : ps.length + 1 = q) (hd : Vals dvs dv) (hra : ∀ F : Hp, RA K F ds dvs)
    (hb : ∀ (s : Shared) (us ws rest : List Value), K.In s.heap → us.length = n → ws.length = ks.length → (full = true ∨ rest = []) → xHg s fd ⟨us ++ rest, ks.zip ws⟩ (ps.zip (pick is (us ++ ws ++ dv))) pv rest) : zG8 P w K mg base k f ks (pS full n ks.length q is ds g) := by
  subst hq
  intro A outer s w0 us ws args xs ys Q E hg hr e0 z1 z2 hz r hv ru rw hl hc
  unfold yVg pS at hc
  split at hc
  · rename_i hlen
    obtain ⟨l0, lf, l1, l2⟩ := hlen
    have lx : xs.length + ys.length = args.length := by
      rw [← List.length_append]
      exact (zZt hv).symm
    have la : args.length - ks.length = xs.length := by omega
    rw [la] at hc lf l1 l2
    obtain ⟨ds', ed, hc⟩ := zX2 (wp_bind hc)
    have hvx : Paired (RV K w0) (args.take xs.length) xs := by
      have := zHi xs.length hv
      rwa [List.take_left'] at this
      rfl
    have hvy : Paired (RV K w0) (args.drop xs.length) ys := by
      have := zHj xs.length hv
      rwa [List.drop_left'] at this
      rfl
    generalize hvs : args.take xs.length = vs at hc l2 ed hvx
    generalize hzs : args.drop xs.length = zs at hc l2 hvy
    unfold xYu at ed
    cases eo : dataOf (vs.drop n) with
    | none =>
      rw [eo] at ed
      cases ed
    | some zs' =>
      rw [eo] at ed
      have ed : (if yKp zs' then some zs' else none) = some ds' := ed
      split at ed
      · rename_i hlen
        cases ed
        have ra := yQ9 (zHj n hvx) eo
        have ru' := zZz ru
        have rest_rel := zYn (zHj n ru')
        have lu : us.length = xs.length := (zZt ru').symm
        have hzr : (us.drop n).length ≤ sizeLine := by
          have := yUj hlen ra
          have := rest_rel.length
          omega
        have hn : w0.H s.heap.objs.size = none := e0.hok.fresh (Nat.le_refl _)
        obtain ⟨r3, f3⟩ := yW6 r hn (.tup (xs.drop n))
        have l3' : (pick is (vs.take n ++ zs ++ dAV ds)).length = ps.length := by omega
        have pv0 := zJ3 (zZ3 (zZ3 (zHi n hvx) hvy) (xVt (hra w0.F))) is
        have pu := zYn (zJ3 (zZ3 (zZ3 (zHi n ru') (zZz rw)) (zZz hd)) is)
        let w3u : Wd := { w0 with F := upd w0.F s.heap.objs.size (.tup (xs.drop n)), H := upd w0.H s.heap.objs.size (.tup (xs.drop n)) }
        let w3 : Wd := reZ w3u (fun a => w3u.H a ≠ none)
        have noOwn : ∀ a, ¬ Own w3u a := fun a ⟨i, o, h1, _⟩ => by
          have h1 : w0.m.sl[i]? = some (some (.ob o)) := h1
          rw [z1] at h1
          simp at h1
        have r3z : Rep K w3 := yVm r3 (fun a h => h) (fun a h => absurd h (noOwn a)) (fun d a h z => hz d (by
          have h : upd w0.H s.heap.objs.size (.tup (xs.drop n)) d = some (.own a) := h
          by_cases q : d = s.heap.objs.size
          · rw [q, upd_same] at h
            cases h
          · rw [upd_ne q] at h
            rw [h]
            simp))
        have pv3 : Paired (RV K w3) (pick is (vs.take n ++ zs ++ dAV ds) ++ [.d (.tuple ds')]) (pick is (xs.take n ++ ys ++ dvs) ++ [V.ref s.heap.objs.size]) := zZ3 (yV7 (w' := w3u) f3 pv0) (.cons (yJv r hn ra) .nil)
        have hc3 : yVg K g (fun x w' => ∀ cls d, xWt K w' x cls d → E cls d w'.H) w3 (pick is (vs.take n ++ zs ++ dAV ds) ++ [.d (.tuple ds')]) Q := xJo (w0 := w0) r rfl rfl f3.ext (fun a o h => by
            show upd w0.H s.heap.objs.size (.tup (xs.drop n)) a = some o
            rw [upd_ne (ne_of_none h hn)]
            exact h) (fun a h => by
            have h : upd w0.F s.heap.objs.size (.tup (xs.drop n)) a ≠ none := h
            by_cases q : a = s.heap.objs.size
            · rw [q]
              exact .inr hn
            · rw [upd_ne q] at h
              exact .inl h) (fun a => Iff.rfl) rfl (fun _ _ z => z) hc
        have sp : spG K (ps.length + 1) g (pick is (xs.take n ++ ys ++ dvs) ++ [V.ref s.heap.objs.size]) w3.H Q E := ⟨w3, _, z1, z2, rfl, fun a h => h, r3z, pv3, by rw [List.length_append, l3'] <;> rfl, hc3⟩
        refine F.bnd A outer s w0.H ⟨us, ks.zip ws⟩ Q E hg hr e0 fun A' Ex Q' cont => ?_
        have hs := hb s (us.take n) ws (us.drop n) (e0.mod.kin.keeps fun b o e => (e0.bs b o e).1) (by rw [List.length_take]; omega) (by rw [← rw.length]; exact hl) (lf.imp id fun e => List.drop_eq_nil_of_le (by omega))
        rw [List.take_append_drop] at hs
        refine hs _ _ _ _ (wpAny_bind (wpAny_newTuple (wpAny_pure ?_) hzr))
        have hzx : (xs.drop n).length ≤ sizeLine := by
          rw [rest_rel.length]
          exact hzr
        have new : ObjOk P w (upd w0.H s.heap.objs.size (.tup (xs.drop n))) (s.heap.push ({ cls := .type "tuple", data := .seq (us.drop n).toArray } : Obj)) s.heap.objs.size (.tup (xs.drop n)) := ⟨hzx, us.drop n, rest_rel, ⟨_, Heap.get?_push_size _ rfl, rfl, _, rfl⟩⟩
        have un := StX.un_laid (fs := frs outer) (s := s) (o := ({ cls := .type "tuple", data := .seq (us.drop n).toArray } : Obj)) (u := .tup (xs.drop n)) hn
        have z := cont { s with heap := s.heap.push ({ cls := .type "tuple", data := .seq (us.drop n).toArray } : Obj) } w3.H (pick is (xs.take n ++ ys ++ dvs) ++ [V.ref s.heap.objs.size]) (pick is (us.take n ++ ws ++ dv) ++ [Value.ref s.heap.objs.size]) (StX.env0_laid e0 new) un rfl
          (fun e s' => StX.cxUp outer s w0.H _ _ _ e s' un (fun b o q => Heap.get?_push_of_some _ q) rfl) (pu.append (.cons rfl .nil)) (by rw [← zZt pv3, List.length_append, List.length_append, l3'] <;> rfl) sp
        have lz : ps.length = (pick is (us.take n ++ ws ++ dv)).length := by
          rw [← l3', zZt pv0]
          exact zZt (zZz pu)
        rw [List.zip_append lz] at z
        exact z
      · cases ed
  · exact hc.elim
end
def mkF (c : Str) (h : Fn) : Fn := fun args m => match h (.cell m.cs.length :: args) ⟨[], m.cs ++ [.ins c []]⟩ with
  | .ok (.d .none) m' => if m'.cs.length = m.cs.length + 1 then (match m'.cs[m.cs.length]? with
    | some o => .ok (.new o) ⟨[], m'.cs.take m.cs.length⟩
    | none => .bad) else .bad
  | .thr x m' => if m'.cs.length = m.cs.length + 1 then .thr x ⟨[], m'.cs.take m.cs.length⟩ else .bad
  | _ => .bad
def yX3 (w : Wd) (Cc a dx : Addr) (c : Str) : Wd := { F := w.F, ro := w.ro ++ [a], m := ⟨[], w.m.cs ++ [.ins c []]⟩, sg := [], H := upd (upd w.H dx (.own a)) a (.ins Cc dx []), Z := fun b => upd (upd w.H dx (.own a)) a (.ins Cc dx []) b ≠ none, T := w.T }
section
variable {K : PySem.W.Frag} {w : Wd} {Cc a dx : Addr} {c : Str}
theorem yX2 (ha : w.H a = none) (hd : w.H dx = none) {b : Addr} {o : HO} (h : w.H b = some o) : (yX3 w Cc a dx c).H b = some o := by
  show upd (upd w.H dx (.own a)) a (.ins Cc dx []) b = some o
  rw [upd_ne (ne_of_none h ha), upd_ne (ne_of_none h hd)]
  exact h
theorem xKs : (yX3 w Cc a dx c).H a = some (.ins Cc dx []) := upd_same
theorem xKr (ne : dx ≠ a) : (yX3 w Cc a dx c).H dx = some (.own a) := by
  show upd (upd w.H dx (.own a)) a (.ins Cc dx []) dx = _
  rw [upd_ne ne, upd_same]
theorem xUi (r : Rep K w) (ha : w.H a = none) (hd : w.H dx = none) (ne : dx ≠ a) (hc : zH0 K c Cc) : Rep K (yX3 w Cc a dx c) := by
  have up : ∀ {b : Addr} {o : HO}, w.H b = some o → (yX3 w Cc a dx c).H b = some o := yX2 ha hd
  have ro_at : ∀ {n : Nat} {b : Addr}, w.ro[n]? = some b → (w.ro ++ [a])[n]? = some b := fun {n b} q => by
    rw [List.getElem?_append_left (List.getElem?_eq_some_iff.mp q).1]
    exact q
  have na : a ∉ w.ro := fun h => r.roLive h ha
  refine ⟨fun b o e hn => up (r.sub b o e hn), Nat.zero_le _, fun i v h => by simp [yX3] at h, fun n o h => ?_, ?_, fun n b hb => ?_, fun n b e => ro_at (r.rk n b e), ?_, fun i j xs ys x h => by simp [yX3] at h, fun b h => h, fun d b h => ?_, ⟨(TK _ w).go r.tb.1 fun _ _ e => up e, r.tb.2.1, yJh (yJh r.tb.2.2 (by intro _ z; cases z)) (by intro _ z; cases z)⟩⟩
  · have h : (w.m.cs ++ [Ob.ins c []])[n]? = some o := h
    by_cases hn : n < w.m.cs.length
    · rw [List.getElem?_append_left hn] at h
      obtain ⟨b, k1, k2⟩ := r.cs n o h
      exact ⟨b, ro_at k1, k2.keep (Same.refl _) (fun _ z => up z) (fun _ z => up z) (fun _ _ z => z)⟩
    · rw [List.getElem?_append_right (by omega)] at h
      have hz : n - w.m.cs.length = 0 := by
        have := (List.getElem?_eq_some_iff.mp h).1
        simp only [List.length_singleton] at this
        omega
      rw [hz] at h
      cases h
      refine ⟨a, ?_, Cc, dx, [], xKs, xKr ne, fun z => z, hc, .nil⟩
      show (w.ro ++ [a])[n]? = some a
      rw [List.getElem?_append_right (by rw [← r.ln]; omega), ← r.ln, hz]
      rfl
  · show (w.m.cs ++ [Ob.ins c []]).length = (w.ro ++ [a]).length
    rw [List.length_append, List.length_append, r.ln] <;> rfl
  · have hb : (w.ro ++ [a])[n]? = some b := hb
    show w.F b = _ ∨ w.F b = none ∧ ∃ c' fs, (w.m.cs ++ [Ob.ins c []])[n]? = some (.ins c' fs)
    by_cases hn : n < w.ro.length
    · rw [List.getElem?_append_left hn] at hb
      rw [List.getElem?_append_left (by rw [r.ln]; exact hn)]
      exact r.rf n b hb
    · rw [List.getElem?_append_right (by omega)] at hb
      have hz : n - w.ro.length = 0 := by
        have := (List.getElem?_eq_some_iff.mp hb).1
        simp only [List.length_singleton] at this
        omega
      rw [hz] at hb
      cases hb
      refine .inr ⟨r.noF ha, c, [], ?_⟩
      rw [List.getElem?_append_right (by rw [r.ln]; omega), r.ln, hz]
      rfl
  · exact List.nodup_append.mpr ⟨r.nd, by simp, fun b hb b' hb' e => by
      rw [List.mem_singleton.mp hb'] at e
      exact na (e ▸ hb)⟩
  · have h : upd (upd w.H dx (.own a)) a (.ins Cc dx []) d = some (.own b) := h
    by_cases q : d = a
    · rw [q, upd_same] at h
      cases h
    · rw [upd_ne q] at h
      by_cases q2 : d = dx
      · rw [q2, upd_same] at h
        cases h
        rw [q2]
        exact ⟨Cc, [], xKs⟩
      · rw [upd_ne q2] at h
        obtain ⟨C', vs, e⟩ := r.oo d b h
        exact ⟨C', vs, up e⟩
theorem xQo {ha : w.H a = none} : ∀ {args : List AV} {xs : List V}, Paired (RV K w) args xs → Paired (RV K (yX3 w Cc a dx c)) args xs
  | _, _, .nil => .nil
  | .d _ :: _, _, .cons h t => .cons h (xQo (ha := ha) t)
  | .cell n :: _, _, .cons h t => .cons (by
      obtain ⟨b, e, q⟩ := h
      exact ⟨b, e, by
        show (w.ro ++ [a])[n]? = some b
        rw [List.getElem?_append_left (List.getElem?_eq_some_iff.mp q).1]
        exact q⟩) (xQo (ha := ha) t)
def xY0 (w w' : Wd) : Wd := { F := w'.F, ro := w'.ro.take w.m.cs.length, m := ⟨[], w'.m.cs.take w.m.cs.length⟩, sg := [], H := w'.H, Z := fun b => w.H b ≠ none, T := w.T }
theorem xGr (r : Rep K w) (ha : w.H a = none) (hd : w.H dx = none) (ne : dx ≠ a) {w' : Wd} (f : FolS (yX3 w Cc a dx c) w') (r' : Rep K w') (e1 : w'.m.sl = []) (hl : w'.m.cs.length = w.m.cs.length + 1) :
    Rep K (xY0 w w') ∧ FolS (bare w) (xY0 w w') ∧ ∀ o, w'.m.cs[w.m.cs.length]? = some o → RE K (xY0 w w') (.new o) (.ref a) := by
  obtain ⟨t, et⟩ := f.pre
  have et : w'.ro = (w.ro ++ [a]) ++ t := et
  have tn : t = [] := by
    have h := r'.ln
    rw [et, List.length_append, List.length_append, ← r.ln, hl] at h
    cases t with
    | nil => rfl
    | cons x t => simp at h
  subst tn
  rw [List.append_nil] at et
  have ro' : w'.ro.take w.m.cs.length = w.ro := by
    rw [et, r.ln, List.take_left']
    rfl
  have na : a ∉ w.ro := fun h => r.roLive h ha
  have kp : ∀ b o, w.H b = some o → b ∉ w.ro → (∀ ps, o ≠ .tbl ps) → w'.H b = some o := fun b o h n k => f.frm b o (yX2 ha hd h) (fun q => by
    rcases List.mem_append.mp q with q | q
    · exact n q
    · rw [List.mem_singleton.mp q, ha] at h
      cases h) (zGq (yX2 (c := c) (Cc := Cc) ha hd h)) k
  have lv : ∀ b, w.H b ≠ none → w'.H b ≠ none := fun b h => f.liv b (by
    cases e : w.H b with
    | none => exact absurd e h
    | some u => exact zGq (yX2 (c := c) (Cc := Cc) ha hd e))
  have hdx : w'.H dx = some (.own a) := f.frm dx _ (xKr ne) (fun q => by
    rcases List.mem_append.mp q with q | q
    · exact r.roLive q hd
    · exact ne (List.mem_singleton.mp q)) (zGq (xKr (c := c) (Cc := Cc) ne)) (by intro _ z; cases z)
  have fa : w'.F a = none := by
    refine Classical.byContradiction fun z => ?_
    rcases f.grow a z with q | q
    · exact q (r.noF ha)
    · exact q (by
        show (yX3 w Cc a dx c).H a ≠ none
        rw [xKs]
        simp)
  refine ⟨⟨r'.sub, Nat.zero_le _, fun i v h => by simp [xY0] at h, fun n o h => ?_, ?_, fun n b hb => ?_, fun n b e => ?_, ?_, fun i j xs ys x h => by simp [xY0] at h, fun b h => lv b h, r'.oo, by have q := r'.tb; unfold TB TK at q ⊢; rw [show w'.T = w.T from f.t] at q; exact q⟩, ⟨rfl, rfl, f.ext, ⟨[], by show w'.ro.take w.m.cs.length = w.ro ++ []; rw [ro', List.append_nil]⟩, fun b o h n _ => kp b o h n, fun b h => ?_, lv, fun b h => ?_⟩, fun o ho => ?_⟩
  · have h : (w'.m.cs.take w.m.cs.length)[n]? = some o := h
    have hn : n < w.m.cs.length := by
      have := (List.getElem?_eq_some_iff.mp h).1
      rw [List.length_take] at this
      omega
    rw [List.getElem?_take_of_lt hn] at h
    obtain ⟨b, k1, k2⟩ := r'.cs n o h
    exact ⟨b, by show (w'.ro.take w.m.cs.length)[n]? = some b; rw [List.getElem?_take_of_lt hn]; exact k1, k2⟩
  · show (w'.m.cs.take w.m.cs.length).length = (w'.ro.take w.m.cs.length).length
    rw [List.length_take, List.length_take, r'.ln]
  · have hb : (w'.ro.take w.m.cs.length)[n]? = some b := hb
    have hn : n < w.m.cs.length := by
      have := (List.getElem?_eq_some_iff.mp hb).1
      rw [List.length_take] at this
      omega
    rw [List.getElem?_take_of_lt hn] at hb
    show w'.F b = _ ∨ w'.F b = none ∧ ∃ c' fs, (w'.m.cs.take w.m.cs.length)[n]? = some (.ins c' fs)
    rw [List.getElem?_take_of_lt hn]
    exact r'.rf n b hb
  · have q := r'.rk n b e
    show (w'.ro.take w.m.cs.length)[n]? = some b
    have hn : n < w.m.cs.length := by
      have h1 := (List.getElem?_eq_some_iff.mp q).1
      rw [← r'.ln, hl] at h1
      refine Nat.lt_of_le_of_ne (by omega) fun z => ?_
      subst z
      rw [et, r.ln, List.getElem?_append_right (Nat.le_refl _), Nat.sub_self] at q
      cases q
      have e : w'.F a = some (mkC _) := e
      rw [fa] at e
      cases e
    rw [List.getElem?_take_of_lt hn]
    exact q
  · exact List.Nodup.sublist (List.take_sublist _ _) r'.nd
  · have h : b ∈ w'.ro.take w.m.cs.length := h
    rw [ro'] at h
    exact .inl h
  · rcases f.grow b h with q | q
    · exact .inl q
    · exact .inr fun z => q (by
        show (yX3 w Cc a dx c).H b ≠ none
        cases e : w.H b with
        | none => exact absurd e z
        | some u => exact zGq (yX2 ha hd e))
  · obtain ⟨b, k1, k2⟩ := r'.cs _ o ho
    have eb : b = a := by
      rw [et, r.ln, List.getElem?_append_right (Nat.le_refl _), Nat.sub_self] at k1
      cases k1
      rfl
    subst eb
    refine ⟨b, rfl, ?_, fa, by show b ∉ w'.ro.take w.m.cs.length; rw [ro']; exact na, fun z => z ha, fun ⟨i, o, h1, _⟩ => by simp [xY0] at h1⟩
    cases o with
    | lst xs => exact k2
    | dic es => exact k2
    | ins c' fs =>
      obtain ⟨C', dx', vs, h1, h2, _, h4, h5⟩ := k2
      obtain ⟨C2, vs2, e2⟩ := r'.oo dx b hdx
      rw [h1] at e2
      cases e2
      exact ⟨_, _, _, h1, h2, fun z => z hd, h4, h5⟩
end
section
variable {X : Cx} {B : XBt} {k : Nat} {Cc fI : Addr} {c : Str} {ks : List Str} {h : Fn}
theorem xWj (C : Ctx X B) (M : Mk X.K Cc fI) (hc : zH0 X.K c Cc) (F : zG8 X.prog X.w X.K X.mg X.base k fI ks h) (hr : Room (k + 1) X.A) : xWu X B (.ref Cc) ks (mkF c h) := by
  intro w pins s us ws args xs ys Q I r hv ru rw' hl hw
  have I2 := Inv.made (C := Cc) I
  have ha : w.H (s.heap.objs.size + 1) = none := I.hok.fresh (Nat.le_succ _)
  have hd : w.H s.heap.objs.size = none := I.hok.fresh (Nat.le_refl _)
  have ne : s.heap.objs.size ≠ s.heap.objs.size + 1 := Nat.ne_of_lt (Nat.lt_succ_self _)
  have r1 := xUi (c := c) r ha hd ne hc
  have hv1 : Paired (RV X.K (yX3 w Cc (s.heap.objs.size + 1) s.heap.objs.size c)) (.cell w.m.cs.length :: args) ((V.ref (s.heap.objs.size + 1) :: xs) ++ ys) := .cons ⟨_, rfl, by
    show (w.ro ++ [s.heap.objs.size + 1])[w.m.cs.length]? = _
    rw [r.ln, List.getElem?_append_right (Nat.le_refl _), Nat.sub_self]
    rfl⟩ (xQo (ha := ha) hv)
  have hcw : yVg X.K h (fun x w' => ∀ cls d, xWt X.K w' x cls d → WXB X.K B cls d w.sg w'.H) (yX3 w Cc (s.heap.objs.size + 1) s.heap.objs.size c) (.cell w.m.cs.length :: args) (fun v H3 => v = .non ∧ Q (.ref (s.heap.objs.size + 1)) H3) := by
    unfold yVg
    have hw := yVv hw
    have em : (bare w).m = ⟨[], w.m.cs⟩ := rfl
    rw [em] at hw
    unfold mkF at hw
    dsimp only at hw
    show (h (.cell w.m.cs.length :: args) ⟨[], w.m.cs ++ [.ins c []]⟩).wp _ _
    cases e : h (.cell w.m.cs.length :: args) ⟨[], w.m.cs ++ [.ins c []]⟩ with
    | bad =>
      rw [e] at hw
      exact hw.elim
    | ok v m' =>
      rw [e] at hw
      show ∀ (w' : Wd) (x : V), w'.m.sl = [] → w'.m.cs = m'.cs → w'.sg = [] → _
      intro w' x e1 e2 e3 f r' re
      cases v with
      | new o => exact hw.elim
      | pk i o => exact hw.elim
      | cell n => exact hw.elim
      | d y =>
        cases y with
        | none =>
          dsimp only at hw
          split at hw
          · rename_i hlen
            split at hw
            · rename_i o ho
              obtain ⟨rp, fp, rn⟩ := xGr r ha hd ne f r' e1 (by rw [e2]; exact hlen)
              have rn := rn o (by rw [e2]; exact ho)
              obtain ⟨r2, f2⟩ := yZ8 r fp rp
              cases re
              refine ⟨rfl, ?_⟩
              have q : zVw X.K w Q (.new o) ⟨w.m.sl, m'.cs.take w.m.cs.length⟩ := hw
              exact q (back w (xY0 w w')) (.ref (s.heap.objs.size + 1)) (by show (⟨w.m.sl, w'.m.cs.take w.m.cs.length⟩ : Mem) = _; rw [e2]) rfl f2 r2 (yU6 r fp rfl rn)
            · exact hw.elim
          · exact hw.elim
        | _ => exact hw.elim
    | thr x m' =>
      rw [e] at hw
      show ∀ w' : Wd, w'.m.sl = [] → w'.m.cs = m'.cs → w'.sg = [] → _
      intro w' e1 e2 e3 f r' cls d ex
      dsimp only at hw
      split at hw
      · rename_i hlen
        obtain ⟨rp, fp, _⟩ := xGr r ha hd ne f r' e1 (by rw [e2]; exact hlen)
        obtain ⟨r2, f2⟩ := yZ8 r fp rp
        have q : XW X.K B w x ⟨w.m.sl, m'.cs.take w.m.cs.length⟩ := hw
        exact ⟨x, back w (xY0 w w'), r2, rfl, rfl, ex, q (back w (xY0 w w')) (by show (⟨w.m.sl, w'.m.cs.take w.m.cs.length⟩ : Mem) = _; rw [e2]) (f2.s r) r2⟩
      · exact hw.elim
  refine wpAny_call (make_map (f := fI) I.kIn M.makes M.init (beq_iff_eq.mp M.fn) (codeAny_mono (F _ X.stack _ (yX3 w Cc (s.heap.objs.size + 1) s.heap.objs.size c) (.ref (s.heap.objs.size + 1) :: us) ws _ _ ys _ (fun cls d H' => WXB X.K B cls d w.sg H') C.gd (hr.make Cc us (ks.zip ws)) (I2.env0.make Cc us (ks.zip ws)) rfl rfl (fun _ h => h) r1 hv1 (.cons rfl ru) rw' hl hcw) fun r s' hq => ?_))
  cases r with
  | error e => exact yGv C I2 hq
  | ok fl =>
    cases fl with
    | ret u =>
      obtain ⟨v, H', I3, rv, ev, q3⟩ := I2.after hq
      subst ev
      exact ⟨rv, ⟨V.ref (s.heap.objs.size + 1), H', I3, rfl, q3⟩⟩
    | next => exact False.elim hq
    | brk => exact False.elim hq
    | cont => exact False.elim hq
end
end Ev

namespace Ev
open PySem PySem.Spec PyProof.Rows L2
def yJf : PyData → Option (Str × List (PyData × PyData))
  | .dict ((.none, .str c) :: fs) => some (c, fs)
  | _ => none
@[simp] theorem wKp {c : Str} {fs : List (Str × PyData)} : yJf (yJx c fs) = some (c, zXt fs) := rfl
@[simp] theorem wKq {c : Str} {fs : List (Str × PyData)} : yJf (dOf (.ins c fs)) = some (c, zXt fs) := rfl
theorem zHs {K : PySem.W.Frag} {w : Wd} {d : PyData} {v : V} {c : Str} {fs : List (PyData × PyData)} (s : zG7 w.F w.H) (h : RN K w d v) (e : yJf d = some (c, fs)) :
    ∃ (a C dx : Addr) (vs : List (Str × V)), v = .ref a ∧ zH0 K c C ∧ w.H a = some (.ins C dx vs) ∧ RF K w.F fs vs := by
  rcases h with h | ⟨a, o, e2, rfl, h⟩
  · cases h with
    | non => cases e
    | bl b => cases e
    | int i => cases e
    | str x => cases e
    | lst _ _ => cases e
    | tup _ _ => cases e
    | dic _ h =>
      cases h with
      | nil => cases e
      | @cons k _ _ _ _ _ _ => cases k <;> cases e
    | ins h1 h2 h3 h4 =>
      cases e
      exact ⟨_, _, _, _, rfl, h1, s _ _ h2 xQi, h4⟩
    | cls _ => cases e
    | exn0 _ _ => cases e
    | exn _ _ _ _ => cases e
    | cell _ => cases e
  · subst e2
    cases o with
    | lst xs => cases e
    | dic es =>
      obtain ⟨kvs, _, rk⟩ := h
      cases rk with
      | nil => cases e
      | @cons k _ _ _ _ _ _ => cases k <;> cases e
    | ins c' fs' =>
      cases e
      obtain ⟨C, dx, vs, h1, _, _, h4, h5⟩ := h
      exact ⟨a, C, dx, vs, rfl, h4, h1, h5⟩
def FlL (K : PySem.W.Frag) (cl : List Str) (n : Str) : Prop := ∀ c, c ∈ cl → ∀ D, zH0 K c D → L2.Cls K D ∧ L2.NoAttr K D n
theorem zYb {K : PySem.W.Frag} {n : Str} : FlL K [] n := fun c h => by cases h
theorem xUm {K : PySem.W.Frag} {c n : Str} {cl : List Str} {D : Addr} (hc : zH0 K c D) (h1 : L2.Cls K D) (h2 : L2.NoAttr K D n) (t : FlL K cl n) : FlL K (c :: cl) n := fun c' h D' hD => by
  rcases List.mem_cons.mp h with rfl | h
  · rw [hD.one hc]
    exact ⟨h1, h2⟩
  · exact t c' h D' hD
def yJa (cl : List Str) (n : Str) (f : Pg EV) : Pg EV := .bind f fun v => look (zKn v) fun x => zK5 ((yJf x).bind fun p => if p.1 ∈ cl then (yVr n p.2).map .d else none)
section
variable {X : Cx} {B : XBt} {e o : Expr} {f fo fe : Pg EV} {pos p1 : Pos} {n : Str} {cl : List Str}
theorem zUz (h : Snd X B e f) (hl : FlL X.K cl n) (hb : attributeBase e n X.env (eval e X.env) = eval e X.env := by rfl) : Snd X B (.Attribute e n pos) (yJa cl n f) := by
  intro w Q r hw
  refine zKp (pe_fld zYf hb) ?_
  refine zQ0 h r hw fun v w1 y e1 f1 r1 re h1 => ?_
  obtain ⟨d, ed, h1⟩ := zXs h1
  obtain ⟨z, ez, q⟩ := zX2 h1
  cases ex : yJf d with
  | none =>
    rw [ex] at ez
    cases ez
  | some p =>
    obtain ⟨c, fs⟩ := p
    rw [ex] at ez
    have ez : (if c ∈ cl then (yVr n fs).map EV.d else none) = some z := ez
    split at ez
    · rename_i hc
      cases eg : yVr n fs with
      | none =>
        rw [eg] at ez
        cases ez
      | some d1 =>
        rw [eg] at ez
        cases ez
        obtain ⟨a, C, dx, vs, rfl, hcn, ha, rf⟩ := zHs r1.sub ((re.ro r1).rn r1 ed) ex
        obtain ⟨k1, k2⟩ := hl c hc C hcn
        obtain ⟨v1, l, rv⟩ := xKy rf eg
        exact ⟨a, C, dx, vs, v1, rfl, ha, k1, k2, l, q w1 v1 rfl e1 f1 r1 rv⟩
    · cases ez
def putD (f : Str) (v : PyData) : List (Str × PyData) → List (Str × PyData)
  | [] => [(f, v)]
  | (g, x) :: r => if g = f then (g, v) :: r else (g, x) :: putD f v r
theorem xGn {K : PySem.W.Frag} {F : Hp} {g : Str} {d : PyData} {y : V} (h : R K F d y) : ∀ {fs : List (Str × PyData)} {vs : List (Str × V)}, RF K F (zXt fs) vs → RF K F (zXt (putD g d fs)) (putF g y vs)
  | [], _, .nil => .cons h .nil
  | (k, x) :: fs, (_, z) :: vs, .cons h1 t => by
    unfold putD putF
    by_cases q : k = g
    · rw [if_pos q, if_pos q]
      exact .cons h t
    · rw [if_neg q, if_neg q]
      exact .cons h1 (xGn h (fs := fs) t)
def wK3 (cl : List Str) (n : Str) (d : PyData) : Ob → Option Ob
  | .ins c fs => if c ∈ cl ∧ fs.length < 900 then some (.ins c (putD n d fs)) else none
  | _ => none
def yYf (cl : List Str) (n : Str) (fe fo : Pg EV) : Pg Fl := .bind fe fun v => .bind (toA v) fun a => .bind (yQr a) fun d => .bind fo fun ov => .bind (yKu ov) fun ob => .bind (zK5 (wK3 cl n d ob)) fun ob' => .bind (putAt ov ob') fun _ => .ret .next
theorem yYo (he : Snd X B e fe) (ho : Snd X B o fo) (hl : FlL X.K cl n) (hs : swapsWith e (some (.Attribute o n p1)) pos.line X.env = pure false := by rfl) : yGc X B (.Assign [.Attribute o n p1] e pos) (yYf cl n fe fo) := by
  intro w D r hw
  refine yQa (ps_fld zYf zYf hs) ?_
  refine zQ0 he r hw fun v w1 y e1 f1 r1 re q1 => ?_
  obtain ⟨a, w2, ea, s2, h2, f2, r2, rv⟩ := zYi r1 re
  have q2 := wp_bind q1
  rw [ea] at q2
  obtain ⟨d, ed, q3⟩ := zHm (wp_bind q2)
  subst ed
  rw [← e1, ← s2, ← h2]
  have q3 : (Pg.bind fo _ w2.m).wp (zGd X.K w D) (XW X.K B w2) := q3.imp (fun _ _ z => z) fun _ _ z => z.fol (f2.s r1)
  refine zQ0 ho r2 q3 fun ov w3 x e3 f3 r3 re3 q4 => ?_
  have rd : R X.K w3.F d y := rv.mono f3.ext
  obtain ⟨p, ob, rfl, hO, q5, next⟩ := wVj r3 re3 r3 (FolE.refl w3) rfl (wp_bind q4)
  obtain ⟨ob', eo, q6⟩ := zX2 (wp_bind q5)
  cases ob with
  | lst xs => cases eo
  | dic es => cases eo
  | ins c fs =>
    have eo : (if c ∈ cl ∧ fs.length < 900 then some (Ob.ins c (putD n d fs)) else none) = some ob' := eo
    split at eo
    · rename_i hc
      obtain ⟨hc, hz⟩ := hc
      cases eo
      obtain ⟨C, dx, vs, k1, k2, _, k4, k5⟩ := id hO
      obtain ⟨c1, c2⟩ := hl c hc C k4
      have lz : vs.length < 1000 := by
        rw [← k5.len]
        unfold zXt
        rw [List.length_map]
        omega
      refine ⟨p, C, dx, vs, rfl, k1, c1, c2, lz, ?_⟩
      have pd : dx ≠ p := fun z => by
        rw [z, k1] at k2
        cases k2
      obtain ⟨w4, eH, eS, r4, f4, q7⟩ := next (.ins c (putD n d fs)) (.ins C dx (putF n y vs)) (.inr fun C' d' vs' z => by
        rw [k1] at z
        cases z
        exact ⟨C, _, rfl⟩) (fun Z hZ => by
        obtain ⟨C', dx', vs', j1, j2, j3, j4, j5⟩ := hZ
        rw [k1] at j1
        cases j1
        exact ⟨C, dx, _, upd_same, by rw [upd_ne pd]; exact j2, j3, j4, xGn rd j5⟩) (wp_bind q6)
      have q := q7 w4 rfl (((f1.trans f2).trans f3).s r |>.trans f4) r4
      rw [eH, eS, e3, s2] at q
      rw [s2]
      exact q
    · cases eo
end
section
variable {m : Mem} {X : Exn → Mem → Prop} {E : EV → Mem → Prop} {F : Fl → Mem → Prop}
@[simp] theorem vVh {cl : List Str} {n : Str} {f : Pg EV} : W (yJa cl n f) m X E ↔ W f m X fun v m1 => W (look (zKn v) fun x => zK5 ((yJf x).bind fun p => if p.1 ∈ cl then (yVr n p.2).map .d else none)) m1 X E := by
  unfold yJa
  rw [zZc]
@[simp] theorem vQ3 {cl : List Str} {n : Str} {fe fo : Pg EV} : W (yYf cl n fe fo) m X F ↔ W fe m X fun v m1 => W (toA v) m1 X fun a m2 => ∃ d, a = .d d ∧ W fo m2 X fun ov m3 => W (yKu ov) m3 X fun ob m4 => ∃ ob', wK3 cl n d ob = some ob' ∧ W (putAt ov ob') m4 X fun _ m5 => F .next m5 := by
  unfold yYf
  simp only [zZc, yU7, zH8, yU9]
@[simp] theorem wK2 {cl : List Str} {n c : Str} {d : PyData} {fs : List (Str × PyData)} : wK3 cl n d (.ins c fs) = if c ∈ cl ∧ fs.length < 900 then some (.ins c (putD n d fs)) else none := rfl
@[simp] theorem wVz {n : Str} {d : PyData} : putD n d [] = [(n, d)] := rfl
@[simp] theorem wX0 {n g : Str} {d x : PyData} {r : List (Str × PyData)} : putD n d ((g, x) :: r) = if g = n then (g, d) :: r else (g, x) :: putD n d r := rfl
end
end Ev

namespace PySem.W
open PySem PySem.Spec PySem.Calls PyProof.Rows
section
variable {M : Model} {A : Around} {E : Value → Shared → Prop} {s : Shared}
theorem xUg {f : Value} {x : Sem Value} {pos : Pos} {keywords : List (Option Str × Sem Value)} {Q : Args → Shared → Prop} (hall : keywords.all (·.1.isSome) = true)
    (h : wpAny M A x (fun v s₁ => wpAny M A (evalAll (keywords.map (·.2))) (fun ks s₂ => StarOf M A E v (fun vs s₃ => Q ⟨vs, (keywords.filterMap (·.1)).zip ks⟩ s₃) s₂) E s₁) E s) :
    wpAny M A (evalArgs f true [(true, (do let v ← x; standAt pos; pure v))] keywords) Q E s := by
  unfold evalArgs
  first
    | refine wpAny_bind (wpAny_bind (wpAny_mono h (fun v s₁ h₁ => wpAny_bind (wpAny_standAt (wpAny_pure ?_))) fun _ _ x => x))
    | refine wpAny_bind (wpAny_bind (wpAny_bind (wpAny_mono h (fun v s₁ h₁ => wpAny_bind (wpAny_standAt (wpAny_pure (wpAny_pure ?_)))) fun _ _ x => x)))
  refine wpAny_holding ?_
  dsimp only
  rw [if_pos hall]
  refine wpAny_bind (wpAny_mono h₁ (fun ks s₂ h₂ => ?_) fun _ _ x => x)
  unfold StarOf at h₂
  refine wpAny_bind (wpAny_bind (wpAny_mono h₂ (fun b s₃ h₃ => ?_) fun _ _ x => x))
  obtain ⟨rfl, h₃⟩ := h₃
  have z := wpAny_holding (vs := ((keywords.filterMap (·.1)).zip ks).map (·.2)) (wpAny_mono h₃ (fun vs s₄ h₄ => (wpAny_pure h₄ : wpAny M A (pure (⟨vs, (keywords.filterMap (·.1)).zip ks⟩ : Args)) Q E s₄)) fun _ _ x => x)
  try simp only [Bool.false_eq_true, if_false]
  first
    | exact z
    | exact wpAny_bind (wpAny_pure z)
theorem yUk {f : Value} {first : List Value} {pos : Pos} {Q : Value → Shared → Prop} {P : Heap → Prop} {args : List (Bool × Sem Value)} {keywords : List (Option Str × Sem Value)} (hst : args.any (·.1) = true)
    (hk : ∀ h, P h → ∃ k, (k = Keeper.frame ∨ k = Keeper.machine ∨ k = Keeper.boundFrame) ∧ Looks M h (keeperOf f) k)
    (h : wpAny M A (evalArgs f true args keywords) (fun a s₁ => P s₁.heap ∧ wpAny M A (call f (first ++ a.pos) a.kw) Q E s₁) E s) : wpAny M A (callWith pos f first args keywords) Q E s := by
  unfold callWith
  refine wpAny_bind (wpAny_holding (wpAny_mono h (fun a s₁ h₁ => wpAny_bind (wpAny_standAt ?_)) fun _ _ x => x))
  obtain ⟨k, hk', L⟩ := hk _ h₁.1
  simp only [hst, Bool.true_or]
  refine wpAny_bind (L.here ?_)
  have tail : ∀ {t : Sem Value}, wpAny M A t Q E s₁ → wpAny M A (t >>= fun r => holding [r] point >>= fun _ => pure r) Q E s₁ :=
    fun ht => wpAny_bind (wpAny_mono ht (fun r s₂ hr => wpAny_bind (wpAny_holding (wpAny_point (wpAny_pure hr)))) fun _ _ x => x)
  have marked (mk : Value) : wpAny M A (callMarked mk f (first ++ a.pos) a.kw) Q E s₁ := by unfold callMarked; exact Calls.wpAny_keep h₁.2
  rcases hk' with rfl | rfl | rfl <;> dsimp only <;> first | exact tail (marked _) | exact tail (wpAny_operating h₁.2)
end
end PySem.W
namespace Ev
open PySem PySem.Spec PyProof.Rows L2
def xU3 (X : Cx) (es : List Expr) (kws : List Keyword) (ks : List Str) (σ : L2.St) (H : Hp) (G : List V → List V → Hp → Prop) : Prop :=
  Cl (∀ (f : Value) (pos : Pos) (pins : List (Addr × Obj)) (s : Shared), L2.Inv X pins σ H s → ∀ (Q : Args → Shared → Prop), (∀ us ws xs ys H2 s2, L2.Inv X pins σ H2 s2 → Vals xs us → Vals ys ws → G xs ys H2 → Q ⟨us, ks.zip ws⟩ s2) →
    wpAny (model X.prog X.w) X.A (evalArgs f true (backTo pos (starEach es X.env)) (backToKw pos (keywordEach kws X.env))) Q X.xe s)
structure SndAK (X : Cx) (B : XBt) (es : List Expr) (kws : List Keyword) (ks : List Str) (fa fk : Pg (List AV)) : Prop where
  go : ∀ {α : Type} {cont : List AV → List AV → Pg α} {P : α → Mem → Prop} {w : Wd} {G : List V → List V → Hp → Prop}, Rep X.K w → ((Pg.bind fa fun vs => Pg.bind fk fun zs => cont vs zs) w.m).wp P (XW X.K B w) →
    (∀ (vs zs : List AV) (w2 : Wd) (xs ys : List V), w2.sg = w.sg → FolE w w2 → Rep X.K w2 → Paired (RV X.K w2) vs xs → Paired (RV X.K w2) zs ys → (cont vs zs w2.m).wp P (XW X.K B w2) → G xs ys w2.H) → xU3 X es kws ks w.sg w.H G
section
variable {X : Cx} {B : XBt} {e o : Expr} {es : List Expr} {kws : List Keyword} {ks : List Str} {fa fk : Pg (List AV)} {f fo : Pg EV} {p p' apos pos : Pos} {x mn : Str}
theorem yZd (ha : xJz X B (e :: es) fa) (hk : xWz X B kws fk) (hall : ∀ pos, (backToKw pos (keywordEach kws X.env)).all (·.1.isSome) = true := by intro _; rfl) (hks : ∀ pos, (backToKw pos (keywordEach kws X.env)).filterMap (·.1) = ks := by intro _; rfl)
    (he : starEach (e :: es) X.env = (false, eval e X.env) :: starEach es X.env := by rfl) : SndAK X B (e :: es) kws ks fa fk := by
  refine ⟨fun {α cont P w G} r hw next => ⟨fun f pos pins s I Q hQ => ?_⟩⟩
  have wa : WA X (e :: es) w.sg w.H fun xs H1 => WK X kws w.sg H1 fun ys H2 => G xs ys H2 := zY6 ha r hw fun vs w1 xs e1 f1 r1 rv q => by
    rw [← e1]
    exact zU0 hk r1 q fun zs w2 ys e2 f2 r2 rz q2 => next vs zs w2 xs ys (e2.trans e1) (f1.trans f2) r2 (yV7 f2 rv) rz q2
  refine PyProof.Rows.evalArgs_kw2 (hall pos) (thn (wa.go pos pins s I) fun us s1 ⟨xs, H1, I1, r1, q⟩ => thn (q.go pos pins s1 I1) fun ws s2 ⟨ys, H2, I2, rz, g⟩ => ?_) he
  rw [hks pos]
  exact hQ us ws xs ys H2 s2 I2 r1 rz g
theorem yV2 (hk : xWz X B kws fk) (hall : ∀ pos, (backToKw pos (keywordEach kws X.env)).all (·.1.isSome) = true := by intro _; rfl) (hks : ∀ pos, (backToKw pos (keywordEach kws X.env)).filterMap (·.1) = ks := by intro _; rfl) : SndAK X B [] kws ks zQh fk := by
  refine ⟨fun {α cont P w G} r hw next => ⟨fun f pos pins s I Q hQ => ?_⟩⟩
  have wa : WK X kws w.sg w.H fun ys H2 => G [] ys H2 := zU0 hk r (show (Pg.bind fk (fun zs => cont [] zs) w.m).wp P (XW X.K B w) from wp_bind hw) fun zs w2 ys e2 f2 r2 rz q2 => next [] zs w2 [] ys e2 f2 r2 .nil rz q2
  refine PyProof.Rows.evalArgs_kw2_nil (hall pos) (thn (wa.go pos pins s I) fun ws s2 ⟨ys, H2, I2, rz, g⟩ => ?_)
  rw [hks pos]
  exact hQ [] ws [] ys H2 s2 I2 .nil rz g
def yJz (f : Pg EV) : Pg (List AV) := .bind f fun v => .bind (toA v) fun a => zK5 ((yZk a).map dAV)
theorem yJk (h : Snd X B e f) (hk : xWz X B kws fk) (hall : ∀ pos, (backToKw pos (keywordEach kws X.env)).all (·.1.isSome) = true := by intro _; rfl) (hks : ∀ pos, (backToKw pos (keywordEach kws X.env)).filterMap (·.1) = ks := by intro _; rfl)
    (hs : starEach [.Starred e p'] X.env = [(true, eval e X.env)] := by rfl) : SndAK X B [.Starred e p'] kws ks (yJz f) fk := by
  refine ⟨fun {α cont P w G} r hw next => ⟨fun f' pos pins s I Q hQ => ?_⟩⟩
  have wa : WE X e w.sg w.H fun y H1 => ∃ a vs, y = .ref a ∧ WK X kws w.sg H1 fun ys H2 => (SqT X.K H2 a vs ∨ SqL X.K H2 a vs) ∧ G vs ys H2 := by
    refine zQ0 h r (wp_bind hw : (Pg.bind f _ w.m).wp _ _) fun v w1 y e1 f1 r1 re q => ?_
    obtain ⟨av, w1', ea, s1, h1, f1', r1', rv⟩ := zYi r1 re
    have q := wp_bind q
    rw [ea] at q
    obtain ⟨as, es, q⟩ := zX2 q
    have fin : ∀ {a : Addr} {vs : List V} {ds : List PyData}, (SqT X.K w1'.F a vs ∨ LQ X.K w1'.F a vs) → RA X.K w1'.F ds vs → as = dAV ds → y = V.ref a → ∃ a' vs', y = V.ref a' ∧ WK X kws w.sg w1.H fun ys H2 => (SqT X.K H2 a' vs' ∨ SqL X.K H2 a' vs') ∧ G vs' ys H2 := fun {a vs ds} hq ra ed ey => by
      subst ed
      refine ⟨a, vs, ey, ?_⟩
      rw [← e1, ← s1, ← h1]
      have q : (Pg.bind fk (fun zs => cont (dAV ds) zs) w1'.m).wp P (XW X.K B w1') := q.imp (fun _ _ z => z) fun _ _ z => z.fol ((f1.trans f1').s r)
      refine zU0 hk r1' q fun zs w2 ys e2 f2 r2 rz q2 => ⟨?_, next (dAV ds) zs w2 vs ys (e2.trans (s1.trans e1)) (f1.trans (f1'.trans f2)) r2 (yV7 f2 (xVt ra)) rz q2⟩
      rcases hq with hq | hq
      · exact .inl (zXh r2.sub (yXb f2.ext hq))
      · exact .inr ((hq.mono f2.ext).mox r2.sub).sq
    cases av with
    | cell n => cases es
    | d d =>
      cases d with
      | list xs =>
        cases es
        cases rv with
        | lst ha ra => exact fin (.inr ha) ra rfl rfl
      | tuple xs =>
        cases es
        cases rv with
        | tup ha ra => exact fin (.inl ha) ra rfl rfl
      | _ => cases es
  rw [hs]
  refine PySem.W.xUg (hall pos) (thn (wa.go pins s I) fun u s1 ⟨y, H1, I1, ry, a, vs, ey, q⟩ => ?_)
  subst ey
  obtain rfl : u = Value.ref a := ry
  refine thn (q.go pos pins s1 I1) fun ws s2 ⟨ys, H2, I2, rz, hq, g⟩ => ?_
  refine StX.star_any I2 hq fun us s3 I3 ru => ?_
  rw [hks pos]
  exact hQ us ws vs ys H2 s3 I3 ru rz g
def yJb (h : Fn) (m : Nat) (fa fk : Pg (List AV)) : Pg EV := .bind fa fun vs => .bind fk fun zs => if zs.length = m then zVj h (vs ++ zs) else .stuck
theorem xXk {h : Fn} {u : Value} {m : Nat} {w w2 : Wd} {vs zs : List AV} {xs ys : List V} {Q : VK} (cal : xWu X B u ks h) (hm : ks.length = m) (e2 : w2.sg = w.sg) (f2 : FolE w w2) (r2 : Rep X.K w2) (rv : Paired (RV X.K w2) vs xs) (rz : Paired (RV X.K w2) zs ys)
    (q : ((if zs.length = m then zVj h (vs ++ zs) else .stuck : Pg EV) w2.m).wp (zVw X.K w Q) (XW X.K B w2)) : ∀ (pins : List (Addr × Obj)) (s : Shared) (us ws : List Value), L2.Inv X pins w.sg w2.H s → Vals xs us → Vals ys ws → wpAny (model X.prog X.w) X.A (call u us (ks.zip ws)) (EP X pins w.sg Q) X.xe s := by
  intro pins s us ws I ru rw'
  split at q
  · rename_i hl
    rw [← e2] at I ⊢
    exact cal w2 pins s us ws _ xs ys Q I r2 (zZ3 rv rz) ru rw' (by rw [← zZt rz, hl, hm]) (q.imp (fun v m' z w3 y em es f3 r3 re => z w3 y em (es.trans e2) (f2.trans f3) r3 re) fun _ _ z => z)
  · exact q.elim
theorem xZe {h : Fn} {a : Addr} {m : Nat} (cal : xWu X B (.ref a) ks h) (hg : Gl X x) (hx : X.mg x = some (.ref a)) (hk : PySem.W.keepIn X.K (.ref a) = true) (A : SndAK X B es kws ks fa fk) (hm : ks.length = m) (hdb : (x == ("__debug__" : Str)) = false := by decide)
    (hpl : ((backTo pos (starEach es X.env)).any (·.1) || (backToKw pos (keywordEach kws X.env)).any (·.1.isNone)) = false := by rfl) : Snd X B (.Call (.Name x p) es kws pos) (yJb h m fa fk) := by
  intro w Q r hw
  refine ⟨fun pins s I => ?_⟩
  refine wpAny_Call_Name_kw (ld_glob I hg hx ?_ hdb)
  have wa := A.go (G := fun xs ys H2 => ∀ (pins : List (Addr × Obj)) (s : Shared) (us ws : List Value), L2.Inv X pins w.sg H2 s → Vals xs us → Vals ys ws → wpAny (model X.prog X.w) X.A (call (.ref a) us (ks.zip ws)) (EP X pins w.sg Q) X.xe s) r hw fun vs zs w2 xs ys e2 f2 r2 rv rz q => xXk cal hm e2 f2 r2 rv rz q
  exact PySem.W.callWith_of (P := fun h => X.K.In h) hpl (PySem.W.keeps_K hk) (wa.go _ pos pins s I _ fun us ws xs ys H2 s2 I2 ru rw' g => ⟨I2.kIn, g pins s2 us ws I2 ru rw'⟩)
theorem yGi {h : Fn} {a : Addr} {m : Nat} (cal : xWu X B (.ref a) ks h) (hg : Gl X x) (hx : X.mg x = some (.ref a)) (hk : PySem.W.keepIn X.K (.ref a) = true) (A : SndAK X B es kws ks fa fk) (hm : ks.length = m) (hdb : (x == ("__debug__" : Str)) = false := by decide)
    (hst : (backTo pos (starEach es X.env)).any (·.1) = true := by rfl) : Snd X B (.Call (.Name x p) es kws pos) (yJb h m fa fk) := by
  intro w Q r hw
  refine ⟨fun pins s I => ?_⟩
  refine wpAny_Call_Name_kw (ld_glob I hg hx ?_ hdb)
  have wa := A.go (G := fun xs ys H2 => ∀ (pins : List (Addr × Obj)) (s : Shared) (us ws : List Value), L2.Inv X pins w.sg H2 s → Vals xs us → Vals ys ws → wpAny (model X.prog X.w) X.A (call (.ref a) us (ks.zip ws)) (EP X pins w.sg Q) X.xe s) r hw fun vs zs w2 xs ys e2 f2 r2 rv rz q => xXk cal hm e2 f2 r2 rv rz q
  exact PySem.W.yUk (P := fun h => X.K.In h) hst (PySem.W.keeps_K hk) (wa.go _ pos pins s I _ fun us ws xs ys H2 s2 I2 ru rw' g => ⟨I2.kIn, g pins s2 us ws I2 ru rw'⟩)
end
end Ev

namespace Ev
open PySem PySem.Spec PyProof.Rows L2
theorem yK1 {K : PySem.W.Frag} {F : Hp} {n : Str} : ∀ {fs : List (PyData × PyData)} {vs : List (Str × V)}, RF K F fs vs → yVr n fs = none → vs.lookup n = none
  | _, _, .nil, _ => rfl
  | _, _, .cons (k := k) h t, e => by
    unfold yVr at e
    by_cases q : n = k
    · rw [if_pos q] at e
      cases e
    · rw [if_neg q] at e
      rw [List.lookup_cons, show (n == k) = false from beq_eq_false_iff_ne.mpr q]
      exact yK1 t e
def ovA : AV → OV
  | .d x => .d x
  | .cell n => .cell n
theorem xYt {K : PySem.W.Frag} {w : Wd} : ∀ {a : AV} {v : V}, RV K w a v → RO K w (ovA a) v
  | .d _, _, h => .inl h
  | .cell _, _, h => h
def recv (n : Str) (tb : List (Str × Fn)) (a : AV) : Pg Fn := look (ovA a) fun x => zK5 ((yJf x).bind fun p => if (yVr n p.2).isNone then tb.lookup p.1 else none)
def wXc (X : Cx) (B : XBt) (n : Str) (ks : List Str) (tb : List (Str × Fn)) : Prop := ∀ c h, tb.lookup c = some h → ∀ D, zH0 X.K c D → L2.Cls X.K D ∧ ∃ g, L2.Meth X.K D n g ∧ xWu X B (.ref g) ks h
theorem yX0 {X : Cx} {B : XBt} {n : Str} {ks : List Str} : wXc X B n ks [] := fun c h e => by cases e
theorem xKf {X : Cx} {B : XBt} {n c : Str} {ks : List Str} {tb : List (Str × Fn)} {h : Fn} {D g : Addr} (hc : zH0 X.K c D) (h1 : L2.Cls X.K D) (h2 : L2.Meth X.K D n g) (h3 : xWu X B (.ref g) ks h) (t : wXc X B n ks tb) : wXc X B n ks ((c, h) :: tb) := fun c' h' e D' hD => by
  rw [List.lookup_cons] at e
  cases q : c' == c with
  | true =>
    rw [q] at e
    cases e
    have q := eq_of_beq q
    subst q
    rw [hD.one hc]
    exact ⟨h1, g, h2, h3⟩
  | false =>
    rw [q] at e
    exact t c' h' e D' hD
def yJ7 (n : Str) (tb : List (Str × Fn)) (m : Nat) (fo : Pg EV) (fa fk : Pg (List AV)) : Pg EV := .bind fo fun v => .bind (toA v) fun a => .bind (recv n tb a) fun h => .bind fa fun vs => .bind fk fun zs => if zs.length = m then zVj h (a :: (vs ++ zs)) else .stuck
section
variable {X : Cx} {B : XBt} {o : Expr} {es : List Expr} {kws : List Keyword} {ks : List Str} {fa fk : Pg (List AV)} {fo : Pg EV} {apos pos : Pos} {n : Str} {tb : List (Str × Fn)} {m : Nat}
theorem yXe {pl : Sem Bool} (ho : Snd X B o fo) (T : wXc X B n ks tb) (A : SndAK X B es kws ks fa fk) (hm : ks.length = m)
    (ht : eval (.Call (.Attribute o n apos) es kws pos) X.env = (do
      let ov ← eval o X.env
      standAt apos.atName
      let (f, first) ← holding [ov] (getMethod ov n pl)
      callWith pos f first (backTo pos (starEach es X.env)) (backToKw pos (keywordEach kws X.env))) := by rfl)
    (hpl : ((backTo pos (starEach es X.env)).any (·.1) || (backToKw pos (keywordEach kws X.env)).any (·.1.isNone)) = false ∨ (backTo pos (starEach es X.env)).any (·.1) = true := by first | exact .inl rfl | exact .inr rfl) : Snd X B (.Call (.Attribute o n apos) es kws pos) (yJ7 n tb m fo fa fk) := by
  intro w Q r hw
  refine ⟨fun pins s I => ?_⟩
  have wa : WE X o w.sg w.H fun y H1 => ∃ a C dx fs g, y = .ref a ∧ H1 a = some (.ins C dx fs) ∧ L2.Cls X.K C ∧ L2.Meth X.K C n g ∧ fs.lookup n = none ∧
      xU3 X es kws ks w.sg H1 fun xs ys H2 => ∀ (pins : List (Addr × Obj)) (s : Shared) (us ws : List Value), L2.Inv X pins w.sg H2 s → Vals xs us → Vals ys ws → wpAny (model X.prog X.w) X.A (call (.ref g) (.ref a :: us) (ks.zip ws)) (EP X pins w.sg Q) X.xe s := by
    refine zQ0 ho r hw fun v w1 y e1 f1 r1 re q => ?_
    obtain ⟨av, w2, ea, s2, h2, f2, r2, rv⟩ := zYi r1 re
    have q := wp_bind q
    rw [ea] at q
    obtain ⟨x, ex, q⟩ := zXs (wp_bind q)
    obtain ⟨h, eh, q⟩ := zX2 q
    cases ei : yJf x with
    | none =>
      rw [ei] at eh
      cases eh
    | some p =>
      obtain ⟨c, fs⟩ := p
      rw [ei] at eh
      have eh : (if (yVr n fs).isNone then tb.lookup c else none) = some h := eh
      split at eh
      · rename_i hn
        obtain ⟨a, C, dx, vs, rfl, hcn, ha, rf⟩ := zHs r2.sub ((xYt rv).rn r2 ex) ei
        obtain ⟨k1, g, k2, cal⟩ := T c h eh C hcn
        rw [← e1, ← s2, ← h2]
        refine ⟨a, C, dx, vs, g, rfl, ha, k1, k2, yK1 rf (Option.isNone_iff_eq_none.mp hn), ?_⟩
        have q : (Pg.bind fa (fun vs => .bind fk fun zs => if zs.length = m then zVj h (av :: (vs ++ zs)) else .stuck) w2.m).wp (zVw X.K w Q) (XW X.K B w2) := q.imp (fun _ _ z => z) fun _ _ z => z.fol (f2.s r1)
        refine A.go r2 q fun vs' zs w3 xs ys e3 f3 r3 rv3 rz q3 => ?_
        intro pins s us ws I ru rw'
        split at q3
        · rename_i hl
          rw [← e3] at I ⊢
          exact cal w3 pins s (.ref a :: us) ws (av :: (vs' ++ zs)) (.ref a :: xs) ys Q I r3 (.cons (rv.fol f3) (zZ3 rv3 rz)) (.cons rfl ru) rw' (by rw [← zZt rz, hl, hm]) (q3.imp (fun v m' z w4 y em es f4 r4 re => z w4 y em (es.trans (e3.trans (s2.trans e1))) (f1.trans (f2.trans (f3.trans f4))) r4 re) fun _ _ z => z)
        · exact q3.elim
      · cases eh
  refine PySem.W.methodCall_KW (pl := pl) (thn (wa.go pins s I) fun u s1 ⟨y, H1, I1, ry, a, C, dx, fs, g, ey, ha, k1, k2, hl, q⟩ => ?_) ht
  subst ey
  obtain rfl : u = Value.ref a := ry
  refine getmeth_ok I1 ha k1 k2 hl ?_
  have run := q.go (.ref g) pos pins s1 I1 (fun b s2 => X.K.In s2.heap ∧ wpAny (model X.prog X.w) X.A (call (.ref g) (.ref a :: b.pos) b.kw) (EP X pins w.sg Q) X.xe s2) fun us ws xs ys H2 s2 I2 ru rw' g => ⟨I2.kIn, g pins s2 us ws I2 ru rw'⟩
  rcases hpl with hpl | hst
  · exact PySem.W.callWith_of (P := fun h => X.K.In h) (first := [.ref a]) hpl (PySem.W.keeps_K k2.kp) run
  · exact PySem.W.yUk (P := fun h => X.K.In h) (first := [.ref a]) hst (PySem.W.keeps_K k2.kp) run
end
end Ev

namespace Ev
open PySem PySem.Spec PyProof.Rows L2
section
variable {X : Cx} {B : XBt} {e : Expr} {f : Pg EV} {pos : Pos} {n : Str} {tb : List (Str × Fn)} {k : Nat}
end
section
variable {m : Mem} {X : Exn → Mem → Prop} {E : EV → Mem → Prop} {P : List AV → Mem → Prop}
@[simp] theorem vQr {n : Str} {tb : List (Str × Fn)} {a : AV} {P : Fn → Mem → Prop} : W (recv n tb a) m X P ↔ W (look (ovA a) fun x => zK5 ((yJf x).bind fun p => if (yVr n p.2).isNone then tb.lookup p.1 else none)) m X P := Iff.rfl
@[simp] theorem vZx {x : PyData} : ovA (.d x) = .d x := rfl
@[simp] theorem vZy {n : Nat} : ovA (.cell n) = .cell n := rfl
@[simp] theorem vQy {n : Str} {tb : List (Str × Fn)} {q : Nat} {fo : Pg EV} {fa fk : Pg (List AV)} : W (yJ7 n tb q fo fa fk) m X E ↔ W fo m X fun v m1 => W (toA v) m1 X fun a m2 => W (recv n tb a) m2 X fun h m3 => W fa m3 X fun vs m4 => W fk m4 X fun zs m5 => W (if zs.length = q then zVj h (a :: (vs ++ zs)) else .stuck) m5 X E := by
  unfold yJ7
  simp only [zZc]
@[simp] theorem vZb {h : Fn} {q : Nat} {fa fk : Pg (List AV)} : W (yJb h q fa fk) m X E ↔ W fa m X fun vs m1 => W fk m1 X fun zs m2 => W (if zs.length = q then zVj h (vs ++ zs) else .stuck) m2 X E := by
  unfold yJb
  simp only [zZc]
@[simp] theorem wU0 {f : Pg EV} : W (yJz f) m X P ↔ W f m X fun v m1 => W (toA v) m1 X fun a m2 => ∃ as, (yZk a).map dAV = some as ∧ P as m2 := by
  unfold yJz
  simp only [zZc, yU7]
end
end Ev

namespace Ev
open PySem PySem.Spec PyProof.Rows L2
def wVi : PyData → Option Str
  | .dict [(.none, .bool b), (.none, .str c)] => if b = true then some c else none
  | _ => none
@[simp] theorem wWe {c : Str} : wVi (xUy c) = some c := rfl
theorem wZk {K : PySem.W.Frag} {w : Wd} {d : PyData} {v : V} {c : Str} (h : RN K w d v) (e : wVi d = some c) : ∃ C, v = .ref C ∧ zH0 K c C := by
  rcases h with h | ⟨a, o, e2, rfl, h⟩
  · cases h with
    | non => cases e
    | bl b => cases e
    | int i => cases e
    | str x => cases e
    | lst _ _ => cases e
    | tup _ _ => cases e
    | dic _ h =>
      cases h with
      | nil => cases e
      | @cons k d es _ _ _ h2 =>
        cases h2 with
        | nil => cases k <;> cases d <;> cases e
        | @cons k2 d2 es2 _ _ _ h3 => cases k <;> cases e
    | ins h1 h2 h3 h4 => cases e
    | cls h1 =>
      cases e
      exact ⟨_, rfl, h1⟩
    | exn0 _ _ => cases e
    | exn _ _ _ _ => cases e
    | cell _ => cases e
  · subst e2
    cases o with
    | lst xs => cases e
    | dic es =>
      obtain ⟨kvs, _, rk⟩ := h
      cases rk with
      | nil => cases e
      | @cons k _ _ _ _ _ _ => cases k <;> cases e
    | ins c' fs' => cases e
theorem wJz {K : PySem.W.Frag} {mg : Str → Option Value} {x : Str} {C : Addr} (h : mg x = some (.ref C)) (hc : zH0 K x C) : GM K mg x (xUy x) := ⟨.ref C, _, h, rfl, fun _ => .cls hc⟩
def wW4 (X : Cx) (B : XBt) (u : Value) (ks : List Str) (h : Fn) : Prop :=
  ∀ (w : Wd) (pins : List (Addr × Obj)) (s : Shared) (us ws : List Value) (args : List AV) (xs ys : List V) (Q : VK), L2.Inv X pins w.sg w.H s → Rep X.K w → Paired (RV X.K w) args (xs ++ ys) → Vals xs us → Vals ys ws → ys.length = ks.length →
    (zVj h args w.m).wp (zVw X.K w Q) (XW X.K B w) → codeAny (model X.prog X.w) X.A (.call u ⟨us, ks.zip ws⟩) (wants (EP X pins w.sg Q) X.xe) s
theorem wW4.v {X : Cx} {B : XBt} {u : Value} {ks : List Str} {h : Fn} (c : wW4 X B u ks h) : xWu X B u ks h := fun w pins s us ws args xs ys Q I r hv ru rw hl hw => wpAny_call (c w pins s us ws args xs ys Q I r hv ru rw hl hw)
theorem xU0 {X : Cx} {B : XBt} {k : Nat} {f : Addr} {ks : List Str} {h : Fn} (C : Ctx X B) (F : zG8 X.prog X.w X.K X.mg X.base k f ks h) (hr : Room k X.A) : wW4 X B (.ref f) ks h := by
  intro w pins s us ws args xs ys Q I r hv ru rw hl hw
  refine codeAny_mono (F X.A X.stack s (bare w) us ws args xs ys Q (fun cls d H' => WXB X.K B cls d w.sg H') C.gd hr I.env0 rfl rfl (fun _ h => h) (yVw r) (yJ2 hv) ru rw hl (xXj r hw)) fun r s' hq => ?_
  match r, hq with
  | .error _, hq => exact yGv C I hq
  | .ok (.ret u), hq => exact I.after hq
  | .ok .next, hq => exact (show False from hq).elim
  | .ok .brk, hq => exact (show False from hq).elim
  | .ok .cont, hq => exact (show False from hq).elim
def xGb (X : Cx) (B : XBt) (n : Str) (ks : List Str) (tb : List (Str × Fn)) : Prop := ∀ c h, tb.lookup c = some h → ∀ D, zH0 X.K c D → ∃ mc p g, ClX.CRead X.K D mc ∧ ClX.CMet X.K D mc n p g ∧ wW4 X B (.ref g) ks h
def xX5 (tb : List (Str × Fn)) (a : AV) : Pg Fn := look (ovA a) fun x => zK5 ((wVi x).bind fun c => tb.lookup c)
def yK4 (tb : List (Str × Fn)) (m : Nat) (fo : Pg EV) (fa fk : Pg (List AV)) : Pg EV := .bind fo fun v => .bind (toA v) fun a => .bind (xX5 tb a) fun h => .bind fa fun vs => .bind fk fun zs => if zs.length = m then zVj h (a :: (vs ++ zs)) else .stuck
def wW3 (X : Cx) (B : XBt) (ks : List Str) (tb : List (Str × Fn)) : Prop := ∀ c h, tb.lookup c = some h → ∀ D, zH0 X.K c D → PySem.W.keepIn X.K (.ref D) = true ∧ xWu X B (.ref D) ks h
def yHk (tb : List (Str × Fn)) (m : Nat) (fo : Pg EV) (fa fk : Pg (List AV)) : Pg EV := .bind fo fun v => .bind (toA v) fun a => .bind (xX5 tb a) fun h => .bind fa fun vs => .bind fk fun zs => if zs.length = m then zVj h (vs ++ zs) else .stuck
section
variable {X : Cx} {B : XBt} {o : Expr} {es : List Expr} {kws : List Keyword} {ks : List Str} {fa fk : Pg (List AV)} {fo : Pg EV} {p apos pos : Pos} {n x : Str} {tb : List (Str × Fn)} {m : Nat}
theorem xZj {w : Wd} {a : AV} {v : V} {P : Fn → Mem → Prop} {E : Exn → Mem → Prop} (r : Rep X.K w) (rv : RV X.K w a v) (h : (xX5 tb a w.m).wp P E) : ∃ c f C, tb.lookup c = some f ∧ v = .ref C ∧ zH0 X.K c C ∧ P f w.m := by
  obtain ⟨x, ex, q⟩ := zXs h
  obtain ⟨f, ef, q⟩ := zX2 q
  cases ec : wVi x with
  | none =>
    rw [ec] at ef
    cases ef
  | some c =>
    rw [ec] at ef
    obtain ⟨C, ev, hc⟩ := wZk ((xYt rv).rn r ex) ec
    exact ⟨c, f, C, ef, ev, hc, q⟩
theorem yGh {pl : Sem Bool} (ho : Snd X B o fo) (T : xGb X B n ks tb) (A : SndAK X B es kws ks fa fk) (hm : ks.length = m)
    (ht : eval (.Call (.Attribute o n apos) es kws pos) X.env = (do
      let ov ← eval o X.env
      standAt apos.atName
      let (f, first) ← holding [ov] (getMethod ov n pl)
      callWith pos f first (backTo pos (starEach es X.env)) (backToKw pos (keywordEach kws X.env))) := by rfl)
    (hpl : ((backTo pos (starEach es X.env)).any (·.1) || (backToKw pos (keywordEach kws X.env)).any (·.1.isNone)) = false := by rfl) : Snd X B (.Call (.Attribute o n apos) es kws pos) (yK4 tb m fo fa fk) := by
  intro w Q r hw
  refine ⟨fun pins s I => ?_⟩
  have wa : WE X o w.sg w.H fun y H1 => ∃ C mc p g, y = .ref C ∧ ClX.CRead X.K C mc ∧ ClX.CMet X.K C mc n p g ∧
      xU3 X es kws ks w.sg H1 fun xs ys H2 => ∀ (pins : List (Addr × Obj)) (s : Shared) (us ws : List Value), L2.Inv X pins w.sg H2 s → Vals xs us → Vals ys ws → codeAny (model X.prog X.w) X.A (.call (.ref g) ⟨.ref C :: us, ks.zip ws⟩) (wants (EP X pins w.sg Q) X.xe) s := by
    refine zQ0 ho r hw fun v w1 y e1 f1 r1 re q => ?_
    obtain ⟨av, w2, ea, s2, h2, f2, r2, rv⟩ := zYi r1 re
    have q := wp_bind q
    rw [ea] at q
    obtain ⟨c, h, C, eh, ey, hc, q⟩ := xZj r2 rv (wp_bind q)
    subst ey
    obtain ⟨mc, p, g, k1, k2, cal⟩ := T c h eh C hc
    rw [← e1, ← s2, ← h2]
    refine ⟨C, mc, p, g, rfl, k1, k2, ?_⟩
    have q : (Pg.bind fa (fun vs => .bind fk fun zs => if zs.length = m then zVj h (av :: (vs ++ zs)) else .stuck) w2.m).wp (zVw X.K w Q) (XW X.K B w2) := q.imp (fun _ _ z => z) fun _ _ z => z.fol (f2.s r1)
    refine A.go r2 q fun vs' zs w3 xs ys e3 f3 r3 rv3 rz q3 => ?_
    intro pins s us ws I ru rw'
    split at q3
    · rename_i hl
      rw [← e3] at I ⊢
      exact cal w3 pins s (.ref C :: us) ws (av :: (vs' ++ zs)) (.ref C :: xs) ys Q I r3 (.cons (rv.fol f3) (zZ3 rv3 rz)) (.cons rfl ru) rw' (by rw [← zZt rz, hl, hm]) (q3.imp (fun v m' z w4 y em es f4 r4 re => z w4 y em (es.trans (e3.trans (s2.trans e1))) (f1.trans (f2.trans (f3.trans f4))) r4 re) fun _ _ z => z)
    · exact q3.elim
  refine PySem.W.methodCall_KW (pl := pl) (thn (wa.go pins s I) fun u s1 ⟨y, H1, I1, ry, C, mc, p, g, ey, k1, k2, q⟩ => ?_) ht
  subst ey
  obtain rfl : u = Value.ref C := ry
  refine ClX.getmethcm_ok I1 k1 k2 fun s2 I2 => ?_
  refine PySem.W.callWith_of (P := PySem.W.MethP X.K s1.heap.objs.size g (.ref C)) (first := []) hpl (PySem.W.keeps_M k2.fi) (q.go _ pos _ s2 I2 _ fun us ws xs ys H2 s3 I3 ru rw' gg => ⟨⟨ClX.pin_at I3, I3.kIn⟩, ?_⟩)
  have z := wpAny_call (PySem.W.method_call (ClX.pin_at I3) (gg _ s3 us ws I3 ru rw'))
  exact thn z fun _ _ y => ClX.unpinE y
theorem xZf (ho : Snd X B (.Name x p) fo) (T : wW3 X B ks tb) (A : SndAK X B es kws ks fa fk) (hm : ks.length = m)
    (hpl : ((backTo pos (starEach es X.env)).any (·.1) || (backToKw pos (keywordEach kws X.env)).any (·.1.isNone)) = false ∨ (backTo pos (starEach es X.env)).any (·.1) = true := by first | exact .inl rfl | exact .inr rfl) : Snd X B (.Call (.Name x p) es kws pos) (yHk tb m fo fa fk) := by
  intro w Q r hw
  refine ⟨fun pins s I => ?_⟩
  have wa : WE X (.Name x p) w.sg w.H fun y H1 => ∃ C, y = .ref C ∧ PySem.W.keepIn X.K (.ref C) = true ∧
      xU3 X es kws ks w.sg H1 fun xs ys H2 => ∀ (pins : List (Addr × Obj)) (s : Shared) (us ws : List Value), L2.Inv X pins w.sg H2 s → Vals xs us → Vals ys ws → wpAny (model X.prog X.w) X.A (call (.ref C) us (ks.zip ws)) (EP X pins w.sg Q) X.xe s := by
    refine zQ0 ho r hw fun v w1 y e1 f1 r1 re q => ?_
    obtain ⟨av, w2, ea, s2, h2, f2, r2, rv⟩ := zYi r1 re
    have q := wp_bind q
    rw [ea] at q
    obtain ⟨c, h, C, eh, ey, hc, q⟩ := xZj r2 rv (wp_bind q)
    subst ey
    obtain ⟨k1, cal⟩ := T c h eh C hc
    rw [← e1, ← s2, ← h2]
    refine ⟨C, rfl, k1, ?_⟩
    have q : (Pg.bind fa (fun vs => .bind fk fun zs => if zs.length = m then zVj h (vs ++ zs) else .stuck) w2.m).wp (zVw X.K w Q) (XW X.K B w2) := q.imp (fun _ _ z => z) fun _ _ z => z.fol (f2.s r1)
    refine A.go r2 q fun vs' zs w3 xs ys e3 f3 r3 rv3 rz q3 => ?_
    intro pins s us ws I ru rw'
    split at q3
    · rename_i hl
      rw [← e3] at I ⊢
      exact cal w3 pins s us ws (vs' ++ zs) xs ys Q I r3 (zZ3 rv3 rz) ru rw' (by rw [← zZt rz, hl, hm]) (q3.imp (fun v m' z w4 y em es f4 r4 re => z w4 y em (es.trans (e3.trans (s2.trans e1))) (f1.trans (f2.trans (f3.trans f4))) r4 re) fun _ _ z => z)
    · exact q3.elim
  refine wpAny_Call_Name_kw (thn (wa.go pins s I) fun u s1 ⟨y, H1, I1, ry, C, ey, k1, q⟩ => ?_)
  subst ey
  obtain rfl : u = Value.ref C := ry
  rcases hpl with hpl | hst
  · exact PySem.W.callWith_of (P := fun h => X.K.In h) hpl (PySem.W.keeps_K k1) (q.go _ pos pins s1 I1 _ fun us ws xs ys H2 s2 I2 ru rw' g => ⟨I2.kIn, g pins s2 us ws I2 ru rw'⟩)
  · exact PySem.W.yUk (P := fun h => X.K.In h) hst (PySem.W.keeps_K k1) (q.go _ pos pins s1 I1 _ fun us ws xs ys H2 s2 I2 ru rw' g => ⟨I2.kIn, g pins s2 us ws I2 ru rw'⟩)
end
end Ev

namespace Ev
open PySem PySem.Spec PyProof.Rows L2
def OpT (X : Cx) (B : XBt) (op : Operator) (tb : List (Str × Fn)) : Prop := ∀ c h, tb.lookup c = some h → ∀ D, zH0 X.K c D → PySem.W.selfFirst X.K D = true ∧ ∃ g, PySem.W.findIn X.K (.ref D) (PySem.dunder op.info.2) = some (some (.ref g)) ∧ PySem.W.isFn X.K (.ref g) = true ∧ xWu X B (.ref g) [] h
theorem wQq {X : Cx} {B : XBt} {op : Operator} : OpT X B op [] := fun c h e => by cases e
theorem xY5 {X : Cx} {B : XBt} {op : Operator} {c : Str} {tb : List (Str × Fn)} {h : Fn} {D g : Addr} (hc : zH0 X.K c D) (h1 : PySem.W.selfFirst X.K D = true) (h2 : PySem.W.findIn X.K (.ref D) (PySem.dunder op.info.2) = some (some (.ref g))) (h3 : PySem.W.isFn X.K (.ref g) = true) (h4 : xWu X B (.ref g) [] h) (t : OpT X B op tb) : OpT X B op ((c, h) :: tb) := fun c' h' e D' hD => by
  rw [List.lookup_cons] at e
  cases q : c' == c with
  | true =>
    rw [q] at e
    cases e
    have q := eq_of_beq q
    subst q
    rw [hD.one hc]
    exact ⟨h1, g, h2, h3, h4⟩
  | false =>
    rw [q] at e
    exact t c' h' e D' hD
def wV1 (tb : List (Str × Fn)) (x y : PyData) : Option Fn := match yJf x, yJf y with
  | some p, some q => if p.1 = q.1 then tb.lookup p.1 else none
  | _, _ => none
def xXd (op : Operator) (tb : List (Str × Fn)) (fa fb : Pg EV) : Pg EV := .bind fa fun v => .bind (toA v) fun a => .bind fb fun u => .bind (toA u) fun b => look (ovA a) fun x => look (ovA b) fun y =>
  if (yJf x).isSome then .bind (zK5 (wV1 tb x y)) fun h => zVj h [a, b] else zK5 (yVh op x y)
section
variable {X : Cx} {B : XBt} {ea eb : Expr} {fa fb : Pg EV} {pos : Pos} {op : Operator} {tb : List (Str × Fn)}
theorem xYo (ha : Snd X B ea fa) (hb : Snd X B eb fb) (T : OpT X B op tb) : Snd X B (.BinOp ea op eb pos) (xXd op tb fa fb) := by
  intro w Q r hw
  refine ⟨fun pins s I => ?_⟩
  have wa : WE X ea w.sg w.H fun x H1 => WE X eb w.sg H1 fun y H2 => ∀ (pins : List (Addr × Obj)) (s : Shared) (u v : Value), L2.Inv X pins w.sg H2 s → RelV x u → RelV y v → wpAny (model X.prog X.w) X.A (binaryOp op u v) (EP X pins w.sg Q) X.xe s := by
    refine zQ0 ha r hw fun v w1 x e1 f1 r1 re q => ?_
    obtain ⟨a, w2, ea', s2, h2, f2, r2, rv⟩ := zYi r1 re
    have q := wp_bind q
    rw [ea'] at q
    rw [← e1, ← s2, ← h2]
    have q : (Pg.bind fb _ w2.m).wp (zVw X.K w Q) (XW X.K B w2) := Res.wp.imp q (fun _ _ z => z) fun _ _ z => z.fol (f2.s r1)
    refine zQ0 hb r2 q fun u w3 y e3 f3 r3 re3 q => ?_
    obtain ⟨b, w4, eb', s4, h4, f4, r4, rv4⟩ := zYi r3 re3
    have q := wp_bind q
    rw [eb'] at q
    intro pins s u' v' I ru rv'
    have ra4 : RV X.K w4 a x := (rv.fol f3).fol f4
    have q : (look (ovA a) _ w4.m).wp (zVw X.K w Q) (XW X.K B w4) := Res.wp.imp q (fun _ _ z => z) fun _ _ z => z.fol (f4.s r3)
    obtain ⟨dx, ex, q⟩ := zXs q
    obtain ⟨dy, ey, q⟩ := zXs q
    have sg4 : w4.sg = w.sg := s4.trans (e3.trans (s2.trans e1))
    have fol : FolE w w4 := f1.trans (f2.trans (f3.trans f4))
    have I : L2.Inv X pins w4.sg w4.H s := by rw [h4, s4, e3]; exact I
    have rx := (xYt ra4).rn r4 ex
    have ry := (xYt rv4).rn r4 ey
    have eS : w2.sg = w4.sg := (s4.trans e3).symm
    rw [eS]
    split at q
    · obtain ⟨h, eh, q⟩ := zX2 (wp_bind q)
      unfold wV1 at eh
      split at eh
      · rename_i p1 p2 i1 i2
        split at eh
        · rename_i hcc
          obtain ⟨c, fs⟩ := p1
          obtain ⟨c', fs'⟩ := p2
          have hcc : c = c' := hcc
          subst hcc
          obtain ⟨a1, C, d1, vs, rfl, hc1, ha1, _⟩ := zHs r4.sub rx i1
          obtain ⟨a2, C2, d2, vs2, rfl, hc2, ha2, _⟩ := zHs r4.sub ry i2
          have eC := hc2.one hc1
          subst eC
          obtain ⟨k1, g, k2, k3, cal⟩ := T c h eh C2 hc1
          obtain rfl : u' = Value.ref a1 := ru
          obtain rfl : v' = Value.ref a2 := rv'
          obtain ⟨mA, O, _⟩ := ins_get I.hok ha1
          obtain ⟨od, J, _⟩ := O.look
          obtain ⟨mA2, O2, _⟩ := ins_get I.hok ha2
          obtain ⟨od2, J2, _⟩ := O2.look
          obtain ⟨m, hF⟩ := I.fr
          refine PySem.W.binop_K hF I.ok.mod.kin J J2.type k1 k2 k3 ?_
          have z := cal w4 pins s [.ref a1, .ref a2] [] [a, b] [.ref a1, .ref a2] [] Q I r4 (.cons ra4 (.cons rv4 .nil)) (.cons rfl (.cons rfl .nil)) .nil rfl (q.imp (fun v m' z w5 y em es f5 r5 re => z w5 y em (es.trans sg4) (fol.trans f5) r5 re) fun _ _ z => z)
          exact wpAny_mono z (fun v' s' ⟨z', H', I', rz, qz⟩ => SlX.cmpback rz ⟨z', H', I', rz, qz⟩) fun _ _ x => x
        · cases eh
      · cases eh
    · obtain ⟨z, ez, q⟩ := zX2 q
      exact yKe pins s w4.sg w4.H x y u' v' Q I ru rv' (xHc r4 rx ry ez (zVw.keep q sg4 fol))
  exact wpAny_BinOp (thn (wa.go pins s I) fun u s1 ⟨x, H1, I1, rx, q⟩ => thn (q.go pins s1 I1) fun v s2 ⟨y, H2, I2, ry, g⟩ => g pins s2 u v I2 rx ry)
def wW2 (X : Cx) (n : Str) (tb : List (Str × PyData)) : Prop := ∀ c d, tb.lookup c = some d → ∀ D, zH0 X.K c D → L2.Cls X.K D ∧ ∃ v u, L2.Con X.K D n v u ∧ ∀ F, R X.K F d v
def xUp (n : Str) (tb : List (Str × PyData)) (f : Pg EV) : Pg EV := .bind f fun v => look (zKn v) fun x => zK5 ((yJf x).bind fun p => if (yVr n p.2).isNone then (tb.lookup p.1).map .d else none)
theorem xHy {f : Pg EV} {n : Str} {tb : List (Str × PyData)} (h : Snd X B ea f) (T : wW2 X n tb) (hb : attributeBase ea n X.env (eval ea X.env) = eval ea X.env := by rfl) : Snd X B (.Attribute ea n pos) (xUp n tb f) := by
  intro w Q r hw
  refine zKp (pe_con zYf hb) ?_
  refine zQ0 h r hw fun v w1 y e1 f1 r1 re h1 => ?_
  obtain ⟨d, ed, h1⟩ := zXs h1
  obtain ⟨z, ez, q⟩ := zX2 h1
  cases ex : yJf d with
  | none =>
    rw [ex] at ez
    cases ez
  | some p =>
    obtain ⟨c, fs⟩ := p
    rw [ex] at ez
    have ez : (if (yVr n fs).isNone then (tb.lookup c).map EV.d else none) = some z := ez
    split at ez
    · rename_i hn
      cases eg : tb.lookup c with
      | none =>
        rw [eg] at ez
        cases ez
      | some d1 =>
        rw [eg] at ez
        cases ez
        obtain ⟨a, C, dx, vs, rfl, hcn, ha, rf⟩ := zHs r1.sub ((re.ro r1).rn r1 ed) ex
        obtain ⟨k1, v1, u1, k2, k3⟩ := T c d1 eg C hcn
        exact ⟨a, C, dx, vs, v1, u1, rfl, ha, k1, k2, yK1 rf (Option.isNone_iff_eq_none.mp hn), q w1 v1 rfl e1 f1 r1 (k3 w1.F)⟩
    · cases ez
end
section
variable {m : Mem} {X : Exn → Mem → Prop} {E : EV → Mem → Prop}
@[simp] theorem vZd {op : Operator} {tb : List (Str × Fn)} {fa fb : Pg EV} : W (xXd op tb fa fb) m X E ↔ W fa m X fun v m1 => W (toA v) m1 X fun a m2 => W fb m2 X fun u m3 => W (toA u) m3 X fun b m4 => W (look (ovA a) fun x => look (ovA b) fun y => if (yJf x).isSome then .bind (zK5 (wV1 tb x y)) fun h => zVj h [a, b] else zK5 (yVh op x y)) m4 X E := by
  unfold xXd
  simp only [zZc]
@[simp] theorem vVi {n : Str} {tb : List (Str × PyData)} {f : Pg EV} : W (xUp n tb f) m X E ↔ W f m X fun v m1 => W (look (zKn v) fun x => zK5 ((yJf x).bind fun p => if (yVr n p.2).isNone then (tb.lookup p.1).map .d else none)) m1 X E := by
  unfold xUp
  rw [zZc]
@[simp] theorem wU1 {tb : List (Str × Fn)} {a : AV} {P : Fn → Mem → Prop} : W (xX5 tb a) m X P ↔ W (look (ovA a) fun x => zK5 ((wVi x).bind fun c => tb.lookup c)) m X P := Iff.rfl
@[simp] theorem wGm {tb : List (Str × Fn)} {q : Nat} {fo : Pg EV} {fa fk : Pg (List AV)} : W (yK4 tb q fo fa fk) m X E ↔ W fo m X fun v m1 => W (toA v) m1 X fun a m2 => W (xX5 tb a) m2 X fun h m3 => W fa m3 X fun vs m4 => W fk m4 X fun zs m5 => W (if zs.length = q then zVj h (a :: (vs ++ zs)) else .stuck) m5 X E := by
  unfold yK4
  simp only [zZc]
@[simp] theorem vZc {tb : List (Str × Fn)} {q : Nat} {fo : Pg EV} {fa fk : Pg (List AV)} : W (yHk tb q fo fa fk) m X E ↔ W fo m X fun v m1 => W (toA v) m1 X fun a m2 => W (xX5 tb a) m2 X fun h m3 => W fa m3 X fun vs m4 => W fk m4 X fun zs m5 => W (if zs.length = q then zVj h (vs ++ zs) else .stuck) m5 X E := by
  unfold yHk
  simp only [zZc]
end
end Ev

namespace Ev
open PySem PySem.Spec PyProof.Rows L2
def yHv (K : PySem.W.Frag) (n : Str) (D g : Addr) : Prop := L2.Meth K D n g
def wXb (K : PySem.W.Frag) (n : Str) (D g : Addr) : Prop := ∃ mc p, ClX.CRead K D mc ∧ ClX.CMet K D mc n p g
def RMk (K : PySem.W.Frag) (mg : Str → Option Value) (c : Str) (D g : Addr) : Prop := L2.Mk K D g ∧ mg c = some (.ref D)
def ROp (K : PySem.W.Frag) (op : Operator) (D g : Addr) : Prop := PySem.W.selfFirst K D = true ∧ PySem.W.findIn K (.ref D) (PySem.dunder op.info.2) = some (some (.ref g)) ∧ PySem.W.isFn K (.ref g) = true
def xGa (K : PySem.W.Frag) (c : Str) (R : Addr → Addr → Prop) (FF : Addr → FuncData → Prop) : Prop := ∃ D g fd, zH0 K c D ∧ L2.Cls K D ∧ R D g ∧ FF g fd
def xQx (P : Program) (w : World) (K : PySem.W.Frag) (mg : Str → Option Value) (base : Heap) (k : Nat) (c : Str) (R : Addr → Addr → Prop) (ks : List Str) (h : Fn) : Prop := ∃ D g, zH0 K c D ∧ L2.Cls K D ∧ R D g ∧ zG8 P w K mg base k g ks h
def FFp (K : PySem.W.Frag) (x qual : Str) (st : Stmt) (g : Addr) (fd : FuncData) : Prop := Fun K x qual st g fd
def FFd (K : PySem.W.Frag) (x qual : Str) (st : Stmt) (kws : List (Str × V)) (g : Addr) (fd : FuncData) : Prop := FunD K x qual (defArgs st) (defBody st) (defScope st) [] kws g fd
section
variable {P : Program} {w : World} {K : PySem.W.Frag} {mg : Str → Option Value} {base : Heap} {c x qual pv : Str} {R : Addr → Addr → Prop} {FF : Addr → FuncData → Prop} {st : Stmt} {ps ks : List Str} {kws : List (Str × V)} {g : Fn} {j k q : Nat} {f : Addr} {fd : FuncData}
theorem yQy {h : Fn} (m : xGa K c R FF) (cp : ∀ {f : Addr} {fd : FuncData}, FF f fd → zG8 P w K mg base k f ks h) : xQx P w K mg base k c R ks h := by
  obtain ⟨D, g, fd, h1, h2, h3, h4⟩ := m
  exact ⟨D, g, h1, h2, h3, cp h4⟩
theorem xZ6 (F : FFd K x qual st kws f fd) : Fun K x qual st f fd := by
  obtain ⟨oc, od, dV, kV, doc, pm, an, cdv, ct, osl, e, lk, hcd, hD, hK⟩ := F.ex
  rcases hD with ⟨_, rfl⟩ | ⟨z, _⟩
  · exact ⟨⟨oc, od, kV, doc, pm, an, cdv, ct, osl, e, lk, hcd⟩, F.kp⟩
  · exact absurd rfl z
theorem wVe (ok : ∀ {f : Addr} {fd : FuncData}, Fun K x qual st f fd → FnG P w K mg base j f fd ps (spG K ps.length g)) (hk : j ≤ k) (n : Nat) (is : List Nat) (hq : ps.length = q)
    (hb : ∀ (kV doc pm : Value) (an : Option Addr) (cdv ct : Value) (us ws : List Value), us.length = n → ws.length = ks.length → bindArgs (PySem.W.fnOf x qual (defArgs st) (defBody st) (defScope st) .none kV doc pm an cdv ct) ⟨us, ks.zip ws⟩ = pure (ps.zip (pick is (us ++ ws ++ [])))) (F : FFp K x qual st f fd) :
    zG8 P w K mg base k f ks (pD n ks.length q is [] g) := by
  refine xWe ((ok F).up hk) hq .nil (fun _ => .nil) fun s us ws _ l1 l2 => ?_
  obtain ⟨oc, od, kV, doc, pm, an, cdv, ct, osl, rfl, _, _⟩ := F.ex
  exact .of_eq (hb kV doc pm an cdv ct us ws l1 l2)
theorem vQc (ok : ∀ {f : Addr} {fd : FuncData}, Fun K x qual st f fd → FnG P w K mg base j f fd ps (spG K ps.length g)) (hk : j ≤ k) (n : Nat) (ms : List (Str × V)) (is : List Nat) (ds : List PyData) (hne : kws ≠ []) (hms : ∀ q ∈ ms, q ∈ kws) (hds : ∀ F : Hp, RA K F ds (ms.map (·.2))) (hq : ps.length = q)
    (hb : ∀ (D : Addr) (doc pm : Value) (an : Option Addr) (cdv ct : Value) (us mv ws : List Value), us.length = n → mv.length = ms.length → ws.length = ks.length →
      KwChain D ((ms.map (·.1)).zip mv) (bindArgs (PySem.W.fnOf x qual (defArgs st) (defBody st) (defScope st) .none (.ref D) doc pm an cdv ct) ⟨us, ks.zip ws⟩) (ps.zip (pick is (us ++ ws ++ mv)))) (F : FFd K x qual st kws f fd) :
    zG8 P w K mg base k f ks (pD n ks.length q is ds g) := by
  obtain ⟨mv, rk, hb'⟩ := xHa F n ks ms is hne hms hb
  exact xWe ((ok (xZ6 F)).up hk) hq rk hds hb'
theorem vJn {full : Bool} (ok : ∀ {f : Addr} {fd : FuncData}, Fun K x qual st f fd → FnG P w K mg base j f fd (ps ++ [pv]) (spG K (ps.length + 1) g)) (hk : j ≤ k) (n : Nat) (ms : List (Str × V)) (is : List Nat) (ds : List PyData) (hne : kws ≠ []) (hms : ∀ q ∈ ms, q ∈ kws) (hds : ∀ F : Hp, RA K F ds (ms.map (·.2))) (hq : ps.length + 1 = q)
    (hb : ∀ (D : Addr) (doc pm : Value) (an : Option Addr) (cdv ct : Value) (us mv ws rest : List Value), us.length = n → mv.length = ms.length → ws.length = ks.length → (full = true ∨ rest = []) →
      Chain D ((ms.map (·.1)).zip mv) (bindArgs (PySem.W.fnOf x qual (defArgs st) (defBody st) (defScope st) .none (.ref D) doc pm an cdv ct) ⟨us ++ rest, ks.zip ws⟩) (newTuple rest >>= fun t => pure (ps.zip (pick is (us ++ ws ++ mv)) ++ [(pv, t)]))) (F : FFd K x qual st kws f fd) :
    zG8 P w K mg base k f ks (pS full n ks.length q is ds g) := by
  obtain ⟨mv, rk, hb'⟩ := wXo F n ks ms is hne hms hb
  exact xWd ((ok (xZ6 F)).up hk) hq rk hds hb'
theorem wUe {full : Bool} (ok : ∀ {f : Addr} {fd : FuncData}, Fun K x qual st f fd → FnG P w K mg base j f fd (ps ++ [pv]) (spG K (ps.length + 1) g)) (hk : j ≤ k) (n : Nat) (is : List Nat) (hq : ps.length + 1 = q)
    (hb : ∀ (kV doc pm : Value) (an : Option Addr) (cdv ct : Value) (us ws rest : List Value), us.length = n → ws.length = ks.length → (full = true ∨ rest = []) →
      bindArgs (PySem.W.fnOf x qual (defArgs st) (defBody st) (defScope st) .none kV doc pm an cdv ct) ⟨us ++ rest, ks.zip ws⟩ = (newTuple rest >>= fun t => pure (ps.zip (pick is (us ++ ws ++ [])) ++ [(pv, t)]))) (F : FFp K x qual st f fd) :
    zG8 P w K mg base k f ks (pS full n ks.length q is [] g) := by
  refine xWd ((ok F).up hk) hq .nil (fun _ => .nil) fun s us ws rest X l1 l2 l3 M A Q E hw => ?_
  obtain ⟨oc, od, kV, doc, pm, an, cdv, ct, osl, rfl, _, _⟩ := F.ex
  rw [hb kV doc pm an cdv ct us ws rest l1 l2 l3]
  exact hw
end
section
variable {X : Cx} {B : XBt} {k : Nat} {c n : Str} {ks : List Str} {h : Fn} {tb : List (Str × Fn)} {op : Operator}
theorem yG9 (C : Ctx X B) (m : xQx X.prog X.w X.K X.mg X.base k c (yHv X.K n) ks h) (hr : Room k X.A) (t : wXc X B n ks tb) : wXc X B n ks ((c, h) :: tb) := by
  obtain ⟨D, g, h1, h2, h3, h4⟩ := m
  exact xKf h1 h2 h3 (yU4 C h4 hr) t
theorem yHq : xGb X B n ks [] := fun c h e => by cases e
theorem xWf (C : Ctx X B) (m : xQx X.prog X.w X.K X.mg X.base k c (wXb X.K n) ks h) (hr : Room k X.A) (t : xGb X B n ks tb) : xGb X B n ks ((c, h) :: tb) := by
  obtain ⟨D, g, h1, h2, ⟨mc, p, h3, h5⟩, h4⟩ := m
  intro c' h' e D' hD
  rw [List.lookup_cons] at e
  cases q : c' == c with
  | true =>
    rw [q] at e
    cases e
    have q := eq_of_beq q
    subst q
    rw [hD.one h1]
    exact ⟨mc, p, g, h3, h5, xU0 C h4 hr⟩
  | false =>
    rw [q] at e
    exact t c' h' e D' hD
theorem wYu (C : Ctx X B) (m : xQx X.prog X.w X.K X.mg X.base k c (ROp X.K op) [] h) (hr : Room k X.A) (t : OpT X B op tb) : OpT X B op ((c, h) :: tb) := by
  obtain ⟨D, g, h1, h2, ⟨h3, h5, h6⟩, h4⟩ := m
  exact xY5 h1 h3 h5 h6 (yU4 C h4 hr) t
theorem xXh : wW3 X B ks [] := fun c h e => by cases e
theorem xHb (C : Ctx X B) (m : xQx X.prog X.w X.K X.mg X.base k c (RMk X.K X.mg c) ks h) (hr : Room (k + 1) X.A) (t : wW3 X B ks tb) : wW3 X B ks ((c, mkF c h) :: tb) := by
  obtain ⟨D, g, h1, h2, ⟨h3, h5⟩, h4⟩ := m
  intro c' h' e D' hD
  rw [List.lookup_cons] at e
  cases q : c' == c with
  | true =>
    rw [q] at e
    cases e
    have q := eq_of_beq q
    subst q
    rw [hD.one h1]
    exact ⟨h3.kp, xWj C h3 h1 h4 hr⟩
  | false =>
    rw [q] at e
    exact t c' h' e D' hD
variable {es : List Expr} {kws : List Keyword} {fa fk : Pg (List AV)} {p pos : Pos} {m : Nat}
theorem xZc (C : Ctx X B) (me : xQx X.prog X.w X.K X.mg X.base k c (RMk X.K X.mg c) ks h) (hr : Room (k + 1) X.A) (hg : Gl X c) (A : SndAK X B es kws ks fa fk) (hm : ks.length = m) (hdb : (c == ("__debug__" : Str)) = false := by decide)
    (hpl : ((backTo pos (starEach es X.env)).any (·.1) || (backToKw pos (keywordEach kws X.env)).any (·.1.isNone)) = false ∨ (backTo pos (starEach es X.env)).any (·.1) = true := by first | exact .inl rfl | exact .inr rfl) : Snd X B (.Call (.Name c p) es kws pos) (yJb (mkF c h) m fa fk) := by
  obtain ⟨D, g, h1, h2, ⟨h3, h5⟩, h4⟩ := me
  rcases hpl with hpl | hst
  · exact xZe (xWj C h3 h1 h4 hr) hg h5 h3.kp A hm hdb hpl
  · exact yGi (xWj C h3 h1 h4 hr) hg h5 h3.kp A hm hdb hst
end
def wVu (K : PySem.W.Frag) (c n : Str) : Prop := ∃ D, zH0 K c D ∧ L2.Cls K D ∧ L2.NoAttr K D n
theorem yX7 {K : PySem.W.Frag} {c n : Str} {cl : List Str} (h : wVu K c n) (t : FlL K cl n) : FlL K (c :: cl) n := by
  obtain ⟨D, h1, h2, h3⟩ := h
  exact xUm h1 h2 h3 t
def wG3 (K : PySem.W.Frag) (c n : Str) (d : PyData) : Prop := ∃ D, zH0 K c D ∧ L2.Cls K D ∧ ∃ v u, L2.Con K D n v u ∧ ∀ F, R K F d v
theorem xUx {X : Cx} {n : Str} : wW2 X n [] := fun c h e => by cases e
theorem wVg {X : Cx} {c n : Str} {d : PyData} {tb : List (Str × PyData)} (h : wG3 X.K c n d) (t : wW2 X n tb) : wW2 X n ((c, d) :: tb) := by
  obtain ⟨D, h1, h2, h3⟩ := h
  intro c' h' e D' hD
  rw [List.lookup_cons] at e
  cases q : c' == c with
  | true =>
    rw [q] at e
    cases e
    have q := eq_of_beq q
    subst q
    rw [hD.one h1]
    exact ⟨h2, h3⟩
  | false =>
    rw [q] at e
    exact t c' h' e D' hD
end Ev

namespace Ev
open PySem PySem.Spec PyProof.Rows L2
def wGx (P : Program) (w : World) (K : PySem.W.Frag) (mg : Str → Option Value) (base : Heap) (k : Nat) (x : Str) (ks : List Str) (h : Fn) : Prop := ∃ f, mg x = some (.ref f) ∧ PySem.W.keepIn K (.ref f) = true ∧ zG8 P w K mg base k f ks h
section
variable {P : Program} {w : World} {K : PySem.W.Frag} {mg : Str → Option Value} {base : Heap} {x : Str} {st : Stmt} {k : Nat} {ks : List Str} {h : Fn}
theorem wJm (m : FMS K mg x st) (cp : ∀ {f : Addr} {fd : FuncData}, FFp K x x st f fd → zG8 P w K mg base k f ks h) : wGx P w K mg base k x ks h := by
  obtain ⟨f, fd, F, e⟩ := m
  exact ⟨f, e, F.kp, cp F⟩
end
section
variable {X : Cx} {B : XBt} {k : Nat} {x : Str} {ks : List Str} {h : Fn} {es : List Expr} {kws : List Keyword} {fa fk : Pg (List AV)} {pos p : Pos} {m : Nat}
theorem xHx (C : Ctx X B) (me : wGx X.prog X.w X.K X.mg X.base k x ks h) (hr : Room k X.A) (hg : Gl X x) (A : SndAK X B es kws ks fa fk) (hm : ks.length = m) (hdb : (x == ("__debug__" : Str)) = false := by decide)
    (hpl : ((backTo pos (starEach es X.env)).any (·.1) || (backToKw pos (keywordEach kws X.env)).any (·.1.isNone)) = false ∨ (backTo pos (starEach es X.env)).any (·.1) = true := by first | exact .inl rfl | exact .inr rfl) : Snd X B (.Call (.Name x p) es kws pos) (yJb h m fa fk) := by
  obtain ⟨f, h1, h2, h3⟩ := me
  rcases hpl with hpl | hst
  · exact xZe (yU4 C h3 hr) hg h1 h2 A hm hdb hpl
  · exact yGi (yU4 C h3 hr) hg h1 h2 A hm hdb hst
end
section
variable {K : PySem.W.Frag} {c x qual : Str} {st : Stmt} {C f p D : Addr} {mc oc kV doc pm cdv ct : Value} {od an : Option Addr} {osl : Array (Option Value)} {kws : List (Str × V)} {rest : List Value} {n : Nat} {mg : Str → Option Value}
theorem yHi (l : K.lookup f = some ⟨oc, od, .func (PySem.W.fnOf x qual (defArgs st) (defBody st) (defScope st) .none kV doc pm an cdv ct), osl⟩) (cc : PySem.W.codeIn K cdv qual = true) (k : PySem.W.keepIn K (.ref f) = true) : FFp K x qual st f (PySem.W.fnOf x qual (defArgs st) (defBody st) (defScope st) .none kV doc pm an cdv ct) := fun_mk l cc k
theorem xKx (l : K.lookup f = some ⟨oc, od, .func (PySem.W.fnOf x qual (defArgs st) (defBody st) (defScope st) .none (.ref D) doc pm an cdv ct), osl⟩) (cc : PySem.W.codeIn K cdv qual = true) (k : PySem.W.keepIn K (.ref f) = true) (h : ∀ q ∈ kws, ∃ u, PySem.W.nsIn K D q.1 = some (some u) ∧ RelV q.2 u) :
    FFd K x qual st kws f (PySem.W.fnOf x qual (defArgs st) (defBody st) (defScope st) .none (.ref D) doc pm an cdv ct) := ⟨⟨oc, od, .none, .ref D, doc, pm, an, cdv, ct, osl, rfl, l, cc, .inl ⟨rfl, rfl⟩, .inr ⟨D, rfl, h⟩⟩, k⟩
theorem zH6 (a : PySem.W.plainGet K C Str.empty = true) (b : PySem.W.hasDictIn K C = true) (d : PySem.W.plainOver K C = true) (e : PySem.W.findIn K (.ref C) "__setattr__" = some (some (.builtin "object.__setattr__"))) : L2.Cls K C := ⟨a, b, d, e⟩
theorem yYx (a : PySem.W.findIn K (.ref C) x = some (some (.ref f))) (b : PySem.W.isFn K (.ref f) = true) (k : PySem.W.keepIn K (.ref f) = true) : yHv K x C f := ⟨a, b, k⟩
theorem xVs (a : PySem.W.readsIn K C mc = true) (b : PySem.W.specialIn K (.ref C) "__getattribute__" = some (some (.builtin "type.__getattribute__"))) (d : PySem.W.findCls K (.ref C) mc x = some (.get (.builtin "classmethod.__get__") (.ref p) .none (.ref C))) (r : PySem.W.recIn K p "classmethod" = some (.ref f :: rest)) (e : PySem.W.fnIn K f = true) : wXb K x C f := ⟨mc, p, ⟨a, b⟩, d, ⟨rest, r⟩, e⟩
theorem wXu (a : PySem.W.findIn K (.ref C) "__init__" = some (some (.ref f))) (b : PySem.W.isFn K (.ref f) = true) (d : PySem.W.makesIn K C = true) (e : PySem.W.keepIn K (.ref C) = true) (m : mg c = some (.ref C)) : RMk K mg c C f := ⟨⟨d, a, b, e⟩, m⟩
theorem wXs {op : Operator} (a : PySem.W.findIn K (.ref C) (PySem.dunder op.info.2) = some (some (.ref f))) (b : PySem.W.isFn K (.ref f) = true) (d : PySem.W.selfFirst K C = true) : ROp K op C f := ⟨d, a, b⟩
theorem xKw (z : PySem.W.nsIn K mainGlobals c = some (some (.ref C))) (k : L2.Cls K C) (a : PySem.W.findIn K (.ref C) x = some none) : wVu K c x := ⟨C, z, k, a⟩
theorem wVf {u : Value} {d : PyData} (z : PySem.W.nsIn K mainGlobals c = some (some (.ref C))) (k : L2.Cls K C) (a : PySem.W.findIn K (.ref C) x = some (some u)) (e : rdK K n u = some d) (g : PySem.W.specialIn K u "__get__" = some none) (cp : PySem.W.copiedNames.contains x = false) : wG3 K c x d := by
  obtain ⟨y, h1, h2⟩ := xVr n u d e
  exact ⟨C, z, k, y, u, ⟨a, h1, g, cp⟩, h2⟩
end
end Ev

namespace Ev
open PySem PySem.Spec PyProof.Rows L2
def yUq : EV → Pg EV
  | .pk i o => fun m => .ok (.d (dOf o)) (zU6 m i (dOf o))
  | v => .ret v
def kept : EV → Prop
  | .pk _ _ => False
  | _ => True
theorem xZ3 {K : PySem.W.Frag} {w : Wd} (r : Rep K w) : ∀ {v : EV} {x : V}, RE K w v x → ∃ (v' : EV) (w' : Wd), yUq v w.m = .ok v' w'.m ∧ w'.sg = w.sg ∧ w'.H = w.H ∧ FolE w w' ∧ Rep K w' ∧ RE K w' v' x ∧ kept v'
  | .d y, x, h => ⟨.d y, w, rfl, rfl, rfl, FolE.refl w, r, h, trivial⟩
  | .cell n, x, h => ⟨.cell n, w, rfl, rfl, rfl, FolE.refl w, r, h, trivial⟩
  | .new o, x, h => ⟨.new o, w, rfl, rfl, rfl, FolE.refl w, r, h, trivial⟩
  | .pk i o, x, ⟨h1, h2⟩ => by
    obtain ⟨w', e1, e2, e3, f, r', q⟩ := yKw r h1 h2
    exact ⟨.d (dOf o), w', by show Res.ok _ _ = _; rw [e1], e2, e3, f, r', q, trivial⟩
def adN : EV → V → Addr → Prop
  | .new _, x, a => x = .ref a
  | _, _, _ => False
def xHl (w : Wd) (v : EV) (x : V) : Wd := { w with Z := fun b => w.Z b ∨ adN v x b }
theorem xHk {K : PySem.W.Frag} {w : Wd} {v : EV} {x : V} (r : Rep K w) (h : RE K w v x) : Rep K (xHl w v x) := by
  have nn : ∀ {a : Addr}, adN v x a → (∃ o, OH K w.F w.H w.Z a o) ∧ w.F a = none ∧ a ∉ w.ro ∧ ¬ Own w a := fun {a} z => by
    cases v with
    | new o =>
      obtain ⟨b, e, h1, h2, h3, h4, h5⟩ := h
      have z : x = .ref a := z
      rw [e] at z
      cases z
      exact ⟨⟨o, h1⟩, h2, h3, h5⟩
    | _ => exact z.elim
  refine ⟨r.sub, r.le, fun i s hs => ?_, r.cs, r.ln, r.rf, r.rk, r.nd, r.ow, fun a z => ?_, r.oo, r.tb⟩
  · obtain ⟨y, h1, h2⟩ := r.sl i s hs
    refine ⟨y, h1, ?_⟩
    cases s with
    | d u => exact h2
    | cell n => exact h2
    | thk t => exact h2
    | ob o =>
      obtain ⟨b, e, q1, q2, q3, q4⟩ := h2
      refine ⟨b, e, q1.keep (Same.refl _) (fun _ z => z) (fun _ z => z) fun d hd z => ?_, q2, q3, fun z => ?_⟩
      · rcases z with z | z
        · exact z
        · obtain ⟨⟨o', g⟩, _⟩ := nn z
          exact absurd hd g.noOwn
      · rcases z with z | z
        · exact q4 z
        · subst e
          exact (nn z).2.2.2 ⟨i, o, hs, h1⟩
  · rcases z with z | z
    · exact r.zl a z
    · obtain ⟨⟨o', g⟩, _⟩ := nn z
      obtain ⟨u, hu⟩ := g.live
      show w.H a ≠ none
      rw [hu]
      simp
theorem xJ3 {K : PySem.W.Frag} {w w2 : Wd} {v : EV} {x : V} (r : Rep K w) (h : RE K w v x) (hk : kept v) (f : FolE (xHl w v x) w2) (r2 : Rep K w2) :
    Rep K { w2 with Z := w.Z } ∧ FolE w { w2 with Z := w.Z } ∧ RE K { w2 with Z := w.Z } v x ∧ ∀ (u : EV) (y : V), RE K w2 u y → RE K { w2 with Z := w.Z } u y ∧ ∀ a, adN v x a → ¬ adN u y a := by
  have sz : ∀ {b : Addr}, w.Z b → w2.Z b := fun {b} z => by
    rw [f.z]
    exact .inl z
  have ohz : ∀ {b : Addr} {o : Ob}, OH K w2.F w2.H w2.Z b o → OH K w2.F w2.H w.Z b o := fun h => h.keep (Same.refl _) (fun _ z => z) (fun _ z => z) fun _ _ z => sz z
  refine ⟨⟨r2.sub, r2.le, fun i s hs => ?_, r2.cs, r2.ln, r2.rf, r2.rk, r2.nd, r2.ow, fun a z => r2.zl a (sz z), r2.oo, r2.tb⟩,
    ⟨rfl, f.t, f.ext, f.pre, f.frm, f.new, f.liv, fun a q => (f.grow a q).imp id fun z z2 => z (.inl z2), f.own⟩, ?_, fun u y hu => ⟨?_, fun a z1 z2 => ?_⟩⟩
  · obtain ⟨y, h1, h2⟩ := r2.sl i s hs
    refine ⟨y, h1, ?_⟩
    cases s with
    | d u => exact h2
    | cell n => exact h2
    | thk t => exact h2
    | ob o =>
      obtain ⟨b, e, q1, q2, q3, q4⟩ := h2
      exact ⟨b, e, ohz q1, q2, q3, fun z => q4 (sz z)⟩
  · cases v with
    | d u => exact R.mono f.ext h
    | cell n =>
      obtain ⟨a, e, q⟩ := h
      exact ⟨a, e, f.at q⟩
    | pk i o => exact hk.elim
    | new o =>
      obtain ⟨a, e, h1, h2, h3, h4, h5⟩ := h
      obtain ⟨u, hu⟩ := h1.live
      refine ⟨a, e, h1.keep f.ext (fun u z => f.frm _ _ z h3 (h1.ntbl z)) (fun d z => f.frm _ _ z (r.noOwnDict z).1 (by intro _ q; cases q)) (fun _ _ z => z), Classical.byContradiction fun q => ?_, fun q => ?_, h4, fun q => h5 (f.own _ q)⟩
      · rcases f.grow a q with z | z
        · exact z h2
        · exact z (.inr e)
      · rcases f.new a q with z | z
        · exact h3 z
        · have z : w.H a = none := z
          rw [hu] at z
          cases z
  · cases u with
    | d y => exact hu
    | cell n => exact hu
    | pk i o => exact hu
    | new o =>
      obtain ⟨a, e, h1, h2, h3, h4, h5⟩ := hu
      exact ⟨a, e, ohz h1, h2, h3, fun z => h4 (sz z), h5⟩
  · cases u with
    | d y => exact z2.elim
    | cell n => exact z2.elim
    | pk i o => exact z2.elim
    | new o =>
      obtain ⟨b, e, h1, h2, h3, h4, h5⟩ := hu
      have z2 : y = .ref a := z2
      rw [e] at z2
      cases z2
      exact h4 (by rw [f.z]; exact .inr z1)
def yHw : EV → SV
  | .d x => .d x
  | .new o => .ob o
  | .cell n => .cell n
  | .pk _ o => .d (dOf o)
def wZw (i : Nat) (v : EV) : Pg Unit := fun m => .ok () (setM m i (yHw v))
def xJk (i j : Nat) (fa fb : Pg EV) : Pg Fl := .bind fa fun v => .bind (yUq v) fun v' => .bind (yVe fb) fun u => .bind (yUq u) fun u' => .bind (wZw i v') fun _ => .bind (wZw j u') fun _ => .ret .next
theorem wXq {K : PySem.W.Frag} {w : Wd} {v : EV} {x : V} (h : RE K w v x) (hk : kept v) : RS K w (yHw v) x := by
  cases v with
  | d y => exact h
  | cell n => exact h
  | pk i o => exact hk.elim
  | new o =>
    obtain ⟨a, e, h1, h2, h3, h4, h5⟩ := h
    exact ⟨a, e, h1, h2, h3, h4⟩
theorem xH6 {K : PySem.W.Frag} {w : Wd} {i : Nat} {v s : SV} {x y : V} (h : RS K w s y) : RS K (yYq w i v x) s y := by
  cases s <;> exact h
section
variable {m : Mem} {X : Exn → Mem → Prop} {F : Fl → Mem → Prop}
@[simp] theorem wU5 {i : Nat} {o : Ob} {P : EV → Mem → Prop} : W (yUq (.pk i o)) m X P ↔ P (.d (dOf o)) (zU6 m i (dOf o)) := ⟨fun h => h.go, fun h => ⟨h⟩⟩
@[simp] theorem wU7 {x : PyData} {P : EV → Mem → Prop} : W (yUq (.d x)) m X P ↔ P (.d x) m := ⟨fun h => h.go, fun h => ⟨h⟩⟩
@[simp] theorem wU6 {o : Ob} {P : EV → Mem → Prop} : W (yUq (.new o)) m X P ↔ P (.new o) m := ⟨fun h => h.go, fun h => ⟨h⟩⟩
@[simp] theorem wU8 {n : Nat} {P : EV → Mem → Prop} : W (yUq (.cell n)) m X P ↔ P (.cell n) m := ⟨fun h => h.go, fun h => ⟨h⟩⟩
@[simp] theorem wHc {x : PyData} : yHw (.d x) = .d x := rfl
@[simp] theorem wHb {o : Ob} : yHw (.new o) = .ob o := rfl
@[simp] theorem wHd {n : Nat} : yHw (.cell n) = .cell n := rfl
@[simp] theorem vQp {i : Nat} {v : EV} {sl : List (Option SV)} {cs : List Ob} {P : Unit → Mem → Prop} : W (wZw i v) ⟨sl, cs⟩ X P ↔ P () ⟨sl.set i (some (yHw v)), cs⟩ := ⟨fun h => h.go, fun h => ⟨h⟩⟩
@[simp] theorem vJ9 {i j : Nat} {fa fb : Pg EV} : W (xJk i j fa fb) m X F ↔ W fa m X fun v m1 => W (yUq v) m1 X fun v' m2 => W fb m2 noX fun u m3 => W (yUq u) m3 X fun u' m4 => W (wZw i v') m4 X fun _ m5 => W (wZw j u') m5 X fun _ m6 => F .next m6 := by
  unfold xJk
  simp only [zZc, yU8, zH8]
end
section
variable {X : Cx} {B : XBt} {a b : Expr} {pos : Pos} {fa fb : Pg EV}
theorem wQn {K : PySem.W.Frag} {w : Wd} {v u : EV} {x y : V} (r : Rep K w) (hv : RE K w v x) (hu : RE K w u y) (kv : kept v) (ku : kept u) (dis : ∀ a, adN v x a → ¬ adN u y a) (i j : Nat) :
    Rep K (yYq (yYq w i (yHw v) x) j (yHw u) y) ∧ FolS w (yYq (yYq w i (yHw v) x) j (yHw u) y) := by
  obtain ⟨r5, f5⟩ := yW2 (i := i) (v := yHw v) (x := x) r (wXq hv kv) fun xs a e e' => by
    cases v with
    | d y => cases e
    | cell n => cases e
    | pk i o => exact kv.elim
    | new o =>
      obtain ⟨c, ec, _, _, _, _, h5⟩ := hv
      rw [e'] at ec
      cases ec
      exact h5
  obtain ⟨r6, f6⟩ := yW2 (i := j) (v := yHw u) (x := y) r5 (xH6 (wXq hu ku)) fun xs a e e' => by
    cases u with
    | d y => cases e
    | cell n => cases e
    | pk i o => exact ku.elim
    | new o =>
      obtain ⟨c, ec, _, _, _, _, h5⟩ := hu
      rw [e'] at ec
      cases ec
      rintro ⟨t, ys, z1, z2⟩
      rcases xZg z1 with ⟨q1, q2, q3⟩ | ⟨q1, q2⟩
      · subst q1
        have z2 : (w.sg.set t (some x))[t]? = some (some (.ref a)) := z2
        rw [List.getElem?_set_self (Nat.lt_of_lt_of_le q3 r.le)] at z2
        cases z2
        cases v with
        | d y => cases q2
        | cell n => cases q2
        | pk i o => exact kv.elim
        | new o' => exact dis a rfl e'
      · have z2 : (w.sg.set i (some x))[t]? = some (some (.ref a)) := z2
        rw [List.getElem?_set_ne (Ne.symm q1)] at z2
        exact h5 ⟨t, ys, q2, z2⟩
  exact ⟨r6, f5.trans f6⟩
theorem wX7 {i j : Nat} {w : Wd} {D : Ends} {Z : V → V → Hp → Prop} (ha : Snd X B a fa) (hb : Snd X B b fb) (r : Rep X.K w) (hww : (xJk i j fa fb w.m).wp (zGd X.K w D) (XW X.K B w))
    (fin : ∀ (w5 : Wd) (v u : EV) (x y : V), Rep X.K w5 → FolE w w5 → w5.sg = w.sg → RE X.K w5 v x → RE X.K w5 u y → kept v → kept u → (∀ a, adN v x a → ¬ adN u y a) → zGd X.K w D .next (setM (setM w5.m i (yHw v)) j (yHw u)) → Z x y w5.H) :
    WE X a w.sg w.H fun x H1 => WE X b w.sg H1 fun y H2 => Z x y H2 := by
  refine zQ0 ha r hww fun v w1 xv e1 f1 r1 re h1 => ?_
  obtain ⟨v', w2, ev', s2, g2, f2, r2, re2, kv⟩ := xZ3 r1 re
  have h1 := wp_bind h1
  rw [ev'] at h1
  have h1 : (Pg.bind (yVe fb) _ w2.m).wp (zGd X.K w D) (XW X.K B w1) := h1
  have h1 := yXj (wp_bind h1)
  have r2z := xHk r2 re2
  rw [← e1, ← s2, ← g2]
  refine hb (xHl w2 v' xv) _ r2z (Res.wp.imp h1 (fun u m' q w3 yv em es f3 r3 re3 => ?_) fun _ _ z => z.elim)
  subst em
  obtain ⟨u', w4, eu', s4, g4, f4, r4, re4, ku⟩ := xZ3 r3 re3
  have q := wp_bind q
  rw [eu'] at q
  obtain ⟨rb, fb', rv, dis⟩ := xJ3 r2 re2 kv (f3.trans f4) r4
  obtain ⟨ru, dis⟩ := dis u' yv re4
  have sg2 : w4.sg = w.sg := s4.trans (es.trans (s2.trans e1))
  have z := fin { w4 with Z := w2.Z } v' u' xv yv rb (f1.trans (f2.trans fb')) sg2 rv ru kv ku dis q
  have z : Z xv yv w4.H := z
  rw [g4] at z
  exact z
variable {x y : Str} {px py pt : Pos} {kt k2 : Nat} {pt2 : Pos}
theorem xVe (i j : Nat) (C : Ctx X B) (hc : X.calm = true) (hi : X.N[i]? = some x) (hj : X.N[j]? = some y) (hij : i ≠ j)
    (hx : X.env.scope.names.lookup x = some .local) (hy : X.env.scope.names.lookup y = some .local) (ha : Snd X B a fa) (hb : Snd X B b fb)
    (hw : swappedStores [.Tuple [.Name x px, .Name y py] kt pt] (.Tuple [a, b] k2 pt2) X.env = pure (some [x, y]))
    (hs : swapsWithSole [.Tuple [.Name x px, .Name y py] kt pt] (.Tuple [a, b] k2 pt2) pos.line X.env = pure false := by rfl)
    (he : starEach [a, b] X.env = (false, eval a X.env) :: starEach [b] X.env := by rfl) (he2 : starEach [b] X.env = (false, eval b X.env) :: starEach [] X.env := by rfl) :
    yGc X B (.Assign [.Tuple [.Name x px, .Name y py] kt pt] (.Tuple [a, b] k2 pt2) pos) (xJk i j fa fb) := by
  intro w D r hww
  refine yQa (ps_par hc C.nd hi hj hij hx hy (pa_cons zYf (pa_cons zYf pa_nil he2) he) hw hs) ?_
  refine wX7 ha hb r hww fun w5 v u x y r5 f5 s5 hv hu kv ku dis q => ⟨x, y, rfl, ?_⟩
  obtain ⟨r6, f6⟩ := wQn r5 hv hu kv ku dis i j
  have z := q (yYq (yYq w5 i (yHw v) x) j (yHw u) y) rfl ((f5.s r).trans f6) r6
  have z : D.nx ((w5.sg.set i (some x)).set j (some y)) w5.H := z
  rw [s5] at z
  exact z
end
end Ev

namespace Ev
open PySem PySem.Spec PyProof.Rows L2
def Pb (K : PySem.W.Frag) (w : Wd) (Z : EV → V → Hp → Prop) : EV → Mem → Prop := fun r m' => ∀ (w' : Wd) (x : V), w'.m = m' → w'.sg = w.sg → FolE w w' → Rep K w' → RE K w' r x → Z r x w'.H
section
variable {X : Cx} {pins : List (Addr × Obj)} {sg : L2.St} {s : Shared} {k : Nat}
theorem xQ8 {A : Around} {g : Addr} {h : Fn} {w : Wd} {args : List AV} {xs : List V} {us : List Value} {Z : EV → V → Hp → Prop} {E : Value → Shared → Prop} (F : zG8 X.prog X.w X.K X.mg X.base k g [] h) (hg : A.guards = some []) (hr : Room k A) (I : L2.Inv X pins sg w.H s) (e0 : Env0 X.prog X.w X.K X.mg X.base A X.stack s w.H)
    (r : Rep X.K w) (rv : Paired (RV X.K w) args xs) (ru : Vals xs us) (q : (zVj h args w.m).wp (Pb X.K w Z) (fun _ _ => False)) :
    wpAny (model X.prog X.w) A (call (.ref g) us) (fun v s' => ∃ r x H', Inv X pins sg H' s' ∧ RelV x v ∧ Z r x H') E s := by
  have cw : yVg X.K h (fun x w' => ∀ cls d, xWt X.K w' x cls d → (fun (_ : Value) (_ : Option Addr) (_ : Hp) => False) cls d w'.H) (bare w) args (fun x H' => ∃ r, Z r x H') := by
    refine (yVv q).imp (fun v m' q w' x e1 e2 e3 f r' re => ?_) fun x m' q => q.elim
    obtain ⟨r3, f3⟩ := yZ8 r f r'
    exact ⟨v, q (back w w') x (by show (⟨w.m.sl, w'.m.cs⟩ : Mem) = _; rw [e2]) rfl f3 r3 (yU6 r f e1 re)⟩
  have rva : Paired (RV X.K (bare w)) args (xs ++ []) := by
    rw [List.append_nil]
    exact yJ2 rv
  refine wpAny_call (codeAny_mono (F A X.stack s (bare w) us [] args xs [] _ (fun _ _ _ => False) hg hr e0 rfl rfl (fun _ h => h) (yVw r) rva ru .nil rfl cw) fun r s' hq => ?_)
  cases r with
  | error er =>
    obtain ⟨_, _, _, _, _, _, _, _, _, _, _, _, z⟩ := (show L2.CX X.prog X.w X.stack w.H s (fun _ _ _ => False) er s' from hq)
    exact z.elim
  | ok fl =>
    cases fl with
    | ret u =>
      obtain ⟨v, H', I3, rv, r, q3⟩ := I.after hq
      exact ⟨r, v, H', I3, rv, q3⟩
    | next => exact False.elim hq
    | brk => exact False.elim hq
    | cont => exact False.elim hq
def TyN (X : Cx) (H : Hp) (y : V) (D : Addr) : Prop := (∃ t, TyX X.K H y (.type t) ∧ PySem.W.notFirst X.K D (.type t) = true) ∨ ∃ b dy ws, y = .ref b ∧ H b = some (.ins D dy ws)
theorem wYv {K : PySem.W.Frag} {D : Addr} {d : PyData} {t : String} (h : tyName d = some t) : PySem.W.notFirst K D (.type t) = true := by
  have go : ∀ t, t ∈ ["NoneType", "bool", "int", "str", "list", "tuple", "dict"] → (fastBuiltinMro t).map (·.all fun v => match v with | .type _ => true | _ => false) = some true := by decide +kernel
  have mem : t ∈ ["NoneType", "bool", "int", "str", "list", "tuple", "dict"] := by
    cases d with
    | dict es =>
      unfold tyName at h
      dsimp only at h
      split at h
      · cases h
        simp
      · cases h
    | _ => cases h; simp
  have h2 := go t mem
  obtain ⟨l, e, ha⟩ := Option.map_eq_some_iff.mp h2
  have : PySem.W.subIn K (.type t) (.ref D) = some false := by
    show (fastBuiltinMro t).map (·.contains (.ref D)) = some false
    rw [e]
    have : l.contains (.ref D) = false := by
      rw [Bool.eq_false_iff]
      intro hc
      have hm : Value.ref D ∈ l := by simpa using hc
      have := List.all_eq_true.mp ha _ hm
      simp at this
    exact congrArg some this
  unfold PySem.W.notFirst
  rw [this]
  simp
def wHj (X : Cx) (k : Nat) (neg : Bool) : R2 := fun x y H Q => ∃ (a D dx : Addr) (fs : List (Str × V)) (g : Addr) (h : Fn) (av bv : AV) (w : Wd), x = .ref a ∧ w.H = H ∧ H a = some (.ins D dx fs) ∧ PySem.W.findIn X.K (.ref D) "__eq__" = some (some (.ref g)) ∧ PySem.W.isFn X.K (.ref g) = true ∧
  (neg = true → PySem.W.findIn X.K (.ref D) "__ne__" = some (some (.builtin "object.__ne__")) ∧ PySem.W.mroIn X.K D (.type "object") = some true) ∧ zG8 X.prog X.w X.K X.mg X.base k g [] h ∧ Rep X.K w ∧ RV X.K w av x ∧ RV X.K w bv y ∧ TyN X H y D ∧
  (zVj h [av, bv] w.m).wp (Pb X.K w fun r x H' => ∃ kb, x = .bl kb ∧ Q (.bl (if neg then !kb else kb)) H') (fun _ _ => False)
theorem xJ6 {x : V} {u : Value} {D : Addr} {H : Hp} (I : L2.Inv X pins sg H s) (rx : RelV x u) (h : TyN X H x D) : ∃ tb, PySem.W.Looks (model X.prog X.w) s.heap (typeOf u) tb ∧ PySem.W.notFirst X.K D tb = true := by
  rcases h with ⟨t, h1, h2⟩ | ⟨b, dy, ws, rfl, hb⟩
  · obtain ⟨P, kx, hp, _⟩ := kit_of I rx h1
    exact ⟨_, kx.ty _ _ I.kIn hp, h2⟩
  · obtain rfl : u = Value.ref b := rx
    obtain ⟨mA, O, _⟩ := ins_get I.hok hb
    obtain ⟨od, J, _⟩ := O.look
    exact ⟨_, J.type, by simp [PySem.W.notFirst]⟩
theorem wJg (C : Ctx X B) (hr : Room k X.A) : OpR X (compareOp .Eq) (wHj X k false) := by
  intro pins s sg H x y v u Q I rx ry h
  obtain ⟨a, D, dx, fs, g, h, av, bv, w, rfl, rfl, ha, hs, hf, _, F, r, rv1, rv2, ty, q⟩ := h
  obtain rfl : v = Value.ref a := rx
  obtain ⟨mA, O, _⟩ := ins_get I.hok ha
  obtain ⟨od, J, _⟩ := O.look
  obtain ⟨m, hF⟩ := I.fr
  obtain ⟨tb, hb, hn⟩ := xJ6 I ry ty
  show wpAny _ _ (richCompare .Eq (.ref a) u) _ _ _
  refine PySem.W.cmp_K (op := .Eq) hr.units0 hF I.ok.mod.kin J hb hn hs hf ?_
  refine wpAny_mono (xQ8 (us := [.ref a, u]) (xs := [.ref a, y]) F C.gd hr I I.env0 r (.cons rv1 (.cons rv2 .nil)) (.cons rfl (.cons ry .nil)) q) (fun v' s' ⟨r', x', H', I', rl, kb, e, q⟩ => ?_) fun _ _ x => x
  subst e
  cases (show v' = Value.bool kb from rl)
  exact ⟨.bl kb, H', I', rfl, q⟩
theorem xJg {A : Around} {E : Value → Shared → Prop} {x C : Addr} {ox : Obj} {od : Option Obj} {args : List Value} {Q : Option Value → Shared → Prop} (XK : X.K.In s.heap) (I : PySem.W.InstAt s.heap x ox C od) (hs : PySem.W.findIn X.K (.ref C) "__ne__" = some (some (.builtin "object.__ne__")))
    (h : wpAny (model X.prog X.w) A (call (.builtin "object.__ne__") (.ref x :: args)) (fun v => Q (some v)) E s) : wpAny (model X.prog X.w) A (callSpecialIfBound? (.ref x) "__ne__" args) Q E s := by
  simp only [callSpecialIfBound?, bindSpecialIfBound?]
  refine wpAny_holding (wpAny_bind (wpAny_bind (wpAny_bind (I.type.here ((PySem.W.looks_findIn XK hs).here ?_)))))
  refine wpAny_bind (wpAny_askSetting (wpAny_ite ?_))
  have fin : wpAny (model X.prog X.w) A (call (.builtin "object.__ne__") ([.ref x] ++ args) >>= fun v => pure (some v)) Q E s := wpAny_bind (wpAny_mono h (fun v s' h' => wpAny_pure h') fun _ _ h' => h')
  split
  · exact wpAny_bind (wpAny_of_eq (F.cmp_object.ne.bind _) (wpAny_pure (by exact fin)))
  · exact wpAny_tryCatch (wpAny_bind (wpAny_of_eq (F.cmp_object.ne.bind _) (wpAny_pure (by exact fin))))
theorem xY8 {A : Around} {E : Value → Shared → Prop} {x C f : Addr} {y : Value} {ox : Obj} {od : Option Obj} (XK : X.K.In s.heap) (I : PySem.W.InstAt s.heap x ox C od) (hs : PySem.W.findIn X.K (.ref C) "__eq__" = some (some (.ref f))) (hf : PySem.W.isFn X.K (.ref f) = true) (hu : A.units < cLine) {Q : Fin → Shared → Prop}
    (hcall : wpAny (model X.prog X.w) A (call (.ref f) [.ref x, y]) (fun v s' => ∃ b, v = .bool b ∧ Q (.done (.ret (.bool (!b)))) s') E s) : wpAny (model X.prog X.w) A (Builtin.«object.__ne__» ⟨[.ref x, y], []⟩) Q E s := by
  unfold Builtin.«object.__ne__»
  repeat (first
    | with_reducible refine wpAny_cRoomFor hu ?_
    | (refine wpAny_bind (m := callSpecialIfBound? (.ref x) (Str.ofString "__eq__") [y])
        (PySem.W.ifBound_K XK I hs hf (wpAny_mono hcall (fun r s' hr => by
          obtain ⟨b, rfl, hq⟩ := hr
          repeat (first | exact hq | exact wpAny_pure hq | exact wpAny_truthy_bool hq | (refine wpAny_bind (m := truthy (.bool _)) (wpAny_truthy_bool ?_)) | wp_step)) fun _ _ e => e)))
    | wp_step)
theorem wJc (C : Ctx X B) (hr : Room (k + 1) X.A) : OpR X (compareOp .NotEq) (wHj X k true) := by
  intro pins s sg H x y v u Q I rx ry h
  obtain ⟨a, D, dx, fs, g, h, av, bv, w, rfl, rfl, ha, hs, hf, hne, FP, r, rv1, rv2, ty, q⟩ := h
  obtain ⟨hn1, hn2⟩ := hne rfl
  obtain rfl : v = Value.ref a := rx
  obtain ⟨mA, O, _⟩ := ins_get I.hok ha
  obtain ⟨od, J, _⟩ := O.look
  obtain ⟨tb, hb, hn⟩ := xJ6 I ry ty
  have XK := I.kIn
  have one : wpAny (model X.prog X.w) X.A (tryCompare (.ref a) (cmpInfo .NotEq).2.1 u) (fun r s' => ∃ v, r = some v ∧ EP X pins sg Q v s') X.xe s := by
    show wpAny (model X.prog X.w) X.A (tryCompare (.ref a) "__ne__" u) _ _ s
    unfold tryCompare
    refine wpAny_bind (xJg XK J hn1 (wpAny_call (codeAny_call_builtin F.cmp_object.ne.plain F.cmpEntry_ne (PySem.W.check_slot F.cmpKind_ne F.cmpSplit_ne (J.type.andThen (PySem.W.looks_mroIn XK hn2)) (F.cmpArgs_ne _ _) (xY8 XK J hs hf (hr.in1 (k := k)).units0 ?_)))))
    refine wpAny_mono (xQ8 (us := [.ref a, u]) (xs := [.ref a, y]) FP C.gd hr.in1 I I.env0.in1 r (.cons rv1 (.cons rv2 .nil)) (.cons rfl (.cons ry .nil)) q) (fun v' s' ⟨r', x', H', I', rl, kb, e, q⟩ => ?_) fun _ _ x => x
    subst e
    cases (show v' = Value.bool kb from rl)
    refine ⟨kb, rfl, ?_⟩
    first
      | exact wpAny_pure ⟨_, rfl, .bl (!kb), H', I', rfl, q⟩
      | exact ⟨_, rfl, .bl (!kb), H', I', rfl, q⟩
  show wpAny _ _ (richCompare .NotEq (.ref a) u) _ _ _
  unfold richCompare
  simp only [oneThing_ref]
  refine wpAny_holding (wpAny_bind (wpAny_cRoomFor hr.units0 ?_))
  refine wpAny_bind (J.type.here (wpAny_bind (hb.here ?_)))
  split
  · rename_i qq
    have e : PySem.W.subIn X.K tb (.ref D) = some false := by
      rcases Bool.or_eq_true_iff.mp hn with e | e
      · rw [beq_iff_eq.mp e] at qq; simp at qq
      · exact beq_iff_eq.mp e
    refine wpAny_bind ((PySem.W.looks_subIn XK e).here ?_)
    simp only [Bool.false_eq_true, if_false]
    refine wpAny_bind (wpAny_mono one (fun r s' z => ?_) fun _ _ e => e)
    obtain ⟨v, rfl, hq⟩ := z
    exact wpAny_pure hq
  · refine wpAny_bind (wpAny_pure ?_)
    simp only [Bool.false_eq_true, if_false]
    refine wpAny_bind (wpAny_mono one (fun r s' z => ?_) fun _ _ e => e)
    obtain ⟨v, rfl, hq⟩ := z
    exact wpAny_pure hq
def wHi (X : Cx) (k : Nat) (neg : Bool) : R2 := fun x y H Q => ∃ (a D dx : Addr) (fs : List (Str × V)) (g : Addr) (h : Fn) (av bv : AV) (w : Wd), y = .ref a ∧ w.H = H ∧ H a = some (.ins D dx fs) ∧ PySem.W.findIn X.K (.ref D) "__contains__" = some (some (.ref g)) ∧ PySem.W.isFn X.K (.ref g) = true ∧
  zG8 X.prog X.w X.K X.mg X.base k g [] h ∧ Rep X.K w ∧ RV X.K w av x ∧ RV X.K w bv y ∧
  (zVj h [bv, av] w.m).wp (Pb X.K w fun r x H' => ∃ kb, x = .bl kb ∧ Q (.bl (if neg then !kb else kb)) H') (fun _ _ => False)
theorem wJe (C : Ctx X B) (hr : Room k X.A) : OpR X (compareOp .In) (wHi X k false) := by
  intro pins s sg H x y v u Q I rx ry h
  obtain ⟨a, D, dx, fs, g, h, av, bv, w, rfl, rfl, ha, hs, hf, F, r, rv1, rv2, q⟩ := h
  obtain rfl : u = Value.ref a := ry
  obtain ⟨mA, O, _⟩ := ins_get I.hok ha
  obtain ⟨od, J, _⟩ := O.look
  obtain ⟨m, hF⟩ := I.fr
  refine PySem.W.in_K hF I.ok.mod.kin J hs hf ?_
  refine wpAny_mono (xQ8 (us := [.ref a, v]) (xs := [.ref a, x]) F C.gd hr I I.env0 r (.cons rv2 (.cons rv1 .nil)) (.cons rfl (.cons rx .nil)) q) (fun v' s' ⟨r', x', H', I', rl, kb, e, q⟩ => ?_) fun _ _ x => x
  subst e
  cases (show v' = Value.bool kb from rl)
  exact wpAny_truthy_bool ⟨.bl kb, H', I', rfl, q⟩
theorem xV4 (C : Ctx X B) (hr : Room k X.A) : OpR X (compareOp .NotIn) (wHi X k true) := by
  intro pins s sg H x y v u Q I rx ry h
  obtain ⟨a, D, dx, fs, g, h, av, bv, w, rfl, rfl, ha, hs, hf, F, r, rv1, rv2, q⟩ := h
  obtain rfl : u = Value.ref a := ry
  obtain ⟨mA, O, _⟩ := ins_get I.hok ha
  obtain ⟨od, J, _⟩ := O.look
  obtain ⟨m, hF⟩ := I.fr
  refine PySem.W.notIn_K hF I.ok.mod.kin J hs hf ?_
  refine wpAny_mono (xQ8 (us := [.ref a, v]) (xs := [.ref a, x]) F C.gd hr I I.env0 r (.cons rv2 (.cons rv1 .nil)) (.cons rfl (.cons rx .nil)) q) (fun v' s' ⟨r', x', H', I', rl, kb, e, q⟩ => ?_) fun _ _ x => x
  subst e
  cases (show v' = Value.bool kb from rl)
  exact wpAny_truthy_bool ⟨.bl (!kb), H', I', rfl, q⟩
end
end Ev

namespace Ev
open PySem PySem.Spec PyProof.Rows L2
def yJy : EV → Pg EV
  | .pk i (.ins c fs) => fun m => .ok (.d (yJx c fs)) (zU6 m i (yJx c fs))
  | .new (.ins c fs) => .ret (.d (yJx c fs))
  | v => .ret v
theorem xZ2 {K : PySem.W.Frag} {w : Wd} (r : Rep K w) : ∀ {v : EV} {x : V}, RE K w v x → ∃ (v' : EV) (w' : Wd), yJy v w.m = .ok v' w'.m ∧ w'.sg = w.sg ∧ w'.H = w.H ∧ FolE w w' ∧ Rep K w' ∧ RE K w' v' x
  | .d y, x, h => ⟨.d y, w, rfl, rfl, rfl, FolE.refl w, r, h⟩
  | .cell n, x, h => ⟨.cell n, w, rfl, rfl, rfl, FolE.refl w, r, h⟩
  | .new (.lst l), x, h => ⟨.new (.lst l), w, rfl, rfl, rfl, FolE.refl w, r, h⟩
  | .new (.dic l), x, h => ⟨.new (.dic l), w, rfl, rfl, rfl, FolE.refl w, r, h⟩
  | .pk i (.lst l), x, h => ⟨.pk i (.lst l), w, rfl, rfl, rfl, FolE.refl w, r, h⟩
  | .pk i (.dic l), x, h => ⟨.pk i (.dic l), w, rfl, rfl, rfl, FolE.refl w, r, h⟩
  | .new (.ins c fs), x, h => by
    obtain ⟨a, w', e1, e2, e3, f, r', q⟩ := zYi r (v := .new (.ins c fs)) h
    have e1 : Res.ok (AV.d (yJx c fs)) w.m = .ok a w'.m := e1
    cases a with
    | cell n => cases e1
    | d y =>
      injection e1 with e4 e5
      cases e4
      exact ⟨.d (yJx c fs), w', by show Res.ok _ _ = _; rw [e5], e2, e3, f, r', q⟩
  | .pk i (.ins c fs), x, ⟨h1, h2⟩ => by
    obtain ⟨w', e1, e2, e3, f, r', q⟩ := yKw r h1 h2
    exact ⟨.d (yJx c fs), w', by show Res.ok _ _ = _; rw [e1]; rfl, e2, e3, f, r', q⟩
def dA : EV → Option AV
  | .d x => some (.d x)
  | .cell n => some (.cell n)
  | _ => none
theorem wVd {K : PySem.W.Frag} {w : Wd} {v : EV} {x : V} {a : AV} (h : RE K w v x) (e : dA v = some a) : RV K w a x := by
  cases v with
  | d y => cases e; exact h
  | cell n => cases e; exact h
  | new o => cases e
  | pk i o => cases e
def xWi (h : Fn) (args : List AV) (neg : Bool) : Pg Bool := .bind (yVe (zVj h args)) fun r => match r with
  | .d (.bool b) => .ret (if neg then !b else b)
  | _ => .stuck
def xZz (op : CmpOp) (x y : PyData) : Bool := match op with
  | .Eq => (yJf x).isSome
  | .NotEq => (yJf x).isSome
  | .In => (yJf y).isSome
  | .NotIn => (yJf y).isSome
  | _ => false
def wV2 (op : CmpOp) (tb : List (Str × Fn)) (x y : PyData) : Option Fn := match op with
  | .In => (yJf y).bind fun p => tb.lookup p.1
  | .NotIn => (yJf y).bind fun p => tb.lookup p.1
  | _ => (yJf x).bind fun p => if (tyName y).isSome || decide ((yJf y).map (·.1) = some p.1) then tb.lookup p.1 else none
def xHr : CmpOp → Bool
  | .In => true
  | .NotIn => true
  | _ => false
def wJj : CmpOp → Bool
  | .NotEq => true
  | .NotIn => true
  | _ => false
def wXa (op : CmpOp) (tb : List (Str × Fn)) (v u : EV) : Pg Bool := look (zKn v) fun x => look (zKn u) fun y =>
  if xZz op x y then .bind (zK5 (wV2 op tb x y)) fun h => .bind (zK5 (dA v)) fun a => .bind (zK5 (dA u)) fun b => xWi h (if xHr op then [b, a] else [a, b]) (wJj op)
  else zK5 (zKu op x y)
def yK3 (op : CmpOp) (tb : List (Str × Fn)) (fa fb : Pg EV) : Pg Bool := .bind fa fun v => .bind (yJy v) fun v' => .bind fb fun u => .bind (yJy u) fun u' => wXa op tb v' u'
def wXd (X : Cx) (k : Nat) (op : CmpOp) (tb : List (Str × Fn)) : Prop := ∀ c h, tb.lookup c = some h → ∀ D, zH0 X.K c D → ∃ g, PySem.W.findIn X.K (.ref D) (if xHr op then "__contains__" else "__eq__") = some (some (.ref g)) ∧ PySem.W.isFn X.K (.ref g) = true ∧
  (op = .NotEq → PySem.W.findIn X.K (.ref D) "__ne__" = some (some (.builtin "object.__ne__")) ∧ PySem.W.mroIn X.K D (.type "object") = some true) ∧ zG8 X.prog X.w X.K X.mg X.base k g [] h
theorem xUz {K : PySem.W.Frag} {h : Fn} {args : List AV} {neg : Bool} {w : Wd} {P : Bool → Mem → Prop} {E : Exn → Mem → Prop} (q : (xWi h args neg w.m).wp P E) : (zVj h args w.m).wp (Pb K w fun r x H' => ∃ kb, x = .bl kb ∧ ∃ w' : Wd, w'.H = H' ∧ w'.sg = w.sg ∧ FolE w w' ∧ Rep K w' ∧ P (if neg then !kb else kb) w'.m) (fun _ _ => False) := by
  refine (yXj (wp_bind q)).imp (fun r m' q w' x em es f r' re => ?_) fun _ _ z => z
  subst em
  cases r with
  | d y =>
    cases y with
    | bool b =>
      cases re
      exact ⟨b, rfl, w', rfl, es, f, r', q⟩
    | _ => exact q.elim
  | _ => exact q.elim
section
variable {X : Cx} {B : XBt} {a b : Expr} {fa fb : Pg EV} {pos : Pos} {tb : List (Str × Fn)} {k : Nat}
theorem wZi {op : CmpOp} {w : Wd} {v u : EV} {x y : V} {Q : VK} {P : Bool → Mem → Prop} (C : Ctx X B) (hr : Room (k + 1) X.A) (T : wXd X k op tb) (r : Rep X.K w) (o1 : RO X.K w (zKn v) x) (o2 : RO X.K w (zKn u) y) (hv : ∀ a, dA v = some a → RV X.K w a x) (hu : ∀ a, dA u = some a → RV X.K w a y)
    (h : (wXa op tb v u w.m).wp P (XW X.K B w)) (q : ∀ (kb : Bool) (w' : Wd), w'.sg = w.sg → FolE w w' → Rep X.K w' → P kb w'.m → Q (.bl kb) w'.H) : anyR X (compareOp op) x y w.H Q := by
  obtain ⟨dx, ex, h⟩ := zXs h
  obtain ⟨dy, ey, h⟩ := zXs h
  have r1 := o1.rn r ex
  have r2 := o2.rn r ey
  split at h
  · rename_i ho
    obtain ⟨g, eg, h⟩ := zX2 (wp_bind h)
    obtain ⟨av, ea, h⟩ := zX2 (wp_bind h)
    obtain ⟨bv, eb, h⟩ := zX2 (wp_bind h)
    have ra := hv av ea
    have rb := hu bv eb
    have z := xUz (K := X.K) h
    have eqs : ∀ {c : Str} {fs : List (PyData × PyData)}, yJf dx = some (c, fs) → ((tyName dy).isSome || decide ((yJf dy).map (·.1) = some c)) = true → ∃ (ad D d1 : Addr) (vs : List (Str × V)), x = .ref ad ∧ zH0 X.K c D ∧ w.H ad = some (.ins D d1 vs) ∧ TyN X w.H y D := fun {c fs} i1 hc => by
      obtain ⟨ad, D, d1, vs, rfl, hcn, ha, _⟩ := zHs r.sub r1 i1
      refine ⟨ad, D, d1, vs, rfl, hcn, ha, ?_⟩
      rcases Bool.or_eq_true_iff.mp hc with z | z
      · obtain ⟨t, et⟩ := Option.isSome_iff_exists.mp z
        exact .inl ⟨t, xGe r.sub r2 et, wYv et⟩
      · have z := of_decide_eq_true z
        obtain ⟨⟨c', fs'⟩, i2, e⟩ := Option.map_eq_some_iff.mp z
        have e : c' = c := e
        subst e
        obtain ⟨ad2, D2, d2, vs2, rfl, hcn2, ha2, _⟩ := zHs r.sub r2 i2
        rw [hcn2.one hcn] at ha2
        exact .inr ⟨ad2, d2, vs2, rfl, ha2⟩
    cases op with
    | Eq =>
      obtain ⟨⟨c, fs⟩, i1, eg⟩ := Option.bind_eq_some_iff.mp eg
      split at eg
      · rename_i hc
        obtain ⟨ad, D, d1, vs, rfl, hcn, ha, ty⟩ := eqs i1 hc
        obtain ⟨gd, t1, t2, t3, t4⟩ := T c g eg D hcn
        refine ⟨_, wJg C (hr.mono (Nat.le_succ _)), ad, D, d1, vs, gd, g, av, bv, w, rfl, rfl, ha, t1, t2, (fun z => by cases z), t4, r, ra, rb, ty, ?_⟩
        exact z.imp (fun rr m' zz w' xx em es f rp re => by
          obtain ⟨kb, e, w2, e2, e3, f2, r2, q2⟩ := zz w' xx em es f rp re
          exact ⟨kb, e, e2 ▸ q _ w2 e3 f2 r2 q2⟩) fun _ _ z => z
      · cases eg
    | NotEq =>
      obtain ⟨⟨c, fs⟩, i1, eg⟩ := Option.bind_eq_some_iff.mp eg
      split at eg
      · rename_i hc
        obtain ⟨ad, D, d1, vs, rfl, hcn, ha, ty⟩ := eqs i1 hc
        obtain ⟨gd, t1, t2, t3, t4⟩ := T c g eg D hcn
        refine ⟨_, wJc C hr, ad, D, d1, vs, gd, g, av, bv, w, rfl, rfl, ha, t1, t2, (fun _ => t3 rfl), t4, r, ra, rb, ty, ?_⟩
        exact z.imp (fun rr m' zz w' xx em es f rp re => by
          obtain ⟨kb, e, w2, e2, e3, f2, r2, q2⟩ := zz w' xx em es f rp re
          exact ⟨kb, e, e2 ▸ q _ w2 e3 f2 r2 q2⟩) fun _ _ z => z
      · cases eg
    | In =>
      obtain ⟨⟨c, fs⟩, i1, eg⟩ := Option.bind_eq_some_iff.mp eg
      obtain ⟨ad, D, d1, vs, rfl, hcn, ha, _⟩ := zHs r.sub r2 i1
      obtain ⟨gd, t1, t2, t3, t4⟩ := T c g eg D hcn
      refine ⟨_, wJe C (hr.mono (Nat.le_succ _)), ad, D, d1, vs, gd, g, av, bv, w, rfl, rfl, ha, t1, t2, t4, r, ra, rb, ?_⟩
      exact z.imp (fun rr m' zz w' xx em es f rp re => by
        obtain ⟨kb, e, w2, e2, e3, f2, r2, q2⟩ := zz w' xx em es f rp re
        exact ⟨kb, e, e2 ▸ q _ w2 e3 f2 r2 q2⟩) fun _ _ z => z
    | NotIn =>
      obtain ⟨⟨c, fs⟩, i1, eg⟩ := Option.bind_eq_some_iff.mp eg
      obtain ⟨ad, D, d1, vs, rfl, hcn, ha, _⟩ := zHs r.sub r2 i1
      obtain ⟨gd, t1, t2, t3, t4⟩ := T c g eg D hcn
      refine ⟨_, xV4 C (hr.mono (Nat.le_succ _)), ad, D, d1, vs, gd, g, av, bv, w, rfl, rfl, ha, t1, t2, t4, r, ra, rb, ?_⟩
      exact z.imp (fun rr m' zz w' xx em es f rp re => by
        obtain ⟨kb, e, w2, e2, e3, f2, r2, q2⟩ := zz w' xx em es f rp re
        exact ⟨kb, e, e2 ▸ q _ w2 e3 f2 r2 q2⟩) fun _ _ z => z
    | _ => cases ho
  · obtain ⟨kb, ez, hq⟩ := zX2 h
    exact yHr C r r1 r2 ez (q kb w rfl (FolE.refl w) r hq)
theorem wZj {op : CmpOp} {w : Wd} {Q : VK} {P : Bool → Mem → Prop} (C : Ctx X B) (hr : Room (k + 1) X.A) (T : wXd X k op tb) (ha : Snd X B a fa) (hb : Snd X B b fb) (r : Rep X.K w) (h : (yK3 op tb fa fb w.m).wp P (XW X.K B w))
    (q : ∀ (kb : Bool) (w' : Wd), w'.sg = w.sg → FolE w w' → Rep X.K w' → P kb w'.m → Q (.bl kb) w'.H) : WE X a w.sg w.H fun x H1 => WE X b w.sg H1 fun y H2 => anyR X (compareOp op) x y H2 Q := by
  refine zQ0 ha r h fun v w1 x e1 f1 r1 re h1 => ?_
  obtain ⟨v', w2, ev, s2, g2, f2, r2, re2⟩ := xZ2 r1 re
  have h1 := wp_bind h1
  rw [ev] at h1
  have h1 : (Pg.bind fb _ w2.m).wp P (XW X.K B w1) := h1
  have h1 : (Pg.bind fb _ w2.m).wp P (XW X.K B w2) := Res.wp.imp h1 (fun _ _ z => z) fun _ _ z => z.fol (f2.s r1)
  rw [← e1, ← s2, ← g2]
  refine zQ0 hb r2 h1 fun u w3 y e3 f3 r3 re3 h2 => ?_
  obtain ⟨u', w4, eu, s4, g4, f4, r4, re4⟩ := xZ2 r3 re3
  have h2 := wp_bind h2
  rw [eu] at h2
  have h2 : (wXa op tb v' u' w4.m).wp P (XW X.K B w3) := h2
  have h2 : (wXa op tb v' u' w4.m).wp P (XW X.K B w4) := Res.wp.imp h2 (fun _ _ z => z) fun _ _ z => z.fol (f4.s r3)
  rw [← g4]
  refine wZi C hr T r4 (((re2.ro r2).fol r2 f3).fol r3 f4) (re4.ro r4) (fun a ea => ?_) (fun a ea => wVd re4 ea) h2 fun kb w' es f rp hp => q kb w' ?_ ?_ rp hp
  · exact ((wVd re2 ea).fol f3).fol f4
  · exact es.trans (s4.trans (e3.trans (s2.trans e1)))
  · exact f1.trans (f2.trans (f3.trans (f4.trans f)))
theorem yV0 {op : CmpOp} (C : Ctx X B) (hr : Room (k + 1) X.A) (T : wXd X k op tb) (ha : Snd X B a fa) (hb : Snd X B b fb) (hm : behindInMarks op b = false := by rfl) : yHy X B (.Compare a [op] [b] pos) (yK3 op tb fa fb) := by
  intro w Q r h
  refine xJ0 (pt_cmpR yKe zYf zYf hm) ?_
  exact wZj C hr T ha hb r h fun kb w' es f rp hp => ⟨kb, rfl, hp w' rfl es f rp⟩
end
section
variable {m : Mem} {X : Exn → Mem → Prop} {T : Bool → Mem → Prop}
@[simp] theorem wWx {x : PyData} {P : EV → Mem → Prop} : W (yJy (.d x)) m X P ↔ P (.d x) m := ⟨fun h => h.go, fun h => ⟨h⟩⟩
@[simp] theorem wWy {n : Nat} {P : EV → Mem → Prop} : W (yJy (.cell n)) m X P ↔ P (.cell n) m := ⟨fun h => h.go, fun h => ⟨h⟩⟩
@[simp] theorem wWv {l : List PyData} {P : EV → Mem → Prop} : W (yJy (.new (.lst l))) m X P ↔ P (.new (.lst l)) m := ⟨fun h => h.go, fun h => ⟨h⟩⟩
@[simp] theorem wVp {l : List (PyData × PyData)} {P : EV → Mem → Prop} : W (yJy (.new (.dic l))) m X P ↔ P (.new (.dic l)) m := ⟨fun h => h.go, fun h => ⟨h⟩⟩
@[simp] theorem wVm {i : Nat} {l : List PyData} {P : EV → Mem → Prop} : W (yJy (.pk i (.lst l))) m X P ↔ P (.pk i (.lst l)) m := ⟨fun h => h.go, fun h => ⟨h⟩⟩
@[simp] theorem wVo {i : Nat} {l : List (PyData × PyData)} {P : EV → Mem → Prop} : W (yJy (.pk i (.dic l))) m X P ↔ P (.pk i (.dic l)) m := ⟨fun h => h.go, fun h => ⟨h⟩⟩
@[simp] theorem wWw {c : Str} {fs : List (Str × PyData)} {P : EV → Mem → Prop} : W (yJy (.new (.ins c fs))) m X P ↔ P (.d (yJx c fs)) m := ⟨fun h => h.go, fun h => ⟨h⟩⟩
@[simp] theorem wVn {i : Nat} {c : Str} {fs : List (Str × PyData)} {P : EV → Mem → Prop} : W (yJy (.pk i (.ins c fs))) m X P ↔ P (.d (yJx c fs)) (zU6 m i (yJx c fs)) := ⟨fun h => h.go, fun h => ⟨h⟩⟩
@[simp] theorem vQ9 {op : CmpOp} {tb : List (Str × Fn)} {fa fb : Pg EV} : W (yK3 op tb fa fb) m X T ↔ W fa m X fun v m1 => W (yJy v) m1 X fun v' m2 => W fb m2 X fun u m3 => W (yJy u) m3 X fun u' m4 => W (wXa op tb v' u') m4 X T := by
  unfold yK3
  simp only [zZc]
@[simp] theorem wGl {op : CmpOp} {tb : List (Str × Fn)} {v u : EV} : W (wXa op tb v u) m X T ↔ W (look (zKn v) fun x => look (zKn u) fun y =>
  if xZz op x y then .bind (zK5 (wV2 op tb x y)) fun h => .bind (zK5 (dA v)) fun a => .bind (zK5 (dA u)) fun b => xWi h (if xHr op then [b, a] else [a, b]) (wJj op)
  else zK5 (zKu op x y)) m X T := Iff.rfl
@[simp] theorem wGr {h : Fn} {args : List AV} {neg : Bool} : W (xWi h args neg) m X T ↔ W (zVj h args) m noX fun r m1 => ∃ b, r = .d (.bool b) ∧ T (if neg then !b else b) m1 := by
  unfold xWi
  rw [zZc, yU8]
  constructor
  · intro hh
    refine hh.mono fun r m1 q => ?_
    cases r with
    | d y =>
      cases y with
      | bool b => exact ⟨b, rfl, q.go⟩
      | _ => exact q.go.elim
    | _ => exact q.go.elim
  · intro hh
    refine hh.mono fun r m1 ⟨b, e, q⟩ => ?_
    subst e
    exact ⟨q⟩
@[simp] theorem vVs {x : PyData} : dA (.d x) = some (.d x) := rfl
@[simp] theorem vVt {n : Nat} : dA (.cell n) = some (.cell n) := rfl
end
end Ev

namespace Ev
open PySem PySem.Spec PyProof.Rows L2
section
variable {prog : Program} {w : World} {A : Around} {E : Value → Shared → Prop} {s : Shared} {K : PySem.W.Frag} {a C g : Addr} {ox : Obj} {od : Option Obj}
end
section
variable {X : Cx} {B : XBt} {e : Expr} {fa : Pg EV} {pos p : Pos} {tb : List (Str × Fn)} {k : Nat} {x : Str}
end
section
variable {m : Mem} {X : Exn → Mem → Prop} {E : EV → Mem → Prop}
end
end Ev

namespace Ev
open PySem PySem.Spec PyProof.Rows L2
def wW1 (K : PySem.W.Frag) (D g : Addr) : Prop := PySem.W.findIn K (.ref D) "__contains__" = some (some (.ref g)) ∧ PySem.W.isFn K (.ref g) = true
section
variable {K : PySem.W.Frag} {C f : Addr}
theorem wQc (a : PySem.W.findIn K (.ref C) "__contains__" = some (some (.ref f))) (b : PySem.W.isFn K (.ref f) = true) : wW1 K C f := ⟨a, b⟩
end
section
variable {X : Cx} {B : XBt} {k : Nat} {op : CmpOp} {c : Str} {tb : List (Str × Fn)} {h : Fn}
theorem yU1 : wXd X k op [] := fun c h e => by cases e
theorem xQu (ho : xHr op = true) (m : xQx X.prog X.w X.K X.mg X.base k c (wW1 X.K) [] h) (t : wXd X k op tb) : wXd X k op ((c, h) :: tb) := by
  obtain ⟨D, g, h1, h2, ⟨a1, a2⟩, h4⟩ := m
  intro c' h' e D' hD
  rw [List.lookup_cons] at e
  cases q : c' == c with
  | true =>
    rw [q] at e
    cases e
    have q := eq_of_beq q
    subst q
    rw [hD.one h1]
    exact ⟨g, by rw [ho]; exact a1, a2, (fun z => by subst z; cases ho), h4⟩
  | false =>
    rw [q] at e
    exact t c' h' e D' hD
end
end Ev

namespace Ev
open PySem PySem.Spec PyProof.Rows L2
section
variable {X : Cx} {B : XBt} {e c : Expr} {f : Pg EV} {p1 pos : Pos} {ns : List Str} {t1 : List (String × Bool)} {t2 t3 : List (Str × Bool)}
end
end Ev

namespace Ev
open PySem PySem.Spec PyProof.Rows L2
section
variable {P : Program} {w : World} {K : PySem.W.Frag} {mg : Str → Option Value} {base : Heap}
end
section
variable {P : Program} {w : World} {K : PySem.W.Frag} {mg : Str → Option Value} {base : Heap} {x : Str} {st : Stmt} {ps : List Str} {dvs : List V} {kws : List (Str × V)} {g : Fn} {j k q : Nat}
end
section
variable {P : Program} {w : World} {K : PySem.W.Frag} {mg : Str → Option Value} {base : Heap}
end
theorem RA.eraseIdx {K : PySem.W.Frag} {F : Hp} {ds : List PyData} {vs : List V} (a : RA K F ds vs) (n : Nat) : RA K F (ds.eraseIdx n) (vs.eraseIdx n) := by
  rw [List.eraseIdx_eq_take_drop_succ, List.eraseIdx_eq_take_drop_succ]
  exact (a.take _).app (a.drop _)
section
variable {X : Cx} {B : XBt} {o e : Expr} {fo f : Pg EV}
end
end Ev

namespace Ev
open PySem PySem.Spec PyProof.Rows L2
def vZm (sl : List (Option SV)) (fl : Pg EV) : Pg EV := fun m => match fl ⟨sl, m.cs⟩ with
  | .ok v m' => .ok (xV2 v) ⟨m.sl, m'.cs⟩
  | .thr x m' => .thr x ⟨m.sl, m'.cs⟩
  | .bad => .bad
section
variable {X : Cx} {pins : List (Addr × Obj)} {sg0 : L2.St} {H0 : Hp} {s0 : Shared}
end
end Ev
namespace Ev
open PySem PySem.Spec PyProof.Rows L2
section
variable {X : Cx} {pins : List (Addr × Obj)} {sg : L2.St} {H : Hp} {s : Shared}
inductive Made (H : Hp) (P : Addr) (q : Str) (c' : Addr) : Hp → Prop where
  | hit (h : H c' = some (LamX.CodeO c' q)) : Made H P q c' H
  | miss (ps ps' : Array Value) (h : H P = some (.tbl ps)) (n : H c' = none) : Made H P q c' (upd (upd H P (.tbl ps')) c' (LamX.CodeO c' q))
end
end Ev

namespace Ev
open PySem PySem.Spec PyProof.Rows L2
def wH6 (i : Nat) : Pg Unit := fun m => match m.sl[i]? with
  | some (some (.ob o)) => .ok () (zU6 m i (dOf o))
  | _ => .ok () m
def frzs : List Nat → Pg Unit
  | [] => .ret ()
  | i :: is => .bind (wH6 i) fun _ => frzs is
section
variable {K : PySem.W.Frag} {w : Wd} {P c' : Addr} {q : Str} {H1 : Hp}
theorem Made.code (M : Made w.H P q c' H1) : H1 c' = some (LamX.CodeO c' q) := by
  cases M with
  | hit h => exact h
  | miss ps ps' h n => exact upd_same
theorem Made.keep (M : Made w.H P q c' H1) {b : Addr} {o : HO} (e : w.H b = some o) (n : ∀ ps, o ≠ .tbl ps) : H1 b = some o := by
  cases M with
  | hit h => exact e
  | miss ps ps' h nc =>
    rw [upd_ne (ne_of_none e nc), upd_ne (fun z => n ps (by rw [z, h] at e; exact (Option.some.inj e).symm))]
    exact e
theorem Made.other (M : Made w.H P q c' H1) {b : Addr} {q' : Str} (n : b ≠ P) (T : LamX.TabS w.H b q') : LamX.TabS H1 b q' := by
  cases M with
  | hit h => exact T
  | miss ps ps' h nc =>
    obtain ⟨ts, e, r, k⟩ := T
    refine ⟨ts, by rw [upd_ne (ne_of_none e nc), upd_ne n]; exact e, r, fun pos cv z => ?_⟩
    obtain ⟨d, e1, e2⟩ := k pos cv z
    refine ⟨d, e1, ?_⟩
    rw [upd_ne (ne_of_none e2 nc), upd_ne (fun y => by rw [y, h] at e2; exact LamX.codeO_ne _ (Option.some.inj e2).symm)]
    exact e2
theorem Made.live (M : Made w.H P q c' H1) {b : Addr} (e : w.H b ≠ none) : H1 b ≠ none := by
  cases M with
  | hit h => exact e
  | miss ps ps' h nc =>
    by_cases z : b = c'
    · rw [z, upd_same]; simp
    · rw [upd_ne z]
      by_cases y : b = P
      · rw [y, upd_same]; simp
      · rw [upd_ne y]; exact e
theorem Made.tbl (M : Made w.H P q c' H1) (hp : ∃ q, (P, q) ∈ xJt K) (h3 : ∀ b ps, w.H b = some (.tbl ps) → ∃ q, (b, q) ∈ xJt K) (b : Addr) (ps : Array Value) (e : H1 b = some (.tbl ps)) : ∃ q, (b, q) ∈ xJt K := by
  cases M with
  | hit h => exact h3 b ps e
  | miss ps0 ps' h nc =>
    by_cases z : b = c'
    · rw [z, upd_same] at e
      exact absurd (Option.some.inj e) (LamX.codeO_ne ps)
    · rw [upd_ne z] at e
      by_cases y : b = P
      · rw [y]; exact hp
      · rw [upd_ne y] at e; exact h3 b ps e
end
section
variable {X : Cx} {B : XBt}
end
end Ev
namespace Ev
open PySem PySem.Spec PyProof.Rows L2
end Ev
namespace Ev
open PySem PySem.Spec PyProof.Rows L2
section
variable {m : Mem} {X : Exn → Mem → Prop} {P : EV → Mem → Prop}
end
end Ev
namespace Ev
open PySem PySem.Spec PyProof.Rows L2
section
variable {X : Cx} {B : XBt}
end
end Ev
namespace Ev
open PySem PySem.Spec PyProof.Rows L2
section
variable {P : Program} {w : World} {K : PySem.W.Frag} {mg : Str → Option Value} {base : Heap}
end
end Ev
namespace Ev
open PySem PySem.Spec PyProof.Rows L2
section
variable {P : Program} {w : World} {K : PySem.W.Frag} {mg : Str → Option Value} {base : Heap}
end
section
variable {P : Program} {w : World} {K : PySem.W.Frag} {mg : Str → Option Value} {base : Heap}
end
end Ev

namespace Ev
open PySem PySem.Spec PyProof.Rows L2
section
variable {M : Model} {A : Around} {E : Value → Shared → Prop} {s : Shared} {pos : Pos} {f : Value} {Q : Value → Shared → Prop}
end
section
variable {X : Cx} {B : XBt} {es : List Expr} {kws : List Keyword} {ks : List Str} {fa fk : Pg (List AV)} {fo : Pg EV} {p pos : Pos} {x : Str} {tb : List (Str × Fn)} {m : Nat}
end
section
variable {m : Mem} {X : Exn → Mem → Prop} {E : EV → Mem → Prop}
end
end Ev

namespace Ev
open PySem PySem.Spec PyProof.Rows L2
section
variable {X : Cx}
end
section
variable {X : Cx} {B : XBt} {o e e1 e2 : Expr} {fo f f1 f2 : Pg EV} {pos : Pos}
end
section
variable {m : Mem} {X : Exn → Mem → Prop} {E : EV → Mem → Prop} {F : Fl → Mem → Prop}
@[simp] theorem wU9 {P : Unit → Mem → Prop} : W (frzs []) m X P ↔ P () m := ⟨fun h => h.go, fun h => ⟨h⟩⟩
@[simp] theorem wGa {i : Nat} {is : List Nat} {P : Unit → Mem → Prop} : W (frzs (i :: is)) m X P ↔ W (wH6 i) m X fun _ m1 => W (frzs is) m1 X P := zZc
end
end Ev

namespace Ev
open PySem PySem.Spec PyProof.Rows L2
def sok (x : Str) : Prop := PyData.strOk x = true
theorem yZr (s : String) : sok (Str.ofString s) := by
  unfold sok PyData.strOk
  rw [Str.ofString_eq_toList]
  simp only [List.all_toArray, List.all_map, List.all_eq_true, Function.comp, decide_eq_true_iff]
  intro c _
  have h := c.valid
  show c.val.toNat < 1114112
  rcases h with h | ⟨_, h⟩
  · have : c.val.toNat < 55296 := h
    omega
  · exact h
theorem yZ0 {a b : Str} (ha : sok a) (hb : sok b) : sok (a ++ b) := by
  show (a.cps ++ b.cps).all _ = true
  rw [Array.all_append, Bool.and_eq_true]
  exact ⟨ha, hb⟩
theorem xQ9 {s : Str} (hs : sok s) : ∀ {ts : List Str}, (∀ t, t ∈ ts → sok t) → sok (Str.join s ts)
  | [], _ => yZr ""
  | [x], h => h x (List.mem_cons_self ..)
  | x :: y :: r, h => by
    show sok (x ++ s ++ Str.join s (y :: r))
    exact yZ0 (yZ0 (h x (List.mem_cons_self ..)) hs) (xQ9 hs fun t ht => h t (List.mem_cons_of_mem _ ht))
theorem xZa : ∀ {ts : List Str} {k : Nat} {acc : Str}, sok acc → (∀ t, t ∈ ts → sok t) → sok (textFrom k acc ts)
  | [], _, _, h, _ => h
  | t :: ts, k, acc, h, g => by
    refine xZa (ts := ts) (k := k + 1) (yZ0 (yZ0 h ?_) (g t (List.mem_cons_self ..))) fun t ht => g t (List.mem_cons_of_mem _ ht)
    exact yZr _
theorem xYj {ts : List Str} (h : ∀ t, t ∈ ts → sok t) : sok (listText ts) := yZ0 (xZa (yZr _) h) (yZr _)
theorem xJ9 {ts : List Str} (h : ∀ t, t ∈ ts → sok t) : sok (tupleText ts) := yZ0 (yZ0 (yZr _) (xQ9 (yZr _) h)) (yZr _)
mutual
def wZu : PyData → Bool
  | .str x => PyData.strOk (reprText x)
  | .list xs => xVb xs
  | .tuple xs => xVb xs
  | .dict _ => false
  | _ => true
def xVb : List PyData → Bool
  | [] => true
  | x :: xs => wZu x && xVb xs
end
mutual
theorem xVa : ∀ {d : PyData}, wZu d = true → sok d.shown
  | .none, _ => yZr _
  | .bool b, _ => by cases b <;> exact yZr _
  | .int i, _ => yZr _
  | .str x, h => by simpa [wZu, PyData.shown, sok] using h
  | .list xs, h => by
    simp only [PyData.shown]
    exact xYj (yQc (by simpa [wZu] using h))
  | .tuple xs, h => by
    simp only [PyData.shown]
    exact xJ9 (yQc (by simpa [wZu] using h))
  | .dict _, h => by simp [wZu] at h
theorem yQc : ∀ {xs : List PyData}, xVb xs = true → ∀ t, t ∈ PyData.shownAll xs → sok t
  | [], _, t, ht => by simp [PyData.shownAll] at ht
  | x :: xs, h, t, ht => by
    simp only [xVb, Bool.and_eq_true] at h
    simp only [PyData.shownAll] at ht
    rcases List.mem_cons.mp ht with e | e
    · rw [e]
      exact xVa h.1
    · exact yQc h.2 t e
end
end Ev

namespace Ev
open PySem PySem.Spec PyProof.Rows L2
section
variable {X : Cx} {B : XBt} {o e e1 e2 : Expr} {fo f f1 f2 : Pg EV}
end
section
variable {m : Mem} {X : Exn → Mem → Prop} {E : EV → Mem → Prop}
end
end Ev

namespace Ev
open PySem PySem.Spec PyProof.Rows L2
section
variable {K : PySem.W.Frag} {F : Hp}
end
section
variable {X : Cx} {B : XBt} {o e a b : Expr} {fo f fa fb : Pg EV}
end
section
variable {m : Mem} {X : Exn → Mem → Prop} {E : EV → Mem → Prop}
end
end Ev

namespace Ev
open PySem PySem.Spec PyProof.Rows L2
section
variable {X : Cx} {B : XBt} {a b : Expr} {fa fb : Pg EV}
end
section
variable {m : Mem} {X : Exn → Mem → Prop} {E : EV → Mem → Prop}
end
end Ev

namespace Ev
open PySem PySem.Spec PyProof.Rows L2
section
variable {prog : Program} {w : World} {A : Around} {E : Value → Shared → Prop} {s : Shared} {K : PySem.W.Frag} {a C g : Addr} {ox : Obj} {od : Option Obj}
end
section
variable {X : Cx} {B : XBt} {e : Expr} {fa : Pg EV} {pos p : Pos} {tb : List (Str × Fn)} {k : Nat}
end
section
variable {m : Mem} {X : Exn → Mem → Prop} {E : EV → Mem → Prop}
end
end Ev

namespace Ev
open PySem PySem.Spec PyProof.Rows L2
section
variable {X : Cx} {B : XBt} {e : Expr} {es : List Expr} {f : Pg EV} {g : Pg (List AV)} {p' : Pos}
end
section
variable {m : Mem} {X : Exn → Mem → Prop} {P : List AV → Mem → Prop}
end
end Ev

namespace Ev
open PySem PySem.Spec PyProof.Rows L2
section
variable {X : Cx} {B : XBt} {pos : Pos} {tg : Expr} {tgs : List Expr}
end
section
variable {m : Mem} {X : Exn → Mem → Prop} {F : Unit → Mem → Prop}
end
end Ev

namespace Ev
open PySem PySem.Spec PyProof.Rows L2
section
variable {X : Cx} {B : XBt} {a b : Expr} {fa fb : Pg EV}
end
section
variable {m : Mem} {X : Exn → Mem → Prop}
end
end Ev

namespace Ev
open PySem PySem.Spec PyProof.Rows L2
theorem yJ3.keep {K : PySem.W.Frag} {w w1 : Wd} {Q : VK} {v : EV} (q : yJ3 K w Q v w1.m) (e1 : w1.sg = w.sg) (f1 : FolE w w1) : xXp K w1 v Q := fun w' x em es f r re hn => q w' x em (es.trans e1) (f1.trans f) r re (hn.back f1)
def cellOf : PyData → Option Nat
  | .dict [(.none, .int i), (.none, .int n)] => if i = 1 ∧ 0 ≤ n then some n.toNat else none
  | _ => none
@[simp] theorem wWf {n : Nat} : cellOf (yU2 n) = some n := by
  unfold cellOf yU2
  simp
def nE : EV → EV
  | .d x => match cellOf x with
    | some n => .cell n
    | none => .d x
  | v => v
section
variable {X : Cx} {B : XBt} {e : Expr} {f : Pg EV}
end
section
variable {m : Mem} {X : Exn → Mem → Prop} {E : EV → Mem → Prop} {f : Pg EV}
@[simp] theorem wHw {i : Int} : nE (.d (.int i)) = .d (.int i) := rfl
@[simp] theorem wHu {i : Str} : nE (.d (.str i)) = .d (.str i) := rfl
@[simp] theorem wYx : nE (.d .none) = .d .none := rfl
@[simp] theorem wY0 {b : Bool} : nE (.d (.bool b)) = .d (.bool b) := rfl
@[simp] theorem wYy {xs : List PyData} : nE (.d (.list xs)) = .d (.list xs) := rfl
@[simp] theorem wV6 {xs : List PyData} : nE (.d (.tuple xs)) = .d (.tuple xs) := rfl
@[simp] theorem wYz {n : Nat} : nE (.cell n) = .cell n := rfl
@[simp] theorem wHv {o : Ob} : nE (.new o) = .new o := rfl
@[simp] theorem vZ0 {i : Nat} {o : Ob} : nE (.pk i o) = .pk i o := rfl
@[simp] theorem wV7 {n : Nat} : nE (.d (yU2 n)) = .cell n := by
  unfold nE
  simp
end
end Ev

namespace Ev
open PySem PySem.Spec PyProof.Rows L2
def vJu : Operator → Int → Int → Option Int
  | .Add, i, j => some (i + j)
  | .Sub, i, j => some (i - j)
  | .Mult, i, j => if yUg i j then some (i * j) else none
  | _, _, _ => none
def wUv (op : Operator) (x y : PyData) : Option PyData := match x, y with
  | .int i, .int j => (vJu op i j).map .int
  | _, _ => none
section
variable {X : Cx} {B : XBt} {e : Expr} {f : Pg EV} {pos pos' : Pos}
def xK1 (f : Pg EV) : Pg EV := .bind f fun v => look (zKn v) fun x => match x with
  | .int j => if -(2 ^ 62) ≤ j ∧ j ≤ 16777216 then .ret (.fresh (zGw 0 j.toNat)) else .stuck
  | _ => .stuck
theorem xVf {p p2 pos2 : Pos} (C : Ctx X B) (h : Snd X B e f) (hg : Gl X "list") (hm : X.mg "list" = none) (hg2 : Gl X "range") (hm2 : X.mg "range" = none)
    (he : starEach [e] X.env = (false, eval e X.env) :: starEach [] X.env := by rfl) (he2 : starEach [.Call (.Name "range" p2) [e] [] pos2] X.env = (false, eval (.Call (.Name "range" p2) [e] [] pos2) X.env) :: starEach [] X.env := by rfl) :
    Snd X B (.Call (.Name "list" p) [.Call (.Name "range" p2) [e] [] pos2] [] pos) (xK1 f) := by
  intro w Q r hw
  refine zKp (pe_listRg C.calm hg hm (prg_1 hg2 hm2 zYf he) he2) ?_
  refine zQ0 h r hw fun v w1 y e1 f1 r1 re h1 => ?_
  obtain ⟨x, ex, h1⟩ := zXs h1
  have ro := (re.ro r1).rn r1 ex
  cases x <;> try exact h1.elim
  rename_i j
  have h1 : ((if -(2 ^ 62) ≤ j ∧ j ≤ 16777216 then Pg.ret (EV.fresh (zGw 0 j.toNat)) else .stuck) w1.m).wp (zVw X.K w Q) (XW X.K B w1) := h1
  split at h1
  · rename_i hj
    refine ⟨j, ro.int, ⟨by decide, by decide, hj.1, by omega, by omega⟩, fun q hq => ?_⟩
    have k : xXp X.K w1 (.fresh (zGw 0 j.toNat)) Q := zVw.keep h1 e1 f1
    rw [xVq] at k
    rw [xGl]
    exact k.lst r1 (.ints _) hq
  · exact h1.elim
end
section
variable {P : Program} {w : World} {K : PySem.W.Frag} {mg : Str → Option Value} {base : Heap}
end
section
variable {m : Mem} {X : Exn → Mem → Prop} {E : EV → Mem → Prop} {F : Fl → Mem → Prop}
@[simp] theorem wWn {i j : Int} : wUv .Add (.int i) (.int j) = some (.int (i + j)) := rfl
@[simp] theorem wWl {i j : Int} : wUv .Sub (.int i) (.int j) = some (.int (i - j)) := rfl
@[simp] theorem wWm {i j : Int} : wUv .Mult (.int i) (.int j) = if yUg i j then some (.int (i * j)) else none := by
  show (if yUg i j then some (i * j) else none).map PyData.int = _
  split <;> rfl
end
section
variable {P : Program} {w : World} {K : PySem.W.Frag} {mg : Str → Option Value} {base : Heap} {x : Str} {st : Stmt} {ps : List Str} {kws : List (Str × PyData)} {g : Fn} {j k : Nat}
end
end Ev

namespace Ev
open PySem PySem.Spec PyProof.Rows L2
section
variable {n : Nat} {xs ds acc : List PyData} {is : List Nat} {g : PyData → Pg Unit} {t : Pg Bool} {e : Pg EV} {m : Mem} {d : PyData}
end
section
variable {X : Cx} {B : XBt} {tg iter elt : Expr} {ifs : List Expr} {scope : Scope} {pos : Pos}
end

section
variable {m : Mem} {X : Exn → Mem → Prop} {E : EV → Mem → Prop} {is : List Nat} {g : PyData → Pg Unit} {t : Pg Bool} {e : Pg EV}
end
end Ev

namespace Ev
open PySem PySem.Spec PyProof.Rows L2
end Ev

namespace Ev
open PySem PySem.Spec PyProof.Rows L2
section
variable {P : Program} {w : World} {A : Around} {R : Result → Shared → Prop} {I S : Addr} {fp wr : List Addr} {n : Nat} {Pv : Nat → Value → Prop} {St : Nat → Heap → Prop}
end
section
variable {X : Cx} {B : XBt}
end
section
variable {X : Cx} {B : XBt} {e : Expr} {pos p pos2 : Pos} {f : Pg EV}
end
section
variable {m : Mem} {X : Exn → Mem → Prop} {E : EV → Mem → Prop}
end
end Ev

namespace Ev
open PySem PySem.Spec PyProof.Rows L2
theorem xZr : ∀ {xs ys : List Char}, xs.map Char.toNat = ys.map Char.toNat → xs = ys
  | [], [], _ => rfl
  | [], _ :: _, h => by simp at h
  | _ :: _, [], h => by simp at h
  | x :: xs, y :: ys, h => by
    rw [List.map_cons, List.map_cons] at h
    injection h with h1 h2
    rw [xZr h2, show x = y from Char.ext (UInt32.toNat_inj.mp h1)]
theorem xZp {a b : String} : (Str.ofString a = Str.ofString b) = (a = b) := by
  refine propext ⟨fun h => ?_, fun h => by rw [h]⟩
  rw [Str.ofString_eq_toList, Str.ofString_eq_toList] at h
  injection h with h
  exact String.toList_injective (xZr (by simpa using h))
end Ev

namespace Ev
open PySem PySem.Spec PyProof.Rows L2
section
variable {prog : Program} {w : World} {A : Around} {E : Value → Shared → Prop} {s : Shared}
end
section
variable {X : Cx} {pos : Pos}
end
section
variable {X : Cx} {B : XBt} {is : List Nat} {pos : Pos} {tg : Expr} {tgs : List Expr}
end
section
variable {m : Mem} {X : Exn → Mem → Prop} {F : Fl → Mem → Prop}
end
end Ev

namespace Ev
open PySem PySem.Spec PyProof.Rows L2
namespace F2
end F2
def EnG (h : Heap) (e it : Addr) (i : Int) : Prop := ∃ (f0 : Value) (f1 : Bool) (old : Value),
  h.get? e = some { cls := .type "enumerate", dict := none, data := .fields #[f0, .bool f1, .ref it, rawInt i, .none, old], slots := #[] } ∧ (f0 = .none ∨ ∃ T : Nat, f0 = rawInt T ∧ ∃ o, h.get? T = some o)
theorem EnG.ty {s : Shared} {e it : Addr} {i : Int} (h : EnG s.heap e it i) : s.TypeIs (.ref e) "enumerate" := by
  obtain ⟨f0, f1, old, h, _⟩ := h
  exact ⟨_, h, rfl⟩
section
variable {prog : Program} {w : World} {A : Around} {E : Value → Shared → Prop} {s : Shared}
end
section
variable {X : Cx} {e : Expr} {ta : TA} {p p2 pos pos2 : Pos}
end
section
variable {X : Cx} {B : XBt} {e : Expr} {fa : Pg (List AV)} {p p2 pos pos2 : Pos}
end
section
variable {m : Mem} {X : Exn → Mem → Prop} {E : EV → Mem → Prop}
end
end Ev

namespace Ev
open PySem PySem.Spec PyProof.Rows L2
section
variable {prog : Program} {w : World} {A : Around} {E : Value → Shared → Prop} {s : Shared}
end
section
variable {X : Cx}
end
end Ev

namespace Ev
open PySem PySem.Spec PyProof.Rows L2
namespace F2
end F2
def ZpG (h : Heap) (z TI TO : Addr) : Prop := ∃ (f0 : Value) (f1 : Bool),
  h.get? z = some { cls := .type "zip", dict := none, data := .fields #[f0, .bool f1, .bool false, .ref TI, .ref TO], slots := #[] } ∧ ((f0 = .none ∧ f1 = false) ∨ ∃ T : Nat, f0 = rawInt T ∧ ∃ o, h.get? T = some o)
theorem ZpG.ty {s : Shared} {z TI TO : Addr} (h : ZpG s.heap z TI TO) : s.TypeIs (.ref z) "zip" := by
  obtain ⟨f0, f1, h, _⟩ := h
  exact ⟨_, h, rfl⟩
theorem xQ5 {h h' : Heap} {it l : Addr} {i : Nat} (k : ∀ o, h.get? it = some o → h'.get? it = some o) (x : h.IsTupleIter it l i) : h'.IsTupleIter it l i := by
  obtain ⟨o, a, b, c⟩ := x
  exact ⟨o, k o a, b, c⟩
theorem xQ3 {h h' : Heap} {l : Addr} {xs : Array Value} (k : ∀ o, h.get? l = some o → h'.get? l = some o) (x : h.IsTuple l xs) : h'.IsTuple l xs := by
  obtain ⟨o, a, b⟩ := x
  exact ⟨o, k o a, b⟩
structure ZSt (xs ys : Array Value) (z TI TO i1 i2 l1 l2 : Addr) (i : Nat) (h : Heap) : Prop where
  zp : ZpG h z TI TO
  ti : IsPair h TI (.ref i1) (.ref i2)
  to : ∃ a b, IsPair h TO a b
  t1 : h.IsTupleIter i1 l1 i
  t2 : h.IsTupleIter i2 l2 i
  a1 : h.IsTuple l1 xs
  a2 : h.IsTuple l2 ys
theorem ZSt.keep {xs ys : Array Value} {z TI TO i1 i2 l1 l2 : Addr} {i : Nat} {h h' : Heap} (Z : ZSt xs ys z TI TO i1 i2 l1 l2 i h) (S : Addr) (n : z ≠ S ∧ TI ≠ S ∧ TO ≠ S ∧ i1 ≠ S ∧ i2 ≠ S ∧ l1 ≠ S ∧ l2 ≠ S)
    (k : ∀ b o, b ≠ S → h.get? b = some o → h'.get? b = some o) (live : ∃ o, h'.get? S = some o) : ZSt xs ys z TI TO i1 i2 l1 l2 i h' := by
  obtain ⟨n1, n2, n3, n4, n5, n6, n7⟩ := n
  obtain ⟨f0, f1, e, q⟩ := Z.zp
  obtain ⟨a, b, et⟩ := Z.to
  exact ⟨⟨f0, f1, k _ _ n1 e, q.imp id fun ⟨T, e1, o, e2⟩ => ⟨T, e1, by
    by_cases c : T = S
    · rw [c]; exact live
    · exact ⟨o, k _ _ c e2⟩⟩⟩, k _ _ n2 Z.ti, ⟨a, b, k _ _ n3 et⟩, xQ5 (fun o => k _ o n4) Z.t1, xQ5 (fun o => k _ o n5) Z.t2, xQ3 (fun o => k _ o n6) Z.a1, xQ3 (fun o => k _ o n7) Z.a2⟩
section
variable {prog : Program} {w : World} {A : Around} {E : Value → Shared → Prop} {s : Shared} {xs ys : Array Value} {z TI TO i1 i2 l1 l2 : Addr}
end
section
variable {prog : Program} {w : World} {A : Around} {E : Value → Shared → Prop} {s : Shared} {xs ys : Array Value} {z TI TO i1 i2 l1 l2 : Addr}
end
section
variable {X : Cx} {e e2 : Expr} {ta : TA} {p p2 pos pos2 : Pos}
end
section
variable {X : Cx} {B : XBt} {e e2 : Expr} {fa : Pg (List AV)} {p p2 pos pos2 : Pos}
end
section
variable {m : Mem} {X : Exn → Mem → Prop} {E : EV → Mem → Prop}
end
end Ev

namespace Ev
open PySem PySem.Spec PyProof.Rows L2
namespace F2
end F2
section
variable {prog : Program} {w : World} {K : PySem.W.Frag} {A : Around} {E : Value → Shared → Prop} {s : Shared} {x dx C g : Addr} {mA : Str → Option Value} {n : Str} {v : Value}
end
section
variable {X : Cx} {o value : Expr} {tv ta : TE} {n : Str} {pos pos' : Pos}
end
section
variable {X : Cx} {B : XBt} {e o : Expr} {fe fo : Pg EV} {pos p1 : Pos} {n : Str} {tb : List (Str × Fn)} {k : Nat}
end
section
variable {m : Mem} {X : Exn → Mem → Prop} {F : Fl → Mem → Prop}
end
end Ev

namespace Ev
open PySem PySem.Spec PyProof.Rows L2
section
variable {prog : Program} {w : World} {A : Around} {E : Value → Shared → Prop} {s : Shared} {env : Env} {K : PySem.W.Frag} {x C fe fx : Addr} {ox : Obj} {od : Option Obj} {pos : Pos}
end
section
variable {P : Program} {w : World} {K : PySem.W.Frag} {mg : Str → Option Value} {base : Heap}
end
section
variable {P : Program} {w : World} {K : PySem.W.Frag} {mg : Str → Option Value} {base : Heap}
end
end Ev

namespace Ev
open PySem PySem.Spec PyProof.Rows L2
section
variable {X : Cx} {B : XBt} {k : Nat} {fx : Addr} {ex : Fn} {a : AV} {x : Addr}
end
end Ev

namespace Ev
open PySem PySem.Spec PyProof.Rows L2
section
variable {X : Cx} {B : XBt} {e : Expr} {body : List Stmt} {fm : Pg EV} {fb : Pg Fl} {pos : Pos} {tb : List (Str × (Fn × Fn))} {k : Nat}
end
section
variable {m : Mem} {X : Exn → Mem → Prop} {F : Fl → Mem → Prop}
end
end Ev

namespace Ev
open PySem PySem.Spec PyProof.Rows L2
section
variable {X : Cx} {B : XBt} {ea : Expr} {pos : Pos} {f : Pg EV} {n : Str} {tb : List (Str × PyData)}
end
section
variable {m : Mem} {X : Exn → Mem → Prop} {E : EV → Mem → Prop}
end
end Ev

namespace Ev
open PySem PySem.Spec PyProof.Rows L2
def nA : AV → AV
  | .d x => match cellOf x with
    | some n => .cell n
    | none => .d x
  | .cell n => .cell n
@[simp] theorem vVq {n : Nat} : nA (.cell n) = .cell n := rfl
@[simp] theorem vVp {n : Nat} : nA (.d (yU2 n)) = .cell n := by
  unfold nA
  simp
section
variable {X : Cx} {B : XBt} {o : Expr} {es : List Expr} {kws : List Keyword} {ks : List Str} {fa fk : Pg (List AV)} {fo : Pg EV} {apos pos : Pos} {n : Str} {tb : List (Str × Fn)} {m : Nat}
end
section
variable {X : Cx} {B : XBt} {e : Expr} {f : Pg EV} {pos : Pos}
end
section
variable {X : Cx} {B : XBt} {e : Expr} {body : List Stmt} {fm : Pg EV} {fb : Pg Fl} {pos : Pos} {tb : List (Str × (Fn × Fn))} {k : Nat}
end

section
variable {m : Mem} {X : Exn → Mem → Prop} {E : EV → Mem → Prop} {F : Fl → Mem → Prop}
end
end Ev

namespace Ev
open PySem PySem.Spec PyProof.Rows L2
section
variable {P : Program} {w : World} {K : PySem.W.Frag} {mg : Str → Option Value} {base : Heap}
end

section
variable {X : Cx} {B : XBt} {k : Nat}
end
end Ev

namespace Ev
open PySem PySem.Spec PyProof.Rows L2
def wY5 : PyData → Bool
  | .dict es => zZo es
  | _ => false
def vJf (d y z : PyData) : Option EV := match d with
  | .dict es => if zZo es && zGc y then some (.d ((yHp es y).getD z)) else none
  | _ => none
def wQ6 (o : EV) (f fc : Pg EV) : Pg EV := look (zKn o) fun d0 => if wY5 d0 then .bind f fun v => .bind fc fun u => look (zKn o) fun d => look (zKn v) fun y => match u with
  | .d z => zK5 (vJf d y z)
  | _ => .stuck else .stuck
def xXb (fo f fc : Pg EV) : Pg EV := .bind fo fun o => wQ6 o f fc
section
variable {X : Cx} {B : XBt} {o e c : Expr} {fo f fc : Pg EV}
theorem xYm {apos cpos : Pos} (C : Ctx X B) (ho : Snd X B o fo) (he : Snd X B e f) (hc : Snd X B c fc) (m : M2 X o "get" apos e c cpos := by exact ⟨rfl, rfl, rfl, rfl⟩) : Snd X B (.Call (.Attribute o "get" apos) [e, c] [] cpos) (xXb fo f fc) := by
  intro w Q r hw
  have u1 : X.A.units + 1 < cLine := by have := C.rm.un; omega
  refine zKp (pe_dget2 u1 zYf zYf zYf m) ?_
  refine zQ0 ho r hw fun ov w0 x e0 f0 r0 re0 h0 => ?_
  unfold wQ6 at h0
  obtain ⟨d0, q0, h0⟩ := zXs h0
  have o0 := (re0.ro r0).rn r0 q0
  split at h0
  · rename_i hd
    cases d0 <;> try (cases hd; done)
    rename_i es0
    obtain ⟨p, kvs, rfl, hH, rk⟩ := o0.dic r0.sub hd
    refine ⟨p, rfl, .inl ⟨kvs, .inl hH⟩, ?_⟩
    rw [← e0]
    refine zQ0 he r0 h0 fun v w1 y e1 f1 r1 re h1 => ?_
    rw [← e1]
    refine zQ0 hc r1 h1 fun u w2 z e2 f2 r2 re2 h2 => ?_
    obtain ⟨d, q1, h2⟩ := zXs h2
    obtain ⟨dy, q2, h2⟩ := zXs h2
    have o1 := (((re0.ro r0).fol r0 f1).fol r1 f2).rn r2 q1
    have o2 := ((re.ro r1).fol r1 f2).rn r2 q2
    cases u with
    | d zd =>
      obtain ⟨ev, ee, q⟩ := zX2 h2
      clear h2
      cases d <;> try (cases ee; done)
      rename_i h2 es1
      have ee : (if zZo es1 && zGc dy then some (EV.d ((yHp es1 dy).getD zd)) else none) = some ev := ee
      split at ee
      · rename_i hp
        cases ee
        simp only [Bool.and_eq_true] at hp
        obtain ⟨kk, rfl⟩ := yJw hp.2
        obtain ⟨p', kvs', ep, hH', rk'⟩ := o1.dic r2.sub hp.1
        cases ep
        have ey := yKq o2
        subst ey
        refine ⟨_, DGet.k hH', ?_⟩
        have fo2 := f0.trans (f1.trans f2)
        have es2 := e2.trans (e1.trans e0)
        cases ed : yHp es1 (yVq kk) with
        | none =>
          rw [ed] at q
          rw [(rk'.val kk).2 ed]
          exact q w2 z rfl es2 fo2 r2 re2
        | some d1 =>
          rw [ed] at q
          obtain ⟨v0, e3, rv0⟩ := (rk'.val kk).1 d1 ed
          rw [e3]
          exact q w2 v0 rfl es2 fo2 r2 rv0
      · cases ee
    | _ => exact h2.elim
  · exact h0.elim
end

section
variable {X : Cx} {B : XBt} {tg : Expr} {is : List Nat} {pos : Pos}
end
end Ev

namespace Ev
open PySem PySem.Spec PyProof.Rows L2
section
variable {P : Program} {w : World} {K : PySem.W.Frag} {mg : Str → Option Value} {base : Heap} {c x qual n : Str} {R : Addr → Addr → Prop} {st : Stmt} {ps ks N : List Str} {g : Fn} {j k q : Nat} {f D : Addr} {fd : FuncData} {fb : Pg Fl}
end
section
variable {m : Mem} {X : Exn → Mem → Prop} {E : EV → Mem → Prop} {F : Fl → Mem → Prop}
@[simp] theorem vQ1 {fo f fc : Pg EV} : W (xXb fo f fc) m X E ↔ W fo m X fun o m1 => W (wQ6 o f fc) m1 X E := by
  unfold xXb
  simp only [zZc]
end
end Ev

namespace Ev
open PySem PySem.Spec PyProof.Rows L2
section
variable {prog : Program} {w : World} {A : Around} {E : Value → Shared → Prop} {s : Shared}
end
section
variable {X : Cx} {pos : Pos}
end
section
variable {X : Cx} {B : XBt} {is : List Nat} {pos : Pos} {tg : Expr} {tgs : List Expr}
end
section
variable {m : Mem} {X : Exn → Mem → Prop} {F : Fl → Mem → Prop}
end
end Ev

namespace Ev
open PySem PySem.Spec PyProof.Rows L2
section
variable {X : Cx} {B : XBt} {tg iter elt : Expr} {ifs : List Expr} {scope : Scope} {pos : Pos}
end

section
variable {m : Mem} {X : Exn → Mem → Prop} {E : EV → Mem → Prop} {is : List Nat} {g : PyData → Pg Unit} {t : Pg Bool} {e : Pg EV}
end
end Ev

namespace Ev
open PySem PySem.Spec PyProof.Rows L2
section
variable {X : Cx} {B : XBt} {k : Nat}
end
end Ev

namespace Ev
open PySem PySem.Spec PyProof.Rows L2
section
variable {P : Program} {w : World} {K : PySem.W.Frag} {mg : Str → Option Value} {base : Heap} {x qual : Str} {st : Stmt} {ps ks : List Str} {dvs : List V} {g : Fn} {j k q : Nat} {f : Addr} {fd : FuncData}
end
end Ev

namespace Ev
open PySem PySem.Spec PyProof.Rows L2
section
variable {X : Cx} {B : XBt} {tg iter elt : Expr} {ifs : List Expr} {scope : Scope} {pos : Pos} {own : List (Str × Nat)} {f : Pg EV} {g : PyData → Pg Unit} {t : Pg Bool} {fe : Pg EV}
end
section
variable {m : Mem} {X : Exn → Mem → Prop} {E : EV → Mem → Prop} {is : List Nat} {f : Pg EV} {g : PyData → Pg Unit} {t : Pg Bool} {e : Pg EV}
end
end Ev

namespace Ev
open PySem PySem.Spec PyProof.Rows L2
section
variable {X : Cx} {B : XBt} {e : Expr} {f : Pg EV}
end
section
variable {X : Cx} {B : XBt} {x : Str} {p pos : Pos} {es : List Expr} {kws : List Keyword} {ks : List Str} {fa fk : Pg (List AV)}
end
section
variable {X : Cx} {B : XBt} {k : Nat} {Cc fI : Addr} {c : Str} {ks : List Str} {h : Fn}
end
section
variable {X : Cx} {B : XBt} {c : Str} {p pos : Pos} {es : List Expr} {kws : List Keyword} {ks : List Str} {fa fk : Pg (List AV)} {k m : Nat} {h : Fn}
end
section
variable {m : Mem} {X : Exn → Mem → Prop} {E : EV → Mem → Prop}
end
end Ev

namespace Ev
open PySem PySem.Spec PyProof.Rows L2
section
variable {prog : Program} {w : World} {A : Around} {E : Value → Shared → Prop} {s : Shared} {K : PySem.W.Frag} {x y C D L f : Addr} {h₀ : Heap} {m : Str → Option Value} {ox oy : Obj} {od od2 : Option Obj}
end
section
variable {X : Cx} {B : XBt} {k : Nat}
end
section
variable {X : Cx} {B : XBt} {a b : Expr} {fa fb : Pg EV} {pos : Pos} {tb : List (Str × Fn)} {sub : List (Str × Str)} {k : Nat}
end
section
variable {m : Mem} {X : Exn → Mem → Prop} {T : Bool → Mem → Prop}
end
end Ev

namespace Ev
open PySem PySem.Spec PyProof.Rows L2
section
variable {X : Cx} {B : XBt} {e e2 : Expr} {pos p pos2 : Pos} {f g : Pg EV}
end
section
variable {m : Mem} {X : Exn → Mem → Prop} {E : EV → Mem → Prop}
end
end Ev

namespace Ev
open PySem PySem.Spec PyProof.Rows L2

structure SKey (P : Program) (w : World) (K : Type) [DecidableEq K] where
  is : Heap → K → Addr → Prop
  hash : K → Int
  cost : K → Nat
  one : ∀ {h : Heap} {x y : K} {b : Addr}, is h x b → is h y b → x = y
  keep : ∀ {h h' : Heap} {k : K} {b : Addr}, is h k b → (∀ o, h.get? b = some o → h'.get? b = some o) → is h' k b
  noSet : ∀ {h : Heap} {k : K} {b : Addr} {o : Obj} {es : Array (Int × Value)} {ep : Nat} {t : SetTable}, is h k b → h.get? b = some o → o.data = .set es ep t → False
  hashed : ∀ {A : Around} {E : Value → Shared → Prop} {s : Shared} {k : K} {b : Addr} {Q : Int → Shared → Prop}, A.units < cLine → is s.heap k b → Q (hash k) { s with toks := s.toks + cost k } → wpAny (model P w) A (pyHash (.ref b)) Q E s
  alike : ∀ {A : Around} {E : Value → Shared → Prop} {s : Shared} {x y : K} {b c : Addr} {Q : Bool → Shared → Prop}, A.units < cLine → is s.heap x b → is s.heap y c → Q (decide (x = y)) s → wpAny (model P w) A (eqBool (.ref b) (.ref c)) Q E s
  byVal : ∀ {A : Around} {E : Value → Shared → Prop} {s : Shared} {k : K} {b : Addr} {Q : Bool → Shared → Prop}, is s.heap k b → (∀ v, Q v s) → wpAny (model P w) A (hashByValue 8 (.ref b)) Q E s
  unseen : ∀ {A : Around} {E : Value → Shared → Prop} {s : Shared} {k : K} {b : Addr} {ys : List Value} {Q : Bool → Shared → Prop}, is s.heap k b → (∀ y ∈ ys, ∃ k' c, y = Value.ref c ∧ is s.heap k' c) → Q false s → wpAny (model P w) A (searchCouldBeSeen (.ref b) ys) Q E s

section
variable {P : Program} {w : World} {K : Type} [DecidableEq K] {kd : SKey P w K} {A : Around} {E : Value → Shared → Prop} {s : Shared}
def zY7 (kd : SKey P w K) (L : List (Addr × K)) : List (Int × Value) := L.map fun q => (kd.hash q.2, .ref q.1)
def yGl (kd : SKey P w K) (L : List (Addr × K)) : List Int := L.map fun q => kd.hash q.2
structure SetH (kd : SKey P w K) (h : Heap) (a : Addr) (L : List (Addr × K)) (es : Array (Int × Value)) (ep : Nat) (t : SetTable) : Prop where
  here : ∃ o, h.get? a = some o ∧ o.ExactSet ∧ o.data = .set es ep t
  ent : es.toList = zY7 kd L
  tb : TabOk t (yGl kd L)
  ones : (L.map Prod.snd).Nodup
  mem : ∀ q ∈ L, kd.is h q.2 q.1
  ldd : w.params.followText "set-order" = true ∨ t.led = true
  gap : 5 * L.length < 3 * t.mask
  small : L.length < 64
variable {a : Addr} {L : List (Addr × K)} {es : Array (Int × Value)} {ep : Nat} {t : SetTable}
theorem SetH.count (R : SetH kd s.heap a L es ep t) : es.size = L.length := by
  simpa [zY7] using congrArg List.length R.ent
theorem SetH.holds (R : SetH kd s.heap a L es ep t) : t.fits es.size = true := by
  have z1 : t.place.size = L.length := by simpa [yGl] using R.tb.sz
  have z2 := R.count; have z3 := R.gap
  simp only [SetTable.fits, SetTable.fill, R.tb.dm, Bool.and_eq_true, beq_iff_eq, decide_eq_true_eq]
  exact ⟨by omega, by show t.place.size + 0 ≤ t.mask; omega⟩
theorem SetH.at_ (R : SetH kd s.heap a L es ep t) {i : Nat} {q : Addr × K} (h : L[i]? = some q) : es[i]? = some (kd.hash q.2, .ref q.1) := by
  have z : es.toList[i]? = some (kd.hash q.2, .ref q.1) := by simp only [R.ent, zY7, List.getElem?_map, h, Option.map_some]
  rwa [Array.getElem?_toList] at z
theorem SetH.stays (R : SetH kd s.heap a L es ep t) : ¬ t.gaveWay = true := by simp [SetTable.gaveWay, mask_odd R.tb.mok]
theorem SetH.idx (R : SetH kd s.heap a L es ep t) {i j : Nat} (h : t.place.toList[i]? = some j) : ∃ q, L[i]? = some q ∧ q ∈ L := by
  have l1 := (List.getElem?_eq_some_iff.mp h).1
  have l2 : t.place.size = L.length := by simpa [yGl] using R.tb.sz
  rw [Array.length_toList, l2] at l1
  exact ⟨L[i], List.getElem?_eq_getElem l1, List.getElem_mem l1⟩

abbrev pst (m : Nat) (H : Int) (c : Nat) : SetTable.Probe := nth m (runAt m (SetTable.bits H % (m + 1)) (SetTable.bits H)) c
theorem xVv (m : Nat) (H : Int) (c q : Nat) : nth m (pst m H c) q = pst m H (c + q) := (nth_add ..).symm
theorem yGq (m : Nat) (H : Int) : ∀ c, (pst m H c).dummy = none
  | 0 => rfl
  | c + 1 => by
    have e : pst m H (c + 1) = adv m (pst m H c) := nth_succ ..
    have i := yGq m H c
    rw [e, adv]
    split <;> exact i

theorem seek (R : SetH kd s.heap a L es ep t) {x : Addr} {k : K} (hx : kd.is s.heap k x) (hu : A.units < cLine) {H : Int} (eH : kd.hash k = H) {N : Nat} (big : N < 10 * SetTable.turns t.mask) (out : way t.mask H N ∉ t.place.toList)
    (inn : ∀ c, c < N → way t.mask H c ∈ t.place.toList) {Q : SetFound → Shared → Prop} (q1 : k ∈ L.map Prod.snd → Q (.there none) s) (q2 : k ∉ L.map Prod.snd → Q (.free (way t.mask H N) false) s) :
    ∀ (n c : Nat) (sd : Option SetTable.Probe), sd.getD (t.probeStart H) = pst t.mask H c → c ≤ N → N - c < n → (∀ (i : Nat) (q : Addr × K), L[i]? = some q → q.2 = k → ∃ d, c ≤ d ∧ d < N ∧ t.place.toList[i]? = some (way t.mask H d)) →
      wpAny (model P w) A (setSearchFrom a (.ref x) H true n sd) Q E s := by
  obtain ⟨o, ho, _, hd⟩ := R.here
  have rd : ∀ {Q' : Array (Int × Value) × Nat × SetTable → Shared → Prop}, Q' (es, ep, t) s → wpAny (model P w) A (setState a) Q' E s := fun z => wpAny_setState_of ho hd R.holds z
  intro n
  induction n with
  | zero => intro c _ _ _ z; omega
  | succ n ih =>
    intro c sd e0 cN nN ahead
    have wayE : ∀ q, (nth t.mask (pst t.mask H c) q).j = way t.mask H (c + q) := fun q => congrArg SetTable.Probe.j (xVv ..)
    have hEnt : ∀ {i : Nat} {q : Addr × K}, L[i]? = some q → ((es[i]? : Option (Int × Value)).map (·.1)).getD 0 = kd.hash q.2 := fun {i q} z => by rw [R.at_ z] <;> rfl
    rw [setSearchFrom_succ]
    refine wpAny_bind (rd ?_)
    dsimp only
    rw [e0]
    refine wp_if_neg R.stays ?_
    try refine wpAny_bind (wpAny_pure ?_)
    rcases go_spec t R.tb.ris R.tb.dm (fun i => ((es[i]? : Option (Int × Value)).map (·.1)).getD 0) H (10 * SetTable.turns t.mask) (N - c) (pst t.mask H c) (yGq ..) (by omega) (fun q z => by rw [wayE]; exact inn _ (by omega))
      (by rw [wayE, Nat.add_sub_cancel' cN]; exact out) with ⟨q, i, qN, at1, hh, before, pr⟩ | ⟨before, pr⟩
    · rw [wayE, xVv] at pr
      rw [wayE] at at1
      rw [show t.probe (fun i => ((es[i]? : Option (Int × Value)).map (·.1)).getD 0) H (pst t.mask H c) = _ from pr]
      dsimp only
      obtain ⟨p, hp, pL⟩ := R.idx at1
      have live := slot_live R.tb.ris at1
      have go : wpAny (model P w) A (searchRest a (.ref x) H true n es t (way t.mask H (c + q)) i (pst t.mask H (c + (q + 1)))) Q E s := by
        simp only [searchRest, R.at_ hp]
        refine wpAny_bind (wpAny_holding (kd.alike hu (R.mem p pL) hx ?_)); refine wpAny_bind (rd ?_)
        dsimp only
        by_cases same : p.2 = k
        · exact wp_if_pos (by simp [same]) (wpAny_pure (q1 (List.mem_map.mpr ⟨p, pL, same⟩)))
        · refine wp_if_neg (by simp [same]) ?_
          try refine wpAny_bind (wpAny_pure ?_)
          rw [sameMem]
          dsimp only
          simp only [live, R.at_ hp, if_true]
          refine wpAny_bind (wpAny_isSame_ref_self (wpAny_bind (wpAny_pure ?_))); simp only [if_true]
          refine wp_if_neg (by simp [same]) (ih (c + (q + 1)) _ rfl (by omega) (by omega) fun i' p' z1 z2 => ?_)
          obtain ⟨d, d1, d2, d3⟩ := ahead i' p' z1 z2
          refine ⟨d, ?_, d2, d3⟩
          by_cases lt : d < c + q
          · have e : c + (d - c) = d := by omega
            exact absurd ((hEnt z1).trans (by rw [z2, eH])) (before (d - c) i' (by omega) (by rw [wayE, e]; exact d3))
          · have ne : d ≠ c + q := fun e => by
              subst e
              have s1 := slot_live R.tb.ris d3
              rw [live] at s1
              injection s1 with s1
              rw [← s1, hp] at z1
              injection z1 with z1
              exact same (z1 ▸ z2)
            omega
      by_cases lead : t.led = true
      · refine wp_if_neg (by simp [lead]) ?_
        first | exact go | exact wpAny_bind (wpAny_pure go)
      · refine wp_if_pos (by simp [lead]) (wpAny_bind (kd.unseen hx (fun y hy => ?_) (wp_if_neg Bool.false_ne_true ?_)))
        · obtain ⟨e, ee, rfl⟩ := List.mem_map.mp hy
          have e1 : e ∈ es.toList := by have := ee; simp at this; simpa using this.1
          rw [R.ent] at e1
          obtain ⟨u, uL, rfl⟩ := List.mem_map.mp e1
          exact ⟨u.2, u.1, rfl, R.mem u uL⟩
        · first | exact go | exact wpAny_bind (wpAny_pure go)
    · rw [wayE, Nat.add_sub_cancel' cN] at pr
      rw [show t.probe (fun i => ((es[i]? : Option (Int × Value)).map (·.1)).getD 0) H (pst t.mask H c) = _ from pr]
      dsimp only
      refine wpAny_pure (q2 fun z => ?_)
      obtain ⟨p, pL, pk⟩ := List.mem_map.mp z
      obtain ⟨i, li, ei⟩ := List.getElem_of_mem pL
      have hp : L[i]? = some p := by rw [List.getElem?_eq_getElem li, ei]
      obtain ⟨d, d1, d2, d3⟩ := ahead i p hp pk
      have e : c + (d - c) = d := by omega
      exact before (d - c) i (by omega) (by rw [wayE, e]; exact d3) ((hEnt hp).trans (by rw [pk, eH]))
theorem wYe (R : SetH kd s.heap a L es ep t) {x : Addr} {k : K} (hx : kd.is s.heap k x) (hu : A.units < cLine) {H : Int} (eH : kd.hash k = H) {Q : SetFound → Shared → Prop} (q1 : k ∈ L.map Prod.snd → Q (.there none) s)
    (q2 : ∀ N, k ∉ L.map Prod.snd → way t.mask H N ∉ t.place.toList → (∀ c, c < N → way t.mask H c ∈ t.place.toList) → Q (.free (way t.mask H N) false) s) : wpAny (model P w) A (setSearch a (.ref x) H true) Q E s := by
  have len : (yGl kd L).length = L.length := by simp [yGl]
  obtain ⟨N, big, out, inn⟩ := R.tb.first (by have := R.gap; omega) H
  have top : 10 * SetTable.turns t.mask < 100000 := by rcases R.tb.mok with e | e | e <;> (rw [e]; decide)
  rw [setSearch]
  refine seek R hx hu eH big out inn q1 (fun z => q2 N z out inn) 100000 0 none rfl N.zero_le (by omega) fun i q z1 z2 => ?_
  have hi : (yGl kd L)[i]? = some H := by simp only [yGl, List.getElem?_map, z1, Option.map_some, z2, eH]
  have li : i < t.place.toList.length := by
    rw [Array.length_toList, R.tb.sz]
    exact (List.getElem?_eq_some_iff.mp hi).1
  obtain ⟨d, d1, d2⟩ := R.tb.before out hi (List.getElem?_eq_getElem li)
  exact ⟨d, d.zero_le, d1, by rw [d2]; exact List.getElem?_eq_getElem li⟩
end
end Ev

namespace Ev
open PySem PySem.Spec PyProof.Rows L2
section
variable {P : Program} {w : World} {K : Type} [DecidableEq K] {kd : SKey P w K} {A : Around} {E : Value → Shared → Prop} {s : Shared} {a : Addr} {L : List (Addr × K)} {es : Array (Int × Value)} {ep : Nat} {t : SetTable}
theorem xZl {α : Type} : ∀ L : List α, (List.range L.length).filterMap (fun i => L[i]?) = L
  | [] => rfl
  | x :: L => by
    have ih := xZl L
    rw [List.length_cons, List.range_succ_eq_map, List.filterMap_cons, List.filterMap_map]
    show x :: List.filterMap (fun i => L[i]?) (List.range L.length) = _
    rw [ih]
theorem yGu {kd : SKey P w K} (e : es.toList = zY7 kd L) : ∀ l : List Nat, l.filterMap (fun i => es[i]?) = zY7 kd (l.filterMap fun i => L[i]?)
  | [] => rfl
  | i :: l => by
    have z : es[i]? = (L[i]?).map fun q => (kd.hash q.2, Value.ref q.1) := by rw [← Array.getElem?_toList, e, zY7, List.getElem?_map]
    have ih := yGu e l
    simp only [List.filterMap_cons, z]
    cases L[i]? with
    | none => simpa using ih
    | some q =>
      simp only [Option.map_some, ih]
      rfl
theorem xVz {kd : SKey P w K} (e : es.toList = zY7 kd L) : ∀ l : List Nat, (∀ i ∈ l, i < L.length) → yGl kd (l.filterMap fun i => L[i]?) = l.map fun i => (es.map (·.1)).getD i 0
  | [], _ => rfl
  | i :: l, h => by
    have ih := xVz e l fun j hj => h j (.tail _ hj)
    have lt := h i (.head _)
    have z : (es.map (·.1))[i]? = some (kd.hash (L[i]).2) := by
      rw [Array.getElem?_map, ← Array.getElem?_toList, e, zY7, List.getElem?_map, List.getElem?_eq_getElem lt]; rfl
    rw [List.filterMap_cons, List.getElem?_eq_getElem lt, List.map_cons, ← ih, Array.getD_eq_getD_getElem?, z]
    rfl
structure SetB (kd : SKey P w K) (h : Heap) (a : Addr) (L : List (Addr × K)) (es : Array (Int × Value)) (ep : Nat) (t : SetTable) : Prop where
  here : ∃ o, h.get? a = some o ∧ o.ExactSet ∧ o.data = .set es ep t
  ent : es.toList = zY7 kd L
  tb : TabOk t (yGl kd L)
  ones : (L.map Prod.snd).Nodup
  mem : ∀ q ∈ L, kd.is h q.2 q.1
  ldd : w.params.followText "set-order" = true ∨ t.led = true
  room : L.length ≤ t.mask
  small : L.length < 64
theorem SetB.full (R : SetB kd s.heap a L es ep t) (g : 5 * L.length < 3 * t.mask) : SetH kd s.heap a L es ep t := ⟨R.here, R.ent, R.tb, R.ones, R.mem, R.ldd, g, R.small⟩
theorem SetB.count (R : SetB kd s.heap a L es ep t) : es.size = L.length := by simpa [zY7] using congrArg List.length R.ent
theorem xQj {h h' : Heap} {k : K} {b : Addr} {o : Obj} (kd : SKey P w K) (x : kd.is h k b) (ho : h.get? a = some o) (hd : o.data = .set es ep t) (sb : Heap.SameBut a h h') : kd.is h' k b :=
  kd.keep x fun u hu => (sb.2 b fun e => by subst e; exact kd.noSet x ho hd).trans hu
theorem wXw (R : SetB kd s.heap a L es ep t) {n M : Nat} (e1 : SetTable.sizeAbove n - 1 = M) (m : MaskOk M) (e2 : SetTable.sizeAbove n ≤ 128) (g : 5 * L.length < 3 * M) {Q : Unit → Shared → Prop}
    (q : ∀ h' L' es' ep' t', Heap.SameBut a s.heap h' → SetH kd h' a L' es' ep' t' → L'.Perm L → Q () { s with heap := h' }) : wpAny (model P w) A (setRelay a n) Q E s := by
  obtain ⟨o, ho, hex, hd⟩ := R.here
  have cnt := R.count
  have z1 : t.place.size = L.length := by simpa [yGl] using R.tb.sz
  have fits : t.fits es.size = true := by
    have := R.room
    simp only [SetTable.fits, SetTable.fill, R.tb.dm, Bool.and_eq_true, beq_iff_eq, decide_eq_true_eq]
    exact ⟨by omega, by show t.place.size + 0 ≤ t.mask; omega⟩
  obtain ⟨t', ord, r1, r2, r3, r4, r5, r6, r7⟩ := relaid_ok t (hs := es.map (·.1)) e1 m (by rw [Array.size_map]; omega)
  rw [Array.size_map, cnt] at r2
  have inL : ∀ i ∈ ord.toList, i < L.length := fun i hi => List.mem_range.mp (r2.mem_iff.mp hi)
  rw [← xVz R.ent ord.toList inL] at r3
  have rows : (ord.filterMap (es[·]?)).toList = zY7 kd (ord.toList.filterMap fun i => L[i]?) := by
    rw [Array.toList_filterMap]; exact yGu R.ent _
  have pm : (ord.toList.filterMap fun i => L[i]?).Perm L := by
    have z := r2.filterMap fun i => L[i]?
    rwa [xZl] at z
  generalize ord.toList.filterMap (fun i => L[i]?) = L' at r3 rows pm
  have sz : (ord.filterMap (es[·]?)).size = es.size := by
    have z := congrArg List.length rows
    rw [Array.length_toList, zY7, List.length_map] at z
    rw [z, pm.length_eq, cnt]
  rw [setRelay_eq]
  refine wpAny_bind (wpAny_setState_of ho hd fits ?_); dsimp only
  refine wp_if_neg (by have := sizeLine_eq; omega) ?_
  try refine wpAny_bind (wpAny_pure ?_)
  rw [r1]; dsimp only
  refine wpAny_bind (wp_if_neg (by simp [sz]) ?_)
  try refine wpAny_bind (wpAny_pure ?_)
  refine wpAny_pure ?_
  dsimp only
  refine wpAny_storeSet_of ho hd ?_ (by have := sizeLine_eq; have := R.small; omega)
  have sb : Heap.SameBut a s.heap (s.heap.update a (Obj.putSet (ord.filterMap (es[·]?)) t')) := Heap.SameBut.update ..
  refine q _ L' _ (ep + 1) t' sb ⟨⟨_, store_at ho hd, ⟨hex.1, hex.2.1, hex.2.2⟩, rfl⟩, rows, r3, (pm.map Prod.snd).nodup_iff.mpr R.ones, fun u hu => xQj kd (R.mem u (pm.mem_iff.mp hu)) ho hd sb, by rw [r5]; exact R.ldd, ?_, ?_⟩ pm
  · rw [pm.length_eq, r4]; exact g
  · rw [pm.length_eq]; exact R.small
theorem _root_.L2.TabOk.like {t t' : SetTable} {hs : List Int} (u1 : t'.place = t.place) (u2 : t'.dummies = t.dummies) (u3 : t'.mask = t.mask) (T : TabOk t hs) : TabOk t' hs := by
  refine ⟨u1 ▸ T.ris, u2.trans T.dm, u1 ▸ T.sz, u3 ▸ T.mok, ?_, ?_⟩
  · rw [u1, u3]; exact T.bd
  · rw [u1, u3]; exact T.reach
theorem vJ4 (R : SetH kd s.heap a L es ep t) {x : Addr} {k : K} (hx : kd.is s.heap k x) (hu : A.units < cLine) (few : L.length < 63) {Q : Bool → Shared → Prop}
    (q : ∀ b h' L' es' ep' t', Heap.SameBut a s.heap h' → SetH kd h' a L' es' ep' t' → (k ∈ L.map Prod.snd → L' = L) → (k ∉ L.map Prod.snd → L'.Perm ((x, k) :: L)) → Q b { s with heap := h' }) :
    wpAny (model P w) A (setAddHashed a (.ref x) (kd.hash k)) Q E s := by
  obtain ⟨o, ho, hex, hd⟩ := R.here
  have cnt := R.count
  have gap := R.gap
  have rd : ∀ {A' : Around} {Q' : Array (Int × Value) × Nat × SetTable → Shared → Prop}, Q' (es, ep, t) s → wpAny (model P w) A' (setState a) Q' E s := fun z => wpAny_setState_of ho hd R.holds z
  rw [setAddHashed]
  refine wpAny_holding ?_
  rw [show (100000 : Nat) = 99999 + 1 from rfl, setAddHashedIn_succ]
  refine wpAny_bind (rd ?_)
  dsimp only
  refine wp_if_neg (by simp [byScan, Value.scannable]) ?_
  try refine wpAny_bind (wpAny_pure ?_)
  refine wpAny_bind (wYe R hx hu rfl (fun old => ?_) fun N new out inn => ?_)
  · exact wpAny_pure (q false s.heap L es ep t (.refl ..) R (fun _ => rfl) fun z => (z old).elim)
  dsimp only
  refine wpAny_bind (rd ?_)
  dsimp only
  obtain ⟨p1, p2, p3, p4, p5, p6, _, _, p9⟩ := R.tb.put out inn
  have asks : ∀ {c : Bool} {F : Bool → Sem Bool}, (∀ b, wpAny (model P w) A (F b) Q E s) → wpAny (model P w) A (if c = true then hashByValue 8 (.ref x) >>= F else pure true >>= F) Q E s := fun {c F} z => by
    cases c
    · exact wp_if_neg Bool.false_ne_true (wpAny_bind (wpAny_pure (z _)))
    · exact wp_if_pos rfl (wpAny_bind (kd.byVal hx fun v => z v))
  generalize t.put (way t.mask (kd.hash k) N) = pt at p1 p3 p4 p5 p6 p9 ⊢
  obtain ⟨t1, p⟩ := pt
  dsimp only at p1 p3 p4 p5 p6 p9 ⊢
  rw [← p1] at p2 p3
  refine asks fun b => ?_
  obtain ⟨t2, et, u1, u2, u3, u4⟩ : ∃ t2 : SetTable, (if b = true then t1 else { t1 with plain := false }) = t2 ∧ t2.place = t1.place ∧ t2.dummies = t1.dummies ∧ t2.mask = t1.mask ∧ t2.led = t1.led := by cases b <;> exact ⟨_, rfl, rfl, rfl, rfl, rfl⟩
  rw [et]
  have fl : t2.fill = t1.fill := by simp only [SetTable.fill, u1, u2]
  rw [← fl] at p9; rw [← u3] at p4; rw [← u4] at p5
  replace p3 := TabOk.like u1 u2 u3 p3
  clear et u1 u2 u3 u4 fl p6
  have pm := put_perm L p (x, k)
  have rows : (SetTable.insertAt es p (kd.hash k, Value.ref x)).toList = zY7 kd (L.take p ++ (x, k) :: L.drop p) := by
    rw [SetTable.toList_insertAt, R.ent]; simp [zY7]
  have hs : (yGl kd L).take p ++ kd.hash k :: (yGl kd L).drop p = yGl kd (L.take p ++ (x, k) :: L.drop p) := by simp [yGl]
  rw [hs] at p3
  generalize L.take p ++ (x, k) :: L.drop p = L1 at pm rows p3
  generalize SetTable.insertAt es p (kd.hash k, Value.ref x) = es1 at rows ⊢
  have len : L1.length = L.length + 1 := pm.length_eq
  have sz : es1.size = L.length + 1 := by
    have z : es1.size = L1.length := by simpa [zY7] using congrArg List.length rows
    rw [z, len]
  have fill : t2.fill = L.length + 1 := by simpa [yGl] using p9
  refine wpAny_bind (wpAny_storeSet_of ho hd ?_ (by have := sizeLine_eq; omega))
  have sb : Heap.SameBut a s.heap (s.heap.update a (Obj.putSet es1 t2)) := Heap.SameBut.update ..
  have o1 := store_at (es' := es1) (t' := t2) ho hd
  generalize s.heap.update a (Obj.putSet es1 t2) = h1 at sb o1 ⊢
  have B : SetB kd h1 a L1 es1 (ep + 1) t2 := ⟨⟨_, o1, ⟨hex.1, hex.2.1, hex.2.2⟩, rfl⟩, rows, p3, (pm.map Prod.snd).nodup_iff.mpr (List.nodup_cons.mpr ⟨new, R.ones⟩), fun u hu' => by
      rcases List.mem_cons.mp (pm.mem_iff.mp hu') with e | e
      · rw [e]; exact xQj kd hx ho hd sb
      · exact xQj kd (R.mem u e) ho hd sb, by rw [p5]; exact R.ldd, by omega, by omega⟩
  by_cases tf : t2.tooFull = true
  · first
      | (refine wpAny_bind ?_; refine wp_if_pos (by simp [tf]) ?_)
      | (refine wp_if_pos (by simp [tf]) ?_; refine wpAny_bind ?_)
    have tf' : 5 * (L.length + 1) ≥ 3 * t.mask := by
      simp only [SetTable.tooFull, decide_eq_true_eq, fill, p4] at tf
      omega
    rw [cnt]
    have two : (t.mask = 7 ∧ L.length = 4) ∨ (t.mask = 31 ∧ L.length = 18) := by
      rcases R.tb.mok with e | e | e
      · exact .inl ⟨e, by omega⟩
      · exact .inr ⟨e, by omega⟩
      · omega
    have go : ∀ M, SetTable.sizeAbove (SetTable.grown (L.length + 1)) - 1 = M → MaskOk M → SetTable.sizeAbove (SetTable.grown (L.length + 1)) ≤ 128 → 5 * (L.length + 1) < 3 * M →
        wpAny (model P w) A (setRelay a (SetTable.grown (L.length + 1))) (fun _ s' => wpAny (model P w) A (pure true) Q E s') E { s with heap := h1 } := fun M g1 g2 g3 g4 =>
      wXw (s := { s with heap := h1 }) B g1 g2 g3 (by omega) fun h2 L2 es2 ep2 t3 sb2 R2 pm2 => wpAny_pure (q true h2 L2 es2 ep2 t3 (sb.trans sb2) R2 (fun z => (new z).elim) fun _ => pm2.trans pm)
    rcases two with ⟨_, e⟩ | ⟨_, e⟩
    · exact go 31 (by rw [e, size_20]) (.inr (.inl rfl)) (by rw [e, size_20]; decide) (by omega)
    · exact go 127 (by rw [e, size_76]) (.inr (.inr rfl)) (by rw [e, size_76]; decide) (by omega)
  · have lt : 5 * L1.length < 3 * t2.mask := by
      simp only [SetTable.tooFull, decide_eq_true_eq, fill, p4] at tf
      omega
    first
      | refine wp_if_neg (by simp [tf]) ?_
      | (refine wpAny_bind ?_; refine wp_if_neg (by simp [tf]) ?_; refine wpAny_pure ?_)
    exact wpAny_pure (q true h1 L1 es1 (ep + 1) t2 sb (SetB.full (s := { s with heap := h1 }) B lt) (fun z => (new z).elim) fun _ => pm)
end
end Ev

namespace Ev
open PySem PySem.Spec PyProof.Rows L2
section
variable {P : Program} {w : World} {K : Type} [DecidableEq K] {kd : SKey P w K} {A : Around} {E : Value → Shared → Prop} {s : Shared}
structure Coll (ks : List (Addr × K)) (i : Nat) (L : List (Addr × K)) : Prop where
  old : ∀ q ∈ L, q ∈ ks.take i
  keys : ∀ q ∈ ks.take i, q.2 ∈ L.map Prod.snd
  le : L.length ≤ i
theorem Coll.next {ks L L' : List (Addr × K)} {i : Nat} {x : Addr × K} (c : Coll ks i L) (h : ks[i]? = some x) (h1 : x.2 ∈ L.map Prod.snd → L' = L) (h2 : x.2 ∉ L.map Prod.snd → L'.Perm (x :: L)) : Coll ks (i + 1) L' := by
  have tk : ks.take (i + 1) = ks.take i ++ [x] := by rw [List.take_succ, h]; rfl
  by_cases z : x.2 ∈ L.map Prod.snd
  · rw [h1 z]
    refine ⟨fun q hq => by rw [tk]; exact List.mem_append_left _ (c.old q hq), fun q hq => ?_, Nat.le_succ_of_le c.le⟩
    rw [tk, List.mem_append, List.mem_singleton] at hq
    rcases hq with hq | rfl
    · exact c.keys q hq
    · exact z
  · have pm := h2 z
    refine ⟨fun q hq => ?_, fun q hq => ?_, by rw [pm.length_eq]; exact Nat.succ_le_succ c.le⟩
    · rw [tk, List.mem_append, List.mem_singleton]
      rcases List.mem_cons.mp (pm.mem_iff.mp hq) with e | e
      · exact .inr e
      · exact .inl (c.old q e)
    · rw [(pm.map Prod.snd).mem_iff, List.map_cons, List.mem_cons]
      rw [tk, List.mem_append, List.mem_singleton] at hq
      rcases hq with hq | rfl
      · exact .inr (c.keys q hq)
      · exact .inl rfl
theorem SetH.moved {h h' : Heap} {a : Addr} {L : List (Addr × K)} {es : Array (Int × Value)} {ep : Nat} {t : SetTable} (R : SetH kd h a L es ep t) (k1 : ∀ o, h.get? a = some o → h'.get? a = some o) (k2 : ∀ q ∈ L, kd.is h' q.2 q.1) : SetH kd h' a L es ep t := by
  obtain ⟨o, ho, r⟩ := R.here
  exact ⟨⟨o, k1 o ho, r⟩, R.ent, R.tb, R.ones, k2, R.ldd, R.gap, R.small⟩
theorem xYs {h : Heap} {a : Addr} (kd : SKey P w K) (ho : h.get? a = some (wXm w)) : SetH kd h a [] #[] 0 (.fresh 0 0 (!w.params.followText "set-order")) := by
  refine ⟨⟨_, ho, ⟨rfl, rfl, rfl⟩, rfl⟩, rfl, ⟨.nil, rfl, rfl, .inl rfl, fun x hx => (by cases hx), fun i h j hi => (by simp [yGl] at hi)⟩, List.nodup_nil, fun q hq => (by cases hq), ?_, ?_, by show (0 : Nat) < 64; decide⟩
  · show _ ∨ (!w.params.followText "set-order") = true
    cases w.params.followText "set-order" <;> simp
  · show 5 * 0 < 3 * 7
    decide
theorem vZi {I : Addr} {fp wr : List Addr} {G : Array GenState → Array GenState → Prop} {n : Nat} {Pv : Nat → Value → Prop} {St : Nat → Shared → Prop} {R : Result → Shared → Prop} (W : WalksS P w A.in1 I fp wr G n Pv St) (S : Addr) (apart : S ∉ fp)
    (ks : List (Addr × K)) (hn : n = ks.length) (few : ks.length < 64) (val : ∀ i v, Pv i v → ∃ q, ks[i]? = some q ∧ v = .ref q.1) (h0 : Heap) (mem : ∀ q ∈ ks, kd.is h0 q.2 q.1) (S0 : h0.get? S = none) (w0 : ∀ b ∈ wr, h0.get? b = none) (hu : A.in1.units < cLine) :
    ∀ (d i : Nat) (s : Shared), n - i = d → i ≤ n → St i s → (∀ b o, h0.get? b = some o → s.heap.get? b = some o) → (∃ L es ep t, SetH kd s.heap S L es ep t ∧ Coll ks i L) →
      (∀ s' L es ep t, Moved (S :: wr) G s s' → SetH kd s'.heap S L es ep t → Coll ks n L → (∀ b o, h0.get? b = some o → s'.heap.get? b = some o) → R (.ok (.ret .none)) s') →
      codeAny (model P w) A (.builtin "set.update.loop" ⟨[.ref S, .ref I], []⟩) R s := by
  have Sw : S ∉ wr := fun z => apart (W.sub _ z)
  have wide : ∀ b ∈ wr, b ∈ S :: wr := fun b z => .tail _ z
  have on : ∀ {u u' : Shared}, Moved wr G u u' → (∀ b o, h0.get? b = some o → u.heap.get? b = some o) → ∀ b o, h0.get? b = some o → u'.heap.get? b = some o := fun m k b o e =>
    m.heap b o (fun z => by rw [w0 b z] at e; cases e) (k b o e)
  intro d
  induction d with
  | zero =>
    intro i s hd hi st k0 ⟨L, es, ep, t, hS, c⟩ fin
    obtain rfl : i = n := by omega
    refine codeAny_builtin F.entry_set_update_loop ?_
    rw [Around.under_plainId F.plain_set_update_loop _]
    show wpAny _ A.in1 (pyNext (.ref I) >>= _) _ _ s
    refine wpAny_bind (W.done s _ _ st fun s' m => ?_)
    show wpAny _ A.in1 (ret Value.none) _ _ s'
    have k1 := on m k0
    exact wpAny_pure (fin s' L es ep t (m.mono wide) (hS.moved (fun o e => m.heap S o Sw e) fun q hq => kd.keep (mem q (List.mem_of_mem_take (c.old q hq))) (k1 _)) c k1)
  | succ d ih =>
    intro i s hd hi st k0 ⟨L, es, ep, t, hS, c⟩ fin
    refine codeAny_builtin F.entry_set_update_loop ?_
    rw [Around.under_plainId F.plain_set_update_loop _]
    show wpAny _ A.in1 (pyNext (.ref I) >>= _) _ _ s
    have lt : i < n := by omega
    refine wpAny_bind (W.item i s _ _ lt st fun v s' hv st' m => ?_)
    obtain ⟨q, hq, rfl⟩ := val i v hv
    have k1 := on m k0
    have hS' : SetH kd s'.heap S L es ep t := hS.moved (fun o e => m.heap S o Sw e) fun q hq => kd.keep (mem q (List.mem_of_mem_take (c.old q hq))) (k1 _)
    have hx : kd.is s'.heap q.2 q.1 := kd.keep (mem q (List.mem_of_getElem? hq)) (k1 _)
    show wpAny _ A.in1 (holding [Value.ref q.1] (setAdd S (.ref q.1)) >>= _) _ _ s'
    refine wpAny_bind (wpAny_holding ?_)
    rw [setAdd]
    refine wpAny_holding (wpAny_bind (kd.hashed hu hx ?_))
    refine vJ4 (s := { s' with toks := s'.toks + kd.cost q.2 }) hS' hx hu (by have := c.le; omega) fun b h' L' es' ep' t' sb hS2 c1 c2 => ?_
    have k2 : ∀ b o, h0.get? b = some o → h'.get? b = some o := fun b o e => (sb.2 b fun z => by rw [z, S0] at e; cases e).trans (k1 b o e)
    refine wpAny_pure ⟨plainId_quiet F.plain_set_update_loop _, ih (i + 1) _ (by omega) lt (W.frame _ s' _ _ st' (Nat.le_add_right _ _) fun b hb o e => ?_) k2 ⟨L', es', ep', t', hS2, c.next hq c1 c2⟩ fun s'' L2 es2 ep2 t2 m2 hS3 c3 k3 => ?_⟩
    · exact (sb.2 b fun z => apart (z ▸ hb)).trans e
    · refine fin s'' L2 es2 ep2 t2 (Moved.trans W.gtrans ((m.mono wide).then_heap (Nat.le_add_right _ _) fun b o hb e => ?_) m2) hS3 c3 k3
      exact (sb.2 b fun z => hb (z ▸ .head _)).trans e
theorem xWg {l : Addr} {items : Array Value} (ks : List (Addr × K)) {Q : Value → Shared → Prop} (free : A.handled = none) (isL : s.heap.IsList l items) (hit : items.toList = ks.map fun q => Value.ref q.1) (mem : ∀ q ∈ ks, kd.is s.heap q.2 q.1) (few : ks.length < 64) (hu : A.units + 3 < cLine)
    (fin : ∀ (h1 : Heap) (tk : Nat) L es ep t, SetH kd h1 s.heap.objs.size L es ep t → Coll ks ks.length L → (∀ b o, s.heap.get? b = some o → h1.get? b = some o) → Q (.ref s.heap.objs.size) { s with heap := h1, toks := tk }) :
    wpAny (model P w) A (call (.type "set") [.ref l]) Q E s := by
  have size : items.size = ks.length := by simpa using congrArg List.length hit
  obtain ⟨cc, tl, g1⟩ := F.called_set.mro; have g2 := F.called_set.made; have g3 := F.called_set.sub
  refine wpAny_call (codeAny_of_tree ?_); show wpAny _ _ (callAny (.type "set") _) _ _ _
  refine wpAny_pure ⟨Code.quiet_builtin _ (by decide +kernel), codeAny_builtin F.entry_type_call ?_⟩; rw [Around.under_plain (weight_type_call_type "set" [.ref l] []) rfl]
  have g4 := F.called_set.notType; have g5 := F.called_set.canCreate; have g6 := F.typeCall_set_1 (.ref l)
  repeat (any_goals (first | assumption | wp_step))
  let S := s.heap.objs.size; let hS := s.heap.push (wXm w)
  refine codeAny_mono (code_set_led1 (.ref l) (E := E) (Q₁ := fun o t => o = .ref S ∧ t = { s with heap := hS }) ⟨rfl, rfl⟩) fun r t hr => ?_
  match r, hr with
  | .error _, hr => exact hr
  | .ok .next, hr => exact hr.elim
  | .ok .brk, hr => exact hr.elim
  | .ok .cont, hr => exact hr.elim
  | .ok (.ret obj), hr =>
    obtain ⟨rfl, rfl⟩ := hr
    have at0 : hS.get? S = some (wXm w) := Heap.get?_push_size _ rfl
    have isT : Shared.TypeIs { s with heap := hS } (.ref S) "set" := ⟨_, at0, rfl⟩
    have g7 := F.called_set.init.lookup; have g8 := F.called_set.init.bind (.ref S)
    repeat (any_goals (first | assumption | wp_step))
    refine codeAny_mono (codeAny_call_builtin (R := wants (fun r t => r = .none ∧ ∃ h1 tk L es ep tb, t = { s with heap := h1, toks := tk } ∧ SetH kd h1 S L es ep tb ∧ Coll ks ks.length L ∧ ∀ b o, s.heap.get? b = some o → h1.get? b = some o) E) F.called_set.init.plain F.entry_set_init (check_set_init_1 isT ?_)) fun r t hr => ?_
    · obtain ⟨⟨c1, d1, dt, sl⟩, hol, e1, nl, e2⟩ := id isL
      dsimp only at e1 e2; subst e1 e2
      have lS : l < S := Heap.lt_size hol
      have n1 := F.sub_list_set; have n2 := F.sub_list_frozenset; have n3 : (Value.type "list" == Value.type "dict") = false := by decide
      have hl1 : hS.IsList l items := ⟨_, Heap.get?_push_of_some _ hol, rfl, nl, rfl⟩
      have hol1 : hS.get? l = some { cls := .type "list", dict := d1, data := .seq items nl, slots := sl } := Heap.get?_push_of_some _ hol
      unfold Builtin.«set.__init__» noKeywords Builtin.Frozenset.updateFrom; generalize hPI : pyIter = PI
      wp_walk
      subst hPI; refine wpAny_pyIter_list hl1 (wpAny_bind (wpAny_runValue ?_))
      have zS : hS.objs.size = S + 1 := Heap.size_push ..
      have free3 : A.in1.in1.in1.handled = none := by simp [free]
      have n4 : l ≠ hS.objs.size := by rw [zS]; exact Nat.ne_of_lt (Nat.lt_succ_of_lt lS)
      have n5 : S ∉ [hS.objs.size, l] := by rw [zS]; simp only [List.mem_cons, List.not_mem_nil, or_false, not_or]; exact ⟨Nat.ne_of_lt (Nat.lt_succ_self _), Nat.ne_of_gt lS⟩
      have val : ∀ (i : Nat) (v : Value), items[i]? = some v → ∃ q, ks[i]? = some q ∧ v = .ref q.1 := fun i v hv => by
        rw [← Array.getElem?_toList, hit, List.getElem?_map] at hv
        cases e : ks[i]? with
        | none => rw [e] at hv; cases hv
        | some q => rw [e] at hv; exact ⟨q, rfl, (Option.some.inj hv).symm⟩
      have past : ∀ b, S ≤ b → s.heap.get? b = none := fun b hb => Heap.get?_none_of_le hb
      refine vZi ((Walks.list free3 _ l n4 items).toS) S n5 ks size few val s.heap mem (past _ (Nat.le_refl _)) (fun b hb => past b (by rw [List.mem_singleton.mp hb, zS]; exact Nat.le_succ _)) (by first | exact hu | (simp only [Around.in1_units] at *; omega) | omega) (items.size - 0) 0 _ (by omega) (Nat.zero_le _)
        ⟨⟨_, Heap.get?_push_size _ rfl, rfl, rfl⟩, (hl1.push _)⟩ (fun b o e => Heap.get?_push_of_some _ (Heap.get?_push_of_some _ e)) ⟨[], #[], 0, _, xYs kd (Heap.get?_push_of_some _ at0), ⟨fun q hq => (by cases hq), fun q hq => (by simp at hq), Nat.le_refl _⟩⟩ ?_
      rintro ⟨h1, g9, d9, tk, os⟩ L es ep tb hm hR hc hk
      obtain rfl : g9 = s.gens := hm.gens
      obtain rfl : d9 = s.drawn := hm.drawn
      obtain rfl : os = s.os := hm.os
      show wpAny _ _ _ _ _ _; refine wpAny_pure ?_; show wpAny _ _ (ret Value.none) _ _ _
      exact wpAny_pure ⟨rfl, h1, tk, L, es, ep, tb, rfl, hR, size ▸ hc, hk⟩
    · match r, hr with
      | .error _, hr => exact hr
      | .ok .next, hr => exact hr.elim
      | .ok .brk, hr => exact hr.elim
      | .ok .cont, hr => exact hr.elim
      | .ok (.ret r), hr =>
        obtain ⟨rfl, h1, tk, L, es, ep, tb, rfl, q1, q2, q3⟩ := hr
        repeat (any_goals (first | assumption | wp_step))
        exact fin _ _ _ _ _ _ q1 q2 q3
end
end Ev

namespace Ev
open PySem PySem.Spec PyProof.Rows L2
section
variable {P : Program} {w : World} {A : Around} {E : Value → Shared → Prop} {s : Shared}
abbrev PrK (P : Program) (w : World) (h : Heap) (p : Str × Str) (b : Addr) : Prop := IsTupleKey (PySem.strKind P w) h [p.1, p.2] b
theorem xZk {ks : List Str} {vs : List Value} (h : ItemsAre (PySem.strKind P w) ks vs) : ∀ v ∈ vs, ∃ x t, v = Value.str x t := by
  induction h with
  | nil => intro v hv; cases hv
  | cons h1 _ ih =>
    intro v hv
    cases hv with
    | head => obtain ⟨t, e⟩ := Value.isStrOf_shape h1; exact ⟨_, t, e⟩
    | tail _ hv => exact ih v hv
theorem xQh (n : Nat) (x : Str) (t : Tok) : ofAClassStatement n (.str x t) = pure false := by cases n <;> rfl
theorem xWk (n : Nat) (x : Str) (t : Tok) : hashByValue n (.str x t) = pure false := by cases n <;> rfl
theorem yV8 {p : Str × Str} {b : Addr} {Q : Bool → Shared → Prop} (x : PrK P w s.heap p b) (h : Q false s) : wpAny (model P w) A (ofAClassStatement 8 (.ref b)) Q E s := by
  have ty := x.typeIs
  obtain ⟨o, its, n, ho, _, hd, hi⟩ := x
  unfold ofAClassStatement
  refine wpAny_bind (wpAny_typeOf ty ?_)
  dsimp only
  simp only [show (("tuple" : String) == "tuple") = true by decide, if_true, Bool.not_true, Bool.false_eq_true, if_false]
  try refine wpAny_bind (wpAny_pure ?_)
  try simp only [Bool.not_true, Bool.false_eq_true, if_false]
  refine wpAny_bind (m := seqItems? (.ref b)) (wpAny_seqItems ho hd ?_)
  dsimp only
  refine wpAny_bind (m := forIn its _ _) ?_
  rw [← Array.forIn_toList]
  refine wpAny_forIn_list _ (fun rest r u => r.1 = none ∧ u = s ∧ ∀ v ∈ rest, ∃ x t, v = Value.str x t) _ ?_ ?_ _ _ ⟨rfl, rfl, xZk hi⟩
  · rintro v rest r u ⟨_, rfl, all⟩
    obtain ⟨x, t, rfl⟩ := all v (.head _)
    rw [xQh]
    refine wpAny_bind (wpAny_pure ?_); simp only [Bool.false_eq_true, if_false]
    exact wpAny_pure ⟨rfl, rfl, fun z hz => all z (.tail _ hz)⟩
  · rintro ⟨r1, r2⟩ u ⟨e, rfl, _⟩
    simp only at e
    subst e
    exact wpAny_pure h
theorem xVw {p : Str × Str} {b : Addr} {Q : Bool → Shared → Prop} (x : PrK P w s.heap p b) (h : ∀ v, Q v s) : wpAny (model P w) A (hashByValue 8 (.ref b)) Q E s := by
  have ty := x.typeIs
  obtain ⟨o, its, n, ho, _, hd, hi⟩ := x
  unfold hashByValue
  refine wpAny_bind (wpAny_specialOf ty F.slot_tuple_hash.lookup ?_)
  refine wpAny_bind (m := seqItems? (.ref b)) (wpAny_seqItems ho hd ?_)
  refine wpAny_bind (m := forIn its _ _) ?_
  rw [← Array.forIn_toList]
  refine wpAny_forIn_list _ (fun rest r u => r.1 = none ∧ u = s ∧ ∀ v ∈ rest, ∃ x t, v = Value.str x t) _ ?_ ?_ _ _ ⟨rfl, rfl, xZk hi⟩
  · rintro v rest r u ⟨_, rfl, all⟩
    obtain ⟨x, t, rfl⟩ := all v (.head _)
    rw [xWk]
    refine wpAny_bind (wpAny_pure ?_); simp only [Bool.not_false, if_true]
    exact wpAny_pure (show wpAny _ _ (pure false) _ _ _ from wpAny_pure (h _))
  · rintro ⟨r1, r2⟩ u ⟨e, rfl, _⟩
    simp only at e
    subst e
    exact wpAny_pure (h _)
theorem xX6 {p : Str × Str} {b : Addr} {ys : List Value} {Q : Bool → Shared → Prop} (x : PrK P w s.heap p b) (hy : ∀ y ∈ ys, ∃ p' c, y = Value.ref c ∧ PrK P w s.heap p' c) (h : Q false s) : wpAny (model P w) A (searchCouldBeSeen (.ref b) ys) Q E s := by
  unfold searchCouldBeSeen
  refine wpAny_bind ?_
  refine wpAny_forIn_list _ (fun rest r u => r.1 = none ∧ u = s ∧ ∀ y ∈ rest, ∃ p' c, y = Value.ref c ∧ PrK P w s.heap p' c) _ ?_ ?_ _ _ ⟨rfl, rfl, hy⟩
  · rintro v rest r u ⟨_, rfl, all⟩
    obtain ⟨p', c, rfl, hc⟩ := all v (.head _)
    have more : ∀ y ∈ rest, ∃ p' c, y = Value.ref c ∧ PrK P w u.heap p' c := fun z hz => all z (.tail _ hz)
    dsimp only
    by_cases z : (b == c || (carriedByValue (.ref b) && carriedByValue (.ref c))) = true
    · exact wp_if_pos z (wpAny_pure ⟨rfl, rfl, more⟩)
    · refine wp_if_neg z (wpAny_bind (wpAny_eqIsQuiet_tuple x ?_)); simp only [Bool.not_true, Bool.false_eq_true, if_false]
      refine wpAny_bind (wpAny_eqIsQuiet_tuple hc ?_); simp only [Bool.not_true, Bool.false_eq_true, if_false]
      refine wpAny_bind (yV8 x ?_); simp only [Bool.false_eq_true, if_false]
      refine wpAny_bind (yV8 hc ?_); simp only [Bool.false_eq_true, if_false]
      exact wpAny_pure ⟨rfl, rfl, more⟩
  · rintro ⟨r1, r2⟩ u ⟨e, rfl, _⟩
    simp only at e
    subst e
    exact wpAny_pure h
def yGs (P : Program) (w : World) : SKey P w (Str × Str) where
  is := PrK P w
  hash := fun p => tupleKeyHash (PySem.strKind P w) [p.1, p.2]
  cost := fun _ => 3
  one := fun {h x y b} hx hy => by
    have z := hx.inj hy
    obtain ⟨a, c⟩ := x
    obtain ⟨d, e⟩ := y
    simp only [List.cons.injEq, and_true] at z
    rw [z.1, z.2]
  keep := fun ⟨o, its, n, ho, r⟩ k => ⟨o, its, n, k o ho, r⟩
  noSet := fun ⟨o, its, n, ho, _, hd, _⟩ ho' hd' => by
    rw [ho] at ho'
    cases ho'
    rw [hd] at hd'
    exact nomatch hd'
  hashed := fun hu hx q => wpAny_pyHash_tuple hu hx q
  alike := fun {A E s x y b c Q} hu hx hy q => wpAny_eqBool_tuple hu hx hy (by
    have z : decide ([x.1, x.2] = [y.1, y.2]) = decide (x = y) := by
      obtain ⟨a, c⟩ := x
      obtain ⟨d, e⟩ := y
      simp
    rw [z]
    exact q)
  byVal := xVw
  unseen := xX6
end
def txt (x : Str) : List Nat := x.cps.toList
theorem xHo {x y : Str} (h : txt x = txt y) : x = y := by
  cases x; cases y
  exact congrArg Str.mk (Array.toList_inj.mp h)
def yZ9 (p q : Str × Str) : Bool := decide (txt p.1 < txt q.1) || (decide (p.1 = q.1) && decide (txt p.2 < txt q.2))
theorem yZf {p q : Str × Str} : yZ9 p q = true ↔ txt p.1 < txt q.1 ∨ (p.1 = q.1 ∧ txt p.2 < txt q.2) := by simp [yZ9]
theorem xJ7 (x y : Str) : txt x < txt y ∨ x = y ∨ txt y < txt x := by
  by_cases h1 : txt x < txt y
  · exact .inl h1
  · by_cases h2 : txt y < txt x
    · exact .inr (.inr h2)
    · exact .inr (.inl (xHo (List.le_antisymm (List.not_lt.mp h2) (List.not_lt.mp h1))))
theorem yZe {p q r : Str × Str} (h1 : yZ9 p q = true) (h2 : yZ9 q r = true) : yZ9 p r = true := by
  rw [yZf] at *
  rcases h1 with h1 | ⟨e1, h1⟩
  · rcases h2 with h2 | ⟨e2, h2⟩
    · exact .inl (List.lt_trans h1 h2)
    · exact .inl (e2 ▸ h1)
  · rcases h2 with h2 | ⟨e2, h2⟩
    · exact .inl (e1 ▸ h2)
    · exact .inr ⟨e1.trans e2, List.lt_trans h1 h2⟩
theorem yY2 (p : Str × Str) : yZ9 p p = false := by
  cases h : yZ9 p p with
  | false => rfl
  | true =>
    rcases yZf.mp h with h | ⟨_, h⟩
    · exact absurd h (List.lt_irrefl _)
    · exact absurd h (List.lt_irrefl _)
theorem yY1 (p q : Str × Str) : yZ9 p q = true ∨ p = q ∨ yZ9 q p = true := by
  rcases xJ7 p.1 q.1 with h | h | h
  · exact .inl (yZf.mpr (.inl h))
  · rcases xJ7 p.2 q.2 with k | k | k
    · exact .inl (yZf.mpr (.inr ⟨h, k⟩))
    · exact .inr (.inl (Prod.ext h k))
    · exact .inr (.inr (yZf.mpr (.inr ⟨h.symm, k⟩)))
  · exact .inr (.inr (yZf.mpr (.inl h)))
theorem xYz {α : Type} (k : α → Str × Str) : SrtO.Swo fun v u => yZ9 (k v) (k u) := by
  refine ⟨fun x y h => ?_, fun x y z h1 h2 => ?_⟩
  · cases z : yZ9 (k y) (k x) with
    | false => rfl
    | true => exact absurd (yZe h z) (by rw [yY2]; decide)
  · cases g : yZ9 (k z) (k x) with
    | false => rfl
    | true =>
      rcases yY1 (k y) (k z) with e | e | e
      · rw [yZe e g] at h1; cases h1
      · rw [e, g] at h1; cases h1
      · rw [e] at h2; cases h2
def yJg (x : Str × Str) : List (Str × Str) → List (Str × Str)
  | [] => [x]
  | y :: ys => if yZ9 x y then x :: y :: ys else if x = y then y :: ys else y :: yJg x ys
def zUy (ps : List (Str × Str)) : List (Str × Str) := ps.foldr yJg []
theorem yKo {x k : Str × Str} : ∀ {ys : List (Str × Str)}, k ∈ yJg x ys ↔ k = x ∨ k ∈ ys
  | [] => by simp [yJg]
  | y :: ys => by
    rw [yJg]
    split
    · simp
    · split
      · rename_i e; subst e; simp
      · rw [List.mem_cons, yKo (ys := ys), List.mem_cons]
        constructor
        · rintro (h | h | h)
          · exact .inr (.inl h)
          · exact .inl h
          · exact .inr (.inr h)
        · rintro (h | h | h)
          · exact .inr (.inl h)
          · exact .inl h
          · exact .inr (.inr h)
@[simp] theorem yJs {k : Str × Str} : ∀ {ps : List (Str × Str)}, k ∈ zUy ps ↔ k ∈ ps
  | [] => by simp [zUy]
  | p :: ps => by
    show k ∈ yJg p (zUy ps) ↔ _
    rw [yKo, yJs, List.mem_cons]
theorem yGf {x : Str × Str} : ∀ {ys : List (Str × Str)}, ys.Pairwise (fun p q => yZ9 p q = true) → (yJg x ys).Pairwise fun p q => yZ9 p q = true
  | [], _ => by simp [yJg]
  | y :: ys, h => by
    have ⟨h1, h2⟩ := List.pairwise_cons.mp h
    rw [yJg]
    split
    · rename_i e
      refine List.pairwise_cons.mpr ⟨fun z hz => ?_, h⟩
      rcases List.mem_cons.mp hz with q | q
      · rw [q]; exact e
      · exact yZe e (h1 z q)
    · split
      · exact h
      · rename_i e1 e2
        refine List.pairwise_cons.mpr ⟨fun z hz => ?_, yGf h2⟩
        rcases yKo.mp hz with q | q
        · rcases yY1 x y with t | t | t
          · exact absurd t e1
          · exact absurd t e2
          · rw [q]; exact t
        · exact h1 z q
theorem yW0 : ∀ ps : List (Str × Str), (zUy ps).Pairwise fun p q => yZ9 p q = true
  | [] => .nil
  | p :: ps => yGf (yW0 ps)
theorem xXl : ∀ {ps qs : List (Str × Str)}, ps.Pairwise (fun p q => yZ9 p q = true) → qs.Pairwise (fun p q => yZ9 p q = true) → (∀ k, k ∈ ps ↔ k ∈ qs) → ps = qs
  | [], [], _, _, _ => rfl
  | [], q :: qs, _, _, h => by simpa using (h q).mpr (by simp)
  | p :: ps, [], _, _, h => by simpa using (h p).mp (by simp)
  | p :: ps, q :: qs, h1, h2, h => by
    have ⟨a1, b1⟩ := List.pairwise_cons.mp h1
    have ⟨a2, b2⟩ := List.pairwise_cons.mp h2
    have no : ∀ x : Str × Str, ¬ yZ9 x x = true := fun x => by rw [yY2]; decide
    have e : p = q := by
      rcases List.mem_cons.mp ((h p).mp (.head _)) with z | z
      · exact z
      · rcases List.mem_cons.mp ((h q).mpr (.head _)) with y | y
        · exact y.symm
        · exact absurd (yZe (a2 _ z) (a1 _ y)) (no q)
    subst e
    rw [xXl b1 b2 fun k => ⟨fun hk => ?_, fun hk => ?_⟩]
    · rcases List.mem_cons.mp ((h k).mp (.tail _ hk)) with z | z
      · rw [z] at hk; exact absurd (a1 p hk) (no p)
      · exact z
    · rcases List.mem_cons.mp ((h k).mpr (.tail _ hk)) with z | z
      · rw [z] at hk; exact absurd (a2 p hk) (no p)
      · exact z
theorem xXq {ps qs : List (Str × Str)} (g : qs.Pairwise fun p q => yZ9 p q = true) (h : ∀ k, k ∈ qs ↔ k ∈ ps) : qs = zUy ps := xXl g (yW0 ps) fun k => (h k).trans yJs.symm
end Ev

namespace Ev
open PySem PySem.Spec PyProof.Rows L2
section
variable {P : Program} {w : World} {A : Around} {E : Value → Shared → Prop} {s : Shared}
def yZc (h : Heap) (v : Value) (p : Str × Str) : Prop := ∃ a o t u n, v = .ref a ∧ h.get? a = some o ∧ o.cls = .type "tuple" ∧ o.data = .seq #[.str p.1 t, .str p.2 u] n
theorem yZc.of {h : Heap} {p : Str × Str} {b : Addr} (x : PrK P w h p b) : yZc h (.ref b) p := by
  obtain ⟨o, its, n, ho, hc, hd, hi⟩ := x
  obtain ⟨l⟩ := its
  cases hi with
  | cons h1 r =>
    cases r with
    | cons h2 r =>
      cases r
      obtain ⟨t, rfl⟩ := Value.isStrOf_shape h1
      obtain ⟨u, rfl⟩ := Value.isStrOf_shape h2
      exact ⟨b, o, t, u, n, rfl, ho, hc, hd⟩
theorem yZc.keep {h h' : Heap} {v : Value} {p : Str × Str} (x : yZc h v p) (k : ∀ b o, h.get? b = some o → o.cls = .type "tuple" → h'.get? b = some o) : yZc h' v p := by
  obtain ⟨a, o, t, u, n, e, ho, hc, hd⟩ := x
  exact ⟨a, o, t, u, n, e, k a o ho hc, hc, hd⟩
theorem xVx (x a b : Str) : yZ9 (x, a) (x, b) = decide (txt a < txt b) := by
  show (decide (txt x < txt x) || (decide (x = x) && decide (txt a < txt b))) = _
  rw [decide_eq_false (List.lt_irrefl (txt x)), decide_eq_true (rfl : x = x), Bool.true_and, Bool.false_or]
theorem xVy {x y : Str} (ne : ¬ x = y) (a b : Str) : yZ9 (x, a) (y, b) = decide (txt x < txt y) := by
  show (decide (txt x < txt y) || (decide (x = y) && decide (txt a < txt b))) = _
  rw [decide_eq_false ne, Bool.false_and, Bool.or_false]
theorem wX2 {vs : List Value} {k : Value → Str × Str} (hp : ∀ v ∈ vs, yZc s.heap v (k v)) : SrtO.Cmp P w A s (tuples' true) (fun p => p.1 ∈ vs) (SrtO.lt2 fun v u => yZ9 (k v) (k u)) := by
  intro p q m1 m2
  have g1 := hp _ m1
  have g2 := hp _ m2
  show wpAny (model P w) A (keyLt' (tuples' true) p.1 q.1) (fun r s' => s' = s ∧ r = yZ9 (k p.1) (k q.1)) (fun _ _ => False) s
  generalize k p.1 = x at g1 ⊢
  generalize k q.1 = y at g2 ⊢
  obtain ⟨x1, x2⟩ := x
  obtain ⟨y1, y2⟩ := y
  obtain ⟨a, o, t, u, n, e, ho, _, hd⟩ := g1
  obtain ⟨a', o', t', u', n', e', ho', _, hd'⟩ := g2
  rw [e, e']
  refine PySem.W.kat_lt ho hd ho' hd' ?_
  show PySem.W.KatLex P w A true (decide (2 < 2)) _ [(.str x1 t, .str y1 t'), (.str x2 u, .str y2 u')] 0 s
  refine PySem.W.kat_cons (wpAny_eqBool_str ?_)
  refine PySem.W.kat_go (fun e1 => ?_) (fun e1 => ?_)
  · obtain rfl : x1 = y1 := by simpa using e1
    refine PySem.W.kat_yes (PySem.W.kat_cons (wpAny_eqBool_str ?_))
    refine PySem.W.kat_go (fun e2 => ?_) (fun e2 => ?_)
    · obtain rfl : x2 = y2 := by simpa using e2
      exact PySem.W.kat_yes (PySem.W.kat_nil ⟨rfl, by rw [yY2]; rfl⟩)
    · refine PySem.W.kat_no (PySem.W.kat_one _ _ (PyProof.Rows.lt_str ?_))
      exact (show s = s ∧ decide (x2.cps.toList < y2.cps.toList) = yZ9 (x1, x2) (x1, y2) from ⟨rfl, (xVx ..).symm⟩)
  · have ne : ¬ x1 = y1 := by simpa using e1
    exact PySem.W.kat_no (oneLt_str ⟨rfl, (xVy ne ..).symm⟩)
theorem yGr {h : Heap} : ∀ {vs : List Value}, (∀ v ∈ vs, ∃ p, yZc h v p) → ∃ fs, PySem.W.KatTups h vs fs ∧ fs.length = vs.length ∧ ∀ f ∈ fs, ∃ x t, f = Value.str x t
  | [], _ => ⟨[], .nil, rfl, fun _ z => nomatch z⟩
  | v :: vs, hp => by
    obtain ⟨fs, h1, h2, h3⟩ := yGr (vs := vs) fun u hu => hp u (.tail _ hu)
    obtain ⟨p, a, o, t, u, n, rfl, ho, hc, hd⟩ := hp v (.head _)
    refine ⟨.str p.1 t :: fs, PySem.W.KatTups.cons ho hc hd rfl h1, congrArg Nat.succ h2, fun f hf => ?_⟩
    cases hf with
    | head => exact ⟨_, _, rfl⟩
    | tail _ hf => exact h3 f hf
theorem xQa {a : Addr} {vs : List Value} {k : Value → Str × Str} (h0 : 0 < vs.length) (hp : ∀ v ∈ vs, yZc s.heap v (k v)) (ha : ∀ o, s.heap.get? a = some o → o.cls ≠ .type "tuple") : SrtO.SortableO P w A s a vs fun v u => yZ9 (k v) (k u) := by
  intro h' kp
  have hp' : ∀ v ∈ vs, yZc h' v (k v) := fun v hv => (hp v hv).keep fun b o e c => kp b o (fun z => by subst z; exact ha o e c) e
  obtain ⟨fs, h1, h2, h3⟩ := yGr fun v hv => ⟨_, hp' v hv⟩
  refine ⟨tuples' true, fun Q E hq => PySem.W.kat_kind (T := .type "str") h1 (by omega) (fun f hf => ?_) (by rfl) ?_, wX2 hp'⟩
  · obtain ⟨x, t, rfl⟩ := h3 f hf
    exact PySem.W.Looks.now
  · rw [show (Value.type "str" != Value.type "tuple") = true by first | decide +kernel | rfl | decide]
    exact hq
def adV : Value → Addr
  | .ref a => a
  | _ => 0
def kAt (L : List (Addr × (Str × Str))) (v : Value) : Str × Str := ((L.find? fun q => q.1 == adV v).map Prod.snd).getD ("", "")
theorem xG2 {L : List (Addr × (Str × Str))} (one : ∀ q ∈ L, ∀ r ∈ L, q.1 = r.1 → q.2 = r.2) {q : Addr × (Str × Str)} (hq : q ∈ L) : kAt L (.ref q.1) = q.2 := by
  show ((L.find? fun r => r.1 == q.1).map Prod.snd).getD ("", "") = q.2
  cases e : L.find? fun r => r.1 == q.1 with
  | none => exact absurd (List.find?_eq_none.mp e q hq) (by simp)
  | some r =>
    have z := List.find?_some e
    exact one r (List.mem_of_find?_eq_some e) q hq (by simpa using z)
theorem yH1 {a : Addr} {L : List (Addr × (Str × Str))} {es : Array (Int × Value)} {ep : Nat} {t : SetTable} {Q : Value → Shared → Prop} (R : SetH (yGs P w) s.heap a L es ep t) (free : A.handled = none)
    (fin : ∀ s' p (out : Array Value) (c : Nat) (L' : List (Addr × (Str × Str))), (∀ b o, s.heap.get? b = some o → s'.heap.get? b = some o) → s'.gens = s.gens → s'.os = s.os → s.heap.objs.size ≤ p → s'.heap.get? p = some (seqObj "list" out c) →
      out.toList = L'.map (fun q => Value.ref q.1) → L'.Perm L → L'.Pairwise (fun q r => yZ9 q.2 r.2 = true) → Q (.ref p) s') : wpAny (model P w) A (call (.builtin "sorted") [.ref a]) Q E s := by
  obtain ⟨o, ho, hex, hd⟩ := R.here
  have cnt := R.count
  have few := R.small
  have one : ∀ q ∈ L, ∀ r ∈ L, q.1 = r.1 → q.2 = r.2 := fun q hq r hr e => (yGs P w).one (e ▸ R.mem q hq) (R.mem r hr)
  refine Calls.call_function_entry kind_sorted plain_sorted entry_sorted (args_sorted1 _) ?_
  unfold Builtin.«sorted»
  refine wpAny_bind (m := checkCount "sorted" 1 1 _) (wpAny_pure ?_)
  refine wpAny_bind (collect_set (A := A.in1) free ⟨o, ho, hex.1, hd⟩ R.holds (by unfold scanBound; omega) R.tb.ris R.ldd fun s1 vs k1 hz g1 o1 pm => ?_)
  have rows : es.toList.map (·.2) = L.map fun q => Value.ref q.1 := by rw [R.ent, zY7, List.map_map]; rfl
  rw [rows] at pm
  have fromL : ∀ v ∈ vs, ∃ q ∈ L, Value.ref q.1 = v := fun v hv => List.mem_map.mp (pm.mem_iff.mp hv)
  have small : vs.length < 64 := by rw [pm.length_eq, List.length_map]; exact few
  have line : vs.length ≤ sizeLine := by have := sizeLine_eq; omega
  refine wpAny_bind (wpAny_newList ?_ line)
  have hoL : (s1.heap.push (seqObj "list" vs.toArray 0)).get? s1.heap.objs.size = some (seqObj "list" vs.toArray 0) := Heap.get?_push_size _ rfl
  have hp : ∀ v ∈ vs, yZc (s1.heap.push (seqObj "list" vs.toArray 0)) v (kAt L v) := fun v hv => by
    obtain ⟨q, hq, rfl⟩ := fromL v hv
    rw [xG2 one hq]
    exact yZc.of (P := P) (w := w) ((yGs P w).keep (R.mem q hq) fun u e => Heap.get?_push_of_some _ (k1 _ u e))
  refine wpAny_bind (wpAny_holding (wpAny_call_entry (s := { s1 with heap := s1.heap.push (seqObj "list" vs.toArray 0) }) slot_list_sort ⟨_, hoL, rfl⟩ entry_list_sort (SrtO.list_sort_ord (xYz (kAt L)) hoL line (fun h2 => xQa (by omega) hp fun o' e c => ?_) fun out a1 a2 => ⟨_, rfl, ?_⟩) (args_list_sort _)))
  · rw [hoL] at e
    cases e
    exact absurd (Value.type.inj c) (by decide)
  obtain ⟨c, hc⟩ := sortedHeap_at (vs := vs) (out := out.toArray) hoL
  have pm2 : out.Perm (L.map fun q => Value.ref q.1) := a2.perm.trans pm
  have refs : ∀ v ∈ out, Value.ref (adV v) = v := fun v hv => by
    obtain ⟨q, _, rfl⟩ := List.mem_map.mp (pm2.mem_iff.mp hv)
    rfl
  have e1 : out = (out.map fun v => (adV v, kAt L v)).map fun q => Value.ref q.1 := by
    have z : out.map (fun v => Value.ref (adV v)) = out.map fun v => v := List.map_congr_left refs
    rw [List.map_map]
    exact (z.trans (List.map_id' out)).symm
  have pL : (out.map fun v => (adV v, kAt L v)).Perm L := by
    have z := pm2.map fun v => (adV v, kAt L v)
    rw [List.map_map] at z
    have y : L.map ((fun v => (adV v, kAt L v)) ∘ fun q => Value.ref q.1) = L := by
      have x : L.map ((fun v => (adV v, kAt L v)) ∘ fun q => Value.ref q.1) = L.map fun q => q := List.map_congr_left fun q hq => Prod.ext rfl (xG2 one hq)
      rw [x, List.map_id']
    rwa [y] at z
  have asc : (out.map fun v => (adV v, kAt L v)).Pairwise fun q r => yZ9 q.2 r.2 = true := by
    have z1 : (out.map fun v => (adV v, kAt L v)).Pairwise fun q r => yZ9 r.2 q.2 = false := List.pairwise_map.mpr a1
    have z2 : (out.map fun v => (adV v, kAt L v)).Pairwise fun q r => q.2 ≠ r.2 := List.pairwise_map.mp ((pL.map Prod.snd).nodup_iff.mpr R.ones)
    refine (z1.and z2).imp fun {q r} h => ?_
    rcases yY1 q.2 r.2 with g | g | g
    · exact g
    · exact absurd g h.2
    · rw [h.1] at g; cases g
  refine wpAny_pure ⟨_, rfl, fin _ s1.heap.objs.size out.toArray c _ (fun b u e => ?_) g1 o1 hz hc (by simpa using e1) pL asc⟩
  have q := k1 b u e
  have lt := Heap.lt_size q
  show (sortedHeap (s1.heap.push (seqObj "list" vs.toArray 0)) s1.heap.objs.size vs out.toArray).get? b = some u
  rw [sortedHeap_old (Nat.ne_of_lt lt) (by rw [size_push']; exact Nat.lt_succ_of_lt lt)]
  exact Heap.get?_push_of_some _ q
end
end Ev

namespace Ev
open PySem PySem.Spec PyProof.Rows L2
section
variable {P : Program} {w : World}
def xU7 (kd : SKey P w (Str × Str)) (h : Heap) (a : Addr) (L : List (Addr × (Str × Str))) : Prop := ∃ (es : Array (Int × Value)) (ep : Nat) (t : SetTable), (∃ o, h.get? a = some o ∧ o.ExactSet ∧ o.data = .set es ep t) ∧ es.toList = zY7 kd L ∧ TabOk t (yGl kd L) ∧ (L.map Prod.snd).Nodup ∧
  (w.params.followText "set-order" = true ∨ t.led = true) ∧ 5 * L.length < 3 * t.mask ∧ L.length < 64
def xJr (P : Program) (w : World) (a : Addr) (L : List (Addr × (Str × Str))) : HO := .ext fun h => xU7 (yGs P w) h a L
theorem xU7.of {kd : SKey P w (Str × Str)} {h : Heap} {a : Addr} {L : List (Addr × (Str × Str))} {es : Array (Int × Value)} {ep : Nat} {t : SetTable} (R : SetH kd h a L es ep t) : xU7 kd h a L := ⟨es, ep, t, R.here, R.ent, R.tb, R.ones, R.ldd, R.gap, R.small⟩
theorem xU7.full {kd : SKey P w (Str × Str)} {h : Heap} {a : Addr} {L : List (Addr × (Str × Str))} (R : xU7 kd h a L) (m : ∀ q ∈ L, kd.is h q.2 q.1) : ∃ es ep t, SetH kd h a L es ep t := by
  obtain ⟨es, ep, t, h1, h2, h3, h4, h5, h6, h7⟩ := R
  exact ⟨es, ep, t, h1, h2, h3, h4, m, h5, h6, h7⟩
theorem xYr {H : Hp} {h : Heap} {a : Addr} {L : List (Addr × (Str × Str))} (R : xU7 (yGs P w) h a L) : ObjOk P w H h a (xJr P w a L) := by
  have ⟨es, ep, t, ⟨o, ho, _⟩, _⟩ := R
  refine ⟨R, ⟨o, ho⟩, fun h1 h2 x k => ?_⟩
  have ⟨es', ep', t', ⟨o', ho', r⟩, q⟩ := (show xU7 (yGs P w) h1 a L from x)
  exact ⟨es', ep', t', ⟨o', k o' ho', r⟩, q⟩
def prV (p : Str × Str) : List V := [.str p.1, .str p.2]
end
section
variable {X : Cx} {B : XBt} {e : Expr} {pos p p2 pos2 : Pos} {f : Pg EV}
theorem xKq {pins : List (Addr × Obj)} {σ : L2.St} {H : Hp} {s : Shared} {b : Addr} {k : Str × Str} (I : L2.Inv X pins σ H s) (h : SqT X.K H b (prV k)) : PrK X.prog X.w s.heap k b := by
  obtain ⟨its, r, ⟨o, ho, hc, n, hd⟩, _⟩ := I.tuple h
  refine ⟨o, its.toArray, n, ho, hc, hd, ?_⟩
  cases r with
  | cons r1 r =>
    cases r with
    | cons r2 r =>
      cases r
      obtain ⟨t, rfl⟩ := r1
      obtain ⟨u, rfl⟩ := r2
      exact .cons (PySem.strKind_is _ _ _ _) (.cons (PySem.strKind_is _ _ _ _) .nil)
theorem xZi : ∀ {ks : List (Addr × (Str × Str))} {us : List Value}, Vals (ks.map fun q => V.ref q.1) us → us = ks.map fun q => Value.ref q.1
  | [], _, .nil => rfl
  | q :: ks, _, .cons r t => by
    cases r
    rw [xZi t]
    rfl
theorem xQ2 : ∀ ks : List (Addr × (Str × Str)), Vals (ks.map fun q => V.ref q.1) (ks.map fun q => Value.ref q.1)
  | [] => .nil
  | _ :: ks => .cons rfl (xQ2 ks)
def wQd (K : PySem.W.Frag) (P : Program) (w : World) : List V → Hp → VK → Prop := fun xs H Q => ∃ (l : Addr) (ks : List (Addr × (Str × Str))), xs = [V.ref l] ∧ SqL K H l (ks.map fun q => V.ref q.1) ∧ (∀ q ∈ ks, SqT K H q.1 (prV q.2)) ∧ ks.length < 64 ∧
  ∀ a L, H a = none → (∀ q ∈ L, q ∈ ks) → (∀ q ∈ ks, q.2 ∈ L.map Prod.snd) → Q (.ref a) (upd H a (xJr P w a L))
theorem xWa (hc : X.calm = true) (hu : X.A.units + 64 < cLine) : CallR X (.type "set") (wQd X.K X.prog X.w) := by
  intro pins s σ H xs us Q I r ⟨l, ks, ex, hl, hk, hf, q⟩
  subst ex
  rw [Vals.ref1 r]
  obtain ⟨its, rv, pl, _⟩ := I.list hl
  refine xWg (kd := yGs X.prog X.w) ks (I.ok.hd hc) pl.isList (by simpa using xZi rv) (fun u hu' => xKq I (hk u hu')) hf (by omega) fun h1 tk L es ep t R c k => ?_
  refine ⟨.ref s.heap.objs.size, upd H s.heap.objs.size (xJr X.prog X.w s.heap.objs.size L), I.laid (t' := tk) k (Nat.le_refl _) (xYr (xU7.of R)), rfl, q _ L (I.hok.fresh (Nat.le_refl _)) (fun u hu' => List.mem_of_mem_take (c.old u hu')) fun u hu' => c.keys u (by rw [List.take_length]; exact hu')⟩
def rSortedP (K : PySem.W.Frag) (P : Program) (w : World) : List V → Hp → VK → Prop := fun xs H Q => ∃ (a : Addr) (L : List (Addr × (Str × Str))), xs = [V.ref a] ∧ H a = some (xJr P w a L) ∧ (∀ q ∈ L, SqT K H q.1 (prV q.2)) ∧
  ∀ (L' : List (Addr × (Str × Str))) (p : Addr), L'.Perm L → L'.Pairwise (fun q r => yZ9 q.2 r.2 = true) → H p = none → Q (.ref p) (upd H p (.lst (L'.map fun q => V.ref q.1)))
theorem cr_sortedP (hc : X.calm = true) : CallR X (.builtin "sorted") (rSortedP X.K X.prog X.w) := by
  intro pins s σ H xs us Q I r ⟨a, L, ex, ha, hk, q⟩
  subst ex
  have S : xU7 (yGs X.prog X.w) s.heap a L := (I.hok a _ ha).1
  obtain ⟨es, ep, t, R⟩ := S.full fun u hu => xKq I (hk u hu)
  rw [Vals.ref1 r]
  refine yH1 R (I.ok.hd hc) fun s' p out c L' k g o hp hg hout pm asc => ?_
  have hn : H p = none := I.hok.fresh hp
  have len : (L'.map fun q => V.ref q.1).length ≤ sizeLine := by
    have := sizeLine_eq
    have := R.small
    rw [List.length_map, pm.length_eq]
    omega
  have hv : Vals (L'.map fun q => V.ref q.1) out.toList := by rw [hout]; exact xQ2 L'
  have J : Inv X pins σ (upd H p (.lst (L'.map fun q => V.ref q.1))) { s with heap := s'.heap, gens := s'.gens, drawn := s'.drawn, toks := s'.toks } :=
    I.call (ch := []) (Un.laid k hp hn) (I.hok.laid k hp ⟨len, out.toList, c, hv, hg⟩) (by rw [g]; exact I.bare) fun _ z => nomatch z
  have es' : s' = { s with heap := s'.heap, gens := s'.gens, drawn := s'.drawn, toks := s'.toks } := by
    cases s'
    cases s
    cases o
    rfl
  rw [es']
  exact ⟨.ref p, _, J, rfl, q L' p pm asc hn⟩
def prD (p : Str × Str) : PyData := .tuple [.str p.1, .str p.2]
def pairsOf : List PyData → Option (List (Str × Str))
  | [] => some []
  | .tuple [.str a, .str b] :: ds => (pairsOf ds).map ((a, b) :: ·)
  | _ => none
theorem yW4 : ∀ {ds : List PyData} {ps : List (Str × Str)}, pairsOf ds = some ps → ds = ps.map prD
  | [], ps, h => by
    obtain rfl : [] = ps := Option.some.inj h
    rfl
  | d :: ds, ps, h => by
    unfold pairsOf at h
    split at h
    · rename_i h'; cases h'
    · rename_i a b ds' e
      obtain ⟨rfl, rfl⟩ := List.cons.inj e
      obtain ⟨qs, h1, rfl⟩ := Option.map_eq_some_iff.mp h
      rw [yW4 h1]
      rfl
    · cases h
@[simp] theorem yKc : ∀ ps : List (Str × Str), pairsOf (ps.map prD) = some ps
  | [] => rfl
  | (a, b) :: ps => by
    show (pairsOf (ps.map prD)).map ((a, b) :: ·) = _
    rw [yKc ps]
    rfl
theorem xZm {K : PySem.W.Frag} {F : Hp} : ∀ {ps : List (Str × Str)} {vs : List V}, RA K F (ps.map prD) vs → ∃ ks : List (Addr × (Str × Str)), vs = ks.map (fun q => V.ref q.1) ∧ ks.map Prod.snd = ps ∧ ∀ q ∈ ks, SqT K F q.1 (prV q.2) ∧ R K F (prD q.2) (.ref q.1)
  | [], _, .nil => ⟨[], rfl, rfl, fun _ z => nomatch z⟩
  | p :: ps, _, .cons (v := v) h t => by
    obtain ⟨ks, h1, h2, h3⟩ := xZm t
    have h' := h
    cases h' with
    | tup sq ra =>
      rename_i a us
      refine ⟨(a, p) :: ks, by rw [h1]; rfl, by rw [List.map_cons, h2], fun q hq => ?_⟩
      cases hq with
      | tail _ hq => exact h3 q hq
      | head =>
        cases ra with
        | cons r1 ra =>
          cases ra with
          | cons r2 ra =>
            cases ra
            cases r1
            cases r2
            exact ⟨sq, h⟩
theorem wXy {K : PySem.W.Frag} {F : Hp} : ∀ {L : List (Addr × (Str × Str))}, (∀ q ∈ L, R K F (prD q.2) (.ref q.1)) → RA K F ((L.map Prod.snd).map prD) (L.map fun q => V.ref q.1)
  | [], _ => .nil
  | q :: L, h => .cons (h q (.head _)) (wXy fun r hr => h r (.tail _ hr))
def xVm : PyData → Option EV
  | .list xs => match pairsOf xs with
    | some ps => if ps.length < 64 then some (.fresh ((zUy ps).map prD)) else none
    | none => none
  | _ => none
def yX8 (f : Pg EV) : Pg EV := .bind f fun v => look (zKn v) fun x => zK5 (xVm x)
theorem yH2 {y z : Str} (C : Ctx X B) (h : Snd X B e f) (hg : Gl X y) (hm : X.mg y = none) (hv : bootBuiltins y = some (.builtin "sorted")) (hg2 : Gl X z) (hm2 : X.mg z = none) (hv2 : bootBuiltins z = some (.type "set"))
    (hn : y ≠ "__name__" := by decide) (hdb : (y == ("__debug__" : Str)) = false := by decide) (hn2 : z ≠ "__name__" := by decide) (hdb2 : (z == ("__debug__" : Str)) = false := by decide)
    (he : starEach [e] X.env = (false, eval e X.env) :: starEach [] X.env := by rfl) (he2 : starEach [.Call (.Name z p2) [e] [] pos2] X.env = (false, eval (.Call (.Name z p2) [e] [] pos2) X.env) :: starEach [] X.env := by rfl) :
    Snd X B (.Call (.Name y p) [.Call (.Name z p2) [e] [] pos2] [] pos) (yX8 f) := by
  intro w Q r hw
  refine zKp (pe_callB (cr_sortedP C.calm) hg hm hv (pa_cons (pe_callTy (xWa C.calm C.u64) hg2 hm2 hv2 (pa_cons zYf pa_nil he) hn2 hdb2 he rfl) pa_nil he2) hn hdb he2 rfl) ?_
  refine zQ0 h r hw fun v w1 y e1 f1 r1 re h1 => ?_
  obtain ⟨x, ex, h1⟩ := zXs h1
  have ro := (re.ro r1).rn r1 ex
  obtain ⟨u, eu, q⟩ := zX2 h1
  have k := zVw.keep q e1 f1
  cases x with
  | list xs =>
    obtain ⟨a, vs, rfl, hl, ra⟩ := ro.lst r1.sub
    have eu : (match pairsOf xs with
      | some ps => if ps.length < 64 then some (EV.fresh ((zUy ps).map prD)) else none
      | none => none) = some u := eu
    cases ei : pairsOf xs with
    | none => rw [ei] at eu; cases eu
    | some ps =>
      rw [ei] at eu
      have eu : (if ps.length < 64 then some (EV.fresh ((zUy ps).map prD)) else none) = some u := eu
      split at eu
      · rename_i few
        cases eu
        rw [yW4 ei] at ra
        obtain ⟨ks, rfl, hks, all⟩ := xZm ra
        refine ⟨a, ks, rfl, hl.sq, fun q hq => zXh r1.sub (all q hq).1, by rw [← List.length_map (f := Prod.snd), hks]; exact few, fun b L hb sub keys => ?_⟩
        obtain ⟨r2, f2⟩ := lay r1 hb (xJr X.prog X.w b L)
        refine ⟨b, L, rfl, upd_same, fun q hq => zXh r2.sub (all q (sub q hq)).1, fun L' p pm asc hp => ?_⟩
        have mem : L'.map Prod.snd = zUy ps := xXq (List.pairwise_map.mpr asc) fun y => by
          rw [(pm.map Prod.snd).mem_iff, ← hks]
          constructor
          · intro z
            obtain ⟨q, hq, rfl⟩ := List.mem_map.mp z
            exact List.mem_map.mpr ⟨q, sub q hq, rfl⟩
          · intro z
            obtain ⟨q, hq, rfl⟩ := List.mem_map.mp z
            exact keys q hq
        have k2 : xXp X.K { w1 with H := upd w1.H b (xJr X.prog X.w b L) } (.fresh ((zUy ps).map prD)) Q := fun w' x em es f3 r3 re hn => k w' x em es (f2.trans f3) r3 re (hn.back f2)
        rw [← mem] at k2
        exact k2.lst r2 (wXy fun q hq => (all q (sub q (pm.mem_iff.mp hq))).2) hp
      · cases eu
  | _ => cases eu
end
section
variable {m : Mem} {X : Exn → Mem → Prop} {E : EV → Mem → Prop}
@[simp] theorem wVl {f : Pg EV} : W (yX8 f) m X E ↔ W f m X fun v m1 => W (look (zKn v) fun x => zK5 (xVm x)) m1 X E := by
  unfold yX8
  simp only [zZc]
@[simp] theorem xH3 {ps : List (Str × Str)} : xVm (.list (ps.map prD)) = if ps.length < 64 then some (.fresh ((zUy ps).map prD)) else none := by
  simp only [xVm, yKc]
end
end Ev

namespace Ev
open PySem PySem.Spec PyProof.Rows L2
def wV0 (i : Nat) : EV → Pg Fl
  | .d (.int n) => fun m => match m.sl[i]? with
    | some (some (.ob (.lst xs))) => if 0 ≤ n ∧ n < 9223372036854775808 ∧ n.toNat < xs.length then .ok .next (setM m i (.ob (.lst (xs.eraseIdx n.toNat)))) else .bad
    | _ => .bad
  | _ => .stuck
def xXa (i : Nat) (f : Pg EV) : Pg Fl := .bind (yWu i) fun _ => .bind f fun v => wV0 i v
section
variable {X : Cx} {B : XBt} {e : Expr} {pos : Pos} {f : Pg EV}
theorem xYl {x : Str} {p1 p2 p3 : Pos} (i : Nat) (hi : X.N[i]? = some x) (hv : Vis X.env.scope x) (he : Snd X B e f)
    (hd : (x == ("__debug__" : Str)) = false := by decide) (hcd : (x == ("__classdict__" : Str)) = false := by decide)
    (hbase : attributeBase (.Name x p1) "pop" X.env (eval (.Name x p1) X.env) = eval (.Name x p1) X.env := by rfl)
    (hfew : ((backTo p3 (starEach [e] X.env)).all (fun x => !x.1) && (backToKw p3 (keywordEach [] X.env)).all (fun x => x.1.isSome) && decide ([e].length + ([] : List Keyword).length + (if ([] : List Keyword).isEmpty then 0 else 1) < 30)) = true := by rfl)
    (hline : (p2.endLine == p3.line) = true := by rfl) (hst : starEach [e] X.env = (false, eval e X.env) :: starEach [] X.env := by rfl) :
    yGc X B (.Expr (.Call (.Attribute (.Name x p1) "pop" p2) [e] [] p3) pos) (xXa i f) := by
  intro w D r hw
  refine yQa (ps_expr (pe_bm PySem.F.plainAttrs_list PySem.F.slot_list_pop PySem.F.type_list_pop mt_popAt (pe_var hi hv hd hcd) (pa_cons zYf pa_nil hst) hbase hfew hline hst rfl) rfl) ?_
  obtain ⟨us, o1, hw⟩ := yUm (wp_bind hw)
  obtain ⟨u, hu, b0, e0, ⟨vs0, k0, _⟩, _⟩ := r.sl i _ o1
  refine ⟨u, hu, ?_, ?_⟩
  · subst e0
    exact .inl ⟨rfl, vs0, .inl (.inl k0)⟩
  refine zQ0 he r hw fun v w1 y e1 f1 r1 re h1 => ?_
  cases v with
  | new _ => exact h1.elim
  | pk _ _ => exact h1.elim
  | cell _ => exact h1.elim
  | d z =>
    cases z <;> try exact h1.elim
    rename_i n
    have h1 : ((match w1.m.sl[i]? with
      | some (some (.ob (.lst xs))) => if 0 ≤ n ∧ n < 9223372036854775808 ∧ n.toNat < xs.length then .ok .next (setM w1.m i (.ob (.lst (xs.eraseIdx n.toNat)))) else .bad
      | _ => .bad) : Res Fl).wp (zGd X.K w D) (XW X.K B w1) := h1
    split at h1
    · rename_i xs g1
      split at h1
      · rename_i hn
        obtain ⟨z, g3, b, g4, ⟨vs, g5, g6⟩, _⟩ := r1.sl i _ g1
        rw [e1, hu] at g3
        cases g3
        subst g4
        obtain ⟨v', hv', rv⟩ := g6.get (List.getElem?_eq_getElem hn.2.2)
        obtain ⟨r3, f3⟩ := yUu (o' := .lst (xs.eraseIdx n.toNat)) (u := .lst (vs.eraseIdx n.toNat)) r1 g1 (by rw [e1]; exact hu) ⟨_, upd_same, g6.eraseIdx _⟩
        cases re
        have hlt := (List.getElem?_eq_some_iff.mp hv').1
        refine ⟨b, vs, n, n.toNat, v', rfl, rfl, g5, by omega, by omega, ?_, hv', ?_⟩
        · have h0 : ¬ n < 0 := by omega
          have h2 : (decide (0 ≤ n) && decide (n < (vs.length : Int))) = true := by
            rw [Bool.and_eq_true, decide_eq_true_iff, decide_eq_true_iff]
            omega
          simp only [seqIndex?, h0, if_false, h2, if_true]
        have q := h1 _ rfl ((f1.s r).trans f3) r3
        rw [← e1]
        exact q
      · exact h1.elim
    · exact h1.elim
end
section
variable {m : Mem} {X : Exn → Mem → Prop} {E : Fl → Mem → Prop}
@[simp] theorem wU3 {i : Nat} {f : Pg EV} : W (xXa i f) m X E ↔ W (yWu i) m X fun _ m1 => W f m1 X fun v m2 => W (wV0 i v) m2 X E := by
  unfold xXa
  simp only [zZc]
end
end Ev

namespace Ev
open PySem PySem.Spec PyProof.Rows L2
def wG1 (K : PySem.W.Frag) (a : Addr) (k : Int) : It :=
  ⟨fun i H => ∃ (xs : List V) (x : V), SqT K H a xs ∧ xs[i]? = some x, fun i H v H' => ∃ T x, v = .ref T ∧ H T = none ∧ H' = upd H T (.tup [.int (k + (i : Nat)), x]) ∧ ∀ xs, SqT K H a xs → xs[i]? = some x, fun i H => ∃ xs : List V, SqT K H a xs ∧ xs.length ≤ i⟩
theorem xXs {P : Program} {w : World} {K : PySem.W.Frag} {elts : List Expr} {kk : Nat} {tpos : Pos} (a e it : Addr) (k : Int) :
    Turn P w K (.Tuple elts kk tpos) (wG1 K a k) [e, it] e (fun i h => (∃ old, IsEnum h e it (k + ((i : Nat) : Int)) old) ∧ h.IsTupleIter it a i ∧ e ≠ it) where
  mem := by simp
  obj := fun i h st b hb => by
    obtain ⟨⟨old, he⟩, ⟨o, ho, hc, hd⟩, _⟩ := st
    have e' : b = e ∨ b = it := by simpa using hb
    rcases e' with z | z
    · rw [z]; exact ⟨_, he, fun v q => nomatch q⟩
    · rw [z]; exact ⟨o, ho, fun v q => by rw [hd] at q; cases q⟩
  keep := fun i h h' st kp => let ⟨⟨old, he⟩, hi, hne⟩ := st; ⟨⟨old, kp e (by simp) _ he⟩, hi.at fun o q => kp it (by simp) o q, hne⟩
  item := by
    intro X hP hw hK hc i pins s σ H E I hf st hg
    subst hP hw hK
    obtain ⟨⟨old, he⟩, hit, hne⟩ := st
    obtain ⟨xs, x, hq, hx⟩ := hg
    obtain ⟨its, rv, p, hz⟩ := I.tuple hq
    obtain ⟨u, hu, ru⟩ := rv.get hx
    have hel : e < s.heap.objs.size := Heap.lt_size he
    have hil : it < s.heap.objs.size := by obtain ⟨_, q, _⟩ := hit; exact Heap.lt_size q
    have hp : s.heap.IsTuple a its.toArray := p
    have hai : a ≠ it := fun z => by
      obtain ⟨o1, e1, _, n, d1⟩ := hp
      obtain ⟨o2, e2, _, d2⟩ := hit
      rw [z, e2] at e1
      cases e1
      rw [d1] at d2
      cases d2
    have hea : e ≠ a := fun z => by
      obtain ⟨o1, e1, c1, _⟩ := hp
      have he' : s.heap.get? e = _ := he
      rw [z, e1] at he'
      cases he'
      exact absurd c1 (by simp)
    have hil2 : i < its.toArray.size := by
      have := (List.getElem?_eq_some_iff.mp hu).1
      simpa using this
    refine wpAny_pyNext_enum_itemC (Draws.tuple (show X.A.in1.handled = none from I.ok.hd hc) it a hai its.toArray) he ⟨hit, hp⟩ hil2 hne (by simp [hne, hea]) fun x' h' tk hP ho hst' hT hsz hk => ?_
    have hx' : x' = u := by
      have h1 : its.toArray[i]? = some x' := hP
      have h2 : its.toArray[i]? = some u := by simpa using hu
      rw [h1] at h2
      exact Option.some.inj h2
    subst hx'
    obtain ⟨hit', _⟩ := hst'
    refine ⟨_, rfl, wpAny_letOwnedTupleGo_enum (s := { s with heap := h', toks := tk + 1 }) ho fun h'' he' sb => ?_⟩
    have hT2 : h''.get? s.heap.objs.size = some { cls := .type "tuple", data := .seq #[.int (k + (i : Int)) tk, x'] } := (sb.2 _ (Nat.ne_of_gt hel)).trans hT
    have new : ObjOk X.prog X.w (upd H s.heap.objs.size (.tup [.int (k + (i : Nat)), x])) h'' s.heap.objs.size (.tup [.int (k + (i : Nat)), x]) :=
      ⟨by show 2 ≤ sizeLine; decide, [.int (k + (i : Int)) tk, x'], .cons ⟨_, rfl⟩ (.cons ru .nil), ⟨_, hT2, rfl, _, rfl⟩⟩
    have I1 : L2.Inv X pins σ (upd H s.heap.objs.size (.tup [.int (k + (i : Nat)), x])) { s with heap := h'', toks := tk + 1 } :=
      I.turnedNew (ch := [e, it]) (fun b ob hb q => (sb.2 b (fun z => hb (by simp [z]))).trans (hk b ob (fun z => hb (by simp [z])) (fun z => hb (by simp [z])) q)) hf (Nat.le_refl _) new
    refine ⟨.ref s.heap.objs.size, _, I1, rfl, ⟨_, x, rfl, I.hok.fresh (Nat.le_refl _), rfl, fun ys hy => by rw [I.tuple_inj hy hq]; exact hx⟩, ⟨⟨x', ?_⟩, hit'.at fun o q => (sb.2 it (Ne.symm hne)).trans q, hne⟩, fun b hb => ?_⟩
    · have e1 : k + ((i + 1 : Nat) : Int) = k + (i : Int) + 1 := by omega
      rw [e1]; exact he'
    · have hb' : b < s.heap.objs.size := by
        have e' : b = e ∨ b = it := by simpa using hb
        rcases e' with z | z
        · rw [z]; exact hel
        · rw [z]; exact hil
      rw [upd_ne (Nat.ne_of_lt hb')]
      exact (hf b hb).1
  done := by
    intro X hP hw hK hc i pins s σ H E I hf st hg
    subst hP hw hK
    obtain ⟨⟨old, he⟩, hit, hne⟩ := st
    obtain ⟨xs, hq, hx⟩ := hg
    obtain ⟨its, rv, p, hz⟩ := I.tuple hq
    obtain ⟨f0, f1, f2, f3, f4, f5⟩ := hf it (by simp)
    have hp : s.heap.IsTuple a its.toArray := p
    have hai : a ≠ it := fun z => by
      obtain ⟨o1, e1, _, n, d1⟩ := hp
      obtain ⟨o2, e2, _, d2⟩ := hit
      rw [z, e2] at e1
      cases e1
      rw [d1] at d2
      cases d2
    have hl := rv.length
    exact yHl (I.ok.hd hc) he hit hp (by simp; omega) fun h' eb => ⟨rfl, I.turned (t' := s.toks) (fun b o hb q => eb b o hb q) f0 f1 f3 f4 f5⟩
  self := fun A i s Q E st h => let ⟨⟨_, he⟩, _⟩ := st; wpAny_pyIter_enum he h
def wJw (K : PySem.W.Frag) (ta : TA) : TI := fun σ H R => ta σ H fun vs H1 => ∃ a xs k, vs = [.ref a, .int k] ∧ -(2 ^ 63) ≤ k ∧ k < 2 ^ 63 ∧ SqT K H1 a xs ∧ R (wG1 K a k) H1
theorem xY3 {X : Cx} {e e2 : Expr} {ta : TA} {p pos tpos : Pos} {elts : List Expr} {kk : Nat} (hg : Gl X "enumerate") (hm : X.mg "enumerate" = none) (ha : PA X [e, e2] ta) (hs : starEach [e, e2] X.env = (false, eval e X.env) :: starEach [e2] X.env := by rfl)
    (hs2 : (backTo pos (starEach [e2] X.env)).any (·.1) = false := by rfl) :
    PI X (.Tuple elts kk tpos) (.Call (.Name "enumerate" p) [e, e2] [] pos) (wJw X.K ta) := by
  refine ⟨fun pins s σ H R I h => ?_⟩
  refine Call_ (ld_blt I hg hm boot_enumerate (PyProof.Rows.callWith_type1 (thn (ha.run pos pins s σ H _ I h) fun us s1 ⟨vs, H1, I1, r1, q1⟩ => ?_) hs hs2))
  obtain ⟨a, xs, k, ex, k0, k1, hq, q⟩ := q1
  subst ex
  cases r1 with
  | cons r rr =>
    cases rr with
    | cons r' rr =>
      cases rr
      cases r
      obtain ⟨t, rfl⟩ := r'
      have fp : ∀ b, b ∈ [s1.heap.objs.size + 1, s1.heap.objs.size] → s1.heap.objs.size ≤ b := fun b hb => by
        have e' : b = s1.heap.objs.size + 1 ∨ b = s1.heap.objs.size := by simpa using hb
        rcases e' with z | z
        · rw [z]; exact Nat.le_add_right _ _
        · rw [z]; exact Nat.le_refl _
      obtain ⟨its, rv, p', hz⟩ := I1.tuple hq
      refine enum_begins (begins_tuple a its.toArray) (show s1.heap.IsTuple a its.toArray from p') k0 k1 fun h' he hit hsz hk => wpAny_pyIter_enum he ?_
      have I2 : L2.Inv X pins σ H1 { s1 with heap := h' } := I1.kept (t' := s1.toks) hk
      have hit' : h'.IsTupleIter s1.heap.objs.size a 0 := ⟨_, hit, rfl, rfl⟩
      have he' : IsEnum h' (s1.heap.objs.size + 1) s1.heap.objs.size (k + ((0 : Nat) : Int)) .none := by
        have z : k + ((0 : Nat) : Int) = k := by omega
        rw [z]
        exact he
      exact ⟨s1.heap.objs.size + 1, [s1.heap.objs.size + 1, s1.heap.objs.size], _, _, H1, rfl, I2, xXs a (s1.heap.objs.size + 1) s1.heap.objs.size k, ⟨⟨.none, he'⟩, hit', Nat.succ_ne_self _⟩, fun b hb => I1.fpOk (fp b hb) (I1.hok.fresh (fp b hb)), q⟩
def xK3 (k : Int) (xs : List PyData) : List PyData := xs.mapIdx fun i x => .tuple [.int (k + (i : Nat)), x]
theorem xQm {K : PySem.W.Frag} {w : Wd} {a : Addr} {k : Int} {xs : List V} {ds : List PyData} (ha : SqT K w.F a xs) (ra : RA K w.F ds xs) : xQy K w (wG1 K a k) (xK3 k ds) := by
  intro w1 f r i
  have qa : SqT K w1.H a xs := zXh r.sub (yXb f.ext ha)
  refine ⟨fun d hd => ?_, fun hl => ⟨xs, qa, ?_⟩⟩
  · unfold xK3 at hd
    rw [List.getElem?_mapIdx] at hd
    cases e1 : ds[i]? with
    | none =>
      rw [e1] at hd
      cases hd
    | some d1 =>
      rw [e1] at hd
      cases hd
      obtain ⟨x, hx, rx⟩ := ra.get e1
      refine ⟨⟨xs, x, qa, hx⟩, fun v H' yl => ?_⟩
      obtain ⟨T, x', rfl, hT, rfl, g1⟩ := yl
      have e1 := (g1 xs qa).symm.trans hx
      cases e1
      exact yKd r hT (.int _) (rx.mono f.ext)
  · rw [← ra.len]
    unfold xK3 at hl
    rw [List.length_mapIdx] at hl
    exact hl
def xXe : List AV → Option (List PyData)
  | [.d (.tuple xs), .d (.int k)] => if -(2 ^ 63) ≤ k ∧ k < 2 ^ 63 then some (xK3 k xs) else none
  | _ => none
def yUy (fa : Pg (List AV)) : Pg (List PyData) := .bind fa fun vs => zK5 (xXe vs)
section
variable {X : Cx} {B : XBt} {e e2 : Expr} {fa : Pg (List AV)} {p pos tpos : Pos} {elts : List Expr} {kk : Nat}
theorem xXz (hg : Gl X "enumerate") (hm : X.mg "enumerate" = none) (ha : xJz X B [e, e2] fa) (hs : starEach [e, e2] X.env = (false, eval e X.env) :: starEach [e2] X.env := by rfl)
    (hs2 : (backTo pos (starEach [e2] X.env)).any (·.1) = false := by rfl) :
    yWy X B (.Tuple elts kk tpos) (.Call (.Name "enumerate" p) [e, e2] [] pos) (yUy fa) := by
  intro w Q r hw
  refine ⟨_, xY3 hg hm xV1 hs hs2, ?_⟩
  refine zY6 ha r hw fun vs w1 xs e1 f1 r1 rv h1 => ?_
  obtain ⟨ds, ed, q⟩ := zX2 h1
  unfold xXe at ed
  split at ed
  · split at ed
    · rename_i hk
      cases ed
      cases rv with
      | cons h t =>
        cases t with
        | cons h' t =>
          cases t
          cases h'
          cases h with
          | tup ha ra => exact ⟨_, _, _, rfl, hk.1, hk.2, zXh r1.sub ha, q w1 _ rfl e1 f1 r1 (xQm ha ra)⟩
    · cases ed
  · cases ed
end
section
variable {m : Mem} {X : Exn → Mem → Prop}
@[simp] theorem wGg {fa : Pg (List AV)} {P : List PyData → Mem → Prop} : W (yUy fa) m X P ↔ W fa m X fun vs m1 => ∃ ds, xXe vs = some ds ∧ P ds m1 := by
  unfold yUy
  simp
@[simp] theorem wK5 {xs : List PyData} : xXe [.d (.tuple xs), .d (.int 1)] = some (xK3 1 xs) := rfl
end
end Ev

namespace Ev
open PySem PySem.Spec PyProof.Rows L2
abbrev yJd : PyData := .tuple [.str "white", .str "grey", .str "black"]
abbrev yK6 : PyData := .tuple [.str "load", .str "old", .str "new", .str "source"]
abbrev zYd : PyData := .tuple [.tuple [.str "load", .str "white"], .tuple [.str "load", .str "grey"], .tuple [.str "load", .str "black"], .tuple [.str "old", .str "white"], .tuple [.str "old", .str "grey"], .tuple [.str "old", .str "black"], .tuple [.str "new", .str "white"], .tuple [.str "new", .str "grey"], .tuple [.str "new", .str "black"], .tuple [.str "source", .str "white"], .tuple [.str "source", .str "grey"], .tuple [.str "source", .str "black"]]
abbrev yU5 : PyData := .str "whole"
def yZ3 : Pg Fl := zZr (zJ2 (zQc (zX1 yYc (zZe (xJx (zQd 0) (.ret none) (zG6 (evC (.int 63)))) (zQh))) (zQc (evC (.int 0)) (zQc (evC (.int 0)) (zQh)))))
def zHv : Fn := zZp 1 yZ3
def yZ2 : Pg Fl := zZr (zHw (yZp "str" (zQd 0)) (asV (zQs .In (zQd 0) (evC yJd))))
def zU8 : Fn := zZp 1 yZ2
def yZ1 : Pg Fl := zQ1 (zXr (zYh (zJ7 (zYc (yZp "tuple" (zQd 0)))) (zYh (zQs .NotEq (zX1 yZo (zZe (zQd 0) (zQh))) (evC (.int 2))) (zJ7 (zYc (yZp "str" (zXf (zQd 0) (evC (.int 0)))))))) (zZr (evC (.bool false))) (.ret .next)) (zZr (zHw (asV (zQs .In (zXf (zQd 0) (evC (.int 0))) (evC yK6))) (zZf zU8 (zZ4 1 (zQc (zXf (zQd 0) (evC (.int 1))) (zQh))))))
def zU7 : Fn := zZp 1 yZ1
def zV9 : Pg Fl := zZr (zHw (zZf zU7 (zZ4 1 (zQc (zQd 1) (zQh)))) (asV (zQs .In (zQd 1) (yJa ["Table"] "kept" (zQd 0)))))
def zZ0 : Fn := zZp 2 zV9
def zY8 : Pg Fl := zQ1 (zXr (yK3 .NotIn [("Table", (pD 2 0 2 [0, 1] [] zZ0))] (zZy (zQc (evC (.str "old")) (zQc (evC (.str "grey")) (zQh)))) (zQd 0)) (zZr (evC (.int 4))) (.ret .next)) (zZr (xJy (zYh (yK3 .In [("Table", (pD 2 0 2 [0, 1] [] zZ0))] (zZy (zQc (evC (.str "old")) (zQc (evC (.str "white")) (zQh)))) (zQd 0)) (yK3 .In [("Table", (pD 2 0 2 [0, 1] [] zZ0))] (zZy (zQc (evC (.str "load")) (zQc (evC (.str "grey")) (zQh)))) (zQd 0))) (evC .none) (evC (.int 6))))
def zZ9 : Fn := zZp 1 zY8
def yQn : Pg Fl := zQ1 (evSet 0 (zJ2 (zQh))) (zQ1 (yK2 (yVs (zZy (zQc (evC (.str "load")) (zQc (evC (.str "old")) (zQc (evC (.str "new")) (zQc (evC (.str "source")) (zQh))))))) (zZh 1) (xK2 0 (zK7 [2] (yVs (zZy (zQc (evC (.str "white")) (zQc (evC (.str "grey")) (zQc (evC (.str "black")) (zQh)))))) (zZh 2) (.ret true) (zZy (zQc (zQd 1) (zQc (zQd 2) (zQh))))))) (zZr (zQd 0)))
def zU9 : Fn := zZp 3 yQn
def zWe : Pg Fl := zZr (zHw (asV (zQs .Eq (yJa ["Table"] "kept_fresh" (zQd 0)) (yJa ["Table"] "kept_fresh" (zQd 1)))) (asV (zQs .Eq (yJa ["Table"] "kept_roots" (zQd 0)) (yJa ["Table"] "kept_roots" (zQd 1)))))
def zV6 : Fn := zZp 2 zWe
def zKj : Pg Fl := zXr (zJ7 (zYc (yJ7 "is_beside" [("Table", (pD 2 0 2 [0, 1] [] zV6))] 0 (zQd 0) (zQc (zQd 1) (zQh)) (zQh)))) (yUw "Mismatch") (.ret .next)
def zX5 : Fn := zZp 2 zKj
def yV9 : Pg Fl := zZr (zX1 yYb (zZe (zK7 [1] (yVs (evC zYd)) (zZh 1) (zQs .In (zQd 1) (zQd 0)) (zQd 1)) (zQh)))
def yQ3 : Fn := zZp 2 yV9
def zYl : Pg Fl := zQ1 (yK2 (yUz (zQc (zQd 0) (zQh))) (zVm 2 (zZg (zZh 1) (zZg (zZh 2) (zV7)))) (zXr (zJ7 (zYc (zZf zU7 (zZ4 1 (zQc (zQd 2) (zQh)))))) (yJ0 "InvalidEntry" ["index"] (zQc (zQd 1) (zQh))) (.ret .next))) (zZr (zZf yQ3 (zZ4 1 (zQc (zQd 0) (zQh)))))
def zKi : Fn := zZp 3 zYl
def zYm : Pg Fl := zQ1 (yYf ["Table"] "kept" (yJb (pS true 0 0 1 [] [] zKi) 0 (yJz (zQd 3)) zQh) (zQd 0)) (zQ1 (zXr (zJ7 (zYc (zZf zU8 (zZ4 1 (zQc (zQd 1) (zQh)))))) (yJ0 "InvalidFresh" ["value"] (zQc (zQd 1) (zQh))) (.ret .next)) (zQ1 (zXr (zYh (zJ7 (zYc (yZp "str" (zQd 2)))) (zQs .NotIn (zQd 2) (xUp "ROOTS" [("Table", .tuple [.str "once", .str "again"])] (zQd 0)))) (yJ0 "InvalidRoots" ["value"] (zQc (zQd 2) (zQh))) (.ret .next)) (zQ1 (yYf ["Table"] "kept_fresh" (zQd 1) (zQd 0)) (yYf ["Table"] "kept_roots" (zQd 2) (zQd 0)))))
def zXd : Fn := zZp 4 zYm
def zV8 : Pg Fl := zZr (yJb (mkF "Table" (pS true 1 2 4 [0, 1, 2] [] zXd)) 2 (yJz (zQd 1)) (zQc (yJa ["Table"] "kept_fresh" (zQd 0)) (zQc (yJa ["Table"] "kept_roots" (zQd 0)) (zQh))))
def zXx : Fn := zZp 2 zV8
def zH4 : Pg Fl := zQ1 (yHj (yJ7 "need_beside" [("Table", (pD 2 0 2 [0, 1] [] zX5))] 0 (zQd 0) (zQc (zQd 1) (zQh)) (zQh))) (zZr (yJ7 "with_entries" [("Table", (pD 2 0 2 [0, 1] [] zXx))] 0 (zQd 0) (zQc (zX1 yYb (zZe (zK7 [2] (yVs (yJa ["Table"] "kept" (zQd 0))) (zZh 2) (zQs .NotIn (zQd 2) (yJa ["Table"] "kept" (zQd 1))) (zQd 2)) (zQh))) (zQh)) (zQh)))
def xJw : Fn := zZp 3 zH4
def yQo : Pg Fl := zQ1 (zXr (zQs .Gt (zXf (zQd 0) (evC (.int 2))) (evC (.int 0))) (zQ1 (evSet 2 (zXu .Mod (zXf (zQd 0) (evC (.int 2))) (zQd 1))) (zQ1 (yZ7 (zXu .FloorDiv (zXf (zQd 0) (evC (.int 2))) (zQd 1)) (zQd 0) (evC (.int 2))) (zZr (zQd 2)))) (.ret .next)) (zQ1 (evSet 3 (zXf (zQd 0) (evC (.int 1)))) (zQ1 (yZ7 (zXu .Add (zQd 3) (evC (.int 1))) (zQd 0) (evC (.int 1))) (zQ1 (evSet 4 (zXu .Add (zXu .Mult (evC (.int 83407)) (zQd 3)) (evC (.int 61)))) (zQ1 (zXr (zQs .NotEq (zXf (zQd 0) (evC (.int 0))) (zJ2 (zQh))) (evSet 4 (zXf (zXf (zQd 0) (evC (.int 0))) (zXu .Mod (zQd 3) (zX1 yZo (zZe (zXf (zQd 0) (evC (.int 0))) (zQh)))))) (.ret .next)) (zQ1 (zXr (yQ8 (zQs .Lt (zQd 3) (zX1 yZo (zZe (zXf (zQd 0) (evC (.int 0))) (zQh)))) (zQs .GtE (zX1 wK1 (zZe (zQd 4) (zQh))) (zXu .Pow (evC (.int 10)) (evC (.int 18))))) (zQ1 (evSet 5 (zXu .Add (zXu .Mult (evC (.int 2)) (zXu .Sub (zX1 wK1 (zZe (zQd 4) (zQh))) (zXu .Pow (evC (.int 10)) (evC (.int 18))))) (zX1 wQ7 (zZe (asV (zQs .Lt (zQd 4) (evC (.int 0)))) (zQh))))) (zQ1 (yZ7 (zXu .FloorDiv (zQd 5) (zQd 1)) (zQd 0) (evC (.int 2))) (zZr (zXu .Mod (zQd 5) (zQd 1))))) (.ret .next)) (zQ1 (evSet 6 (zXu .Mod (zXu .Pow (zXu .Add (zXu .Add (zXu .Mod (zQd 4) (evC (.int 2147483563))) (zXu .Mult (evC (.int 50053)) (zQd 3))) (evC (.int 71))) (evC (.int 5))) (evC (.int 2147483647)))) (zQ1 (evSet 6 (zXu .Mod (zXu .Pow (zXu .Add (zXu .Add (zXu .Mult (zQd 6) (zXu .Add (zXu .Mult (evC (.int 2)) (zQd 3)) (evC (.int 13)))) (zXu .Mult (zXu .Mult (evC (.int 61007)) (zQd 3)) (zQd 3))) (evC (.int 29))) (evC (.int 3))) (evC (.int 2147483579)))) (zZr (zXu .Mod (zXu .FloorDiv (zQd 6) (evC (.int 32))) (zQd 1))))))))))
def zZu : Fn := zZp 7 yQo
def yQl : Pg Fl := zQ1 (evSet 1 (zZf zU9 zQh)) (zQ1 (evSet 2 (zZf zZu (zZ4 2 (zQc (zQd 0) (zQc (evC (.int 8)) (zQh)))))) (zQ1 (evSet 3 (zXf (zJ2 (zQc (zJ2 (zQh)) (zQc (zJ2 (zQc (evC (.int 1)) (zQh))) (zQc (zJ2 (zQc (evC (.int 0)) (zQc (evC (.int 4)) (zQh)))) (zQc (zJ2 (zQc (evC (.int 3)) (zQc (evC (.int 4)) (zQh)))) (zQc (zJ2 (zQc (evC (.int 7)) (zQc (evC (.int 8)) (zQh)))) (zQc (zJ2 (zQc (evC (.int 7)) (zQc (evC (.int 11)) (zQh)))) (zQc (zJ2 (zQc (evC (.int 3)) (zQc (evC (.int 4)) (zQc (evC (.int 8)) (zQh))))) (zQc (zJ2 (zQc (evC (.int 1)) (zQc (evC (.int 4)) (zQh)))) (zQh)))))))))) (zZf zZu (zZ4 2 (zQc (zQd 0) (zQc (evC (.int 8)) (zQh))))))) (zQ1 (evSet 4 (zK7 [5] (yVs (zQd 3)) (zZh 5) (.ret true) (zXf (zQd 1) (zQd 5)))) (zQ1 (zXr (zQs .Lt (zQd 2) (evC (.int 3))) (evSet 4 (zK7 [6] (yVs (zQd 1)) (zZh 6) (zYc (zXf (zJ2 (zQc (evC (.bool false)) (zQc (evC (.bool true)) (zQc (asV (zQs .Eq (zZf zZu (zZ4 2 (zQc (zQd 0) (zQc (evC (.int 2)) (zQh))))) (evC (.int 0)))) (zQh))))) (zQd 2))) (zQd 6))) (.ret .next)) (zQ1 (zXr (zQs .In (zQd 2) (zZy (zQc (evC (.int 3)) (zQc (evC (.int 4)) (zQh))))) (evSet 4 (yX8 (zXu .Add (zQd 4) (zJ2 (zQc (zXf (zQd 1) (zZf zZu (zZ4 2 (zQc (zQd 0) (zQc (evC (.int 12)) (zQh)))))) (zQc (zXf (zQd 1) (zZf zZu (zZ4 2 (zQc (zQd 0) (zQc (evC (.int 12)) (zQh)))))) (zQh))))))) (.ret .next)) (zQ1 (zXr (yQ8 (zQs .Eq (zQd 2) (evC (.int 5))) (zQs .NotEq (zQd 4) (zJ2 (zQh)))) (xXa 4 (zZf zZu (zZ4 2 (zQc (zQd 0) (zQc (zX1 yZo (zZe (zQd 4) (zQh))) (zQh)))))) (.ret .next)) (zZr (zZy (zQc (zQd 4) (zQc (zXf (zJ2 (zQc (evC (.str "white")) (zQc (evC (.str "grey")) (zQc (evC (.str "black")) (zQh))))) (zZf zZu (zZ4 2 (zQc (zQd 0) (zQc (evC (.int 3)) (zQh)))))) (zQc (zXf (zJ2 (zQc (evC (.str "once")) (zQc (evC (.str "again")) (zQh)))) (zZf zZu (zZ4 2 (zQc (zQd 0) (zQc (evC (.int 2)) (zQh)))))) (zQh))))))))))))
def zGn : Fn := zZp 7 yQl
def zGt : Pg Fl := zZr (yHk [("Table", mkF "Table" (pS true 1 2 4 [0, 1, 2] [] zXd))] 2 (zQd 0) (zQh) (zQc (zQd 1) (zQc (zQd 2) (zQh))))
def zVz : Fn := zZp 3 zGt
def zU1 : Pg Fl := zQ1 (yHj (yJ7 "need_beside" [("Table", (pD 2 0 2 [0, 1] [] zX5))] 0 (zQd 0) (zQc (zQd 1) (zQh)) (zQh))) (zZr (yJ7 "with_entries" [("Table", (pD 2 0 2 [0, 1] [] zXx))] 0 (zQd 0) (zQc (zZf yQ3 (zZ4 1 (zQc (zXu .Add (yJa ["Table"] "kept" (zQd 0)) (yJa ["Table"] "kept" (zQd 1))) (zQh)))) (zQh)) (zQh)))
def zJi : Fn := zZp 2 zU1
def zHd : Pg Fl := zQ1 (evSet 1 (yK4 [("Table", (pD 1 2 3 [0, 1, 2] [] zVz))] 2 (evC (xUy "Table")) (zQh) (zQc (zXf (zQd 0) (evC (.int 1))) (zQc (zXf (zQd 0) (evC (.int 2))) (zQh))))) (zQ1 (yK2 (yVs (zXf (zQd 0) (evC (.int 0)))) (zZh 2) (evSet 1 (xXd .BitOr [("Table", (pD 2 0 2 [0, 1] [] zJi))] (zQd 1) (yJb (mkF "Table" (pS true 1 2 4 [0, 1, 2] [] zXd)) 2 (zQc (zQd 2) (zQh)) (zQc (zXf (zQd 0) (evC (.int 1))) (zQc (zXf (zQd 0) (evC (.int 2))) (zQh))))))) (zZr (zQd 1)))
def zUq : Fn := zZp 3 zHd
def zHf : Pg Fl := zQ1 (zXr (zQs .NotIn (zZy (zQc (evC (.str "old")) (zQc (evC (.str "grey")) (zQh)))) (zXf (zQd 0) (evC (.int 0)))) (zZr (evC (.int 4))) (.ret .next)) (zZr (xJy (zYh (zQs .In (zZy (zQc (evC (.str "old")) (zQc (evC (.str "white")) (zQh)))) (zXf (zQd 0) (evC (.int 0)))) (zQs .In (zZy (zQc (evC (.str "load")) (zQc (evC (.str "grey")) (zQh)))) (zXf (zQd 0) (evC (.int 0))))) (evC .none) (evC (.int 6))))
def zUt : Fn := zZp 1 zHf
def yW3 : Pg Fl := zZr (xJy (zQs .Eq (zQd 1) (evC yU5)) (zZy (zQc (evC (.str "scan")) (zQc (zQd 0) (zQh)))) (zZy (zQc (evC (.str "scan")) (zQc (zQd 0) (zQc (evC (.int 0)) (zQh))))))
def zG5 : Fn := zZp 2 yW3
def zGr : Pg Fl := zQ1 (evSet 3 (zZf zZ9 (zZ4 1 (zQc (zQd 0) (zQh))))) (zQ1 (zXr (zQs .Is (zQd 3) (evC .none)) (zZr (evC .none)) (.ret .next)) (zQ1 (evSet 4 (xJy (zQs .Eq (zQd 1) (evC (.int 1))) (zZy (zQc (evC (.int 0)) (zQh))) (zZy (zQc (evC (.int 0)) (zQc (evC .none) (zQh)))))) (zQ1 (xJk 5 6 (zZy (zQc (evC (.str "store")) (zQc (evC (.int 0)) (zQc (evC (.int 0)) (zQc (evC .none) (zQh)))))) (zZf zG5 (zZ4 2 (zQc (evC (.int 0)) (zQc (zQd 2) (zQh)))))) (zQ1 (zXr (zQs .Eq (zQd 3) (evC (.int 4))) (zZr (zZy (zQc (zZy (zQc (evC (.int 1)) (zQc (zZy (zQc (zZy (zQc (evC (.int 1)) (zQh))) (zQc (zZy (zQc (evC .none) (zQh))) (zQh)))) (zQh)))) (zQc (zQd 4) (zQc (zZy (zQc (zZy (zQc (evC (.str "start")) (zQh))) (zQc (zQd 5) (zQc (zQd 6) (zQc (zZy (zQc (evC (.str "end")) (zQh))) (zQh)))))) (zQh)))))) (.ret .next)) (zQ1 (evSet 7 (zZy (zQc (zZy (zQc (evC (.str "start")) (zQh))) (zQc (zZy (zQc (evC (.str "load")) (zQc (evC (.int 0)) (zQc (evC (.int 0)) (zQc (evC (.int 0)) (zQh)))))) (zQc (zQd 5) (zQc (zQd 6) (zQc (zZf zG5 (zZ4 2 (zQc (evC (.int 1)) (zQc (zQd 2) (zQh))))) (zQc (zZy (zQc (evC (.str "end")) (zQh))) (zQh))))))))) (zZr (zZy (zQc (zZy (zQc (evC (.int 1)) (zQc (zZy (zQc (zZy (zQc (evC (.int 1)) (zQh))) (zQc (zZy (zQc (evC (.int 2)) (zQh))) (zQc (zZy (zQc (evC .none) (zQh))) (zQh))))) (zQh)))) (zQc (zQd 4) (zQc (zQd 7) (zQh)))))))))))
def zXg : Fn := zZp 8 zGr
def yZs : Pg Fl := zQ1 (yK5 (zVm 4 (zZg (zZh 2) (zZg (zZh 3) (zZg (zZh 4) (zZg (zZh 5) (zV7)))))) (zQd 0)) (zQ1 (zXr (zYh (zQs .Is (zQd 1) (evC .none)) (zQs .NotEq (zXf (zQd 4) (zQd 1)) (evC (.str "white")))) (zZr (zQd 0)) (.ret .next)) (zZr (zZy (zQc (zQd 2) (zQc (zQd 3) (zQc (zXu .Add (zXu .Add (xJx (zQd 4) (.ret none) (zG6 (zQd 1))) (zZy (zQc (evC (.str "grey")) (zQh)))) (xJx (zQd 4) (zG6 (zXu .Add (zQd 1) (evC (.int 1)))) (.ret none))) (zQc (zQd 5) (zQh))))))))
def zJ5 : Fn := zZp 6 yZs
def yKa : Pg Fl := zZr (zXu .Add (zXu .Add (xJx (zQd 0) (.ret none) (zG6 (zQd 1))) (zZy (zQc (zQd 2) (zQh)))) (xJx (zQd 0) (zG6 (zXu .Add (zQd 1) (evC (.int 1)))) (.ret none)))
def zXa : Fn := zZp 3 yKa
def zGs : Pg Fl := zQ1 (yK5 (zVm 4 (zZg (zVm 2 (zZg (zZh 3) (zZg (zZh 4) (zV7)))) (zZg (zZh 5) (zZg (zZh 6) (zZg (zZh 7) (zV7)))))) (zQd 1)) (zQ1 (evSet 8 (zXf (zQd 5) (zXf (zQd 2) (evC (.int 2))))) (zQ1 (evSet 9 (zXf (zXf (zQd 4) (zQd 8)) (zXf (zQd 2) (evC (.int 3))))) (zQ1 (evSet 10 (zQd 1)) (zQ1 (zXr (zQs .In (zZy (zQc (evC (.str "load")) (zQc (zXf (zQd 6) (zQd 8)) (zQh)))) (zXf (zQd 0) (evC (.int 0)))) (evSet 10 (zZf zJ5 (zZ4 2 (zQc (zQd 1) (zQc (zQd 9) (zQh)))))) (.ret .next)) (zZr (zZy (zQc (zXf (zQd 10) (evC (.int 0))) (zQc (zZf zXa (zZ4 3 (zQc (zQd 5) (zQc (zXf (zQd 2) (evC (.int 1))) (zQc (zQd 9) (zQh)))))) (zQc (zXf (zQd 10) (evC (.int 2))) (zQc (zQd 7) (zQh)))))))))))
def zKt : Fn := zZp 11 zGs
def zYp : Pg Fl := zQ1 (yK5 (zVm 4 (zZg (zVm 2 (zZg (zZh 3) (zZg (zZh 4) (zV7)))) (zZg (zZh 5) (zZg (zZh 6) (zZg (zZh 7) (zV7)))))) (zQd 1)) (zQ1 (evSet 8 (zXf (zQd 5) (zXf (zQd 2) (evC (.int 1))))) (zQ1 (evSet 9 (xJy (zQs .Is (zXf (zQd 2) (evC (.int 3))) (evC .none)) (evC .none) (zXf (zQd 5) (zXf (zQd 2) (evC (.int 3)))))) (zQ1 (xJk 10 11 (zXf (zQd 6) (zQd 8)) (zXf (zXf (zQd 4) (zQd 8)) (zXf (zQd 2) (evC (.int 2))))) (zQ1 (evSet 12 (zZf zXa (zZ4 3 (zQc (zXf (zQd 4) (zQd 8)) (zQc (zXf (zQd 2) (evC (.int 2))) (zQc (zQd 9) (zQh))))))) (zQ1 (evSet 13 (zZy (zQc (zZy (zQc (zQd 3) (zQc (zZf zXa (zZ4 3 (zQc (zQd 4) (zQc (zQd 8) (zQc (zQd 12) (zQh)))))) (zQh)))) (zQc (zQd 5) (zQc (zQd 6) (zQc (zQd 7) (zQh))))))) (zQ1 (zXr (zQs .In (zZy (zQc (evC (.str "old")) (zQc (zQd 10) (zQh)))) (zXf (zQd 0) (evC (.int 0)))) (evSet 13 (zZf zJ5 (zZ4 2 (zQc (zQd 13) (zQc (zQd 11) (zQh)))))) (.ret .next)) (zQ1 (zXr (zQs .In (zZy (zQc (evC (.str "new")) (zQc (zQd 10) (zQh)))) (zXf (zQd 0) (evC (.int 0)))) (evSet 13 (zZf zJ5 (zZ4 2 (zQc (zQd 13) (zQc (zQd 9) (zQh)))))) (.ret .next)) (zQ1 (zXr (zQs .In (zZy (zQc (evC (.str "source")) (zQc (zQd 10) (zQh)))) (zXf (zQd 0) (evC (.int 0)))) (zZr (zZy (zQc (zXf (zQd 13) (evC (.int 0))) (zQc (zQd 5) (zQc (zZf zXa (zZ4 3 (zQc (zXf (zQd 13) (evC (.int 2))) (zQc (zQd 8) (zQc (evC (.str "grey")) (zQh)))))) (zQc (zZf zXa (zZ4 3 (zQc (zQd 7) (zQc (zQd 8) (zQc (zZy (zQh)) (zQh)))))) (zQh))))))) (.ret .next)) (zZr (zQd 13))))))))))
def zJ4 : Fn := zZp 14 zYp
def yQk : Pg Fl := zQ1 (yK5 (zVm 4 (zZg (zVm 2 (zZg (zZh 2) (zZg (zZh 3) (zV7)))) (zZg (zZh 4) (zZg (zZh 5) (zZg (zZh 6) (zV7)))))) (zQd 0)) (zQ1 (evSet 7 (zXf (zQd 1) (evC (.int 1)))) (zQ1 (evSet 8 (xJy (zQs .Eq (zX1 yZo (zZe (zQd 1) (zQh))) (evC (.int 2))) (xK1 (zQd 2)) (zJ2 (zQc (zXf (zQd 1) (evC (.int 2))) (zQh))))) (zQ1 (evSet 9 (zQd 0)) (zQ1 (yK2 (yVs (zQd 8)) (zZh 10) (evSet 9 (zZf zJ5 (zZ4 2 (zQc (zQd 9) (zQc (zXf (zXf (zQd 3) (zQd 7)) (zQd 10)) (zQh))))))) (zQ1 (evSet 11 (zX1 yYb (zZe (zX1 xQr (zZe (zXu .Add (zX1 yYc (zZe (zXf (zQd 6) (zQd 7)) (zQh))) (zQd 8)) (zQh))) (zQh)))) (zQ1 (evSet 12 (zXf (zJ2 (zQc (evC (.str "grey")) (zQc (evC (.str "black")) (zQh)))) (zX1 wQ7 (zZe (asV (zQs .Eq (zX1 yZo (zZe (zQd 11) (zQh))) (zQd 2))) (zQh))))) (zZr (zZy (zQc (zXf (zQd 9) (evC (.int 0))) (zQc (zQd 4) (zQc (zZf zXa (zZ4 3 (zQc (zXf (zQd 9) (evC (.int 2))) (zQc (zQd 7) (zQc (zQd 12) (zQh)))))) (zQc (zZf zXa (zZ4 3 (zQc (zQd 6) (zQc (zQd 7) (zQc (zQd 11) (zQh)))))) (zQh)))))))))))))
def yQ4 : Fn := zZp 13 yQk
def zGg : Pg Fl := zQ1 (yK5 (zVm 4 (zZg (zVm 2 (zZg (zZh 3) (zZg (zZh 4) (zV7)))) (zZg (zZh 5) (zZg (zZh 6) (zZg (zZh 7) (zV7)))))) (zQd 1)) (zQ1 (evSet 8 (zXf (zQd 2) (evC (.int 0)))) (zQ1 (zXr (zQs .Eq (zQd 8) (evC (.str "load"))) (zZr (zZf zKt (zZ4 3 (zQc (zQd 0) (zQc (zQd 1) (zQc (zQd 2) (zQh))))))) (.ret .next)) (zQ1 (zXr (zQs .Eq (zQd 8) (evC (.str "store"))) (zZr (zZf zJ4 (zZ4 3 (zQc (zQd 0) (zQc (zQd 1) (zQc (zQd 2) (zQh))))))) (.ret .next)) (zQ1 (zXr (zQs .Eq (zQd 8) (evC (.str "scan"))) (zZr (zZf yQ4 (zZ4 2 (zQc (zQd 1) (zQc (zQd 2) (zQh)))))) (.ret .next)) (zQ1 (zXr (zQs .In (zQd 8) (zZy (zQc (evC (.str "move")) (zQc (evC (.str "clear")) (zQh))))) (zQ1 (evSet 9 (xJy (zQs .Eq (zQd 8) (evC (.str "clear"))) (evC .none) (zXf (zQd 5) (zXf (zQd 2) (evC (.int 2)))))) (zZr (zZy (zQc (zXf (zQd 1) (evC (.int 0))) (zQc (zZf zXa (zZ4 3 (zQc (zQd 5) (zQc (zXf (zQd 2) (evC (.int 1))) (zQc (zQd 9) (zQh)))))) (zQc (zQd 6) (zQc (zQd 7) (zQh)))))))) (.ret .next)) (zQ1 (zXr (zQs .Eq (zQd 8) (evC (.str "new"))) (zQ1 (evSet 10 (xJy (zQs .Eq (zXf (zQd 0) (evC (.int 1))) (evC (.str "black"))) (xK0 (zQd 3)) (zZy (zQh)))) (zQ1 (evSet 11 (zZf zXa (zZ4 3 (zQc (zQd 5) (zQc (zXf (zQd 2) (evC (.int 1))) (zQc (zX1 yZo (zZe (zQd 4) (zQh))) (zQh))))))) (zZr (zZy (zQc (zZy (zQc (zQd 3) (zQc (zXu .Add (zQd 4) (zZy (zQc (zXu .Mult (zZy (zQc (evC .none) (zQh))) (zQd 3)) (zQh)))) (zQh)))) (zQc (zQd 11) (zQc (zXu .Add (zQd 6) (zZy (zQc (zXf (zQd 0) (evC (.int 1))) (zQh)))) (zQc (zXu .Add (zQd 7) (zZy (zQc (zQd 10) (zQh)))) (zQh))))))))) (.ret .next)) (zQ1 (zXr (zQs .In (zQd 8) (zZy (zQc (evC (.str "start")) (zQc (evC (.str "look")) (zQh))))) (yK2 (yVs (zQd 5)) (zZh 12) (evSet 1 (zZf zJ5 (zZ4 2 (zQc (zQd 1) (zQc (zQd 12) (zQh))))))) (.ret .next)) (zZr (zQd 1)))))))))
def zVl : Fn := zZp 13 zGg
def zG0 : Pg Fl := zQ1 (evSet 2 (zXf (zQd 0) (evC (.int 1)))) (zZr (asV (zQs .Eq (zK7 [3] (yVs (zQd 1)) (zZh 3) (zYh (zQs .GtE (zQd 3) (zX1 yZo (zZe (zQd 2) (zQh)))) (zQs .Is (zXf (zQd 2) (zQd 3)) (evC .none))) (zQd 3)) (zJ2 (zQh)))))
def zVi : Fn := zZp 4 zG0
def yKb : Pg Fl := zQ1 (yK5 (zVm 4 (zZg (zVm 2 (zZg (zZh 3) (zZg (zZh 4) (zV7)))) (zZg (zZh 5) (zZg (zZh 6) (zZg (zZh 7) (zV7)))))) (zQd 1)) (zQ1 (evSet 8 (zXf (zQd 2) (evC (.int 0)))) (zQ1 (zXr (zYh (yQ8 (zQs .In (zQd 8) (zZy (zQc (evC (.str "load")) (zQc (evC (.str "move")) (zQh))))) (zQs .GtE (zXf (zQd 2) (evC (.int 1))) (zX1 yZo (zZe (zQd 5) (zQh))))) (yQ8 (zQs .Eq (zQd 8) (evC (.str "new"))) (zQs .GtE (zXf (zQd 2) (evC (.int 1))) (zX1 yZo (zZe (zQd 5) (zQh)))))) (zZr (evC (.bool false))) (.ret .next)) (zQ1 (zXr (zQs .Eq (zQd 8) (evC (.str "load"))) (zZr (zHw (zZf zVi (zZ4 2 (zQc (zQd 1) (zQc (zJ2 (zQc (zXf (zQd 2) (evC (.int 2))) (zQh))) (zQh))))) (asV (zQs .Lt (zXf (zQd 2) (evC (.int 3))) (zQd 3))))) (.ret .next)) (zQ1 (zXr (zQs .Eq (zQd 8) (evC (.str "store"))) (zZr (zHw (zZf zVi (zZ4 2 (zQc (zQd 1) (zQc (zXu .Add (zJ2 (zQc (zXf (zQd 2) (evC (.int 1))) (zQh))) (zXu .Mult (zJ2 (zQc (zXf (zQd 2) (evC (.int 3))) (zQh))) (zX1 wQ7 (zZe (asV (zQs .IsNot (zXf (zQd 2) (evC (.int 3))) (evC .none))) (zQh))))) (zQh))))) (asV (zQs .Lt (zXf (zQd 2) (evC (.int 2))) (zQd 3))))) (.ret .next)) (zQ1 (zXr (zQs .Eq (zQd 8) (evC (.str "move"))) (zZr (zHw (asV (zQs .NotEq (zXf (zQd 2) (evC (.int 1))) (zXf (zQd 2) (evC (.int 2))))) (zZf zVi (zZ4 2 (zQc (zQd 1) (zQc (zJ2 (zQc (zXf (zQd 2) (evC (.int 2))) (zQh))) (zQh))))))) (.ret .next)) (zQ1 (zXr (zQs .Eq (zQd 8) (evC (.str "clear"))) (zZr (zZf zVi (zZ4 2 (zQc (zQd 1) (zQc (zJ2 (zQc (zXf (zQd 2) (evC (.int 1))) (zQh))) (zQh)))))) (.ret .next)) (zQ1 (zXr (zQs .Eq (zQd 8) (evC (.str "scan"))) (zQ1 (zXr (zYh (zQs .GtE (zXf (zQd 2) (evC (.int 1))) (zX1 yZo (zZe (zQd 4) (zQh)))) (zQs .NotEq (zXf (zQd 6) (zXf (zQd 2) (evC (.int 1)))) (evC (.str "grey")))) (zZr (evC (.bool false))) (.ret .next)) (zZr (wZa (asV (zQs .Eq (zX1 yZo (zZe (zQd 2) (zQh))) (evC (.int 2)))) (zHw (asV (zQs .Lt (zXf (zQd 2) (evC (.int 2))) (zQd 3))) (asV (zQs .NotIn (zXf (zQd 2) (evC (.int 2))) (zXf (zQd 7) (zXf (zQd 2) (evC (.int 1)))))))))) (.ret .next)) (zQ1 (zXr (zQs .Eq (zQd 8) (evC (.str "end"))) (zQ1 (evSet 9 (zK7 [10] (yVs (zQd 5)) (zZh 10) (yQ8 (zQs .IsNot (zQd 10) (evC .none)) (zQs .Eq (zXf (zQd 6) (zQd 10)) (evC (.str "white")))) (zQd 10))) (zZr (zHw (asV (zQs .NotIn (evC (.str "grey")) (zQd 6))) (wZa (asV (zQs .Eq (zXf (zQd 0) (evC (.int 2))) (evC (.str "once")))) (asV (zQs .Eq (zQd 9) (zJ2 (zQh)))))))) (.ret .next)) (zZr (wZa (zHw (asV (zQs .Eq (zQd 8) (evC (.str "new")))) (asV (zQs .Lt (zX1 yZo (zZe (zQd 4) (zQh))) (evC (.int 40))))) (zHw (asV (zQs .Eq (zQd 8) (evC (.str "look")))) (asV (zQs .Eq (zXf (zQd 0) (evC (.int 2))) (evC (.str "again")))))))))))))))
def yZ6 : Fn := zZp 11 yKb
def zYq : Pg Fl := zQ1 (yK5 (zVm 3 (zZg (zZh 2) (zZg (zZh 3) (zZg (zZh 4) (zV7))))) (zQd 1)) (zQ1 (evSet 5 (zX1 yZo (zZe (zXf (zQd 2) (evC (.int 1))) (zQh)))) (zQ1 (evSet 6 (zZy (zQc (zQd 2) (zQc (zQd 3) (zQc (zXu .Mult (zZy (zQc (evC (.str "white")) (zQh))) (zQd 5)) (zQc (zXu .Mult (zZy (zQc (zZy (zQh)) (zQh))) (zQd 5)) (zQh))))))) (zQ1 (zXr (zYh (zQs .Eq (zQd 4) (zZy (zQh))) (zQs .NotEq (zXf (zQd 4) (evC (.int 0))) (zZy (zQc (evC (.str "start")) (zQh))))) (zZr (zJ2 (zQh))) (.ret .next)) (zQ1 (evSet 7 (zJ2 (zQc (zZf zVl (zZ4 3 (zQc (zQd 0) (zQc (zQd 6) (zQc (zXf (zQd 4) (evC (.int 0))) (zQh)))))) (zQh)))) (zQ1 (yK2 (yUy (zQc (xJx (zQd 4) (zG6 (evC (.int 1))) (.ret none)) (zQc (evC (.int 1)) (zQh)))) (zVm 2 (zZg (zZh 8) (zZg (zZh 9) (zV7)))) (zQ1 (zXr (zYh (zQs .Eq (zXf (zQd 4) (zXu .Sub (zQd 8) (evC (.int 1)))) (zZy (zQc (evC (.str "end")) (zQh)))) (zYh (zQs .Eq (zQd 9) (zZy (zQc (evC (.str "start")) (zQh)))) (zJ7 (zYc (zZf yZ6 (zZ4 3 (zQc (zQd 0) (zQc (zXf (zQd 7) (yUx (evC (.int 1)))) (zQc (zQd 9) (zQh)))))))))) (zZr (zJ2 (zQh))) (.ret .next)) (xUq 7 (zZf zVl (zZ4 3 (zQc (zQd 0) (zQc (zXf (zQd 7) (yUx (evC (.int 1)))) (zQc (zQd 9) (zQh))))))))) (zZr (zQd 7)))))))
def zVy : Fn := zZp 10 zYq
def zH3 : Pg Fl := zZr (zHw (yZp "int" (zQd 0)) (zHw (xUo (yZp "bool" (zQd 0))) (asV (zQs .GtE (zQd 0) (evC (.int 0))))))
def zK0 : Fn := zZp 1 zH3
def yZt : Pg Fl := zQ1 (zXr (zJ7 (zYc (yZp "tuple" (zQd 0)))) (zZr (evC (.bool false))) (.ret .next)) (zZr (asV (zQs .Eq (zK7 [2] (yVs (zQd 0)) (zZh 2) (yQ8 (zQs .IsNot (zQd 2) (evC .none)) (zJ7 (yQ8 (zYc (zZf zK0 (zZ4 1 (zQc (zQd 2) (zQh))))) (zQs .Lt (zQd 2) (zQd 1))))) (zQd 2)) (zJ2 (zQh)))))
def zGx : Fn := zZp 3 yZt
def yQm : Pg Fl := zQ1 (evSet 2 (xXc (zGa (evC (.str "load")) (evC (.int 4)) (zGa (evC (.str "store")) (evC (.int 4)) (zGa (evC (.str "new")) (evC (.int 2)) (zGa (evC (.str "move")) (evC (.int 3)) (zGa (evC (.str "clear")) (evC (.int 2)) (zGa (evC (.str "look")) (evC (.int 1)) (zGa (evC (.str "start")) (evC (.int 1)) (zGa (evC (.str "end")) (evC (.int 1)) (.ret []))))))))))) (zQ1 (yZ7 (zXu .Add (evC (.int 2)) (zX1 wQ7 (zZe (asV (zQs .Eq (zQd 1) (evC (.str "fields")))) (zQh)))) (zQd 2) (evC (.str "scan"))) (zQ1 (zXr (zYh (zJ7 (zYc (yZp "tuple" (zQd 0)))) (zYh (zQs .Eq (zQd 0) (zZy (zQh))) (zJ7 (zYc (yZp "str" (zXf (zQd 0) (evC (.int 0)))))))) (zZr (evC (.bool false))) (.ret .next)) (zQ1 (evSet 3 (xJy (yQ8 (zQs .Eq (zXf (zQd 0) (evC (.int 0))) (evC (.str "store"))) (zQs .Is (zXf (zQd 0) (yUx (evC (.int 1)))) (evC .none))) (xJx (zQd 0) (zG6 (evC (.int 1))) (zG6 (evC (.int 3)))) (xJx (zQd 0) (zG6 (evC (.int 1))) (.ret none)))) (zZr (zHw (asV (zQs .Eq (xXb (zQd 2) (zXf (zQd 0) (evC (.int 0))) (evC (.int 0))) (zX1 yZo (zZe (zQd 0) (zQh))))) (asV (zQs .Eq (zK7 [4] (yVs (zQd 3)) (zZh 4) (zJ7 (zYc (zZf zK0 (zZ4 1 (zQc (zQd 4) (zQh)))))) (zQd 4)) (zJ2 (zQh)))))))))
def yQ5 : Fn := zZp 5 yQm
def zH2 : Pg Fl := zQ1 (zXr (zYh (zJ7 (zYc (yZp "tuple" (zQd 0)))) (zYh (zQs .NotEq (zX1 yZo (zZe (zQd 0) (zQh))) (evC (.int 3))) (zYh (zJ7 (zYc (yZp "tuple" (zXf (zQd 0) (evC (.int 0)))))) (zQs .NotEq (zX1 yZo (zZe (zXf (zQd 0) (evC (.int 0))) (zQh))) (evC (.int 2)))))) (zZr (evC (.bool false))) (.ret .next)) (zQ1 (yK5 (zVm 3 (zZg (zVm 2 (zZg (zZh 5) (zZg (zZh 6) (zV7)))) (zZg (zZh 7) (zZg (zZh 8) (zV7))))) (zQd 0)) (zQ1 (zXr (zYh (zJ7 (zYc (zZf zK0 (zZ4 1 (zQc (zQd 5) (zQh)))))) (zYh (zJ7 (yVt .LtE .LtE (evC (.int 1)) (zQd 5) (zQd 4))) (zYh (zJ7 (zYc (yZp "tuple" (zQd 6)))) (zQs .Gt (zX1 yZo (zZe (zQd 6) (zQh))) (zQd 3))))) (zZr (evC (.bool false))) (.ret .next)) (zQ1 (zXr (zQs .NotEq (zK7 [9] (yVs (zQd 6)) (zZh 9) (zYh (zJ7 (zYc (zZf zGx (zZ4 2 (zQc (zQd 9) (zQc (zX1 yZo (zZe (zQd 6) (zQh))) (zQh))))))) (zQs .NotEq (zX1 yZo (zZe (zQd 9) (zQh))) (zQd 5))) (zQd 9)) (zJ2 (zQh))) (zZr (evC (.bool false))) (.ret .next)) (zQ1 (zXr (zYh (zJ7 (zYc (zZf zGx (zZ4 2 (zQc (zQd 7) (zQc (zX1 yZo (zZe (zQd 6) (zQh))) (zQh))))))) (zQs .NotEq (zX1 yZo (zZe (zQd 7) (zQh))) (zQd 2))) (zZr (evC (.bool false))) (.ret .next)) (zQ1 (zXr (zYh (zJ7 (zYc (yZp "tuple" (zQd 8)))) (zQs .Gt (zX1 yZo (zZe (zQd 8) (zQh))) (evC (.int 400)))) (zZr (evC (.bool false))) (.ret .next)) (zZr (asV (zQs .Eq (zK7 [10] (yVs (zQd 8)) (zZh 10) (zJ7 (zYc (zZf yQ5 (zZ4 2 (zQc (zQd 10) (zQc (zQd 1) (zQh))))))) (zQd 10)) (zJ2 (zQh))))))))))
def zKz : Fn := zZp 11 zH2
def yXh : Pg Fl := zQ1 (evSet 2 (yX9 (zK7 [5] (yVs (zQd 1)) (zZh 5) (zQs .IsNot (zQd 5) (evC .none)) (zQd 5)))) (zQ1 (evSet 3 (yUx (evC (.int 1)))) (zQ1 (xKz (zQs .NotEq (zQd 3) (zX1 yZo (zZe (zQd 2) (zQh)))) (zQ1 (evSet 3 (zX1 yZo (zZe (zQd 2) (zQh)))) (zQ1 (evSet 4 (zJ2 (zQh))) (zQ1 (yK2 (yVs (zQd 2)) (zZh 5) (xK2 4 (zK7 [6] (yVs (zXf (zQd 0) (zQd 5))) (zZh 6) (zQs .IsNot (zQd 6) (evC .none)) (zQd 6)))) (evSet 2 (yX9 (zXu .Add (zQd 2) (zQd 4)))))))) (zZr (zQd 2))))
def zUs : Fn := zZp 7 yXh
def zHg : Pg Fl := zQ1 (zXr (zYh (zJ7 (zYc (zZf zKz (zZ4 5 (zQc (zQd 1) (zQc (zQd 2) (zQc (zQd 3) (zQc (evC (.int 3)) (zQc (evC (.int 1)) (zQh)))))))))) (zQs .NotEq (xJx (zXf (zQd 1) (evC (.int 2))) (zG6 (yUx (evC (.int 1)))) (.ret none)) (zZy (zQc (zZy (zQc (evC (.str "end")) (zQh))) (zQh))))) (zZr (evC (.bool false))) (.ret .next)) (zQ1 (evSet 4 (zZf zVy (zZ4 2 (zQc (zQd 0) (zQc (zQd 1) (zQh)))))) (zQ1 (zXr (zQs .Eq (zQd 4) (zJ2 (zQh))) (zZr (evC (.bool false))) (.ret .next)) (zQ1 (evSet 5 (zXf (zXf (zQd 4) (yUx (evC (.int 1)))) (evC (.int 2)))) (zZr (asV (zQs .NotEq (zK7 [6] (yVs (zZf zUs (zZ4 2 (zQc (zXf (zXf (zQd 1) (evC (.int 0))) (evC (.int 1))) (zQc (zXf (zQd 1) (evC (.int 1))) (zQh)))))) (zZh 6) (zQs .Eq (zXf (zQd 5) (zQd 6)) (evC (.str "white"))) (zQd 6)) (zJ2 (zQh))))))))
def zVt : Fn := zZp 7 zHg
def zHe : Pg Fl := zQ1 (evSet 1 (zZf zGn (zZ4 1 (zQc (zQd 0) (zQh))))) (zQ1 (evSet 2 (zZf zUq (zZ4 1 (zQc (zQd 1) (zQh))))) (zQ1 (evSet 3 (zXf (zJ2 (zQc (evC (.int 1)) (zQc (evC (.int 2)) (zQc (zXu .Add (evC (.int 1)) (zZf zZu (zZ4 2 (zQc (zQd 0) (zQc (evC (.int 6)) (zQh)))))) (zQh))))) (zZf zZu (zZ4 2 (zQc (zQd 0) (zQc (evC (.int 3)) (zQh))))))) (zQ1 (evSet 4 (zXf (zJ2 (zQc (evC (.str "whole")) (zQc (evC (.str "fields")) (zQh)))) (zZf zZu (zZ4 2 (zQc (zQd 0) (zQc (evC (.int 2)) (zQh))))))) (zQ1 (evSet 5 (zZf zUt (zZ4 1 (zQc (zQd 1) (zQh))))) (zQ1 (zXr (zQs .NotEq (zX1 yKv (zZe (zJ2 (zQc (zZf zZ9 (zZ4 1 (zQc (zQd 2) (zQh)))) (zQc (yU0 zZ9 0 1 1 [0] zQh (zQc (zQd 2) (zQh))) (zQh)))) (zQh))) (zX1 yKv (zZe (zJ2 (zQc (zQd 5) (zQc (zQd 5) (zQh)))) (zQh)))) (zZr (evC (.bool false))) (.ret .next)) (zQ1 (evSet 6 (yQ7 zXg 1 2 3 [0, 1, 2] [] (zQc (zQd 2) (zQh)) (zQc (zQd 3) (zQc (zQd 4) (zQh))))) (zQ1 (zXr (zQs .NotEq (zX1 yKv (zZe (yQ7 zXg 0 3 3 [2, 1, 0] [] zQh (zQc (zQd 4) (zQc (zQd 3) (zQc (zQd 2) (zQh))))) (zQh))) (zX1 yKv (zZe (zQd 6) (zQh)))) (zZr (evC (.bool false))) (.ret .next)) (zQ1 (evSet 7 (yQ7 zXg 1 0 3 [0, 1, 2] [.int 2, .str "whole"] (zQc (zQd 2) (zQh)) (zQh))) (zQ1 (zXr (zQs .NotEq (zX1 yKv (zZe (yQ7 zXg 1 2 3 [0, 1, 2] [] (zQc (zQd 2) (zQh)) (zQc (evC (.int 2)) (zQc (evC (.str "whole")) (zQh)))) (zQh))) (zX1 yKv (zZe (zQd 7) (zQh)))) (zZr (evC (.bool false))) (.ret .next)) (zQ1 (zXr (zQs .Is (zQd 5) (evC .none)) (zZr (zHw (asV (zQs .Is (zQd 6) (evC .none))) (asV (zQs .Is (zQd 7) (evC .none))))) (.ret .next)) (zQ1 (zXr (zYh (zJ7 (zYc (zZf zVt (zZ4 4 (zQc (zQd 1) (zQc (zQd 6) (zQc (zQd 4) (zQc (zX1 wKt (zZe (zQd 3) (zZe (evC (.int 2)) (zQh)))) (zQh))))))))) (zJ7 (zYc (zZf zVt (zZ4 4 (zQc (zQd 1) (zQc (zQd 7) (zQc (evC (.str "whole")) (zQc (evC (.int 2)) (zQh)))))))))) (zZr (evC (.bool false))) (.ret .next)) (zZr (zHw (asV (zQs .Eq (zX1 yZo (zZe (zXf (zQd 7) (evC (.int 2))) (zQh))) (zQd 5))) (wZa (asV (zQs .Eq (zQd 4) (evC (.str "fields")))) (asV (zQs .Eq (zX1 yZo (zZe (zXf (zQd 6) (evC (.int 2))) (zQh))) (zQd 5)))))))))))))))))
def zUr : Fn := zZp 8 zHe
def zHh : Pg Fl := zZr (yHk [("Table", mkF "Table" (pS true 1 2 4 [0, 1, 2] [] zXd))] 2 (zQd 0) (yJz (evC zYd)) (zQc (zQd 1) (zQc (zQd 2) (zQh))))
def zUu : Fn := zZp 3 zHh
def xV0 : Pg Fl := zQ1 (xZ8 1 (zZf zHv (zZ4 1 (zQc (zQd 0) (zQh))))) (zQ1 (yK2 (xZ9 (zZe (evC (.int 8)) (zQh))) (zZh 2) (zXr (zJ7 (zYc (zZf zUr (zZ4 1 (zQc (zQd 1) (zQh)))))) (zZr (evC (.bool false))) (.ret .next))) (zZr (asV (zQs .Is (zZf zZ9 (zZ4 1 (zQc (yK4 [("Table", (pD 1 2 3 [0, 1, 2] [] zUu))] 2 (evC (xUy "Table")) (zQh) (zQc (evC (.str "white")) (zQc (evC (.str "again")) (zQh)))) (zQh)))) (evC .none)))))
def yHg : Fn := zZp 3 xV0
end Ev
namespace Ev
open PySem PySem.Spec PyProof.Rows L2
def wYq (ns : List Int) (a r : Int) : List PyData := [.list (ns.map .int), .int a, .int r]
def Pen (n : Nat) (o : Ob) : Prop := ∃ ns a r, o = .lst (wYq ns a r) ∧ 0 ≤ a ∧ a + n ≤ 1000000 ∧ 0 ≤ r
theorem Pen.le {n m : Nat} {o : Ob} (h : Pen n o) (e : m ≤ n) : Pen m o := by
  obtain ⟨ns, a, r, q, h1, h2, h3⟩ := h
  exact ⟨ns, a, r, q, h1, by omega, h3⟩
theorem wW9 {a c : Int} (ha : 0 ≤ a) (ha2 : a ≤ 1000000) (hc : 0 ≤ c) (hc2 : c ≤ 100000) : 0 ≤ c * a * a ∧ c * a * a ≤ 100000000000000000 := by
  have h1 : 0 ≤ c * a := Int.mul_nonneg hc ha
  have h2 : c * a ≤ 100000 * 1000000 := Int.mul_le_mul hc2 ha2 ha (by decide)
  have h3 : 0 ≤ c * a * a := Int.mul_nonneg h1 ha
  have h4 : c * a * a ≤ 100000 * 1000000 * 1000000 := Int.mul_le_mul h2 ha2 ha (by decide)
  omega
theorem wY1 {y a c : Int} (h1 : 0 ≤ y) (h2 : y < 2147483648) (ha : 0 ≤ a) (ha2 : a ≤ 1000000) (hc : 0 ≤ c) (hc2 : c ≤ 1000) : 0 ≤ y * (2 * a + c) ∧ y * (2 * a + c) ≤ 2147483648 * 2001000 :=
  ⟨Int.mul_nonneg h1 (by omega), Int.mul_le_mul (by omega) (by omega) (by omega) (by decide)⟩
theorem wZm {a c : Int} (ha : 0 ≤ a) (ha2 : a ≤ 1000000) : (c % 2147483563 + 50053 * a + 71).natAbs < 18446744073709551616 := by
  have h1 := Int.emod_nonneg c (show (2147483563 : Int) ≠ 0 by decide)
  have h2 := Int.emod_lt_of_pos c (show (0 : Int) < 2147483563 by decide)
  omega
theorem xVn {a x : Int} (ha : 0 ≤ a) (ha2 : a ≤ 1000000) : (x % 2147483647 * (2 * a + 13) + 61007 * a * a + 29).natAbs < 18446744073709551616 := by
  have h1 := Int.emod_nonneg x (show (2147483647 : Int) ≠ 0 by decide)
  have h2 := Int.emod_lt_of_pos x (show (0 : Int) < 2147483647 by decide)
  have h3 := wY1 (c := 13) h1 (by omega) ha ha2 (by decide) (by decide)
  have h4 := wW9 (c := 61007) ha ha2 (by decide) (by decide)
  omega
theorem zHx {X : Exn → Mem → Prop} {n : Nat} {c : Ob} {cs : List Ob} {k : Int} {E : EV → Mem → Prop} (hc : Pen (n + 1) c) (hk : 0 < k) (hk2 : k < 1000000)
    (h : ∀ v c', 0 ≤ v → v < k → Pen n c' → E (.d (.int v)) ⟨[], c' :: cs⟩) : W (zZu [.cell 0, .d (.int k)]) ⟨[], c :: cs⟩ X E := by
  obtain ⟨ns, a, r, rfl, ha, ha2, hr⟩ := hc
  have ha2 : a ≤ 1000000 := by omega
  have kk : k < 1073741824 := by omega
  have md : ∀ x : Int, 0 ≤ x % k ∧ x % k < k := fun x => ⟨Int.emod_nonneg x (by omega), Int.emod_lt_of_pos x hk⟩
  have m1 : -18446744073709551616 < a ∧ a < 18446744073709551616 := by omega
  have m2 : -18446744073709551616 < 2 * a + 13 ∧ 2 * a + 13 < 18446744073709551616 := by omega
  have b1 := fun c => wZm (c := c) ha ha2
  have b2 := fun x => xVn (x := x) ha ha2
  have hE : ∀ x r', 0 ≤ r' → E (.d (.int (x % k))) ⟨[], .lst [.list (ns.map .int), .int (a + 1), .int r'] :: cs⟩ := fun x r' q => h _ _ (md x).1 (md x).2 ⟨ns, a + 1, r', rfl, by omega, by omega, q⟩
  have hE0 : ∀ x r', 0 ≤ r' → E (.d (.int (x % k))) ⟨[], .lst [.list (ns.map .int), .int a, .int r'] :: cs⟩ := fun x r' q => h _ _ (md x).1 (md x).2 ⟨ns, a, r', rfl, by omega, by omega, q⟩
  have dv : ∀ x : Int, 0 ≤ x → 0 ≤ x / k := fun x q => Int.ediv_nonneg q (by omega)
  unfold zZu
  rw [zYe]
  unfold yQo wYq zXq
  by_cases h0 : 0 < r
  · simp [ixN, h0, hk, kk, Int.not_le.mpr h0]
    exact hE0 _ _ (dv r hr)
  · have h0' : r ≤ 0 := by omega
    cases ns with
    | nil =>
      simp [ixN, h0, h0', hk, kk, m1, m2, b1, b2]
      have l : 0 ≤ a := ha
      have hl : ¬ a < 0 := by omega
      simp [l, hl]
      exact hE _ _ hr
    | cons n0 ns =>
      have hlen : 0 < ((n0 :: ns).length : Int) := by simp only [List.length_cons]; omega
      have hc : ∃ c, atI (n0 :: ns) (a % ((n0 :: ns).length : Int)) = some c := by
        have q1 := Int.emod_nonneg a (show ((n0 :: ns).length : Int) ≠ 0 by omega)
        have q2 := Int.emod_lt_of_pos a hlen
        rw [xHd q1]
        exact ⟨_, List.getElem?_eq_getElem (by omega)⟩
      obtain ⟨c, hc⟩ := hc
      generalize (n0 :: ns) = ms at *
      have nn : ms ≠ [] := by
        intro e
        subst e
        simp at hlen
      have nn2 : 0 < ms.length := by omega
      simp [ixN, h0, h0', hk, kk, m1, m2, b1, b2, nn, nn2, wZn, hc]
      repeat' first | (refine And.intro ?_ ?_) | intro _
      all_goals first
        | exact hE _ _ hr
        | (refine hE _ _ (dv _ ?_); omega)
        | omega
theorem xK6 {X : Exn → Mem → Prop} {n : Nat} {c : Ob} {k : Int} {E : EV → Mem → Prop} (hc : Pen (n + 1) c) (hk : 0 < k) (hk2 : k < 1000000)
    (h : ∀ v c', 0 ≤ v → v < k → Pen n c' → E (.d (.int v)) ⟨[], [c']⟩) : W (zZu [.cell 0, .d (.int k)]) ⟨[], [c]⟩ X E := zHx hc hk hk2 h
theorem wYp {X : Exn → Mem → Prop} {ns : List Int} {E : EV → Mem → Prop} (h : ∀ o, Pen 1000000 o → E (.new o) ⟨[], []⟩) : W (zHv [.d (yUn ns)]) ⟨[], []⟩ X E := by
  unfold zHv
  rw [zYe]
  unfold yZ3 zXq yUn
  have e : cutD (ns.map PyData.int) none (some 63) = (ns.take 63).map PyData.int := xUw (k := 63)
  simp [e]
  exact h _ ⟨ns.take 63, 0, 0, by unfold wYq; rw [List.map_take], by omega, by omega, by omega⟩
end Ev

namespace Ev
open PySem PySem.Spec PyProof.Rows L2
theorem yKz : ∀ l : List Str, (l.map PyData.str).all zGy = true
  | [] => rfl
  | n :: ns => by rw [List.map_cons, List.all_cons, yKz ns]; rfl
theorem xXm {a : Str} : ∀ l : List Str, ((l.map PyData.str).any fun z => PyData.eqv z (.str a)) = decide (a ∈ l)
  | [] => by simp
  | n :: ns => by
    rw [List.map_cons, List.any_cons, xXm ns]
    by_cases h : n = a
    · subst h
      simp [PyData.eqv]
    · have h2 : ¬ a = n := fun e => h e.symm
      simp [PyData.eqv, h, h2]
theorem xZ1 {a : Str} (l : List Str) : inQ (.str a) (l.map .str) = some (decide (a ∈ l)) := by
  unfold inQ
  rw [yKz, xXm]
  rfl
theorem xG5 {a : Str} (l : List Str) : zKu .In (.str a) (.tuple (l.map .str)) = some (decide (a ∈ l)) := xZ1 l
def yK7 : List Str := ["white", "grey", "black"]
def xJv : List Str := ["load", "old", "new", "source"]
def zHb : List Str := ["once", "again"]
def xJ8 (l : List Str) : PyData → Bool
  | .str a => decide (a ∈ l)
  | _ => false
theorem wJu {a : Str} : zKu .In (.str a) (.tuple [.str "white", .str "grey", .str "black"]) = some (decide (a ∈ yK7)) := xG5 yK7
theorem wJt {a : Str} : zKu .In (.str a) (.tuple [.str "load", .str "old", .str "new", .str "source"]) = some (decide (a ∈ xJv)) := xG5 xJv
def xXg : PyData → Bool
  | .tuple [.str a, b] => decide (a ∈ xJv) && xJ8 yK7 b
  | _ => false
theorem yW8 {X : Exn → Mem → Prop} {d : PyData} {cs : List Ob} {E : EV → Mem → Prop} (hk : zVk d = true) (h : E (.d (.bool (xJ8 yK7 d))) ⟨[], cs⟩) : W (zU8 [.d d]) ⟨[], cs⟩ X E := by
  unfold zU8
  rw [zYe]
  unfold yZ2 zXq
  cases d with
  | str a =>
    simp [-Bool.exists_bool, wJu]
    exact h
  | dict es =>
    simp only [yUl] at hk
    simp [-Bool.exists_bool, hk]
    exact h
  | _ =>
    simp [-Bool.exists_bool]
    exact h
theorem xUt {xs : List PyData} (h : xs.length ≠ 2) : xXg (.tuple xs) = false := by
  unfold xXg
  split
  · rename_i e
    cases e
    simp at h
  · rfl
theorem yW7 {X : Exn → Mem → Prop} {d : PyData} {cs : List Ob} {E : EV → Mem → Prop} (hk : Kin d) (h : E (.d (.bool (xXg d))) ⟨[], cs⟩) : W (zU7 [.d d]) ⟨[], cs⟩ X E := by
  unfold zU7
  rw [zYe]
  unfold yZ1 zXq
  have kd := hk.k
  cases d with
  | tuple xs =>
    by_cases hl : xs.length = 2
    · obtain ⟨x, y, rfl⟩ : ∃ x y, xs = [x, y] := by
        match xs, hl with
        | [x, y], _ => exact ⟨x, y, rfl⟩
      have kx := hk.i _ x rfl (by simp)
      have ky := hk.i _ y rfl (by simp)
      cases x with
      | str a =>
        simp [-Bool.exists_bool, wJt]
        have e : xXg (.tuple [.str a, y]) = (decide (a ∈ xJv) && xJ8 yK7 y) := rfl
        rw [e] at h
        refine ⟨fun ha => yW8 ky ?_, fun ha => ?_⟩
        · rw [decide_eq_true ha, Bool.true_and] at h
          simpa using h
        · rw [decide_eq_false ha, Bool.false_and] at h
          rw [decide_eq_false ha]
          exact h
      | dict es =>
        simp only [yUl] at kx
        simp [-Bool.exists_bool, kx]
        exact h
      | _ =>
        simp [-Bool.exists_bool]
        exact h
    · rw [xUt hl] at h
      have hl2 : ¬ (xs.length : Int) = 2 := by omega
      simp [-Bool.exists_bool, hl2, h]
  | dict es =>
    simp only [yUl] at kd
    simp [-Bool.exists_bool, kd]
    exact h
  | _ =>
    simp [-Bool.exists_bool]
    exact h
def zXb : List PyData := xJv.flatMap fun k => yK7.map fun c => .tuple [.str k, .str c]
end Ev

namespace Ev
open PySem PySem.Spec PyProof.Rows L2
def vZp : PyData → PyData
  | .tuple [_, x] => x
  | d => d
def vJg : PyData → PyData
  | .tuple [x, _] => x
  | d => d
def wrB (d : PyData) : Bool := !xXg (vZp d)
def xQs (j : Nat) (xs : List PyData) : List PyData := xs.mapIdx fun i x => .tuple [.int (j + i : Nat), x]
theorem wZc {xs : List PyData} : yVf xs = xQs 0 xs := by
  unfold yVf xQs
  simp
theorem yJ1 {j : Nat} {x : PyData} {xs : List PyData} : xQs j (x :: xs) = .tuple [.int (j : Nat), x] :: xQs (j + 1) xs := by
  unfold xQs
  rw [List.mapIdx_cons]
  have e : (fun (i : Nat) (y : PyData) => PyData.tuple [.int (j + (i + 1) : Nat), y]) = fun (i : Nat) (y : PyData) => PyData.tuple [.int (j + 1 + i : Nat), y] := by
    funext i y
    rw [show j + (i + 1) = j + 1 + i by omega]
  simp only [Nat.add_zero]
  rw [e]
def wrF (j : Nat) (xs : List PyData) : List PyData := ((xQs j xs).filter wrB).map vJg
theorem yYl {j : Nat} {x : PyData} {xs : List PyData} : wrF j (x :: xs) = if xXg x then wrF (j + 1) xs else .int (j : Nat) :: wrF (j + 1) xs := by
  unfold wrF
  rw [yJ1, List.filter_cons]
  have e : wrB (.tuple [.int (j : Nat), x]) = !xXg x := rfl
  rw [e]
  cases xXg x <;> rfl
theorem xJ1 : ∀ {xs : List PyData} {j : Nat}, wrF j xs = [] → ∀ x, x ∈ xs → xXg x = true
  | [], _, _, x, h => by cases h
  | y :: ys, j, e, x, h => by
    rw [yYl] at e
    cases q : xXg y with
    | false =>
      rw [q] at e
      simp at e
    | true =>
      rw [q] at e
      rcases List.mem_cons.mp h with rfl | h
      · exact q
      · exact xJ1 e x h
theorem wZe {d : PyData} (h : xXg d = true) : d.canLay0 = true := by
  unfold xXg at h
  split at h
  · rename_i a b
    rw [Bool.and_eq_true] at h
    cases b with
    | str b =>
      have h1 : ∀ s, s ∈ xJv → PyData.strOk s = true := by decide +kernel
      have h2 : ∀ s, s ∈ yK7 → PyData.strOk s = true := by decide +kernel
      simp [PyData.canLay0, PyData.canLayAll0, h1 a (of_decide_eq_true h.1), h2 b (of_decide_eq_true h.2)]
    | _ => exact absurd h.2 (by simp [xJ8])
  · cases h
theorem xXi : ∀ {xs : List PyData}, (∀ x, x ∈ xs → x.canLay0 = true) → PyData.canLayAll0 xs = true
  | [], _ => rfl
  | x :: xs, h => by
    simp only [PyData.canLayAll0, Bool.and_eq_true]
    exact ⟨h x (List.mem_cons_self ..), xXi fun y hy => h y (List.mem_cons_of_mem _ hy)⟩
theorem wZd : ∀ d, d ∈ zXb → SeqAt.shaped d = true := by decide +kernel
def inB (xs : List PyData) (d : PyData) : Bool := xs.any fun z => PyData.eqv z d
theorem xZ0 {xs : List PyData} (h : wrF 0 xs = []) {d : PyData} (hd : d ∈ zXb) : inQ d xs = some (inB xs d) := by
  unfold inQ
  rw [wZd d hd, xXi fun x hx => wZe (xJ1 h x hx)]
  simp [inB]
def zGz (xs : List PyData) : List PyData := zXb.filter (inB xs)
theorem xZw {X : Exn → Mem → Prop} {xs : List PyData} {cs : List Ob} {E : EV → Mem → Prop} (hw : wrF 0 xs = []) (h : E (.d (.tuple (zGz xs))) ⟨[], cs⟩) : W (yQ3 [.d (.tuple xs)]) ⟨[], cs⟩ X E := by
  unfold yQ3
  rw [zYe]
  unfold yV9 zXq
  simp [-Bool.exists_bool]
  have e : (zYd : PyData) = .tuple zXb := rfl
  refine xWr (ds := zXb) (inB xs) (fun d => d) (by decide) (fun d hd => ?_) ?_
  · have q : zKu .In d (.tuple xs) = some (inB xs d) := xZ0 hw hd
    simp [-Bool.exists_bool, q, zKo]
  · simp [-Bool.exists_bool]
    exact h
theorem xYi {X : Exn → Mem → Prop} {xs : List PyData} {cs : List Ob} {E : EV → Mem → Prop} (hk : ∀ x, x ∈ xs → Kin x) (h1 : wrF 0 xs = [] → E (.d (.tuple (zGz xs))) ⟨[], cs⟩)
    (h2 : ∀ i, (wrF 0 xs).head? = some (.int i) → X ⟨"InvalidEntry", [("index", .int i)]⟩ ⟨[], cs⟩) : W (zKi [.d (.tuple xs)]) ⟨[], cs⟩ X E := by
  unfold zKi
  rw [zYe]
  unfold zYl zXq
  refine zHz (fun m => wrF 0 xs = [] ∧ ∃ v1 v2, m = ⟨[some (.d (.tuple xs)), v1, v2], cs⟩) ?_ ?_
  · simp [-Bool.exists_bool]
    refine xXo (fun ds m => ∃ j ys, ds = xQs j ys ∧ wrF 0 xs = wrF j ys ∧ (∀ y, y ∈ ys → y ∈ xs) ∧ ∃ v1 v2, m = ⟨[some (.d (.tuple xs)), v1, v2], cs⟩) ⟨0, xs, wZc, rfl, fun _ h => h, _, _, rfl⟩ ?_ ?_
    · rintro d ds m ⟨j, ys, e1, e2, hm, v1, v2, rfl⟩
      cases ys with
      | nil => cases e1
      | cons y ys =>
        rw [yJ1] at e1
        cases e1
        rw [yYl] at e2
        simp [-Bool.exists_bool, zZg, zV7]
        refine yW7 (hk y (hm y (List.mem_cons_self ..))) ?_
        simp [-Bool.exists_bool]
        refine ⟨fun hn => ?_, fun hy => ?_⟩
        · rw [hn] at e2
          refine h2 _ ?_
          rw [e2]
          rfl
        · rw [hy, if_pos rfl] at e2
          exact ⟨j + 1, ys, rfl, e2, fun z hz => hm z (List.mem_cons_of_mem _ hz)⟩
    · rintro m ⟨j, ys, e1, e2, hm, v1, v2, rfl⟩
      cases ys with
      | nil => exact ⟨e2, v1, v2, rfl⟩
      | cons y ys =>
        rw [yJ1] at e1
        cases e1
  · rintro m ⟨hw, v1, v2, rfl⟩
    simp [-Bool.exists_bool]
    refine xZw hw ?_
    simpa using h1 hw
end Ev

namespace Ev
open PySem PySem.Spec PyProof.Rows L2
theorem vZ1 {c : Str} {h : Fn} {args : List AV} {cs : List Ob} {X : Exn → Mem → Prop} {E : EV → Mem → Prop}
    (hh : W (h (.cell cs.length :: args)) ⟨[], cs ++ [.ins c []]⟩ (fun _ _ => False) fun v m' => v = .d .none ∧ ∃ o, m'.cs = cs ++ [o] ∧ E (.new o) ⟨[], cs⟩) : W (mkF c h args) ⟨[], cs⟩ X E := by
  have q := hh.go
  refine ⟨?_⟩
  unfold mkF
  show (match h (.cell cs.length :: args) ⟨[], cs ++ [.ins c []]⟩ with
    | .ok (.d .none) m' => if m'.cs.length = cs.length + 1 then (match m'.cs[cs.length]? with
      | some o => .ok (.new o) ⟨[], m'.cs.take cs.length⟩
      | none => .bad) else .bad
    | .thr x m' => if m'.cs.length = cs.length + 1 then .thr x ⟨[], m'.cs.take cs.length⟩ else .bad
    | _ => .bad : Res EV).wp E X
  generalize h (.cell cs.length :: args) ⟨[], cs ++ [.ins c []]⟩ = r at q ⊢
  cases r with
  | bad => exact q
  | thr x m => exact q.elim
  | ok v m =>
    obtain ⟨rfl, o, e, z⟩ := q
    simp [e]
    exact z
def xYc (es : List PyData) (f r : Str) : List (Str × PyData) := [("kept", .tuple es), ("kept_fresh", .str f), ("kept_roots", .str r)]
def yH0 (es : List PyData) (f r : Str) : Ob := .ins "Table" (xYc es f r)
def yZq (es : List PyData) (f r : Str) : PyData := yJx "Table" (xYc es f r)
def zH9 (xs : List PyData) : Prop := ∀ x, x ∈ xs → x ∈ zXb
theorem xXf : ∀ d, d ∈ zXb → xXg d = true := by decide +kernel
theorem zH9.wr : ∀ {xs : List PyData} {j : Nat}, zH9 xs → wrF j xs = []
  | [], _, _ => rfl
  | x :: xs, j, h => by
    rw [yYl, xXf x (h x (List.mem_cons_self ..)), if_pos rfl]
    exact zH9.wr fun y hy => h y (List.mem_cons_of_mem _ hy)
theorem yGp {xs : List PyData} (h : xs.length ≤ 1000) : xYu (dAV xs) = some xs := by
  unfold xYu
  rw [yYg]
  have e : yKp xs = true := by simp [yKp]; omega
  simp [e]
theorem xX9 {r : Str} (hr : r ∈ zHb) : zKu .NotIn (.str r) (.tuple [.str "once", .str "again"]) = some false := by
  have e : inQ (.str r) [.str "once", .str "again"] = some (decide (r ∈ zHb)) := xZ1 zHb
  show (inQ (.str r) [.str "once", .str "again"]).map (!·) = _
  rw [e, decide_eq_true hr]
  rfl
theorem wJs {X : Exn → Mem → Prop} {xs : List PyData} {f r : Str} {cs : List Ob} {E : EV → Mem → Prop} (hx : zH9 xs) (hl : xs.length ≤ 1000) (hk : ∀ x, x ∈ xs → Kin x) (hf : f ∈ yK7) (hr : r ∈ zHb)
    (h : E (.d .none) ⟨[], cs ++ [yH0 (zGz xs) f r]⟩) : W (zXd [.cell cs.length, .d (.str f), .d (.str r), .d (.tuple xs)]) ⟨[], cs ++ [.ins "Table" []]⟩ X E := by
  unfold zXd
  rw [zYe]
  unfold zYm zXq
  have e0 : pick [] (dAV []) = [] := rfl
  simp [-Bool.exists_bool, pS, e0]
  refine ⟨xs, yGp hl, ?_⟩
  refine xYi hk (fun _ => ?_) (fun i hi => ?_)
  · simp [-Bool.exists_bool, wK3, putD]
    refine yW8 rfl ?_
    have n1 : ("ROOTS" : Str) ≠ "kept" := by decide
    have n2 : ("kept" : Str) ≠ "kept_fresh" := by decide
    have n3 : ("kept" : Str) ≠ "kept_roots" := by decide
    have n4 : ("kept_fresh" : Str) ≠ "kept_roots" := by decide
    have nr : zKu .NotIn (.str r) (.tuple [.str "once", .str "again"]) = some false := xX9 hr
    have nf : yVr "ROOTS" (zXt []) = none := rfl
    simp [-Bool.exists_bool, xJ8, hf, n1, n2, n3, n4, nr, nf, putD]
    exact h
  · rw [hx.wr] at hi
    cases hi
abbrev wY2 : Fn := mkF "Table" (pS true 1 2 4 [0, 1, 2] [] zXd)
theorem xY6 {X : Exn → Mem → Prop} {xs : List PyData} {f r : Str} {cs : List Ob} {E : EV → Mem → Prop} (hx : zH9 xs) (hl : xs.length ≤ 1000) (hk : ∀ x, x ∈ xs → Kin x) (hf : f ∈ yK7) (hr : r ∈ zHb)
    (h : E (.new (yH0 (zGz xs) f r)) ⟨[], cs⟩) : W (wY2 (dAV xs ++ [.d (.str f), .d (.str r)])) ⟨[], cs⟩ X E := by
  refine vZ1 ?_
  unfold pS
  have l0 : (dAV xs).length = xs.length := by simp [dAV]
  have t : ((AV.cell cs.length :: (dAV xs ++ [.d (.str f), .d (.str r)])).take ((AV.cell cs.length :: (dAV xs ++ [.d (.str f), .d (.str r)])).length - 2)) = AV.cell cs.length :: dAV xs := by
    have e : (AV.cell cs.length :: (dAV xs ++ [.d (.str f), .d (.str r)])).length - 2 = (AV.cell cs.length :: dAV xs).length := by simp
    rw [e, ← List.cons_append, List.take_left']
    rfl
  have d : ((AV.cell cs.length :: (dAV xs ++ [.d (.str f), .d (.str r)])).drop ((AV.cell cs.length :: (dAV xs ++ [.d (.str f), .d (.str r)])).length - 2)) = [.d (.str f), .d (.str r)] := by
    have e : (AV.cell cs.length :: (dAV xs ++ [.d (.str f), .d (.str r)])).length - 2 = (AV.cell cs.length :: dAV xs).length := by simp
    rw [e, ← List.cons_append, List.drop_left']
    rfl
  rw [t, d]
  have p : pick [0, 1, 2] ((AV.cell cs.length :: dAV xs).take 1 ++ [.d (.str f), .d (.str r)] ++ dAV []) = [.cell cs.length, .d (.str f), .d (.str r)] := rfl
  rw [p]
  rw [if_pos ⟨by simp, .inl rfl, by simp, rfl⟩]
  simp [-Bool.exists_bool]
  refine ⟨xs, yGp hl, ?_⟩
  exact wJs hx hl hk hf hr ⟨rfl, _, rfl, h⟩
theorem wH8 {es : List PyData} {f r : Str} : yVr "kept_fresh" (zXt (xYc es f r)) = some (.str f) := rfl
theorem wH7 {es : List PyData} {f r : Str} : yVr "kept_roots" (zXt (xYc es f r)) = some (.str r) := rfl
theorem wUb {es : List PyData} {f r : Str} : yVr "kept" (zXt (xYc es f r)) = some (.tuple es) := rfl
theorem zY2 {es : List PyData} {f r : Str} : yJf (yZq es f r) = some (("Table" : Str), zXt (xYc es f r)) := rfl
theorem wZg {X : Exn → Mem → Prop} {f r : Str} {cs : List Ob} {E : EV → Mem → Prop} (hf : f ∈ yK7) (hr : r ∈ zHb) (h : E (.new (yH0 [] f r)) ⟨[], cs⟩) : W (zVz [.d (xUy "Table"), .d (.str f), .d (.str r)]) ⟨[], cs⟩ X E := by
  unfold zVz
  rw [zYe]
  unfold zGt zXq
  simp [-Bool.exists_bool]
  refine xY6 (xs := []) (fun _ h => by cases h) (by simp) (fun _ h => by cases h) hf hr ?_
  simp [-Bool.exists_bool]
  exact h
theorem xQn {X : Exn → Mem → Prop} {es es' : List PyData} {f r f' r' : Str} {cs : List Ob} {E : EV → Mem → Prop} (h : E (.d (.bool (decide (f = f') && decide (r = r')))) ⟨[], cs⟩) : W (zV6 [.d (yZq es f r), .d (yZq es' f' r')]) ⟨[], cs⟩ X E := by
  unfold zV6
  rw [zYe]
  unfold zWe zXq
  simp [-Bool.exists_bool, zY2, wH8, wH7]
  refine ⟨fun e => ?_, fun e => ?_⟩
  · rw [decide_eq_true e, Bool.true_and] at h
    exact h
  · rw [decide_eq_false e, Bool.false_and] at h
    rw [decide_eq_false e]
    exact h
theorem yUb {X : Exn → Mem → Prop} {es es' : List PyData} {f r f' r' : Str} {cs : List Ob} {E : EV → Mem → Prop} (h : f = f' ∧ r = r' → E (.d .none) ⟨[], cs⟩) (hx : ¬ (f = f' ∧ r = r') → X ⟨"Mismatch", []⟩ ⟨[], cs⟩) : W (zX5 [.d (yZq es f r), .d (yZq es' f' r')]) ⟨[], cs⟩ X E := by
  unfold zX5
  rw [zYe]
  unfold zKj zXq
  have n : yVr "is_beside" (zXt (xYc es f r)) = none := rfl
  simp [-Bool.exists_bool, zY2, n, pD]
  refine ⟨fun _ => ?_, rfl⟩
  have p : pick [0, 1] (AV.d (yZq es f r) :: AV.d (yZq es' f' r') :: dAV []) = [.d (yZq es f r), .d (yZq es' f' r')] := rfl
  rw [p]
  refine xQn ?_
  simp [-Bool.exists_bool]
  refine ⟨fun q => hx ?_, fun a b => h ⟨a, b⟩⟩
  rintro ⟨a, b⟩
  exact absurd b (q a)
theorem wXh {X : Exn → Mem → Prop} {es xs : List PyData} {f r : Str} {cs : List Ob} {E : EV → Mem → Prop} (hx : zH9 xs) (hl : xs.length ≤ 1000) (hk : ∀ x, x ∈ xs → Kin x) (hf : f ∈ yK7) (hr : r ∈ zHb)
    (h : E (.new (yH0 (zGz xs) f r)) ⟨[], cs⟩) : W (zXx [.d (yZq es f r), .d (.tuple xs)]) ⟨[], cs⟩ X E := by
  unfold zXx
  rw [zYe]
  unfold zV8 zXq
  simp [-Bool.exists_bool, zY2, wH8, wH7, yZk]
  exact xY6 hx hl hk hf hr h
theorem yQz {xs : List PyData} : zH9 (zGz xs) := fun x h => (List.mem_filter.mp h).1
theorem yUi {xs : List PyData} : (zGz xs).length ≤ 12 := Nat.le_trans (List.length_filter_le ..) (by decide)
theorem vZz {X : Exn → Mem → Prop} {es es' : List PyData} {f r f' r' : Str} {cs : List Ob} {E : EV → Mem → Prop} (hx : zH9 (es ++ es')) (hl : (es ++ es').length ≤ 1000) (hk : ∀ x, x ∈ zXb → Kin x) (hf : f ∈ yK7) (hr : r ∈ zHb)
    (h : f = f' ∧ r = r' → E (.new (yH0 (zGz (zGz (es ++ es'))) f r)) ⟨[], cs⟩) (hn : ¬ (f = f' ∧ r = r') → X ⟨"Mismatch", []⟩ ⟨[], cs⟩) : W (zJi [.d (yZq es f r), .d (yZq es' f' r')]) ⟨[], cs⟩ X E := by
  unfold zJi
  rw [zYe]
  unfold zU1 zXq
  have n1 : yVr "need_beside" (zXt (xYc es f r)) = none := rfl
  have n2 : yVr "with_entries" (zXt (xYc es f r)) = none := rfl
  have p : pick [0, 1] (AV.d (yZq es f r) :: AV.d (yZq es' f' r') :: dAV []) = [.d (yZq es f r), .d (yZq es' f' r')] := rfl
  simp [-Bool.exists_bool, zY2, n1, pD, p]
  refine yUb (fun q => ?_) hn
  simp [-Bool.exists_bool, zY2, n2, wUb]
  refine ⟨by simp at hl; omega, xZw hx.wr ?_⟩
  simp [-Bool.exists_bool]
  refine ⟨fun _ => ?_, rfl⟩
  have p2 : pick [0, 1] (AV.d (yZq es f r) :: AV.d (.tuple (zGz (es ++ es'))) :: dAV []) = [.d (yZq es f r), .d (.tuple (zGz (es ++ es')))] := rfl
  rw [p2]
  exact wXh yQz (Nat.le_trans yUi (by decide)) (fun x h => hk x (yQz x h)) hf hr (h q)
theorem wQ3 {es : List PyData} (h : zH9 es) {d : PyData} (hd : d ∈ zXb) : zKu .In d (.tuple es) = some (inB es d) := xZ0 h.wr hd
end Ev

namespace Ev
open PySem PySem.Spec PyProof.Rows L2
theorem pD2 {g : Fn} {a b : AV} : pD 2 0 2 [0, 1] [] g [a, b] = g [a, b] := rfl
def xHf (es : List PyData) (x : PyData) : List PyData := zGz (zGz (es ++ zGz [x]))
end Ev

namespace Ev
open PySem PySem.Spec PyProof.Rows L2
theorem inL {es : List PyData} (h : zH9 es) {d : PyData} (hd : d ∈ zXb) : zKu .In d (.list es) = some (inB es d) := xZ0 h.wr hd
theorem wJi {es : List PyData} (h : zH9 es) {d : PyData} (hd : d ∈ zXb) : zKu .NotIn d (.list es) = some (!inB es d) := by
  show (inQ d es).map (!·) = _
  rw [xZ0 h.wr hd]
  rfl
theorem yUp {xs ys : List PyData} {d : PyData} : inB (xs ++ ys) d = (inB xs d || inB ys d) := by simp [inB]
theorem yJu {xs ys : List PyData} (h : ∀ d, d ∈ zXb → inB xs d = inB ys d) : zGz xs = zGz ys := List.filter_congr h
theorem xZh : ∀ d, d ∈ zXb → PyData.eqv d d = true := by decide +kernel
theorem wZb : ∀ z, z ∈ zXb → ∀ d, d ∈ zXb → PyData.eqv z d = true → z = d := by
  intro z hz d hd
  simp only [zXb, xJv, yK7, List.flatMap_cons, List.flatMap_nil, List.map_cons, List.map_nil, List.cons_append, List.nil_append, List.append_nil, List.mem_cons, List.not_mem_nil, or_false] at hz hd
  rcases hz with rfl | rfl | rfl | rfl | rfl | rfl | rfl | rfl | rfl | rfl | rfl | rfl <;> rcases hd with rfl | rfl | rfl | rfl | rfl | rfl | rfl | rfl | rfl | rfl | rfl | rfl <;> first | exact fun _ => rfl | exact fun h => absurd h (by decide +kernel)
theorem xKu {xs : List PyData} (h : zH9 xs) {d : PyData} (hd : d ∈ zXb) : inB xs d = true ↔ d ∈ xs := by
  unfold inB
  rw [List.any_eq_true]
  constructor
  · rintro ⟨z, hz, e⟩
    rw [← wZb z (h z hz) d hd e]
    exact hz
  · exact fun hm => ⟨d, hm, xZh d hd⟩
theorem zHt {xs : List PyData} {d : PyData} (hd : d ∈ zXb) : inB (zGz xs) d = inB xs d := by
  rw [Bool.eq_iff_iff, xKu yQz hd, zGz, List.mem_filter]
  exact ⟨fun h => h.2, fun h => ⟨hd, h⟩⟩
theorem xKj {xs : List PyData} : zGz (zGz xs) = zGz xs := yJu fun d hd => zHt hd
theorem wZq {es : List PyData} {x : PyData} : xHf es x = zGz (es ++ [x]) := by
  unfold xHf
  rw [xKj]
  exact yJu fun d hd => by rw [yUp, yUp, zHt hd]
theorem yHt : ∀ {xs pre : List PyData}, xs.foldl xHf (zGz pre) = zGz (pre ++ xs)
  | [], pre => by rw [List.append_nil]; rfl
  | x :: xs, pre => by
    have e : xHf (zGz pre) x = zGz (pre ++ [x]) := by
      rw [wZq]
      exact yJu fun d hd => by rw [yUp, yUp, zHt hd]
    rw [List.foldl_cons, e, yHt, List.append_assoc]
    rfl
theorem wQy {xs : List PyData} : xs.foldl xHf [] = zGz xs := yHt (pre := [])
theorem yJi : ∀ {l xs : List PyData}, l.Nodup → xs.Sublist l → ∀ p : PyData → Bool, (∀ d, d ∈ l → (p d = true ↔ d ∈ xs)) → l.filter p = xs
  | [], xs, _, h, p, _ => by cases h; rfl
  | a :: l, xs, hn, h, p, hp => by
    have hn := List.nodup_cons.mp hn
    cases h with
    | cons _ h =>
      have na : p a = false := by
        cases q : p a with
        | false => rfl
        | true => exact absurd (h.subset ((hp a (List.mem_cons_self ..)).mp q)) hn.1
      rw [List.filter_cons, na, if_neg (by simp)]
      exact yJi hn.2 h p fun d hd => hp d (List.mem_cons_of_mem _ hd)
    | cons_cons _ h =>
      rw [List.filter_cons, (hp a (List.mem_cons_self ..)).mpr (List.mem_cons_self ..), if_pos rfl]
      rw [yJi hn.2 h p fun d hd => ?_]
      rw [hp d (List.mem_cons_of_mem _ hd), List.mem_cons]
      constructor
      · rintro (rfl | z)
        · exact absurd hd hn.1
        · exact z
      · exact .inr
theorem xUr : zXb.Pairwise fun a b => PyData.eqv a b = false := by
  simp only [zXb, xJv, yK7, List.flatMap_cons, List.flatMap_nil, List.map_cons, List.map_nil, List.cons_append, List.nil_append, List.append_nil]
  decide +kernel
theorem xJl : zXb.Nodup := by
  refine List.Pairwise.imp_of_mem (fun {a b} ha hb h e => ?_) xUr
  subst e
  rw [xZh a ha] at h
  cases h
theorem xYd {xs : List PyData} (h : xs.Sublist zXb) : zGz xs = xs := yJi xJl h _ fun d hd => xKu (fun x hx => h.subset hx) hd

theorem xUs : ∀ d, d ∈ zXb → Fit 2 60 d := by
  intro d hd
  simp only [zXb, xJv, yK7, List.flatMap_cons, List.flatMap_nil, List.map_cons, List.map_nil, List.cons_append, List.nil_append, List.append_nil, List.mem_cons, List.not_mem_nil, or_false] at hd
  rcases hd with rfl | rfl | rfl | rfl | rfl | rfl | rfl | rfl | rfl | rfl | rfl | rfl
  all_goals exact ⟨by decide +kernel, by decide +kernel, by decide +kernel, by decide +kernel⟩
theorem yJc : ∀ d, d ∈ zXb → Kin d := fun d hd => (xUs d hd).kin
theorem xYe {xs : List PyData} (h : xs.Sublist zXb) : zH9 xs := fun _ hx => h.subset hx
theorem yZa {xs : List PyData} {f r : Str} : dOf (yH0 xs f r) = yZq xs f r := rfl
end Ev

namespace Ev
open PySem PySem.Spec PyProof.Rows L2
def en (a b : Str) : PyData := .tuple [.str a, .str b]
end Ev

namespace Ev
open PySem PySem.Spec PyProof.Rows L2
section
variable {es : List PyData} {f r : Str} {h : Fn} {y : PyData}
theorem xG4 : xZz .In y (yZq es f r) = true := rfl
theorem wX8 : wV2 .In [("Table", h)] y (yZq es f r) = some h := rfl
end
section
variable {X : Exn → Mem → Prop} {xs : List PyData} {f r : Str} {cs : List Ob} {E : EV → Mem → Prop} {d p : PyData}
theorem xWc (hx : xs.Sublist zXb) (hp : p ∈ zXb) (h : E (.d (.bool (inB xs p))) ⟨[], cs⟩) : W (zZ0 [.d (yZq xs f r), .d p]) ⟨[], cs⟩ X E := by
  unfold zZ0
  rw [zYe]
  unfold zV9 zXq
  simp [-Bool.exists_bool, zY2, wUb]
  refine yW7 (yJc p hp) ?_
  have q := wQ3 (xYe hx) hp
  have e : xXg p = true := xXf p hp
  simp [-Bool.exists_bool, e, zY2, wUb, q]
  exact h
end
end Ev

namespace Ev
open PySem PySem.Spec PyProof.Rows L2
theorem yGa {X : Exn → Mem → Prop} {m : Mem} {F : Fl → Mem → Prop} {t : Pg Bool} {e : Pg EV} {q : Pg Fl} (b : Bool) (ht : W t m noX fun k m' => k = b ∧ m' = m) (h1 : b = true → W (zZr e) m X F) (h2 : b = false → W q m X F) : W (zQ1 (zXr t (zZr e) (.ret .next)) q) m X F := by
  rw [wZs]
  unfold zXr
  rw [zZc]
  refine ht.no.mono ?_
  rintro k m' ⟨rfl, rfl⟩
  cases k with
  | false =>
    have := h2 rfl
    simpa using this
  | true =>
    have := h1 rfl
    rw [xWq] at this
    simp only [if_true]
    rw [xWq]
    exact this
theorem xXn {X : Exn → Mem → Prop} {m : Mem} {F : Fl → Mem → Prop} {f : Pg EV} {q : Pg Fl} {i : Nat} (d : PyData) (hf : W f m noX fun v m' => v = .d d ∧ m' = m) (h : W q ⟨m.sl.set i (some (.d d)), m.cs⟩ X F) : W (zQ1 (evSet i f) q) m X F := by
  rw [wZs, wZt]
  refine hf.no.mono ?_
  rintro v m' ⟨rfl, rfl⟩
  obtain ⟨sl, cs⟩ := m'
  simpa using h
end Ev

namespace Ev
open PySem PySem.Spec PyProof.Rows L2
structure Way where
  ne : List PyData
  ba : List PyData
  hu : List Str
  mo : List Str
section
variable {X : Exn → Mem → Prop} {xs : List PyData} {f r : Str} {cs : List Ob} {E : EV → Mem → Prop} {d p : PyData} {w : Way}
end
def zWs : List Str := ["whole", "fields"]
theorem enM {a b : Str} (ha : a ∈ xJv) (hb : b ∈ yK7) : en a b ∈ zXb := List.mem_flatMap.mpr ⟨a, ha, List.mem_map.mpr ⟨b, hb, rfl⟩⟩
section
variable {X : Exn → Mem → Prop} {xs : List PyData} {f r g sc : Str} {ring : Int} {cs : List Ob} {E : EV → Mem → Prop}
end
end Ev

namespace Ev
open PySem PySem.Spec PyProof.Rows L2
end Ev

namespace Ev
open PySem PySem.Spec PyProof.Rows L2
section
variable {X : Exn → Mem → Prop} {cs : List Ob} {E : EV → Mem → Prop}
end
end Ev

namespace Ev
open PySem PySem.Spec PyProof.Rows L2
def nD (n : Nat) : PyData := .int n
def oD : Option Nat → PyData
  | none => .none
  | some n => .int n
structure MS where
  w : Nat
  rows : List (List (Option Nat))
  held : List (Option Nat)
  paint : List Str
  seen : List (List Nat)
  ph : Str
structure MA where
  d : Nat
  ar : Nat
  ah : Nat
  ap : Nat
  as : Nat
  is : List Nat
def MA.all (a : MA) : List Nat := a.d :: a.ar :: a.ah :: a.ap :: a.as :: a.is
def mdE (a : MA) (w : Nat) (ph : Str) : List (PyData × PyData) := [(.str "wide", nD w), (.str "rows", yU2 a.ar), (.str "held", yU2 a.ah), (.str "paint", yU2 a.ap), (.str "seen", yU2 a.as), (.str "phase", .str ph)]
def wYf (r : List (Option Nat)) : Ob := .lst (r.map oD)
def wHz (l : List Nat) : PyData := .list (l.map nD)
def wW8 (l : List Nat) : PyData := .tuple (l.map nD)
def wXr (r : List (Option Nat)) : PyData := .tuple (r.map oD)
structure MAt (cs : List Ob) (a : MA) (s : MS) : Prop where
  pos : 0 ∉ a.all
  nd : a.all.Nodup
  dic : cs[a.d]? = some (.dic (mdE a s.w s.ph))
  rws : cs[a.ar]? = some (.lst (a.is.map yU2))
  hld : cs[a.ah]? = some (.lst (s.held.map oD))
  pnt : cs[a.ap]? = some (.lst (s.paint.map .str))
  sn : cs[a.as]? = some (.lst (s.seen.map wHz))
  len : a.is.length = s.rows.length
  row : ∀ (k i : Nat) (r : List (Option Nat)), a.is[k]? = some i → s.rows[k]? = some r → cs[i]? = some (wYf r)
section
variable {cs : List Ob} {a : MA} {s : MS}
theorem MA.ne {a : MA} (h : a.all.Nodup) : a.d ≠ a.ar ∧ a.d ≠ a.ah ∧ a.d ≠ a.ap ∧ a.d ≠ a.as ∧ a.ar ≠ a.ah ∧ a.ar ≠ a.ap ∧ a.ar ≠ a.as ∧ a.ah ≠ a.ap ∧ a.ah ≠ a.as ∧ a.ap ≠ a.as ∧
    ∀ i, i ∈ a.is → a.d ≠ i ∧ a.ar ≠ i ∧ a.ah ≠ i ∧ a.ap ≠ i ∧ a.as ≠ i := by
  simp only [MA.all, List.nodup_cons, List.mem_cons, not_or] at h
  obtain ⟨⟨a1, a2, a3, a4, a5⟩, ⟨b2, b3, b4, b5⟩, ⟨c3, c4, c5⟩, ⟨d4, d5⟩, e5, _⟩ := h
  exact ⟨a1, a2, a3, a4, b2, b3, b4, c3, c4, d4, fun i hi => ⟨fun z => a5 (z ▸ hi), fun z => b5 (z ▸ hi), fun z => c5 (z ▸ hi), fun z => d5 (z ▸ hi), fun z => e5 (z ▸ hi)⟩⟩
theorem xG6 {i : Nat} {o : Ob} (h : cs[i]? = some o) : i < cs.length := (List.getElem?_eq_some_iff.mp h).1
theorem zY9 {i j : Nat} {o p : Ob} (h : cs[i]? = some p) (n : j ≠ i) : (cs.set j o)[i]? = some p := by rw [List.getElem?_set_ne n]; exact h
theorem xGi {i : Nat} {o p : Ob} (h : cs[i]? = some p) : (cs.set i o)[i]? = some o := by rw [List.getElem?_set_self (xG6 h)]
theorem MAt.other (h : MAt cs a s) {j : Nat} {o : Ob} (hj : j ∉ a.all) : MAt (cs.set j o) a s := by
  have m : ∀ {i}, i ∈ a.all → j ≠ i := fun hi z => hj (z ▸ hi)
  exact ⟨h.pos, h.nd, zY9 h.dic (m (by simp [MA.all])), zY9 h.rws (m (by simp [MA.all])), zY9 h.hld (m (by simp [MA.all])), zY9 h.pnt (m (by simp [MA.all])), zY9 h.sn (m (by simp [MA.all])), h.len,
    fun k i r e1 e2 => zY9 (h.row k i r e1 e2) (m (by simp [MA.all, List.mem_of_getElem? e1]))⟩
theorem MAt.to {cs' : List Ob} (h : MAt cs a s) (g : ∀ i o, i ∈ a.all → cs[i]? = some o → cs'[i]? = some o) : MAt cs' a s :=
  ⟨h.pos, h.nd, g _ _ (by simp [MA.all]) h.dic, g _ _ (by simp [MA.all]) h.rws, g _ _ (by simp [MA.all]) h.hld, g _ _ (by simp [MA.all]) h.pnt, g _ _ (by simp [MA.all]) h.sn, h.len,
    fun k i r e1 e2 => g _ _ (by simp [MA.all, List.mem_of_getElem? e1]) (h.row k i r e1 e2)⟩
theorem MAt.app (h : MAt cs a s) (t : List Ob) : MAt (cs ++ t) a s := h.to fun i o _ e => by rw [List.getElem?_append_left (xG6 e)]; exact e
theorem MAt.pen {c c' : Ob} {R : List Ob} (h : MAt (c :: R) a s) : MAt (c' :: R) a s := h.other (o := c') h.pos
theorem MAt.nz (h : MAt cs a s) {i : Nat} (hi : i ∈ a.all) : i ≠ 0 := fun z => h.pos (z ▸ hi)
theorem MAt.wZw (h : MAt cs a s) (p : List Str) : MAt (cs.set a.ap (.lst (p.map .str))) a { s with paint := p } := by
  obtain ⟨a1, a2, a3, a4, b2, b3, b4, c3, c4, d4, f⟩ := MA.ne h.nd
  exact ⟨h.pos, h.nd, zY9 h.dic a3.symm, zY9 h.rws b3.symm, zY9 h.hld c3.symm, xGi h.pnt, zY9 h.sn d4, h.len, fun k i r e1 e2 => zY9 (h.row k i r e1 e2) (f i (List.mem_of_getElem? e1)).2.2.2.1⟩
theorem MAt.xH2 (h : MAt cs a s) (p : List (List Nat)) : MAt (cs.set a.as (.lst (p.map wHz))) a { s with seen := p } := by
  obtain ⟨a1, a2, a3, a4, b2, b3, b4, c3, c4, d4, f⟩ := MA.ne h.nd
  exact ⟨h.pos, h.nd, zY9 h.dic a4.symm, zY9 h.rws b4.symm, zY9 h.hld c4.symm, zY9 h.pnt d4.symm, xGi h.sn, h.len, fun k i r e1 e2 => zY9 (h.row k i r e1 e2) (f i (List.mem_of_getElem? e1)).2.2.2.2⟩
end
end Ev

namespace Ev
open PySem PySem.Spec PyProof.Rows L2
def xY7 (w : Nat) (rows : List (List (Option Nat))) : PyData := .tuple [nD w, .tuple (rows.map wXr)]
section
variable {X : Exn → Mem → Prop} {cs : List Ob} {E : EV → Mem → Prop}
structure MS.Small (s : MS) : Prop where
  rows : s.rows.length ≤ 1000
  seen : s.seen.length ≤ 1000
  held : s.held.length ≤ 1000
  paint : s.paint.length ≤ 1000
  row : ∀ r, r ∈ s.rows → r.length ≤ 1000
  sn : ∀ r, r ∈ s.seen → r.length ≤ 1000
end
end Ev

namespace Ev
open PySem PySem.Spec PyProof.Rows L2
inductive Act where
  | start
  | load (r s f : Nat)
  | store (s f : Nat) (t : Option Nat)
  | move (r t : Nat)
  | clear (r : Nat)
  | new (r : Nat)
  | scan (x : Nat)
  | scanf (x f : Nat)
  | look
  | fin
def zK8 : Act → PyData
  | .start => .tuple [.str "start"]
  | .load r s f => .tuple [.str "load", nD r, nD s, nD f]
  | .store s f t => .tuple [.str "store", nD s, nD f, oD t]
  | .move r t => .tuple [.str "move", nD r, nD t]
  | .clear r => .tuple [.str "clear", nD r]
  | .new r => .tuple [.str "new", nD r]
  | .scan x => .tuple [.str "scan", nD x]
  | .scanf x f => .tuple [.str "scan", nD x, nD f]
  | .look => .tuple [.str "look"]
  | .fin => .tuple [.str "end"]
def wJl (s : MS) : PyData := yJx "Moment" [("stage", .str s.ph), ("rows", .tuple (s.rows.map wXr)), ("held", .tuple (s.held.map oD)), ("paint", .tuple (s.paint.map .str)), ("seen", .tuple (s.seen.map wW8))]
structure CY where
  cls : Str
  w : Nat
  many : Nat
  first : List Nat
  rule : PyData
  m0 : MS
  st : List (Act × MS)
def ptD (d m : PyData) : PyData := .tuple [d, m]
def CY.now (y : CY) : MS := (y.st.getLast?.map (·.2)).getD y.m0
def CY.story (y : CY) : List PyData := ptD .none (wJl y.m0) :: y.st.map fun p => ptD (zK8 p.1) (wJl p.2)
def CY.ob (y : CY) : Ob := .ins y.cls [("wide", nD y.w), ("many", nD y.many), ("first", wW8 y.first), ("rule", y.rule), ("story", .list y.story)]
def CY.da (y : CY) : PyData := yJx y.cls [("wide", nD y.w), ("many", nD y.many), ("first", wW8 y.first), ("rule", y.rule), ("story", .list y.story)]
theorem CY.dOf {y : CY} : dOf y.ob = y.da := rfl
section
variable {w m f r s : PyData}
end
end Ev

namespace Ev
open PySem PySem.Spec PyProof.Rows L2
section
variable {X : Exn → Mem → Prop} {xs : List PyData} {f r g sc : Str} {ring : Int} {cs : List Ob} {E : EV → Mem → Prop} {w : Way}
end
end Ev

namespace Ev
open PySem PySem.Spec PyProof.Rows L2
structure RunS where
  w : Nat
  rows : List (List (Option Nat))
  held : List (Option Nat)
  acts : List Act
def RunS.d (u : RunS) : PyData := .tuple [xY7 u.w u.rows, .tuple (u.held.map oD), .tuple (u.acts.map zK8)]
def zK9 (x : Nat) (sc : Str) : Act := if sc = "whole" then .scan x else .scanf x 0
section
variable {X : Exn → Mem → Prop} {xs : List PyData} {f r sc : Str} {ring : Int} {cs : List Ob} {E : EV → Mem → Prop}
theorem zGb {α : Type} {p : Pg α} {m m' : Mem} {v : α} {X : Exn → Mem → Prop} {F : α → Mem → Prop} (e : p m = .ok v m') (h : F v m') : W p m X F := ⟨by rw [e]; exact h⟩
end
end Ev

namespace Ev
open PySem PySem.Spec PyProof.Rows L2
def nnL (ring : Int) (o : Option Nat) : List (Option Nat) := if ring = 1 then [o] else [o, none]
def zH7 (xs : List PyData) (ring : Int) (sc : Str) : RunS := if inB xs (en "old" "grey") = true then ⟨1, [[some 1], [some 2], [none]], nnL ring (some 0), [.start, .load 0 0 0, .store 0 0 none, zK9 0 sc, zK9 1 sc, .fin]⟩
  else ⟨1, [[some 1], [none]], nnL ring (some 0), [.start, .store 0 0 none, zK9 0 sc, .fin]⟩
section
variable {X : Exn → Mem → Prop} {xs : List PyData} {f r sc : Str} {ring : Int} {cs : List Ob} {E : EV → Mem → Prop}
theorem xX1 {x : Nat} (hs : sc ∈ zWs) : zG5 [.d (nD x), .d (.str sc)] ⟨[], cs⟩ = .ok (.d (zK8 (zK9 x sc))) ⟨[], cs⟩ := by
  simp only [zWs, List.mem_cons, List.not_mem_nil, or_false] at hs
  rcases hs with rfl | rfl <;> kernel_rfl
end
end Ev

namespace Ev
open PySem PySem.Spec PyProof.Rows L2
section
variable {es : List PyData} {f r : Str} {h : Fn} {y : PyData}
theorem wQ2 : xZz .NotIn y (yZq es f r) = true := rfl
theorem wYs : wV2 .NotIn [("Table", h)] y (yZq es f r) = some h := rfl
end
def zVh (xs : List PyData) : Nat := if inB xs (en "old" "grey") = false then 4 else if inB xs (en "old" "white") = true ∨ inB xs (en "load" "grey") = true then 0 else 6
section
variable {X : Exn → Mem → Prop} {xs : List PyData} {f r sc : Str} {ring : Int} {cs : List Ob} {E : EV → Mem → Prop}
theorem ctW (hx : xs.Sublist zXb) {k c : Str} {b : Bool} (hb : inB xs (en k c) = b) (hk : k ∈ xJv) (hc : c ∈ yK7) (h : E (.d (.bool b)) ⟨[], cs⟩) : W (zZ0 [.d (yZq xs f r), .d (.tuple [.str k, .str c])]) ⟨[], cs⟩ X E := by
  rw [← hb] at h
  exact xWc (p := en k c) hx (enM hk hc) h
theorem yQ0 (hx : xs.Sublist zXb) (h : E (.d (if zVh xs = 0 then .none else nD (zVh xs))) ⟨[], cs⟩) : W (zZ9 [.d (yZq xs f r)]) ⟨[], cs⟩ X E := by
  unfold zZ9
  rw [zYe]
  unfold zY8 zXq
  unfold zVh at h
  simp [-Bool.exists_bool, zY2, wQ2, wYs, pD2, xHr, wJj]
  cases q1 : inB xs (en "old" "grey") with
  | false =>
    refine ctW hx q1 (by decide) (by decide) ?_
    simp [-Bool.exists_bool]
    simpa [q1, nD] using h
  | true =>
    refine ctW hx q1 (by decide) (by decide) ?_
    simp [-Bool.exists_bool, zY2, xG4, wX8, pD2, xHr, wJj]
    cases q2 : inB xs (en "old" "white") with
    | true =>
      refine ctW hx q2 (by decide) (by decide) ?_
      simp [-Bool.exists_bool]
      simpa [q1, q2] using h
    | false =>
      refine ctW hx q2 (by decide) (by decide) ?_
      simp [-Bool.exists_bool, zY2, xG4, wX8, pD2, xHr, wJj]
      cases q3 : inB xs (en "load" "grey") with
      | true =>
        refine ctW hx q3 (by decide) (by decide) ?_
        simp [-Bool.exists_bool]
        simpa [q1, q2, q3] using h
      | false =>
        refine ctW hx q3 (by decide) (by decide) ?_
        simp [-Bool.exists_bool]
        simpa [q1, q2, q3, nD] using h
theorem wJ5 (hx : xs.Sublist zXb) (hs : sc ∈ zWs) (h : E (.d (if zVh xs = 0 then .none else (zH7 xs ring sc).d)) ⟨[], cs⟩) : W (zXg [.d (yZq xs f r), .d (.int ring), .d (.str sc)]) ⟨[], cs⟩ X E := by
  unfold zXg
  rw [zYe]
  unfold zGr zXq
  refine xXn (if zVh xs = 0 then .none else nD (zVh xs)) ?_ ?_
  · simp [-Bool.exists_bool]
    refine yQ0 hx ?_
    simp [-Bool.exists_bool]
  simp only [List.set, List.set_cons_succ, List.set_cons_zero]
  have n4 : zVh xs = 4 ∨ zVh xs = 0 ∨ zVh xs = 6 := by
    unfold zVh
    split
    · exact .inl rfl
    split
    · exact .inr (.inl rfl)
    · exact .inr (.inr rfl)
  have q4 : zVh xs = 4 → inB xs (en "old" "grey") = false := fun e => by
    unfold zVh at e
    split at e
    · assumption
    split at e
    · cases e
    · cases e
  have q6 : zVh xs = 6 → inB xs (en "old" "grey") = true := fun e => by
    unfold zVh at e
    split at e
    · cases e
    · cases z : inB xs (en "old" "grey") with
      | true => rfl
      | false => exact absurd z (by assumption)
  have sg : ∀ (x : Nat) (X : Exn → Mem → Prop) (P : EV → Mem → Prop), P (.d (zK8 (zK9 x sc))) ⟨[], cs⟩ → W (zG5 [.d (nD x), .d (.str sc)]) ⟨[], cs⟩ X P := fun x X P hP => zGb (xX1 hs) hP
  have s0 := sg 0
  have s1 := sg 1
  have z0 : nD 0 = PyData.int 0 := rfl
  have z1 : nD 1 = PyData.int 1 := rfl
  rw [z0] at s0
  rw [z1] at s1
  rcases n4 with e | e | e
  · rw [e] at h ⊢
    have h : E (.d (zH7 xs ring sc).d) ⟨[], cs⟩ := h
    unfold zH7 at h
    rw [q4 e, if_neg (by decide)] at h
    unfold nnL at h
    by_cases h1 : ring = 1
    · rw [if_pos h1] at h
      simp [-Bool.exists_bool, nD, h1]
      refine s0 _ _ ?_
      simp [-Bool.exists_bool, nD, h1]
      exact h
    · rw [if_neg h1] at h
      simp [-Bool.exists_bool, nD, h1]
      refine s0 _ _ ?_
      simp [-Bool.exists_bool, nD, h1]
      exact h
  · rw [e] at h ⊢
    have h : E (.d .none) ⟨[], cs⟩ := h
    simp [-Bool.exists_bool]
    exact h
  · rw [e] at h ⊢
    have h : E (.d (zH7 xs ring sc).d) ⟨[], cs⟩ := h
    unfold zH7 at h
    rw [q6 e, if_pos rfl] at h
    unfold nnL at h
    by_cases h1 : ring = 1
    · rw [if_pos h1] at h
      simp [-Bool.exists_bool, nD, h1]
      refine s0 _ _ ?_
      simp [-Bool.exists_bool, nD, h1]
      refine s1 _ _ ?_
      simp [-Bool.exists_bool, nD, h1]
      exact h
    · rw [if_neg h1] at h
      simp [-Bool.exists_bool, nD, h1]
      refine s0 _ _ ?_
      simp [-Bool.exists_bool, nD, h1]
      refine s1 _ _ ?_
      simp [-Bool.exists_bool, nD, h1]
      exact h
end
end Ev

namespace Ev
open PySem PySem.Spec PyProof.Rows L2
section
variable {X : Exn → Mem → Prop} {xs : List PyData} {f r g sc : Str} {ring : Int} {cs : List Ob} {E : EV → Mem → Prop}
end
end Ev

namespace Ev
open PySem PySem.Spec PyProof.Rows L2
section
variable {X : Exn → Mem → Prop} {xs : List PyData} {f r g sc : Str} {ring : Int} {cs : List Ob} {E : EV → Mem → Prop}
end
end Ev

namespace Ev
open PySem PySem.Spec PyProof.Rows L2
def Within (xs ys : List PyData) : Prop := ∀ d, d ∈ zXb → inB xs d = true → inB ys d = true
end Ev

namespace Ev
open PySem PySem.Spec PyProof.Rows L2
section
variable {X : Exn → Mem → Prop} {xs ys : List PyData} {f r f' r' sc : Str} {ring : Int} {cs : List Ob} {E : EV → Mem → Prop}
end
end Ev

namespace Ev
open PySem PySem.Spec PyProof.Rows L2
section
variable {X : Exn → Mem → Prop} {xs ys : List PyData} {f r sc : Str} {ring : Int} {cs : List Ob} {E : EV → Mem → Prop}
def yX5 (xs : List PyData) (ring : Int) (sc : Str) : PyData := if zVh xs = 0 then .none else (zH7 xs ring sc).d
end
end Ev

namespace Ev
open PySem PySem.Spec PyProof.Rows L2
def zK1 (xs : List PyData) (f r : Str) : PyData := .tuple [.list xs, .str f, .str r]
theorem wJ9 {d : PyData} (h : d ∈ zXb) : ∃ p, d = prD p := by
  obtain ⟨a, _, h⟩ := List.mem_flatMap.mp h
  obtain ⟨b, _, rfl⟩ := List.mem_map.mp h
  exact ⟨(a, b), rfl⟩
theorem xK4 : ∀ {xs : List PyData}, zH9 xs → ∃ ps : List (Str × Str), xs = ps.map prD
  | [], _ => ⟨[], rfl⟩
  | x :: xs, h => by
    obtain ⟨p, rfl⟩ := wJ9 (h x (.head _))
    obtain ⟨ps, rfl⟩ := xK4 (xs := xs) fun y hy => h y (.tail _ hy)
    exact ⟨p :: ps, rfl⟩
theorem yGe {x : Str × Str} : ∀ {ys : List (Str × Str)}, (yJg x ys).length ≤ ys.length + 1
  | [] => by simp [yJg]
  | y :: ys => by
    have := yGe (x := x) (ys := ys)
    rw [yJg]
    split
    · simp
    · split
      · simp
      · simp only [List.length_cons]; omega
theorem yWz : ∀ ps : List (Str × Str), (zUy ps).length ≤ ps.length
  | [] => Nat.le_refl _
  | p :: ps => by
    have h1 := yWz ps
    have h2 := yGe (x := p) (ys := zUy ps)
    show (yJg p (zUy ps)).length ≤ ps.length + 1
    omega
theorem xYq {xs : List PyData} (h : zH9 xs) (hl : xs.length < 64) : ∃ ys, xVm (.list xs) = some (.fresh ys) ∧ zH9 ys ∧ ys.length ≤ xs.length := by
  obtain ⟨ps, rfl⟩ := xK4 h
  rw [List.length_map] at hl
  refine ⟨(zUy ps).map prD, by rw [xH3, if_pos hl], fun d hd => ?_, by rw [List.length_map, List.length_map]; exact yWz ps⟩
  obtain ⟨p, hp, rfl⟩ := List.mem_map.mp hd
  exact h _ (List.mem_map.mpr ⟨p, yJs.mp hp, rfl⟩)
section
variable {X : Exn → Mem → Prop} {cs : List Ob} {E : EV → Mem → Prop}
theorem xJm : zU9 [] ⟨[], cs⟩ = .ok (.new (.lst zXb)) ⟨[], cs⟩ := by kernel_rfl
def xUu : PyData → PyData
  | .int i => (atI zXb i).getD .none
  | _ => .none
theorem xG8 {i : Int} (h : 0 ≤ i ∧ i < 12) : atI zXb i = some (xUu (.int i)) ∧ xUu (.int i) ∈ zXb := by
  obtain ⟨d, e, q⟩ := xWm (xs := zXb) h.1 h.2
  have z : xUu (.int i) = d := by show (atI zXb i).getD .none = d; rw [e]; rfl
  rw [z]
  exact ⟨e, q⟩
theorem wQj {i : Nat} {n : Int} {m : Mem} {xs : List PyData} (h : m.sl[i]? = some (some (.ob (.lst xs)))) (h0 : 0 ≤ n) (h1 : n < xs.length) (h2 : xs.length ≤ 1000) : wV0 i (.d (.int n)) m = .ok .next (setM m i (.ob (.lst (xs.eraseIdx n.toNat)))) := by
  unfold wV0
  dsimp only
  rw [h]
  dsimp only
  rw [if_pos ⟨h0, by omega, by omega⟩]
def S1 (v : SV) : Prop := v = .own zXb ∨ v = .d (.list zXb)
def KC (cs : List Ob) (n : Nat) (w : Int) (m : Mem) : Prop := ∃ xs s1 s3 s5 s6 o, S1 s1 ∧ zH9 xs ∧ xs.length ≤ 12 ∧ Pen n o ∧ m = ⟨[some (.cell 0), some s1, some (.d (.int w)), s3, some (.own xs), s5, s6], o :: cs⟩
def KD (cs : List Ob) (n : Nat) (w : Int) (m : Mem) : Prop := ∃ xs s1 s3 s5 s6 o, S1 s1 ∧ zH9 xs ∧ xs.length ≤ 14 ∧ Pen n o ∧ m = ⟨[some (.cell 0), some s1, some (.d (.int w)), s3, some (.own xs), s5, s6], o :: cs⟩
def gI : Pg Bool := zYc (zXf (zJ2 (zQc (evC (.bool false)) (zQc (evC (.bool true)) (zQc (asV (zQs .Eq (zZf zZu (zZ4 2 (zQc (zQd 0) (zQc (evC (.int 2)) (zQh))))) (evC (.int 0)))) (zQh))))) (zQd 2))
theorem wVh {n : Nat} {w : Int} {s3 s5 : Option SV} {xs : List PyData} {o : Ob} {F : EV → Mem → Prop} (ho : Pen (n + 18) o) (w0 : 0 ≤ w) (wl : w < 3)
    (h : ∀ acc o', zH9 acc → acc.length ≤ 12 → Pen (n + 5) o' → F (.fresh acc) ⟨[some (.cell 0), some (.d (.list zXb)), some (.d (.int w)), s3, some (.own xs), s5, none], o' :: cs⟩) :
    W (yZb [6] (zZh 6) gI (zQd 6) zXb []) ⟨[some (.cell 0), some (.d (.list zXb)), some (.d (.int w)), s3, some (.own xs), s5, none], o :: cs⟩ X F := by
  refine yGb (fun ds acc m => ∃ pre o, zXb = pre ++ ds ∧ acc.length ≤ pre.length ∧ zH9 acc ∧ Pen (n + 5 + ds.length) o ∧ m = ⟨[some (.cell 0), some (.d (.list zXb)), some (.d (.int w)), s3, some (.own xs), s5, none], o :: cs⟩) ⟨[], o, rfl, Nat.le_refl _, fun _ z => (by cases z), ho.le (by show n + 5 + 12 ≤ n + 18; omega), rfl⟩ ?_ ?_
  · clear ho
    rintro d ds acc m ⟨pre, o, e, la, ea, ho, rfl⟩
    have lp : pre.length + (ds.length + 1) = 12 := by
      have q := congrArg List.length e
      rw [List.length_append, List.length_cons] at q
      exact q.symm
    have e3 : zXb = (pre ++ [d]) ++ ds := by rw [e]; simp
    have hd : d ∈ zXb := by rw [e]; simp
    have ea' : zH9 (acc ++ [d]) := fun x hx => (List.mem_append.mp hx).elim (ea x) fun z => by rw [List.mem_singleton.mp z]; exact hd
    unfold gI
    have w3 : w = 0 ∨ w = 1 ∨ w = 2 := by omega
    simp [-Bool.exists_bool]
    refine zHx (n := n + 5 + ds.length) (ho.le (by simp; omega)) (by decide) (by decide) fun y c3 y0 y1 q3 => ?_
    have lp' : (pre ++ [d]).length = pre.length + 1 := by simp
    have no : ∃ pre, zXb = pre ++ ds ∧ acc.length ≤ pre.length ∧ zH9 acc ∧ Pen (n + 5 + ds.length) c3 := ⟨pre ++ [d], e3, by omega, ea, q3⟩
    have yes : acc.length < 16777216 ∧ ∃ pre, zXb = pre ++ ds ∧ acc.length + 1 ≤ pre.length ∧ zH9 (acc ++ [d]) ∧ Pen (n + 5 + ds.length) c3 := ⟨by omega, pre ++ [d], e3, by omega, ea', q3⟩
    rcases w3 with rfl | rfl | rfl
    · simp [-Bool.exists_bool]
      exact no
    · simp [-Bool.exists_bool]
      exact yes
    · simp [-Bool.exists_bool]
      split
      · exact yes
      · exact no
  · clear ho
    rintro acc m ⟨pre, o, e, la, ea, ho, rfl⟩
    rw [List.append_nil] at e
    exact h acc o ea (by rw [← e] at la; exact la) ho
theorem wQh {n : Nat} {c : Ob} (hc : Pen (n + 20) c) (h : ∀ xs f r c', zH9 xs → xs.length ≤ 14 → f ∈ yK7 → r ∈ zHb → Pen n c' → E (.d (zK1 xs f r)) ⟨[], c' :: cs⟩) : W (zGn [.cell 0]) ⟨[], c :: cs⟩ X E := by
  unfold zGn
  rw [zYe]
  unfold yQl zXq
  refine zHz (fun m => m = ⟨[some (.cell 0), some (.own zXb), none, none, none, none, none], c :: cs⟩) ?_ ?_
  · simp [-Bool.exists_bool]
    refine zGb xJm ?_
    simp [-Bool.exists_bool]
  rintro _ rfl
  refine zHz (fun m => ∃ (w : Int) (o : Ob), 0 ≤ w ∧ w < (8 : Int) ∧ Pen (n + 19) o ∧ m = ⟨[some (.cell 0), some (.own zXb), some (.d (.int w)), none, none, none, none], o :: cs⟩) ?_ ?_
  · simp [-Bool.exists_bool]
    refine zHx hc (by decide) (by decide) fun v c1 v0 v1 q1 => ?_
    simp [-Bool.exists_bool]
    exact ⟨v, v0, v1, q1, rfl⟩
  clear hc
  rintro _ ⟨w, o, w0, w1, ho, rfl⟩
  refine zHz (fun m => ∃ (ns : List Int) (o : Ob), (∀ i ∈ ns, 0 ≤ i ∧ i < 12) ∧ ns.length ≤ 3 ∧ Pen (n + 18) o ∧ m = ⟨[some (.cell 0), some (.own zXb), some (.d (.int w)), some (.d (.list (ns.map .int))), none, none, none], o :: cs⟩) ?_ ?_
  · simp [-Bool.exists_bool]
    refine zHx ho (by decide) (by decide) fun v c1 v0 v1 q1 => ?_
    simp [-Bool.exists_bool]
    refine menu (xs := [PyData.list [], .list [.int 1], .list [.int 0, .int 4], .list [.int 3, .int 4], .list [.int 7, .int 8], .list [.int 7, .int 11], .list [.int 3, .int 4, .int 8], .list [.int 1, .int 4]]) v0 (by show v < 8; exact v1) fun p hp => ?_
    simp only [List.mem_cons, List.not_mem_nil, or_false] at hp
    rcases hp with rfl | rfl | rfl | rfl | rfl | rfl | rfl | rfl
    · exact ⟨[], by decide, by decide, q1, rfl⟩
    · exact ⟨[1], by decide, by decide, q1, rfl⟩
    · exact ⟨[0, 4], by decide, by decide, q1, rfl⟩
    · exact ⟨[3, 4], by decide, by decide, q1, rfl⟩
    · exact ⟨[7, 8], by decide, by decide, q1, rfl⟩
    · exact ⟨[7, 11], by decide, by decide, q1, rfl⟩
    · exact ⟨[3, 4, 8], by decide, by decide, q1, rfl⟩
    · exact ⟨[1, 4], by decide, by decide, q1, rfl⟩
  clear ho
  rintro _ ⟨ns, o, hn, ln, ho, rfl⟩
  refine zHz (KC cs (n + 18) w) ?_ ?_
  · simp [-Bool.exists_bool, yZk]
    refine xWr (ds := ns.map .int) (fun _ => true) xUu (by rw [List.length_map]; omega) (fun d hd => ?_) ?_
    · obtain ⟨i, hi, rfl⟩ := List.mem_map.mp hd
      obtain ⟨e1, e2⟩ := xG8 (hn i hi)
      simp [-Bool.exists_bool, e1, zKo]
    · simp [-Bool.exists_bool]
      refine ⟨_, _, _, _, _, _, .inl rfl, fun d hd => ?_, ?_, ho, rfl⟩
      · obtain ⟨x, hx, rfl⟩ := List.mem_map.mp hd
        obtain ⟨i, hi, rfl⟩ := List.mem_map.mp (List.mem_filter.mp hx).1
        exact (xG8 (hn i hi)).2
      · have z := List.length_filter_le (fun _ => true) (ns.map PyData.int)
        rw [List.length_map] at z
        rw [List.length_map]
        omega
  clear ho
  rintro _ ⟨xs, s1, s3, s5, s6, o, h1, hx, lx, ho, rfl⟩
  refine zHz (KC cs (n + 5) w) ?_ ?_
  · by_cases wl : w < 3
    · rcases h1 with rfl | rfl
      · simp [-Bool.exists_bool, yZk, wl]
        refine wVh ho w0 wl fun acc o' a1 a2 a3 => ?_
        simp [-Bool.exists_bool]
        exact ⟨_, _, _, _, _, _, .inr rfl, a1, a2, a3, rfl⟩
      · simp [-Bool.exists_bool, yZk, wl]
        refine wVh ho w0 wl fun acc o' a1 a2 a3 => ?_
        simp [-Bool.exists_bool]
        exact ⟨_, _, _, _, _, _, .inr rfl, a1, a2, a3, rfl⟩
    · simp [-Bool.exists_bool, wl]
      exact ⟨_, _, _, _, _, _, h1, hx, lx, ho.le (by omega), rfl⟩
  clear ho hx lx h1
  rintro _ ⟨xs, s1, s3, s5, s6, o, h1, hx, lx, ho, rfl⟩
  refine zHz (KD cs (n + 3) w) ?_ ?_
  · obtain ⟨b, eb⟩ : ∃ b, zKu .In (.int w) (.tuple [.int 3, .int 4]) = some b := by
      have w8 : w = 0 ∨ w = 1 ∨ w = 2 ∨ w = 3 ∨ w = 4 ∨ w = 5 ∨ w = 6 ∨ w = 7 := by omega
      rcases w8 with rfl | rfl | rfl | rfl | rfl | rfl | rfl | rfl <;> exact ⟨_, rfl⟩
    cases b with
    | false =>
      simp [-Bool.exists_bool, eb]
      exact ⟨_, _, _, _, _, _, h1, hx, Nat.le_trans lx (by decide), ho.le (by omega), rfl⟩
    | true =>
      rcases h1 with rfl | rfl
      all_goals
        simp [-Bool.exists_bool, eb]
        refine zHx (n := n + 4) ho (by decide) (by decide) fun v c1 v0 v1 q1 => ?_
        simp [-Bool.exists_bool]
        refine menu (xs := zXb) v0 (by show v < 12; exact v1) fun p hp => ?_
        first | simp [-Bool.exists_bool] | skip
        refine zHx (n := n + 3) q1 (by decide) (by decide) fun u c2 u0 u1 q2 => ?_
        first | simp [-Bool.exists_bool] | skip
        refine menu (xs := zXb) u0 (by show u < 12; exact u1) fun p' hp' => ?_
        first | simp [-Bool.exists_bool] | skip
        have lz : (xs ++ [p, p']).length = xs.length + 2 := by simp
        obtain ⟨ys, ey, ay, ly⟩ := xYq (xs := xs ++ [p, p']) (fun d hd => (List.mem_append.mp hd).elim (hx d) fun z => by
          rcases List.mem_cons.mp z with z | z
          · rw [z]; exact hp
          · rw [List.mem_singleton.mp z]; exact hp') (by omega)
        refine ⟨by omega, _, ey, ?_⟩
        simp [-Bool.exists_bool]
        refine ⟨_, _, _, _, _, _, ?_, ay, by omega, q2, rfl⟩
        first | exact .inl rfl | exact .inr rfl
  clear ho hx lx h1
  rintro _ ⟨xs, s1, s3, s5, s6, o, h1, hx, lx, ho, rfl⟩
  refine zHz (KD cs (n + 2) w) ?_ ?_
  · by_cases w5 : w = 5
    · subst w5
      cases xs with
      | nil =>
        simp [-Bool.exists_bool]
        exact ⟨_, _, _, _, _, _, h1, hx, lx, ho.le (by omega), rfl⟩
      | cons x t =>
        simp [-Bool.exists_bool]
        refine zHx (n := n + 2) (k := ((x :: t).length : Int)) ho (by simp only [List.length_cons]; omega) (by have := lx; omega) fun v c1 v0 v1 q1 => ?_
        refine zGb (wQj (xs := x :: t) rfl v0 v1 (by omega)) ?_
        refine ⟨(x :: t).eraseIdx v.toNat, s1, s3, s5, s6, c1, h1, fun d hd => hx d (List.mem_of_mem_eraseIdx hd), Nat.le_trans (List.length_eraseIdx_le ..) lx, q1, ?_⟩
        simp [setM]
    · simp [-Bool.exists_bool, w5]
      exact ⟨_, _, _, _, _, _, h1, hx, lx, ho.le (by omega), rfl⟩
  clear ho hx lx h1
  rintro _ ⟨xs, s1, s3, s5, s6, o, h1, hx, lx, ho, rfl⟩
  simp [-Bool.exists_bool]
  refine zHx ho (by decide) (by decide) fun v c1 v0 v1 q1 => ?_
  simp [-Bool.exists_bool]
  refine menu (xs := [PyData.str "white", .str "grey", .str "black"]) v0 (by show v < 3; exact v1) fun p hp => ?_
  refine zHx q1 (by decide) (by decide) fun u c2 u0 u1 q2 => ?_
  simp [-Bool.exists_bool]
  refine menu (xs := [PyData.str "once", .str "again"]) u0 (by show u < 2; exact u1) fun p' hp' => ?_
  simp only [List.mem_cons, List.not_mem_nil, or_false] at hp hp'
  rcases hp with rfl | rfl | rfl <;> rcases hp' with rfl | rfl <;> exact h _ _ _ _ hx lx (by decide) (by decide) q2
end
end Ev

namespace Ev
open PySem PySem.Spec PyProof.Rows L2
end Ev

namespace Ev
open PySem PySem.Spec PyProof.Rows L2
theorem xH0 {X : Exn → Mem → Prop} {E : EV → Mem → Prop} {xs : List PyData} {f r : Str} {cs : List Ob} (hx : zH9 xs) (hf : f ∈ yK7) (hr : r ∈ zHb) (h : E (.new (yH0 (zGz xs) f r)) ⟨[], cs⟩) : W (zUq [.d (zK1 xs f r)]) ⟨[], cs⟩ X E := by
  unfold zUq
  rw [zYe]
  unfold zHd zXq zK1
  have p : pD 1 2 3 [0, 1, 2] [] zVz [.d (xUy "Table"), .d (.str f), .d (.str r)] = zVz [.d (xUy "Table"), .d (.str f), .d (.str r)] := rfl
  simp [-Bool.exists_bool, p]
  refine wZg hf hr ?_
  simp [-Bool.exists_bool, yZk]
  refine xXo (fun ds m => ∃ es v, zH9 es ∧ es.length ≤ 12 ∧ ds.foldl xHf es = xs.foldl xHf [] ∧ zH9 ds ∧ m = ⟨[some (.d (.tuple [.list xs, .str f, .str r])), some (.ob (yH0 es f r)), v], cs⟩) ⟨[], none, (fun x h => absurd h (by simp)), by simp, rfl, hx, rfl⟩ ?_ ?_
  · rintro d ds m ⟨es, v, h1, h2, h3, h4, rfl⟩
    have hd := h4 d (List.mem_cons_self ..)
    simp [-Bool.exists_bool]
    refine xY6 (xs := [d]) (fun x hx => by rw [List.mem_singleton.mp hx]; exact hd) (by simp) (fun x hx => by rw [List.mem_singleton.mp hx]; exact yJc d hd) hf hr ?_
    have q1 : (yJf (dOf (yH0 es f r))).isSome = true := rfl
    have q2 : wV1 [(("Table" : Str), pD 2 0 2 [0, 1] [] zJi)] (dOf (yH0 es f r)) (dOf (yH0 (zGz [d]) f r)) = some (pD 2 0 2 [0, 1] [] zJi) := rfl
    simp [-Bool.exists_bool, q1, q2]
    show W (pD 2 0 2 [0, 1] [] zJi [.d (yZq es f r), .d (yZq (zGz [d]) f r)]) _ _ _
    rw [pD2]
    refine vZz (fun x hx => (List.mem_append.mp hx).elim (h1 x) (yQz x)) (by have := yUi (xs := [d]); simp; omega) yJc hf hr (fun _ => ?_) (fun n => absurd ⟨rfl, rfl⟩ n)
    simp [-Bool.exists_bool]
    exact ⟨_, yQz, yUi, h3, fun x hx => h4 x (List.mem_cons_of_mem _ hx), rfl⟩
  · rintro m ⟨es, v, h1, h2, h3, h4, rfl⟩
    simp [-Bool.exists_bool]
    have h3 : es = zGz xs := by rw [show es = [].foldl xHf es from rfl, h3, wQy]
    subst h3
    exact h

theorem wJ4 {X : Exn → Mem → Prop} {E : EV → Mem → Prop} {f r : Str} {cs : List Ob} (hf : f ∈ yK7) (hr : r ∈ zHb) (h : E (.new (yH0 zXb f r)) ⟨[], cs⟩) : W (zUu [.d (xUy "Table"), .d (.str f), .d (.str r)]) ⟨[], cs⟩ X E := by
  unfold zUu
  rw [zYe]
  unfold zHh zXq
  have e : (zYd : PyData) = .tuple zXb := rfl
  simp [-Bool.exists_bool, e, yZk]
  refine xY6 (xs := zXb) (fun x hx => hx) (by decide) (fun x hx => yJc x hx) hf hr ?_
  have z : zGz zXb = zXb := xYd (List.Sublist.refl _)
  rw [z]
  simp [-Bool.exists_bool]
  exact h
theorem xZv {xs : List PyData} : (zGz xs).Sublist zXb := List.filter_sublist
theorem Within.trans {a b c : List PyData} (h1 : Within a b) (h2 : Within b c) : Within a c := fun d hd h => h2 d hd (h1 d hd h)
end Ev

namespace Ev
open PySem PySem.Spec PyProof.Rows L2
def lsD (rows : List (List (Option Nat))) (cells : List (Option Nat)) (cols : List Str) (vis : List (List Nat)) : PyData :=
  .tuple [xY7 1 rows, .tuple (cells.map oD), .tuple (cols.map .str), .tuple (vis.map fun v => .tuple (v.map nD))]
theorem xJp {α : Type} {p : Pg α} {m m' : Mem} {v : α} {X : Exn → Mem → Prop} {F : α → Mem → Prop} (e : p m = .ok v m') : W p m X F ↔ F v m' := by
  refine ⟨fun h => ?_, fun h => zGb e h⟩
  have z := h.go
  rw [e] at z
  exact z
section
variable {X : Exn → Mem → Prop} {xs : List PyData} {f r sc : Str} {ring : Int} {cs : List Ob} {E : EV → Mem → Prop} {a b c x : PyData}
theorem wQg : W (zXa [.d (.tuple [a]), .d (.int 0), .d x]) ⟨[], cs⟩ X E ↔ E (.d (.tuple [x])) ⟨[], cs⟩ := xJp (by kernel_rfl)
theorem wQf : W (zXa [.d (.tuple [a, b]), .d (.int 0), .d x]) ⟨[], cs⟩ X E ↔ E (.d (.tuple [x, b])) ⟨[], cs⟩ := xJp (by kernel_rfl)
theorem wQe : W (zXa [.d (.tuple [a, b]), .d (.int 1), .d x]) ⟨[], cs⟩ X E ↔ E (.d (.tuple [a, x])) ⟨[], cs⟩ := xJp (by kernel_rfl)
theorem wYl : W (zXa [.d (.tuple [a, b, c]), .d (.int 0), .d x]) ⟨[], cs⟩ X E ↔ E (.d (.tuple [x, b, c])) ⟨[], cs⟩ := xJp (by kernel_rfl)
theorem wYk : W (zXa [.d (.tuple [a, b, c]), .d (.int 1), .d x]) ⟨[], cs⟩ X E ↔ E (.d (.tuple [a, x, c])) ⟨[], cs⟩ := xJp (by kernel_rfl)
theorem xGh {g k v w : PyData} : W (zJ5 [.d (.tuple [g, k, v, w]), .d .none]) ⟨[], cs⟩ X E ↔ E (.d (.tuple [g, k, v, w])) ⟨[], cs⟩ := xJp (by kernel_rfl)
theorem xWx {k c : Str} (hx : zH9 xs) (hk : k ∈ xJv) (hc : c ∈ yK7) : zKu .In (.tuple [.str k, .str c]) (.list xs) = some (inB xs (en k c)) := inL hx (enM hk hc)
def rest (ring : Int) : List (Option Nat) := if ring = 1 then [] else [none]
theorem xYh (hx : zH9 xs) (og : inB xs (en "old" "grey") = false) (h : E (.d (lsD [[none], [none]] (some 0 :: rest ring) ["grey", "white"] [[], []])) ⟨[], cs⟩) :
    W (zJ4 [.d (zK1 xs f r), .d (lsD [[some 1], [none]] (some 0 :: rest ring) ["grey", "white"] [[], []]), .d (zK8 (.store 0 0 none))]) ⟨[], cs⟩ X E := by
  have e1 := xWx (k := "old") (c := "grey") hx (by decide) (by decide)
  have e2 := xWx (k := "new") (c := "grey") hx (by decide) (by decide)
  have e3 := xWx (k := "source") (c := "grey") hx (by decide) (by decide)
  rw [og] at e1
  unfold rest at *
  unfold zJ4
  rw [zYe]
  unfold zYp zXq
  by_cases hr : ring = 1
  all_goals
    cases b2 : inB xs (en "new" "grey") <;> cases b3 : inB xs (en "source" "grey") <;> rw [b2] at e2 <;> rw [b3] at e3
    all_goals
      simp [-Bool.exists_bool, hr, lsD, xY7, wXr, oD, nD, zK8, zK1, zVm, zZg, zV7, wQg, wQf, wQe, xGh, e1, e2, e3] at h ⊢
      exact h
theorem wQz (hx : zH9 xs) (lg : inB xs (en "load" "grey") = false) (h : E (.d (lsD [[some 1], [some 2], [none]] (some 1 :: rest ring) ["grey", "white", "white"] [[], [], []])) ⟨[], cs⟩) :
    W (zKt [.d (zK1 xs f r), .d (lsD [[some 1], [some 2], [none]] (some 0 :: rest ring) ["grey", "white", "white"] [[], [], []]), .d (zK8 (.load 0 0 0))]) ⟨[], cs⟩ X E := by
  have e1 := xWx (k := "load") (c := "grey") hx (by decide) (by decide)
  rw [lg] at e1
  unfold rest at *
  unfold zKt
  rw [zYe]
  unfold zGs zXq
  by_cases hr : ring = 1
  all_goals
    simp [-Bool.exists_bool, hr, lsD, xY7, wXr, oD, nD, zK8, zK1, zVm, zZg, zV7, wQg, wQf, wQe, e1] at h ⊢
    exact h
theorem xYg (hx : zH9 xs) (ow : inB xs (en "old" "white") = false) (h : ∀ k : Str, k = "white" ∨ k = "grey" → E (.d (lsD [[some 1], [none], [none]] (some 1 :: rest ring) ["grey", k, "white"] [[], [], []])) ⟨[], cs⟩) :
    W (zJ4 [.d (zK1 xs f r), .d (lsD [[some 1], [some 2], [none]] (some 1 :: rest ring) ["grey", "white", "white"] [[], [], []]), .d (zK8 (.store 0 0 none))]) ⟨[], cs⟩ X E := by
  have e1 := xWx (k := "old") (c := "white") hx (by decide) (by decide)
  have e2 := xWx (k := "new") (c := "white") hx (by decide) (by decide)
  have e3 := xWx (k := "source") (c := "white") hx (by decide) (by decide)
  rw [ow] at e1
  have h1 := h "white" (.inl rfl)
  have h2 := h "grey" (.inr rfl)
  unfold rest at *
  unfold zJ4
  rw [zYe]
  unfold zYp zXq
  by_cases hr : ring = 1
  all_goals
    cases b2 : inB xs (en "new" "white") <;> cases b3 : inB xs (en "source" "white") <;> rw [b2] at e2 <;> rw [b3] at e3
    all_goals
      simp [-Bool.exists_bool, hr, lsD, xY7, wXr, oD, nD, zK8, zK1, zVm, zZg, zV7, wQg, wQf, wQe, wYl, wYk, xGh, e1, e2, e3] at h1 h2 ⊢
      first | exact h1 | exact h2
end
end Ev

namespace Ev
open PySem PySem.Spec PyProof.Rows L2
section
variable {xs : List PyData} {f r sc : Str} {ring : Int} {cs : List Ob}
def A4 (ring : Int) : PyData := lsD [[some 1], [none]] (some 0 :: rest ring) ["white", "white"] [[], []]
def B4 (ring : Int) : PyData := lsD [[some 1], [none]] (some 0 :: rest ring) ["grey", "white"] [[], []]
def C4 (ring : Int) : PyData := lsD [[none], [none]] (some 0 :: rest ring) ["grey", "white"] [[], []]
def D4 (ring : Int) : PyData := lsD [[none], [none]] (some 0 :: rest ring) ["black", "white"] [[0], []]
def A6 (ring : Int) : PyData := lsD [[some 1], [some 2], [none]] (some 0 :: rest ring) ["white", "white", "white"] [[], [], []]
def B6 (ring : Int) : PyData := lsD [[some 1], [some 2], [none]] (some 0 :: rest ring) ["grey", "white", "white"] [[], [], []]
def C6 (ring : Int) : PyData := lsD [[some 1], [some 2], [none]] (some 1 :: rest ring) ["grey", "white", "white"] [[], [], []]
def D6 (ring : Int) (k : Str) : PyData := lsD [[some 1], [none], [none]] (some 1 :: rest ring) ["grey", k, "white"] [[], [], []]
def E6 (ring : Int) : PyData := lsD [[some 1], [none], [none]] (some 1 :: rest ring) ["black", "grey", "white"] [[0], [], []]
def F6 (ring : Int) : PyData := lsD [[some 1], [none], [none]] (some 1 :: rest ring) ["black", "black", "white"] [[0], [0], []]
abbrev Mk (xs : List PyData) (f r : Str) (cs : List Ob) (s : PyData) (a : Act) (t : PyData) : Prop := zVl [.d (zK1 xs f r), .d s, .d (zK8 a)] ⟨[], cs⟩ = .ok (.d t) ⟨[], cs⟩
abbrev Can (xs : List PyData) (f r : Str) (cs : List Ob) (s : PyData) (a : Act) : Prop := yZ6 [.d (zK1 xs f r), .d s, .d (zK8 a)] ⟨[], cs⟩ = .ok (.d (.bool true)) ⟨[], cs⟩
theorem mk4 (hs : sc ∈ zWs) : Mk xs f r cs (A4 ring) .start (B4 ring) ∧ Mk xs f r cs (C4 ring) (zK9 0 sc) (D4 ring) ∧ Mk xs f r cs (D4 ring) .fin (D4 ring) := by
  simp only [zWs, List.mem_cons, List.not_mem_nil, or_false] at hs
  unfold A4 B4 C4 D4 rest
  by_cases h : ring = 1
  all_goals
    simp only [h, if_true, if_false]
    rcases hs with rfl | rfl <;> exact ⟨by kernel_rfl, by kernel_rfl, by kernel_rfl⟩
theorem vJt (hs : sc ∈ zWs) (hr : r ∈ zHb) : Can xs f r cs (B4 ring) (.store 0 0 none) ∧ Can xs f r cs (C4 ring) (zK9 0 sc) ∧ Can xs f r cs (D4 ring) .fin := by
  simp only [zWs, zHb, List.mem_cons, List.not_mem_nil, or_false] at hs hr
  unfold B4 C4 D4 rest
  by_cases h : ring = 1
  all_goals
    simp only [h, if_true, if_false]
    rcases hs with rfl | rfl <;> rcases hr with rfl | rfl <;> exact ⟨by kernel_rfl, by kernel_rfl, by kernel_rfl⟩
theorem mk6 {k : Str} (hs : sc ∈ zWs) (hk : k = "white" ∨ k = "grey") : Mk xs f r cs (A6 ring) .start (B6 ring) ∧ Mk xs f r cs (D6 ring k) (zK9 0 sc) (E6 ring) ∧ Mk xs f r cs (E6 ring) (zK9 1 sc) (F6 ring) ∧ Mk xs f r cs (F6 ring) .fin (F6 ring) := by
  simp only [zWs, List.mem_cons, List.not_mem_nil, or_false] at hs
  unfold A6 B6 D6 E6 F6 rest
  by_cases h : ring = 1
  all_goals
    simp only [h, if_true, if_false]
    rcases hs with rfl | rfl <;> rcases hk with rfl | rfl <;> exact ⟨by kernel_rfl, by kernel_rfl, by kernel_rfl, by kernel_rfl⟩
theorem vJs {k : Str} (hs : sc ∈ zWs) (hr : r ∈ zHb) (hk : k = "white" ∨ k = "grey") : Can xs f r cs (B6 ring) (.load 0 0 0) ∧ Can xs f r cs (C6 ring) (.store 0 0 none) ∧ Can xs f r cs (D6 ring k) (zK9 0 sc) ∧ Can xs f r cs (E6 ring) (zK9 1 sc) ∧ Can xs f r cs (F6 ring) .fin := by
  simp only [zWs, zHb, List.mem_cons, List.not_mem_nil, or_false] at hs hr
  unfold B6 C6 D6 E6 F6 rest
  by_cases h : ring = 1
  all_goals
    simp only [h, if_true, if_false]
    rcases hs with rfl | rfl <;> rcases hr with rfl | rfl <;> rcases hk with rfl | rfl <;> exact ⟨by kernel_rfl, by kernel_rfl, by kernel_rfl, by kernel_rfl, by kernel_rfl⟩
end
end Ev

namespace Ev
open PySem PySem.Spec PyProof.Rows L2
section
variable {X : Exn → Mem → Prop} {xs : List PyData} {f r sc : Str} {ring : Int} {cs : List Ob} {E : EV → Mem → Prop}
theorem yW5 {rows : List (List (Option Nat))} {cells : List (Option Nat)} {cols : List Str} {vis : List (List Nat)} (h : W (zJ4 [.d (zK1 xs f r), .d (lsD rows cells cols vis), .d (zK8 (.store 0 0 none))]) ⟨[], cs⟩ (fun x m' => X x ⟨[], m'.cs⟩) fun v m' => E (xV2 v) ⟨[], m'.cs⟩) :
    W (zVl [.d (zK1 xs f r), .d (lsD rows cells cols vis), .d (zK8 (.store 0 0 none))]) ⟨[], cs⟩ X E := by
  unfold zVl
  rw [zYe]
  unfold zGg zXq
  simp [-Bool.exists_bool, lsD, xY7, zK8, oD, nD, zVm, zZg, zV7, xZp] at h ⊢
  exact h
theorem xKi {rows : List (List (Option Nat))} {cells : List (Option Nat)} {cols : List Str} {vis : List (List Nat)} (h : W (zKt [.d (zK1 xs f r), .d (lsD rows cells cols vis), .d (zK8 (.load 0 0 0))]) ⟨[], cs⟩ (fun x m' => X x ⟨[], m'.cs⟩) fun v m' => E (xV2 v) ⟨[], m'.cs⟩) :
    W (zVl [.d (zK1 xs f r), .d (lsD rows cells cols vis), .d (zK8 (.load 0 0 0))]) ⟨[], cs⟩ X E := by
  unfold zVl
  rw [zYe]
  unfold zGg zXq
  simp [-Bool.exists_bool, lsD, xY7, zK8, nD, zVm, zZg, zV7, xZp] at h ⊢
  exact h
end
end Ev

namespace Ev
open PySem PySem.Spec PyProof.Rows L2
section
variable {X : Exn → Mem → Prop} {xs : List PyData} {f r sc : Str} {ring : Int} {cs : List Ob} {E : EV → Mem → Prop}
def xX4 (ring : Int) (sc : Str) : RunS := ⟨1, [[some 1], [none]], some 0 :: rest ring, [.start, .store 0 0 none, zK9 0 sc, .fin]⟩
theorem xZq : zKu .NotEq (zK8 .start) (.tuple [.str "start"]) = some false := by kernel_rfl
theorem wZ6 {a : Act} (h : a = .start ∨ a = .store 0 0 none ∨ a = zK9 0 sc) (hs : sc ∈ zWs) : zKu .Eq (zK8 a) (.tuple [.str "end"]) = some false := by
  simp only [zWs, List.mem_cons, List.not_mem_nil, or_false] at hs
  rcases h with rfl | rfl | rfl
  · kernel_rfl
  · kernel_rfl
  · rcases hs with rfl | rfl <;> kernel_rfl
theorem wZ5 {a : Act} (h : a = .fin ∨ a = .store 0 0 none ∨ a = zK9 0 sc) (hs : sc ∈ zWs) : zKu .Eq (zK8 a) (.tuple [.str "start"]) = some false := by
  simp only [zWs, List.mem_cons, List.not_mem_nil, or_false] at hs
  rcases h with rfl | rfl | rfl
  · kernel_rfl
  · kernel_rfl
  · rcases hs with rfl | rfl <;> kernel_rfl
theorem wQl (hx : zH9 xs) (hs : sc ∈ zWs) (hr : r ∈ zHb) (og : inB xs (en "old" "grey") = false) (h : E (.new (.lst [B4 ring, C4 ring, D4 ring, D4 ring])) ⟨[], cs⟩) :
    W (zVy [.d (zK1 xs f r), .d (xX4 ring sc).d]) ⟨[], cs⟩ X E := by
  obtain ⟨m1, m2, m3⟩ := mk4 (xs := xs) (f := f) (r := r) (cs := cs) (ring := ring) hs
  obtain ⟨c1, c2, c3⟩ := vJt (xs := xs) (f := f) (r := r) (cs := cs) (ring := ring) hs hr
  unfold zVy
  rw [zYe]
  unfold zYq zXq
  simp [-Bool.exists_bool, xX4, RunS.d, xY7, zVm, zZg, zV7, xZq]
  refine zGb m1 ?_
  simp [-Bool.exists_bool]
  have ec : cutD [zK8 .start, zK8 (.store 0 0 none), zK8 (zK9 0 sc), zK8 .fin] (some 1) none = [zK8 (.store 0 0 none), zK8 (zK9 0 sc), zK8 .fin] := rfl
  rw [ec]
  show W (forL _ _ [.tuple [.int 1, zK8 (.store 0 0 none)], .tuple [.int 2, zK8 (zK9 0 sc)], .tuple [.int 3, zK8 .fin]]) _ _ _
  have q1 := wZ6 (sc := sc) (a := .start) (.inl rfl) hs
  have q2 := wZ6 (sc := sc) (a := .store 0 0 none) (.inr (.inl rfl)) hs
  have q3 := wZ6 (sc := sc) (.inr (.inr rfl)) hs
  have p1 := wZ5 (sc := sc) (a := .store 0 0 none) (.inr (.inl rfl)) hs
  have p2 := wZ5 (sc := sc) (.inr (.inr rfl)) hs
  have p3 := wZ5 (sc := sc) (a := .fin) (.inl rfl) hs
  unfold forL
  simp [-Bool.exists_bool, zVm, zZg, zV7, q1, q2, q3, p1, p2, p3]
  refine ⟨_, rfl, zGb c1 ?_⟩
  simp [-Bool.exists_bool]
  refine ⟨_, rfl, ?_⟩
  refine yW5 (xYh hx og ?_)
  simp [-Bool.exists_bool]
  unfold forL
  simp [-Bool.exists_bool, zVm, zZg, zV7, q1, q2, q3, p1, p2, p3]
  refine ⟨_, rfl, zGb c2 ?_⟩
  simp [-Bool.exists_bool]
  refine ⟨_, rfl, zGb m2 ?_⟩
  simp [-Bool.exists_bool]
  unfold forL
  simp [-Bool.exists_bool, zVm, zZg, zV7, q1, q2, q3, p1, p2, p3]
  refine ⟨_, rfl, zGb c3 ?_⟩
  simp [-Bool.exists_bool]
  refine ⟨_, rfl, zGb m3 ?_⟩
  simp [-Bool.exists_bool]
  unfold forL
  simp [-Bool.exists_bool]
  exact h
end
end Ev

namespace Ev
open PySem PySem.Spec PyProof.Rows L2
section
variable {X : Exn → Mem → Prop} {xs : List PyData} {f r sc : Str} {ring : Int} {cs : List Ob} {E : EV → Mem → Prop}
def xX3 (ring : Int) (sc : Str) : RunS := ⟨1, [[some 1], [some 2], [none]], some 0 :: rest ring, [.start, .load 0 0 0, .store 0 0 none, zK9 0 sc, zK9 1 sc, .fin]⟩
theorem vJj : (zKu .Eq (zK8 (.load 0 0 0)) (.tuple [.str "end"]) = some false) ∧ zKu .Eq (zK8 (.load 0 0 0)) (.tuple [.str "start"]) = some false := ⟨by kernel_rfl, by kernel_rfl⟩
theorem vJi (hs : sc ∈ zWs) : (zKu .Eq (zK8 (zK9 1 sc)) (.tuple [.str "end"]) = some false) ∧ zKu .Eq (zK8 (zK9 1 sc)) (.tuple [.str "start"]) = some false := by
  simp only [zWs, List.mem_cons, List.not_mem_nil, or_false] at hs
  rcases hs with rfl | rfl <;> exact ⟨by kernel_rfl, by kernel_rfl⟩
theorem wQk (hx : zH9 xs) (hs : sc ∈ zWs) (hr : r ∈ zHb) (lg : inB xs (en "load" "grey") = false) (ow : inB xs (en "old" "white") = false) (h : ∀ k, E (.new (.lst [B6 ring, C6 ring, D6 ring k, E6 ring, F6 ring, F6 ring])) ⟨[], cs⟩) :
    W (zVy [.d (zK1 xs f r), .d (xX3 ring sc).d]) ⟨[], cs⟩ X E := by
  have M := fun {k : Str} (hk : k = "white" ∨ k = "grey") => mk6 (xs := xs) (f := f) (r := r) (cs := cs) (ring := ring) hs hk
  have C := fun {k : Str} (hk : k = "white" ∨ k = "grey") => vJs (xs := xs) (f := f) (r := r) (cs := cs) (ring := ring) hs hr hk
  obtain ⟨m1, _, m3, m4⟩ := M (k := "white") (.inl rfl)
  obtain ⟨c1, c2, _, c4, c5⟩ := C (k := "white") (.inl rfl)
  unfold zVy
  rw [zYe]
  unfold zYq zXq
  simp [-Bool.exists_bool, xX3, RunS.d, xY7, zVm, zZg, zV7, xZq]
  refine zGb m1 ?_
  simp [-Bool.exists_bool]
  have ec : cutD [zK8 .start, zK8 (.load 0 0 0), zK8 (.store 0 0 none), zK8 (zK9 0 sc), zK8 (zK9 1 sc), zK8 .fin] (some 1) none = [zK8 (.load 0 0 0), zK8 (.store 0 0 none), zK8 (zK9 0 sc), zK8 (zK9 1 sc), zK8 .fin] := rfl
  rw [ec]
  show W (forL _ _ [.tuple [.int 1, zK8 (.load 0 0 0)], .tuple [.int 2, zK8 (.store 0 0 none)], .tuple [.int 3, zK8 (zK9 0 sc)], .tuple [.int 4, zK8 (zK9 1 sc)], .tuple [.int 5, zK8 .fin]]) _ _ _
  have q1 := wZ6 (sc := sc) (a := .start) (.inl rfl) hs
  have q2 := wZ6 (sc := sc) (a := .store 0 0 none) (.inr (.inl rfl)) hs
  have q3 := wZ6 (sc := sc) (.inr (.inr rfl)) hs
  have p1 := wZ5 (sc := sc) (a := .store 0 0 none) (.inr (.inl rfl)) hs
  have p2 := wZ5 (sc := sc) (.inr (.inr rfl)) hs
  have p3 := wZ5 (sc := sc) (a := .fin) (.inl rfl) hs
  obtain ⟨q4, p4⟩ := vJj
  obtain ⟨q5, p5⟩ := vJi hs
  unfold forL
  simp [-Bool.exists_bool, zVm, zZg, zV7, q1, q2, q3, q4, q5, p1, p2, p3, p4, p5]
  refine ⟨_, rfl, zGb c1 ?_⟩
  simp [-Bool.exists_bool]
  refine ⟨_, rfl, ?_⟩
  refine xKi (wQz hx lg ?_)
  simp [-Bool.exists_bool]
  unfold forL
  simp [-Bool.exists_bool, zVm, zZg, zV7, q1, q2, q3, q4, q5, p1, p2, p3, p4, p5]
  refine ⟨_, rfl, zGb c2 ?_⟩
  simp [-Bool.exists_bool]
  refine ⟨_, rfl, ?_⟩
  refine yW5 (xYg hx ow fun k hk => ?_)
  obtain ⟨_, m2, _, _⟩ := M hk
  obtain ⟨_, _, c3, _, _⟩ := C hk
  simp [-Bool.exists_bool]
  unfold forL
  simp [-Bool.exists_bool, zVm, zZg, zV7, q1, q2, q3, q4, q5, p1, p2, p3, p4, p5]
  refine ⟨_, rfl, zGb c3 ?_⟩
  simp [-Bool.exists_bool]
  refine ⟨_, rfl, zGb m2 ?_⟩
  simp [-Bool.exists_bool]
  unfold forL
  simp [-Bool.exists_bool, zVm, zZg, zV7, q1, q2, q3, q4, q5, p1, p2, p3, p4, p5]
  refine ⟨_, rfl, zGb c4 ?_⟩
  simp [-Bool.exists_bool]
  refine ⟨_, rfl, zGb m3 ?_⟩
  simp [-Bool.exists_bool]
  unfold forL
  simp [-Bool.exists_bool, zVm, zZg, zV7, q1, q2, q3, q4, q5, p1, p2, p3, p4, p5]
  refine ⟨_, rfl, zGb c5 ?_⟩
  simp [-Bool.exists_bool]
  refine ⟨_, rfl, zGb m4 ?_⟩
  simp [-Bool.exists_bool]
  unfold forL
  simp [-Bool.exists_bool]
  exact h k
end
end Ev

namespace Ev
open PySem PySem.Spec PyProof.Rows L2
def minD (ring : Int) : Int := if ring = 1 then 1 else 2
section
variable {X : Exn → Mem → Prop} {xs : List PyData} {f r sc : Str} {ring : Int} {cs : List Ob} {E : EV → Mem → Prop}
theorem xKa : nnL ring (some 0) = some 0 :: rest ring := by unfold nnL rest; split <;> rfl
theorem yKx (h : inB xs (en "old" "grey") = true) : zH7 xs ring sc = xX3 ring sc := by unfold zH7 xX3; rw [xKa, if_pos h]
theorem yKy (h : inB xs (en "old" "grey") = false) : zH7 xs ring sc = xX4 ring sc := by unfold zH7 xX4; rw [xKa, h]; rfl
theorem xYf (hs : sc ∈ zWs) : zKz [.d (xX4 ring sc).d, .d (.str sc), .d (.int (minD ring)), .d (.int 3), .d (.int 1)] ⟨[], cs⟩ = .ok (.d (.bool true)) ⟨[], cs⟩ ∧
    zKz [.d (xX3 ring sc).d, .d (.str sc), .d (.int (minD ring)), .d (.int 3), .d (.int 1)] ⟨[], cs⟩ = .ok (.d (.bool true)) ⟨[], cs⟩ := by
  simp only [zWs, List.mem_cons, List.not_mem_nil, or_false] at hs
  unfold xX4 xX3 rest minD
  by_cases h : ring = 1
  all_goals
    simp only [h, if_true, if_false]
    rcases hs with rfl | rfl <;> exact ⟨by kernel_rfl, by kernel_rfl⟩
theorem xYw : zUs [.d (.tuple [.tuple [.int 1], .tuple [.none]]), .d (.tuple ((some 0 :: rest ring).map oD))] ⟨[], cs⟩ = .ok (.new (.lst [.int 0, .int 1])) ⟨[], cs⟩ ∧
    zUs [.d (.tuple [.tuple [.int 1], .tuple [.int 2], .tuple [.none]]), .d (.tuple ((some 0 :: rest ring).map oD))] ⟨[], cs⟩ = .ok (.new (.lst [.int 0, .int 1, .int 2])) ⟨[], cs⟩ := by
  unfold rest
  by_cases h : ring = 1
  all_goals
    simp only [h, if_true, if_false]
    exact ⟨by kernel_rfl, by kernel_rfl⟩
theorem xG9 : zKu .NotEq (.tuple [zK8 .fin]) (.tuple [.tuple [.str "end"]]) = some false := by kernel_rfl
theorem ne_nil {x : PyData} {l : List PyData} : zKu .Eq (.list (x :: l)) (.list []) = some false := by kernel_rfl
theorem xUd (hx : zH9 xs) (h : E (.d (if zVh xs = 0 then .none else nD (zVh xs))) ⟨[], cs⟩) : W (zUt [.d (zK1 xs f r)]) ⟨[], cs⟩ X E := by
  have e1 := xWx (k := "old") (c := "grey") hx (by decide) (by decide)
  have e2 := xWx (k := "old") (c := "white") hx (by decide) (by decide)
  have e3 := xWx (k := "load") (c := "grey") hx (by decide) (by decide)
  have n1 : zKu .NotIn (.tuple [.str "old", .str "grey"]) (.list xs) = some (!inB xs (en "old" "grey")) := wJi hx (enM (by decide) (by decide))
  unfold zUt
  rw [zYe]
  unfold zHf zXq
  unfold zVh at h
  cases b1 : inB xs (en "old" "grey") <;> cases b2 : inB xs (en "old" "white") <;> cases b3 : inB xs (en "load" "grey") <;> rw [b1] at e1 n1 <;> rw [b2] at e2 <;> rw [b3] at e3
  all_goals
    simp [-Bool.exists_bool, zK1, e1, e2, e3, n1, nD, b1, b2, b3] at h ⊢
    try exact h
end
end Ev

namespace Ev
open PySem PySem.Spec PyProof.Rows L2
section
variable {X : Exn → Mem → Prop} {xs : List PyData} {f r sc : Str} {ring : Int} {cs : List Ob} {E : EV → Mem → Prop}
theorem xKv (hx : zH9 xs) (hs : sc ∈ zWs) (hr : r ∈ zHb) (hn : zVh xs ≠ 0) (h : E (.d (.bool true)) ⟨[], cs⟩) :
    W (zVt [.d (zK1 xs f r), .d (zH7 xs ring sc).d, .d (.str sc), .d (.int (minD ring))]) ⟨[], cs⟩ X E := by
  obtain ⟨s4, s6⟩ := xYf (sc := sc) (ring := ring) (cs := cs) hs
  obtain ⟨r4, r6⟩ := xYw (ring := ring) (cs := cs)
  unfold zVt
  rw [zYe]
  unfold zHg zXq
  cases og : inB xs (en "old" "grey") with
  | false =>
    rw [yKy og]
    have i2 : ixS (xX4 ring sc).d (.int 2) = some (.tuple [zK8 .start, zK8 (.store 0 0 none), zK8 (zK9 0 sc), zK8 .fin]) := rfl
    have i0 : ixS (xX4 ring sc).d (.int 0) = some (.tuple [.int 1, .tuple [.tuple [.int 1], .tuple [.none]]]) := rfl
    have i1 : ixS (xX4 ring sc).d (.int 1) = some (.tuple ((some 0 :: rest ring).map oD)) := rfl
    have j1 : ∀ {a b : PyData}, ixS (.tuple [a, b]) (.int 1) = some b := rfl
    have c1 : ∀ {a b c d : PyData}, cutD [a, b, c, d] (some (-1)) none = [d] := rfl
    refine zHz (fun m => m = ⟨[some (.d (zK1 xs f r)), some (.d (xX4 ring sc).d), some (.d (.str sc)), some (.d (.int (minD ring))), none, none, none], cs⟩) ?_ ?_
    · simp [-Bool.exists_bool]
      refine zGb s4 ?_
      simp [-Bool.exists_bool, i2, c1, xG9]
    rintro _ rfl
    refine zHz (fun m => m = ⟨[some (.d (zK1 xs f r)), some (.d (xX4 ring sc).d), some (.d (.str sc)), some (.d (.int (minD ring))), some (.own [B4 ring, C4 ring, D4 ring, D4 ring]), none, none], cs⟩) ?_ ?_
    · simp [-Bool.exists_bool]
      refine wQl hx hs hr og ?_
      simp [-Bool.exists_bool]
    rintro _ rfl
    have l1 : atI [B4 ring, C4 ring, D4 ring, D4 ring] (-1) = some (D4 ring) := rfl
    have l2 : ixS (D4 ring) (.int 2) = some (.tuple [.str "black", .str "white"]) := rfl
    simp [-Bool.exists_bool, ne_nil, l1, l2, i0, i1, j1, -List.map_cons]
    refine zGb r4 ?_
    have e1 : atI [PyData.str "black", PyData.str "white"] 0 = some (.str "black") := rfl
    have e2 : atI [PyData.str "black", PyData.str "white"] 1 = some (.str "white") := rfl
    have f1 : zKu .NotEq (.list [.int 1]) (.list []) = some true := by kernel_rfl
    simp [-Bool.exists_bool, yZk, yZb, xZp, yHu, zKo, e1, e2, f1]
    exact h
  | true =>
    have lo : inB xs (en "load" "grey") = false ∧ inB xs (en "old" "white") = false := by
      unfold zVh at hn
      rw [og] at hn
      cases b1 : inB xs (en "load" "grey") <;> cases b2 : inB xs (en "old" "white") <;> simp [b1, b2] at hn ⊢
    obtain ⟨lg, ow⟩ := lo
    rw [yKx og]
    have i2 : ixS (xX3 ring sc).d (.int 2) = some (.tuple [zK8 .start, zK8 (.load 0 0 0), zK8 (.store 0 0 none), zK8 (zK9 0 sc), zK8 (zK9 1 sc), zK8 .fin]) := rfl
    have i0 : ixS (xX3 ring sc).d (.int 0) = some (.tuple [.int 1, .tuple [.tuple [.int 1], .tuple [.int 2], .tuple [.none]]]) := rfl
    have i1 : ixS (xX3 ring sc).d (.int 1) = some (.tuple ((some 0 :: rest ring).map oD)) := rfl
    have j1 : ∀ {a b : PyData}, ixS (.tuple [a, b]) (.int 1) = some b := rfl
    have c1 : ∀ {a b c d e f : PyData}, cutD [a, b, c, d, e, f] (some (-1)) none = [f] := rfl
    refine zHz (fun m => m = ⟨[some (.d (zK1 xs f r)), some (.d (xX3 ring sc).d), some (.d (.str sc)), some (.d (.int (minD ring))), none, none, none], cs⟩) ?_ ?_
    · simp [-Bool.exists_bool]
      refine zGb s6 ?_
      simp [-Bool.exists_bool, i2, c1, xG9]
    rintro _ rfl
    refine zHz (fun m => ∃ k, m = ⟨[some (.d (zK1 xs f r)), some (.d (xX3 ring sc).d), some (.d (.str sc)), some (.d (.int (minD ring))), some (.own ([B6 ring, C6 ring, D6 ring k, E6 ring, F6 ring, F6 ring])), none, none], cs⟩) ?_ ?_
    · simp [-Bool.exists_bool]
      refine wQk hx hs hr lg ow fun k => ?_
      simp [-Bool.exists_bool]
      exact ⟨k, rfl⟩
    rintro _ ⟨k, rfl⟩
    have l1 : atI ([B6 ring, C6 ring, D6 ring k, E6 ring, F6 ring, F6 ring]) (-1) = some (F6 ring) := rfl
    have l2 : ixS (F6 ring) (.int 2) = some (.tuple [.str "black", .str "black", .str "white"]) := rfl
    simp [-Bool.exists_bool, ne_nil, l1, l2, i0, i1, j1, -List.map_cons]
    refine zGb r6 ?_
    have e1 : atI [PyData.str "black", PyData.str "black", PyData.str "white"] 0 = some (.str "black") := rfl
    have e2 : atI [PyData.str "black", PyData.str "black", PyData.str "white"] 1 = some (.str "black") := rfl
    have e3 : atI [PyData.str "black", PyData.str "black", PyData.str "white"] 2 = some (.str "white") := rfl
    have f1 : zKu .NotEq (.list [.int 2]) (.list []) = some true := by kernel_rfl
    simp [-Bool.exists_bool, yZk, yZb, xZp, yHu, zKo, e1, e2, e3, f1]
    exact h
end
end Ev

namespace Ev
open PySem PySem.Spec PyProof.Rows L2
section
variable {X : Exn → Mem → Prop} {xs : List PyData} {f r sc : Str} {ring : Int} {cs : List Ob} {E : EV → Mem → Prop}
theorem xH5 (hs : sc ∈ zWs) : zH1 (xX4 ring sc).d = true := by
  simp only [zWs, List.mem_cons, List.not_mem_nil, or_false] at hs
  unfold xX4 rest
  by_cases h : ring = 1
  all_goals
    simp only [h, if_true, if_false]
    rcases hs with rfl | rfl <;> decide +kernel
theorem xH4 (hs : sc ∈ zWs) : zH1 (xX3 ring sc).d = true := by
  simp only [zWs, List.mem_cons, List.not_mem_nil, or_false] at hs
  unfold xX3 rest
  by_cases h : ring = 1
  all_goals
    simp only [h, if_true, if_false]
    rcases hs with rfl | rfl <;> decide +kernel
theorem yYe (hs : sc ∈ zWs) : yKv [yX5 xs ring sc] = some (.d (.str (yX5 xs ring sc).shown)) := by
  have : zH1 (yX5 xs ring sc) = true := by
    unfold yX5
    split
    · decide +kernel
    cases og : inB xs (en "old" "grey") with
    | false => rw [yKy og]; exact xH5 hs
    | true => rw [yKx og]; exact xH4 hs
  rw [zHu, if_pos this]
def yHx (xs : List PyData) : PyData := if zVh xs = 0 then .none else nD (zVh xs)
theorem xUk (xs : List PyData) : zVh xs = 4 ∨ zVh xs = 0 ∨ zVh xs = 6 := by
  unfold zVh
  split
  · exact .inl rfl
  split
  · exact .inr (.inl rfl)
  · exact .inr (.inr rfl)
theorem xUv : yKv [.list [yHx xs, yHx xs]] = some (.d (.str (PyData.list [yHx xs, yHx xs]).shown)) := by
  have : zH1 (.list [yHx xs, yHx xs]) = true := by
    unfold yHx
    rcases xUk xs with e | e | e <;> rw [e] <;> decide +kernel
  rw [zHu, if_pos this]
end
end Ev

namespace Ev
open PySem PySem.Spec PyProof.Rows L2
section
variable {X : Exn → Mem → Prop} {xs : List PyData} {f r sc : Str} {ring : Int} {cs : List Ob} {E : EV → Mem → Prop}
theorem yYd : zVh (zGz xs) = zVh xs := by
  unfold zVh
  rw [zHt (enM (by decide) (by decide)), zHt (enM (by decide) (by decide)), zHt (enM (by decide) (by decide))]
theorem xJj : yX5 (zGz xs) ring sc = yX5 xs ring sc := by
  unfold yX5 zH7
  rw [yYd, zHt (enM (by decide) (by decide))]
theorem yUv (hs : sc ∈ zWs) (h : E (.d (yX5 xs ring sc)) ⟨[], cs⟩) : W (zXg [.d (yZq (zGz xs) f r), .d (.int ring), .d (.str sc)]) ⟨[], cs⟩ X E :=
  wJ5 xZv hs (by rw [← xJj] at h; exact h)
theorem xZx (h : E (.d (yHx xs)) ⟨[], cs⟩) : W (zZ9 [.d (yZq (zGz xs) f r)]) ⟨[], cs⟩ X E :=
  yQ0 xZv (by unfold yHx at h; rw [← yYd] at h; exact h)
theorem wX6 {a b c : AV} : pick [2, 1, 0] (a :: b :: c :: dAV []) = [c, b, a] := rfl
theorem xGt {a b c : AV} : pick [0, 1, 2] (a :: b :: c :: dAV []) = [a, b, c] := rfl
theorem wX5 {a : AV} : pick [0, 1, 2] (a :: dAV [.int 2, .str "whole"]) = [a, .d (.int 2), .d (.str "whole")] := rfl
theorem wX4 {a : AV} : pick [0] [a] = [a] := rfl
def P54 (xs : List PyData) (f r : Str) (n : Nat) (m : Mem) : Prop := ∃ ring o, 1 ≤ ring ∧ ring ≤ 6 ∧ Pen n o ∧ m = ⟨[some (.cell 0), some (.d (zK1 xs f r)), some (.ob (yH0 (zGz xs) f r)), some (.d (.int ring)), none, none, none, none], [o]⟩
def Q54 (xs : List PyData) (f r : Str) (ring : Int) (n : Nat) (m : Mem) : Prop := ∃ sc o, sc ∈ zWs ∧ Pen n o ∧ m = ⟨[some (.cell 0), some (.d (zK1 xs f r)), some (.ob (yH0 (zGz xs) f r)), some (.d (.int ring)), some (.d (.str sc)), none, none, none], [o]⟩
def R54 (n : Nat) (m : Mem) : Prop := ∃ xs f r o, zH9 xs ∧ f ∈ yK7 ∧ r ∈ zHb ∧ Pen n o ∧ m = ⟨[some (.cell 0), some (.d (zK1 xs f r)), none, none, none, none, none, none], [o]⟩
theorem min_eq (h : 1 ≤ ring) : wKt [.int ring, .int 2] = some (.d (.int (minD ring))) := by
  unfold minD
  by_cases h1 : ring = 1
  · subst h1; rfl
  · rw [if_neg h1]
    rw [xZ5]
    by_cases h2 : 2 < ring
    · rw [if_pos h2]
    · rw [if_neg h2, show ring = 2 from by omega]
theorem xKk (hn : zVh xs ≠ 0) : ∃ l, ixS (zH7 xs ring sc).d (.int 2) = some (.tuple l) ∧ l.length = zVh xs := by
  cases og : inB xs (en "old" "grey") with
  | false =>
    rw [yKy og]
    have e : zVh xs = 4 := by unfold zVh; rw [og]; rfl
    rw [e]
    exact ⟨_, rfl, rfl⟩
  | true =>
    rw [yKx og]
    have e : zVh xs = 6 := by
      unfold zVh at hn ⊢
      rw [og] at hn ⊢
      rw [if_neg (by decide)] at hn ⊢
      split at hn
      · exact absurd rfl hn
      · rw [if_neg (by assumption)]
    rw [e]
    exact ⟨_, rfl, rfl⟩
theorem xH7 {n : Nat} {o : Ob} (ho : Pen (n + 30) o) (h : ∀ o', Pen n o' → E (.d (.bool true)) ⟨[], [o']⟩) : W (zUr [.cell 0]) ⟨[], [o]⟩ X E := by
  unfold zUr
  rw [zYe]
  unfold zHe zXq
  refine zHz (R54 (n + 10)) ?_ ?_
  · simp [-Bool.exists_bool]
    refine wQh (n := n + 10) ho fun xs f r c' a1 a2 a3 a4 a5 => ?_
    simp [-Bool.exists_bool]
    exact ⟨xs, f, r, c', a1, a3, a4, a5, rfl⟩
  clear ho
  rintro _ ⟨xs, f, r, o, hx, hf, hr, ho, rfl⟩
  refine zHz (fun m => m = ⟨[some (.cell 0), some (.d (zK1 xs f r)), some (.ob (yH0 (zGz xs) f r)), none, none, none, none, none], [o]⟩) ?_ ?_
  · simp [-Bool.exists_bool]
    refine xH0 hx hf hr ?_
    simp [-Bool.exists_bool]
  rintro _ rfl
  refine zHz (P54 xs f r (n + 5)) ?_ ?_
  · simp [-Bool.exists_bool]
    refine xK6 (n := n + 9) ho (by decide) (by decide) fun v c1 v0 v1 h1 => ?_
    simp [-Bool.exists_bool]
    refine xK6 (n := n + 8) h1 (by decide) (by decide) fun u c2 u0 u1 h2 => ?_
    have u3 : u = 0 ∨ u = 1 ∨ u = 2 := by omega
    rcases u3 with rfl | rfl | rfl
    · simp [-Bool.exists_bool]
      exact ⟨1, c2, by omega, by omega, h2.le (by omega), rfl⟩
    · simp [-Bool.exists_bool]
      exact ⟨2, c2, by omega, by omega, h2.le (by omega), rfl⟩
    · simp [-Bool.exists_bool]
      exact ⟨1 + v, c2, by omega, by omega, h2.le (by omega), rfl⟩
  clear ho
  rintro _ ⟨ring, o, g1, g2, ho, rfl⟩
  refine zHz (Q54 xs f r ring n) ?_ ?_
  · simp [-Bool.exists_bool]
    refine xK6 (n := n + 4) ho (by decide) (by decide) fun u c2 u0 u1 h2 => ?_
    have u3 : u = 0 ∨ u = 1 := by omega
    rcases u3 with rfl | rfl
    · simp [-Bool.exists_bool]
      exact ⟨"whole", c2, by decide, h2.le (by omega), rfl⟩
    · simp [-Bool.exists_bool]
      exact ⟨"fields", c2, by decide, h2.le (by omega), rfl⟩
  clear ho
  rintro _ ⟨sc, o, hs, ho, rfl⟩
  refine xXn (yHx xs) ?_ ?_
  · simp [-Bool.exists_bool]
    refine xUd hx ?_
    simp [-Bool.exists_bool, yHx]
  simp only [List.set, List.set_cons_succ, List.set_cons_zero]
  have rp := xUv (xs := xs)
  refine zHz (fun m => m = ⟨[some (.cell 0), some (.d (zK1 xs f r)), some (.d (yZq (zGz xs) f r)), some (.d (.int ring)), some (.d (.str sc)), some (.d (yHx xs)), none, none], [o]⟩) ?_ ?_
  · simp [-Bool.exists_bool, -zHu, yZa]
    refine xZx ?_
    simp [-Bool.exists_bool, -zHu, yZa, wX4]
    refine xZx ?_
    simp [-Bool.exists_bool, -zHu, rp, yZa]
  rintro _ rfl
  refine xXn (yX5 xs ring sc) ?_ ?_
  · simp [-Bool.exists_bool, xGt, yZa]
    refine yUv hs ?_
    simp [-Bool.exists_bool]
  simp only [List.set, List.set_cons_succ, List.set_cons_zero]
  have rf := yYe (xs := xs) (ring := ring) hs
  have rw2 := yYe (xs := xs) (ring := 2) (sc := "whole") (by decide)
  refine yGa false ?_ (fun e => by cases e) (fun _ => ?_)
  · simp [-Bool.exists_bool, -zHu, wX6, yZa]
    refine yUv hs ?_
    simp [-Bool.exists_bool, -zHu, rf]
  refine xXn (yX5 xs 2 "whole") ?_ ?_
  · simp [-Bool.exists_bool, wX5, yZa]
    refine yUv (by decide) ?_
    simp [-Bool.exists_bool]
  simp only [List.set, List.set_cons_succ, List.set_cons_zero]
  refine yGa false ?_ (fun e => by cases e) (fun _ => ?_)
  · simp [-Bool.exists_bool, -zHu, xGt, yZa]
    refine yUv (by decide) ?_
    simp [-Bool.exists_bool, -zHu, rw2]
  have mn := min_eq g1
  have m2 : minD 2 = 2 := rfl
  by_cases hn : zVh xs = 0
  · have e1 : yHx xs = .none := by unfold yHx; rw [if_pos hn]
    have e2 : ∀ ring sc, yX5 xs ring sc = .none := fun ring sc => by unfold yX5; rw [if_pos hn]
    rw [e1, e2, e2]
    simp [-Bool.exists_bool]
    exact h o ho
  have e1 : yHx xs = nD (zVh xs) := by unfold yHx; rw [if_neg hn]
  have e2 : ∀ ring sc, yX5 xs ring sc = (zH7 xs ring sc).d := fun ring sc => by unfold yX5; rw [if_neg hn]
  have i1 : zKu .Is (nD (zVh xs)) .none = some false := rfl
  obtain ⟨l1, a1, b1⟩ := xKk (ring := ring) (sc := sc) hn
  obtain ⟨l2, a2, b2⟩ := xKk (ring := 2) (sc := "whole") hn
  rw [e1, e2, e2]
  have f1 : ∀ {X : Exn → Mem → Prop} {E : EV → Mem → Prop}, E (.d (.bool true)) ⟨[], [o]⟩ → W (zVt [.d (zK1 xs f r), .d (zH7 xs ring sc).d, .d (.str sc), .d (.int (minD ring))]) ⟨[], [o]⟩ X E := fun q => xKv hx hs hr hn q
  have f2 : ∀ {X : Exn → Mem → Prop} {E : EV → Mem → Prop}, E (.d (.bool true)) ⟨[], [o]⟩ → W (zVt [.d (zK1 xs f r), .d (zH7 xs 2 "whole").d, .d (.str "whole"), .d (.int 2)]) ⟨[], [o]⟩ X E := fun q => xKv (ring := 2) hx (by decide) hr hn q
  have c1 : zKu .Eq (.int (l1.length : Int)) (nD (zVh xs)) = some true := by rw [b1]; simp [nD]
  have c2 : zKu .Eq (.int (l2.length : Int)) (nD (zVh xs)) = some true := by rw [b2]; simp [nD]
  generalize zH7 xs ring sc = R1 at *
  generalize zH7 xs 2 "whole" = R2 at *
  refine yGa false ?_ (fun e => by cases e) (fun _ => ?_)
  · simp [-Bool.exists_bool, i1]
  refine yGa false ?_ (fun e => by cases e) (fun _ => ?_)
  · simp [-Bool.exists_bool, mn, -xZ5]
    refine f1 ?_
    simp [-Bool.exists_bool]
    refine f2 ?_
    simp [-Bool.exists_bool]
  simp [-Bool.exists_bool, a1, a2, c1, c2]
  refine ⟨fun q => ?_, fun _ => h o ho⟩
  rw [decide_eq_true q]
  exact h o ho
end
end Ev

namespace Ev
open PySem PySem.Spec PyProof.Rows L2
def J54 (ns : List Int) (n : Nat) (m : Mem) : Prop := ∃ s2 o, Pen n o ∧ m = ⟨[some (.d (yUn ns)), some (.cell 0), s2], [o]⟩
theorem vZw {g : Fn} {a b c : AV} : pD 1 2 3 [0, 1, 2] [] g [a, b, c] = g [a, b, c] := rfl
theorem law_true : wGy 63 yHg := xUf fun ns h1 h2 => by
  unfold yHg
  rw [zYe]
  unfold xV0 zXq
  refine zHz (J54 ns 9999) ?_ ?_
  · simp [-Bool.exists_bool]
    refine wYp fun o0 ho0 => ?_
    simp [-Bool.exists_bool]
    exact ⟨_, o0, ho0.le (by omega), rfl⟩
  rintro m ⟨s2, o, ho, rfl⟩
  refine zHz (J54 ns 0) ?_ ?_
  · rw [wGb]
    simp [-Bool.exists_bool]
    refine xWp (fun i m => J54 ns (1000 - 100 * i.toNat) m) 8 0 ⟨s2, o, ho.le (by simp), rfl⟩ ?_ ?_
    · clear ho
      rintro i m i0 i1 ⟨s2, o, ho, rfl⟩
      have ep : 1000 - 100 * i.toNat = (1000 - 100 * (i + 1).toNat) + 100 := by omega
      rw [ep] at ho
      generalize 1000 - 100 * (i + 1).toNat = n at ho
      rw [xU2]
      simp [-Bool.exists_bool]
      refine xH7 (n := n + 70) ho fun o' ho' => ?_
      simp [-Bool.exists_bool]
      exact ⟨_, o', ho'.le (by omega), rfl⟩
    · clear ho
      rintro m ⟨s2, o, ho, rfl⟩
      exact ⟨s2, o, ho.le (by omega), rfl⟩
  clear ho
  rintro m ⟨s2, o, ho, rfl⟩
  simp [-Bool.exists_bool]
  rw [vZw]
  refine wJ4 (by decide) (by decide) ?_
  simp [-Bool.exists_bool, yZa]
  refine yQ0 (List.Sublist.refl _) ?_
  have e : zVh zXb = 0 := by decide
  rw [e]
  simp [-Bool.exists_bool]
end Ev

namespace Ev
open PySem PySem.Spec PyProof.Rows L2
def zQ3 (i : Nat) : Stmt := PySem.Challenge.pw_shadeguards_k54_runs_that_free_old_objec.main.body.getD i (.Pass ⟨0, 0, 0, 0⟩)
structure Top (w : World) (K : PySem.W.Frag) (mg : Str → Option Value) : Prop where
  b_list : mg "list" = none
  b_isinstance : mg "isinstance" = none
  b_str : mg "str" = none
  b_tuple : mg "tuple" = none
  b_len : mg "len" = none
  b_enumerate : mg "enumerate" = none
  b_abs : mg "abs" = none
  b_int : mg "int" = none
  b_sorted : mg "sorted" = none
  b_set : mg "set" = none
  b_range : mg "range" = none
  b_bool : mg "bool" = none
  b_repr : mg "repr" = none
  b_min : mg "min" = none
  yJd : GM K mg "COLORS" yJd
  yK6 : GM K mg "KINDS" yK6
  zYd : GM K mg "ENTRIES" zYd
  yU5 : GM K mg "WHOLE" yU5
  x0_Mismatch : wG2 K mg "Mismatch"
  e_Mismatch : ExN K "Mismatch" []
  xi_InvalidEntry : XI K mg "InvalidEntry" "InvalidEntry.__init__" (zK6 (zQ3 8) 0) ["index"]
  e_InvalidEntry : ExN K "InvalidEntry" ["index"]
  xi_InvalidFresh : XI K mg "InvalidFresh" "InvalidFresh.__init__" (zK6 (zQ3 9) 0) ["value"]
  e_InvalidFresh : ExN K "InvalidFresh" ["value"]
  xi_InvalidRoots : XI K mg "InvalidRoots" "InvalidRoots.__init__" (zK6 (zQ3 10) 0) ["value"]
  e_InvalidRoots : ExN K "InvalidRoots" ["value"]
  g_Table : GM K mg "Table" (xUy "Table")
  fl_Table_kept : wVu K "Table" "kept"
  fl_Table_kept_fresh : wVu K "Table" "kept_fresh"
  fl_Table_kept_roots : wVu K "Table" "kept_roots"
  cn_Table_ROOTS : wG3 K "Table" "ROOTS" (.tuple [.str "once", .str "again"])
  m_Table___contains__ : xGa K "Table" (wW1 K) (FFp K "__contains__" "Table.__contains__" (zK6 (zQ3 32) 18))
  m_Table_is_beside : xGa K "Table" (yHv K "is_beside") (FFp K "is_beside" "Table.is_beside" (zK6 (zQ3 32) 11))
  m_Table___init__ : xGa K "Table" (RMk K mg "Table") (FFd K "__init__" "Table.__init__" (zK6 (zQ3 32) 2) [("fresh", .str "black"), ("roots", .str "once")])
  m_Table_need_beside : xGa K "Table" (yHv K "need_beside") (FFp K "need_beside" "Table.need_beside" (zK6 (zQ3 32) 13))
  m_Table_with_entries : xGa K "Table" (yHv K "with_entries") (FFp K "with_entries" "Table.with_entries" (zK6 (zQ3 32) 9))
  m_Table_empty : xGa K "Table" (wXb K "empty") (FFd K "empty" "Table.empty" (zK6 (zQ3 32) 3) [("fresh", .str "black"), ("roots", .str "once")])
  m_Table___or__ : xGa K "Table" (ROp K .BitOr) (FFp K "__or__" "Table.__or__" (zK6 (zQ3 32) 14))
  m_Table_full : xGa K "Table" (wXb K "full") (FFd K "full" "Table.full" (zK6 (zQ3 32) 4) [("fresh", .str "black"), ("roots", .str "once")])
  f__law_pen : FM K mg "_law_pen" (zQ3 34) ["_law_script"]
  f_is_color : FM K mg "is_color" (zQ3 17) ["thing"]
  f_is_entry : FM K mg "is_entry" (zQ3 18) ["thing"]
  f_least_freeing : FM K mg "least_freeing" (zQ3 3) ["table"]
  f__law_entries : FM K mg "_law_entries" (zQ3 36) []
  f_listed : FM K mg "listed" (zQ3 19) ["entries"]
  f_sorted_entries : FMS K mg "sorted_entries" (zQ3 20)
  f__law_draw : FM K mg "_law_draw" (zQ3 35) ["_law_pen_here", "_law_count"]
  f__law_rule : FM K mg "_law_rule" (zQ3 37) ["_law_pen_here"]
  f__law_sheet : FM K mg "_law_sheet" (zQ3 38) ["_law_rule_here"]
  f__law_least : FM K mg "_law_least" (zQ3 53) ["_law_rule_here"]
  f_scan_of : FM K mg "scan_of" (zQ3 4) ["x", "scanning"]
  f_freeing_run : FMD K mg "freeing_run" (zQ3 5) [("registers", .int 2), ("scanning", .str "whole")]
  f__law_shaded : FM K mg "_law_shaded" (zQ3 40) ["_law_state", "_law_one"]
  f__law_put : FM K mg "_law_put" (zQ3 41) ["_law_row", "_law_at", "_law_thing"]
  f__law_loaded : FM K mg "_law_loaded" (zQ3 42) ["_law_rule_here", "_law_state", "_law_step"]
  f__law_stored : FM K mg "_law_stored" (zQ3 43) ["_law_rule_here", "_law_state", "_law_step"]
  f__law_scanned : FM K mg "_law_scanned" (zQ3 44) ["_law_state", "_law_step"]
  f__law_made : FM K mg "_law_made" (zQ3 45) ["_law_rule_here", "_law_state", "_law_step"]
  f__law_are_there : FM K mg "_law_are_there" (zQ3 46) ["_law_state", "_law_numbers"]
  f__law_can : FM K mg "_law_can" (zQ3 47) ["_law_rule_here", "_law_state", "_law_step"]
  f__law_played : FM K mg "_law_played" (zQ3 48) ["_law_rule_here", "_law_story"]
  f__law_is_index : FM K mg "_law_is_index" (zQ3 49) ["_law_thing"]
  f__law_is_row : FM K mg "_law_is_row" (zQ3 51) ["_law_row", "_law_many"]
  f__law_is_step : FM K mg "_law_is_step" (zQ3 50) ["_law_step", "_law_mode"]
  f__law_is_story : FM K mg "_law_is_story" (zQ3 52) ["_law_story", "_law_mode", "_law_places", "_law_most", "_law_widest"]
  f__law_reach : FM K mg "_law_reach" (zQ3 39) ["_law_objects", "_law_cells"]
  f__law_frees : FM K mg "_law_frees" (zQ3 54) ["_law_rule_here", "_law_story", "_law_mode", "_law_places"]
  f__law_right : FM K mg "_law_right" (zQ3 55) ["_law_pen_here"]
  f_law : FM K mg "law" (zQ3 56) ["_law_script"]
section
variable {P : Program} {w : World} {K : PySem.W.Frag} {mg : Str → Option Value} {base : Heap}
theorem yZy : (("_law_script" : Str) == ("__debug__" : Str)) = false := by decide
theorem yZv : (("_law_script" : Str) == ("__classdict__" : Str)) = false := by decide
theorem zUh : (("thing" : Str) == ("__debug__" : Str)) = false := by decide
theorem zUd : (("thing" : Str) == ("__classdict__" : Str)) = false := by decide
theorem zKm : (("self" : Str) == ("__debug__" : Str)) = false := by decide
theorem zKl : (("self" : Str) == ("__classdict__" : Str)) = false := by decide
theorem yVp : (("table" : Str) == ("__debug__" : Str)) = false := by decide
theorem yVo : (("table" : Str) == ("__classdict__" : Str)) = false := by decide
theorem zZn : (("_law_kind" : Str) == ("__debug__" : Str)) = false := by decide
theorem zZm : (("_law_kind" : Str) == ("__classdict__" : Str)) = false := by decide
theorem zWr : (("_law_color" : Str) == ("__debug__" : Str)) = false := by decide
theorem zWp : (("_law_color" : Str) == ("__classdict__" : Str)) = false := by decide
theorem zXp : (("_law_found" : Str) == ("__debug__" : Str)) = false := by decide
theorem zXl : (("_law_found" : Str) == ("__classdict__" : Str)) = false := by decide
theorem zHp : (("other" : Str) == ("__debug__" : Str)) = false := by decide
theorem zHn : (("other" : Str) == ("__classdict__" : Str)) = false := by decide
theorem yXt : (("entry" : Str) == ("__debug__" : Str)) = false := by decide
theorem yXl : (("entry" : Str) == ("__classdict__" : Str)) = false := by decide
theorem zG3 : (("entries" : Str) == ("__debug__" : Str)) = false := by decide
theorem zG1 : (("entries" : Str) == ("__classdict__" : Str)) = false := by decide
theorem xUc : (("index" : Str) == ("__debug__" : Str)) = false := by decide
theorem xUa : (("index" : Str) == ("__classdict__" : Str)) = false := by decide
theorem yXs : (("fresh" : Str) == ("__debug__" : Str)) = false := by decide
theorem yXk : (("fresh" : Str) == ("__classdict__" : Str)) = false := by decide
theorem yZh : (("roots" : Str) == ("__debug__" : Str)) = false := by decide
theorem yZg : (("roots" : Str) == ("__classdict__" : Str)) = false := by decide
theorem zQv : (("_law_pen_here" : Str) == ("__debug__" : Str)) = false := by decide
theorem zQu : (("_law_pen_here" : Str) == ("__classdict__" : Str)) = false := by decide
theorem zWq : (("_law_count" : Str) == ("__debug__" : Str)) = false := by decide
theorem zWo : (("_law_count" : Str) == ("__classdict__" : Str)) = false := by decide
theorem yUf : (("_law_digit" : Str) == ("__debug__" : Str)) = false := by decide
theorem yUd : (("_law_digit" : Str) == ("__classdict__" : Str)) = false := by decide
theorem zJq : (("_law_at" : Str) == ("__debug__" : Str)) = false := by decide
theorem zJp : (("_law_at" : Str) == ("__classdict__" : Str)) = false := by decide
theorem zGm : (("_law_cell" : Str) == ("__debug__" : Str)) = false := by decide
theorem zGj : (("_law_cell" : Str) == ("__classdict__" : Str)) = false := by decide
theorem yXx : (("_law_great" : Str) == ("__debug__" : Str)) = false := by decide
theorem yXp : (("_law_great" : Str) == ("__classdict__" : Str)) = false := by decide
theorem yXw : (("_law_mixed" : Str) == ("__debug__" : Str)) = false := by decide
theorem yXo : (("_law_mixed" : Str) == ("__classdict__" : Str)) = false := by decide
theorem yG7 : (("_law_some" : Str) == ("__debug__" : Str)) = false := by decide
theorem yG3 : (("_law_some" : Str) == ("__classdict__" : Str)) = false := by decide
theorem zUk : (("_law_every" : Str) == ("__debug__" : Str)) = false := by decide
theorem zUg : (("_law_every" : Str) == ("__classdict__" : Str)) = false := by decide
theorem zHq : (("_law_way" : Str) == ("__debug__" : Str)) = false := by decide
theorem zHo : (("_law_way" : Str) == ("__classdict__" : Str)) = false := by decide
theorem yXz : (("_law_entry" : Str) == ("__debug__" : Str)) = false := by decide
theorem yXr : (("_law_entry" : Str) == ("__classdict__" : Str)) = false := by decide
theorem zYs : (("_law_chosen" : Str) == ("__debug__" : Str)) = false := by decide
theorem zYr : (("_law_chosen" : Str) == ("__classdict__" : Str)) = false := by decide
theorem xG0 : (("cls" : Str) == ("__debug__" : Str)) = false := by decide
theorem xGy : (("cls" : Str) == ("__classdict__" : Str)) = false := by decide
theorem zQo : (("_law_rule_here" : Str) == ("__debug__" : Str)) = false := by decide
theorem zQn : (("_law_rule_here" : Str) == ("__classdict__" : Str)) = false := by decide
theorem yZ5 : (("scanning" : Str) == ("__debug__" : Str)) = false := by decide
theorem yZ4 : (("scanning" : Str) == ("__classdict__" : Str)) = false := by decide
theorem wHy : (("x" : Str) == ("__debug__" : Str)) = false := by decide
theorem wHx : (("x" : Str) == ("__classdict__" : Str)) = false := by decide
theorem xZu : (("least" : Str) == ("__debug__" : Str)) = false := by decide
theorem xZt : (("least" : Str) == ("__classdict__" : Str)) = false := by decide
theorem yG5 : (("registers" : Str) == ("__debug__" : Str)) = false := by decide
theorem yG1 : (("registers" : Str) == ("__classdict__" : Str)) = false := by decide
theorem yG6 : (("places" : Str) == ("__debug__" : Str)) = false := by decide
theorem yG2 : (("places" : Str) == ("__classdict__" : Str)) = false := by decide
theorem xGz : (("cut" : Str) == ("__debug__" : Str)) = false := by decide
theorem xGx : (("cut" : Str) == ("__classdict__" : Str)) = false := by decide
theorem xKd : (("scan" : Str) == ("__debug__" : Str)) = false := by decide
theorem xKb : (("scan" : Str) == ("__classdict__" : Str)) = false := by decide
theorem xUb : (("steps" : Str) == ("__debug__" : Str)) = false := by decide
theorem xY9 : (("steps" : Str) == ("__classdict__" : Str)) = false := by decide
theorem zQ9 : (("_law_state" : Str) == ("__debug__" : Str)) = false := by decide
theorem zQ8 : (("_law_state" : Str) == ("__classdict__" : Str)) = false := by decide
theorem zZk : (("_law_one" : Str) == ("__debug__" : Str)) = false := by decide
theorem zZi : (("_law_one" : Str) == ("__classdict__" : Str)) = false := by decide
theorem zZ2 : (("_law_colors" : Str) == ("__debug__" : Str)) = false := by decide
theorem zZ1 : (("_law_colors" : Str) == ("__classdict__" : Str)) = false := by decide
theorem yWt : (("_law_ground" : Str) == ("__debug__" : Str)) = false := by decide
theorem yWq : (("_law_ground" : Str) == ("__classdict__" : Str)) = false := by decide
theorem zZb : (("_law_cells" : Str) == ("__debug__" : Str)) = false := by decide
theorem zZa : (("_law_cells" : Str) == ("__classdict__" : Str)) = false := by decide
theorem zXm : (("_law_visited" : Str) == ("__debug__" : Str)) = false := by decide
theorem zXi : (("_law_visited" : Str) == ("__classdict__" : Str)) = false := by decide
theorem zKc : (("_law_row" : Str) == ("__debug__" : Str)) = false := by decide
theorem zKa : (("_law_row" : Str) == ("__classdict__" : Str)) = false := by decide
theorem zUi : (("_law_thing" : Str) == ("__debug__" : Str)) = false := by decide
theorem zUe : (("_law_thing" : Str) == ("__classdict__" : Str)) = false := by decide
theorem zQk : (("_law_step" : Str) == ("__debug__" : Str)) = false := by decide
theorem zQj : (("_law_step" : Str) == ("__classdict__" : Str)) = false := by decide
theorem zZl : (("_law_objects" : Str) == ("__debug__" : Str)) = false := by decide
theorem zZj : (("_law_objects" : Str) == ("__classdict__" : Str)) = false := by decide
theorem zJb : (("_law_source" : Str) == ("__debug__" : Str)) = false := by decide
theorem zJa : (("_law_source" : Str) == ("__classdict__" : Str)) = false := by decide
theorem zGl : (("_law_held" : Str) == ("__debug__" : Str)) = false := by decide
theorem zGi : (("_law_held" : Str) == ("__classdict__" : Str)) = false := by decide
theorem zXo : (("_law_later" : Str) == ("__debug__" : Str)) = false := by decide
theorem zXk : (("_law_later" : Str) == ("__classdict__" : Str)) = false := by decide
theorem yXy : (("_law_given" : Str) == ("__debug__" : Str)) = false := by decide
theorem yXq : (("_law_given" : Str) == ("__classdict__" : Str)) = false := by decide
theorem zZ8 : (("_law_width" : Str) == ("__debug__" : Str)) = false := by decide
theorem zZ7 : (("_law_width" : Str) == ("__classdict__" : Str)) = false := by decide
theorem yZz : (("_law_fields" : Str) == ("__debug__" : Str)) = false := by decide
theorem yZw : (("_law_fields" : Str) == ("__classdict__" : Str)) = false := by decide
theorem xKe : (("_law_f" : Str) == ("__debug__" : Str)) = false := by decide
theorem xKc : (("_law_f" : Str) == ("__classdict__" : Str)) = false := by decide
theorem yQv : (("_law_seen" : Str) == ("__debug__" : Str)) = false := by decide
theorem yQs : (("_law_seen" : Str) == ("__classdict__" : Str)) = false := by decide
theorem yQw : (("_law_numbers" : Str) == ("__debug__" : Str)) = false := by decide
theorem yQt : (("_law_numbers" : Str) == ("__classdict__" : Str)) = false := by decide
theorem yKl : (("_law_r" : Str) == ("__debug__" : Str)) = false := by decide
theorem yKj : (("_law_r" : Str) == ("__classdict__" : Str)) = false := by decide
theorem yWs : (("_law_whites" : Str) == ("__debug__" : Str)) = false := by decide
theorem yWp : (("_law_whites" : Str) == ("__classdict__" : Str)) = false := by decide
theorem zXn : (("_law_story" : Str) == ("__debug__" : Str)) = false := by decide
theorem zXj : (("_law_story" : Str) == ("__classdict__" : Str)) = false := by decide
theorem zG4 : (("_law_heap_here" : Str) == ("__debug__" : Str)) = false := by decide
theorem zG2 : (("_law_heap_here" : Str) == ("__classdict__" : Str)) = false := by decide
theorem yQx : (("_law_many" : Str) == ("__debug__" : Str)) = false := by decide
theorem yQu : (("_law_many" : Str) == ("__classdict__" : Str)) = false := by decide
theorem zJt : (("_law_steps" : Str) == ("__debug__" : Str)) = false := by decide
theorem zJs : (("_law_steps" : Str) == ("__classdict__" : Str)) = false := by decide
theorem zKd : (("_law_mode" : Str) == ("__debug__" : Str)) = false := by decide
theorem zKb : (("_law_mode" : Str) == ("__classdict__" : Str)) = false := by decide
theorem yXu : (("_law_sizes" : Str) == ("__debug__" : Str)) = false := by decide
theorem yXm : (("_law_sizes" : Str) == ("__classdict__" : Str)) = false := by decide
theorem yWr : (("_law_widest" : Str) == ("__debug__" : Str)) = false := by decide
theorem yWo : (("_law_widest" : Str) == ("__classdict__" : Str)) = false := by decide
theorem yG8 : (("_law_most" : Str) == ("__debug__" : Str)) = false := by decide
theorem yG4 : (("_law_most" : Str) == ("__classdict__" : Str)) = false := by decide
theorem zKs : (("_law_places" : Str) == ("__debug__" : Str)) = false := by decide
theorem zKr : (("_law_places" : Str) == ("__classdict__" : Str)) = false := by decide
theorem yKm : (("_law_earlier" : Str) == ("__debug__" : Str)) = false := by decide
theorem yKk : (("_law_earlier" : Str) == ("__classdict__" : Str)) = false := by decide
theorem yXv : (("_law_other" : Str) == ("__debug__" : Str)) = false := by decide
theorem yXn : (("_law_other" : Str) == ("__classdict__" : Str)) = false := by decide
theorem yUe : (("_law_inner" : Str) == ("__debug__" : Str)) = false := by decide
theorem yUc : (("_law_inner" : Str) == ("__classdict__" : Str)) = false := by decide
theorem yZx : (("_law_states" : Str) == ("__debug__" : Str)) = false := by decide
theorem yZu : (("_law_states" : Str) == ("__classdict__" : Str)) = false := by decide
theorem zXz : (("_law_sheet_here" : Str) == ("__debug__" : Str)) = false := by decide
theorem zXy : (("_law_sheet_here" : Str) == ("__classdict__" : Str)) = false := by decide
theorem zU3 : (("_law_due" : Str) == ("__debug__" : Str)) = false := by decide
theorem zU2 : (("_law_due" : Str) == ("__classdict__" : Str)) = false := by decide
theorem zGk : (("_law_told" : Str) == ("__debug__" : Str)) = false := by decide
theorem zGh : (("_law_told" : Str) == ("__classdict__" : Str)) = false := by decide
theorem zUj : (("_law_plain" : Str) == ("__debug__" : Str)) = false := by decide
theorem zUf : (("_law_plain" : Str) == ("__classdict__" : Str)) = false := by decide
theorem yWa (T : Top w K mg) {k : Nat} (hk : 1 ≤ k) : ExX P w K mg base k "InvalidEntry" ["index"] := wUc T.xi_InvalidEntry hk ⟨rfl, rfl, rfl, by decide +kernel, rfl, by decide +kernel, by decide +kernel⟩ rfl rfl rfl (by decide) (by decide)
theorem yK9 (T : Top w K mg) {k : Nat} (hk : 1 ≤ k) : ExX P w K mg base k "InvalidFresh" ["value"] := wUc T.xi_InvalidFresh hk ⟨rfl, rfl, rfl, by decide +kernel, rfl, by decide +kernel, by decide +kernel⟩ rfl rfl rfl (by decide) (by decide)
theorem yK8 (T : Top w K mg) {k : Nat} (hk : 1 ≤ k) : ExX P w K mg base k "InvalidRoots" ["value"] := wUc T.xi_InvalidRoots hk ⟨rfl, rfl, rfl, by decide +kernel, rfl, by decide +kernel, by decide +kernel⟩ rfl rfl rfl (by decide) (by decide)
theorem yH7 : FnScope ["_law_script"] ["_law_script"] (defScope (zQ3 34)) := ⟨rfl, rfl, rfl, by decide +kernel, rfl, by decide +kernel, by decide +kernel⟩
theorem xQf (T : Top w K mg) (sm : SM base) {f : Addr} {fd : FuncData} (F : Fun K "_law_pen" "_law_pen" (zQ3 34) f fd) : FnG P w K mg base 1 f fd ["_law_script"] (spG K 1 (zZp 1 yZ3)) :=
  zVs F yH7 sm rfl rfl fun cdv A outer s H E B C po hr => zQi (zQx (zZq (zQa (zUc (xZn C) rfl T.b_list rfl (zQy (yXd (zQb 0 rfl (.inl rfl) yZy yZv) (zY5) (zKq (zQf))) (zQ6))) (zQa (zQf) (zQa (zQf) (zQe))))))
theorem xJh (T : Top w K mg) (sm : SM base) {k : Nat} (hk : 1 ≤ k) : yJe P w K mg base k "_law_pen" ["_law_script"] zHv := zJ6 T.f__law_pen hk (xQf T sm)
theorem yH5 : FnScope ["thing"] ["thing"] (defScope (zQ3 17)) := ⟨rfl, rfl, rfl, by decide +kernel, rfl, by decide +kernel, by decide +kernel⟩
theorem xQd (T : Top w K mg) (sm : SM base) {f : Addr} {fd : FuncData} (F : Fun K "is_color" "is_color" (zQ3 17) f fd) : FnG P w K mg base 1 f fd ["thing"] (spG K 1 (zZp 1 yZ2)) :=
  zVs F yH5 sm rfl rfl fun cdv A outer s H E B C po hr => zQi (zQx (snd_and (zYk (zQb 0 rfl (.inl rfl) zUh zUd) rfl T.b_isinstance rfl rfl T.b_str rfl) (zVn (zZx C (zQb 0 rfl (.inl rfl) zUh zUd) (zHa rfl T.yJd)))))
theorem yYa (T : Top w K mg) (sm : SM base) {k : Nat} (hk : 1 ≤ k) : yJe P w K mg base k "is_color" ["thing"] zU8 := zJ6 T.f_is_color hk (xQd T sm)
theorem yH4 : FnScope ["thing"] ["thing"] (defScope (zQ3 18)) := ⟨rfl, rfl, rfl, by decide +kernel, rfl, by decide +kernel, by decide +kernel⟩
theorem xQc (T : Top w K mg) (sm : SM base) {f : Addr} {fd : FuncData} (F : Fun K "is_entry" "is_entry" (zQ3 18) f fd) : FnG P w K mg base 2 f fd ["thing"] (spG K 1 (zZp 1 yZ1)) :=
  zVs F yH4 sm rfl rfl fun cdv A outer s H E B C po hr => zQg (zZs (yZj.t (zX0 (zZ6 (zZ5 (zYk (zQb 0 rfl (.inl rfl) zUh zUd) rfl T.b_isinstance rfl rfl T.b_tuple rfl))) (zX0 (zQm C (zZv (zVg) rfl T.b_len rfl (zQy (zQb 0 rfl (.inl rfl) zUh zUd) (zQ6))) (zQf)) (zJk (zZ6 (zZ5 (zYk (zQr C (zQb 0 rfl (.inl rfl) zUh zUd) (zQf) zQl) rfl T.b_isinstance rfl rfl T.b_str rfl))))))) (zQi (zQx (zX6))) (zQ2)) (zQi (zQx (snd_and (zZx C (zQr C (zQb 0 rfl (.inl rfl) zUh zUd) (zQf) zQl) (zHa rfl T.yK6)) (zVn (zQw C ⟨yYa T sm (by decide)⟩ rfl hr rfl (zQa (zQr C (zQb 0 rfl (.inl rfl) zUh zUd) (zQf) zQl) (zQe)))))))
theorem yW9 (T : Top w K mg) (sm : SM base) {k : Nat} (hk : 2 ≤ k) : yJe P w K mg base k "is_entry" ["thing"] zU7 := zJ6 T.f_is_entry hk (xQc T sm)
theorem yQi : FnScope ["self", "thing"] ["self", "thing"] (defScope (zK6 (zQ3 32) 18)) := ⟨rfl, rfl, rfl, by decide +kernel, rfl, by decide +kernel, by decide +kernel⟩
theorem yQq (T : Top w K mg) (sm : SM base) {f : Addr} {fd : FuncData} (F : Fun K "__contains__" "Table.__contains__" (zK6 (zQ3 32) 18) f fd) : FnG P w K mg base 3 f fd ["self", "thing"] (spG K 2 (zZp 2 zV9)) :=
  zVs F yQi sm rfl rfl fun cdv A outer s H E B C po hr => zQi (zQx (snd_and (zQw C ⟨yW9 T sm (by decide)⟩ rfl hr rfl (zQa (zQb 1 rfl (.inl rfl) zUh zUd) (zQe))) (zVn (zZx C (zQb 1 rfl (.inl rfl) zUh zUd) (zUz (zQb 0 rfl (.inl rfl) zKm zKl) (yX7 T.fl_Table_kept zYb))))))
theorem wUf (T : Top w K mg) (sm : SM base) {k : Nat} (hk : 3 ≤ k) : xQx P w K mg base k "Table" (wW1 K) [] (pD 2 0 2 [0, 1] [] zZ0) := yQy T.m_Table___contains__ (fun F => wVe (ps := ["self", "thing"]) (yQq T sm) hk 2 [0, 1] rfl (fun _ _ _ _ _ _ us ws h1 h2 => match us, ws, h1, h2 with | [_, _], [], _, _ => rfl) F)
theorem yJ8 : FnScope ["table"] ["table"] (defScope (zQ3 3)) := ⟨rfl, rfl, rfl, by decide +kernel, rfl, by decide +kernel, by decide +kernel⟩
theorem zH5 (T : Top w K mg) (sm : SM base) {f : Addr} {fd : FuncData} (F : Fun K "least_freeing" "least_freeing" (zQ3 3) f fd) : FnG P w K mg base 5 f fd ["table"] (spG K 1 (zZp 1 zY8)) :=
  zVs F yJ8 sm rfl rfl fun cdv A outer s H E B C po hr => zQg (zZs (yV0 C (hr.mono (by decide)) (xQu rfl (wUf T sm (k := 3) (by decide)) yU1) (zQz (zQa (zQp) (zQa (zQp) (zQe)))) (zQb 0 rfl (.inl rfl) yVp yVo)) (zQi (zQx (zQf))) (zQ2)) (zQi (zQx (zWa (yZj.t (zX0 (yV0 C (hr.mono (by decide)) (xQu rfl (wUf T sm (k := 3) (by decide)) yU1) (zQz (zQa (zQp) (zQa (zQp) (zQe)))) (zQb 0 rfl (.inl rfl) yVp yVo)) (zJk (yV0 C (hr.mono (by decide)) (xQu rfl (wUf T sm (k := 3) (by decide)) yU1) (zQz (zQa (zQp) (zQa (zQp) (zQe)))) (zQb 0 rfl (.inl rfl) yVp yVo))))) (zXe) (zQf))))
theorem zU4 (T : Top w K mg) (sm : SM base) {k : Nat} (hk : 5 ≤ k) : yJe P w K mg base k "least_freeing" ["table"] zZ9 := zJ6 T.f_least_freeing hk (zH5 T sm)
theorem vJd (T : Top w K mg) (sm : SM base) {k : Nat} (hk : 5 ≤ k) : ∃ (f : Addr) (fd : FuncData), FnG P w K mg base k f fd ["table"] (spG K (["table"] : List Str).length zZ9) ∧ mg "least_freeing" = some (.ref f) ∧ PySem.W.keepIn K (.ref f) = true ∧
    ∀ (s : Shared) (us ws : List Value), K.In s.heap → us.length = 0 → ws.length = (["table"] : List Str).length → BindsTo s fd ⟨us, (["table"] : List Str).zip ws⟩ ((["table"] : List Str).zip (pick [0] (us ++ ws))) :=
  wQ4 T.f_least_freeing hk (zH5 T sm) fun _ _ _ _ _ _ us ws h1 h2 => match us, ws, h1, h2 with | [], [_], _, _ => rfl
theorem yV5 : FnScope ["_law_found", "_law_kind", "_law_color"] [] (defScope (zQ3 36)) := ⟨rfl, rfl, rfl, by decide +kernel, rfl, by decide +kernel, by decide +kernel⟩
theorem yKh (T : Top w K mg) (sm : SM base) {f : Addr} {fd : FuncData} (F : Fun K "_law_entries" "_law_entries" (zQ3 36) f fd) : FnG P w K mg base 1 f fd [] (spG K 0 (zZp 3 yQn)) :=
  zVs F yV5 sm rfl rfl fun cdv A outer s H E B C po hr => zQg (zQ5 0 C rfl (.inl rfl) (zZq (zQe))) (zQg (yQe (is := [1]) C po (zX7 (zQz (zQa (zQp) (zQa (zQp) (zQa (zQp) (zQa (zQp) (zQe))))))) (zQq 1 C rfl (.inr rfl) (by decide)) (zQ4) (zQi (xVg 0 rfl (.inl rfl) (yQd (own := [("_law_color", 2)]) C (zGp (by rfl)) (zQ4) (yWy.e (zX7 (zQz (zQa (zQp) (zQa (zQp) (zQa (zQp) (zQe))))))) (fun s1 H1 K1 l1 p1 => zQq 2 (zZw C s1 H1 K1 l1 p1) rfl (.inl rfl) (by decide)) (fun s1 H1 K1 l1 p1 => yGj) (fun s1 H1 K1 l1 p1 => zQz (zQa (zQb 1 rfl (.inr (.inl rfl)) zZn zZm) (zQa (zQb 2 rfl (.inl rfl) zWr zWp) (zQe)))))))) (zQi (zQx (zQb 0 rfl (.inl rfl) zXp zXl))))
theorem yWx (T : Top w K mg) (sm : SM base) {k : Nat} (hk : 1 ≤ k) : yJe P w K mg base k "_law_entries" [] zU9 := zJ6 T.f__law_entries hk (yKh T sm)
theorem yXf : FnScope ["self", "other"] ["self", "other"] (defScope (zK6 (zQ3 32) 11)) := ⟨rfl, rfl, rfl, by decide +kernel, rfl, by decide +kernel, by decide +kernel⟩
theorem yXi (T : Top w K mg) (sm : SM base) {f : Addr} {fd : FuncData} (F : Fun K "is_beside" "Table.is_beside" (zK6 (zQ3 32) 11) f fd) : FnG P w K mg base 1 f fd ["self", "other"] (spG K 2 (zZp 2 zWe)) :=
  zVs F yXf sm rfl rfl fun cdv A outer s H E B C po hr => zQi (zQx (snd_and (zZx C (zUz (zQb 0 rfl (.inl rfl) zKm zKl) (yX7 T.fl_Table_kept_fresh zYb)) (zUz (zQb 1 rfl (.inl rfl) zHp zHn) (yX7 T.fl_Table_kept_fresh zYb))) (zVn (zZx C (zUz (zQb 0 rfl (.inl rfl) zKm zKl) (yX7 T.fl_Table_kept_roots zYb)) (zUz (zQb 1 rfl (.inl rfl) zHp zHn) (yX7 T.fl_Table_kept_roots zYb))))))
theorem vJr (T : Top w K mg) (sm : SM base) {k : Nat} (hk : 1 ≤ k) : xQx P w K mg base k "Table" (yHv K "is_beside") [] (pD 2 0 2 [0, 1] [] zV6) := yQy T.m_Table_is_beside (fun F => wVe (ps := ["self", "other"]) (yXi T sm) hk 2 [0, 1] rfl (fun _ _ _ _ _ _ us ws h1 h2 => match us, ws, h1, h2 with | [_, _], [], _, _ => rfl) F)
theorem yZl : FnScope ["self", "other"] ["self", "other"] (defScope (zK6 (zQ3 32) 13)) := ⟨rfl, rfl, rfl, by decide +kernel, rfl, by decide +kernel, by decide +kernel⟩
theorem yZm (T : Top w K mg) (sm : SM base) {f : Addr} {fd : FuncData} (F : Fun K "need_beside" "Table.need_beside" (zK6 (zQ3 32) 13) f fd) : FnG P w K mg base 2 f fd ["self", "other"] (spG K 2 (zZp 2 zKj)) :=
  zVs F yZl sm rfl rfl fun cdv A outer s H E B C po hr => zQi (zZs (zZ6 (zZ5 (yXe (zQb 0 rfl (.inl rfl) zKm zKl) (yG9 C (vJr T sm (k := 1) (by decide)) (hr.mono (by decide)) yX0) (yZd (zQa (zQb 1 rfl (.inl rfl) zHp zHn) (zQe)) (zJr)) rfl rfl))) (zQi (xXv C T.x0_Mismatch rfl)) (zQ2))
theorem vQe (T : Top w K mg) (sm : SM base) {k : Nat} (hk : 2 ≤ k) : xQx P w K mg base k "Table" (yHv K "need_beside") [] (pD 2 0 2 [0, 1] [] zX5) := yQy T.m_Table_need_beside (fun F => wVe (ps := ["self", "other"]) (yZm T sm) hk 2 [0, 1] rfl (fun _ _ _ _ _ _ us ws h1 h2 => match us, ws, h1, h2 with | [_, _], [], _, _ => rfl) F)
theorem xVo : FnScope ["entries", "entry"] ["entries"] (defScope (zQ3 19)) := ⟨rfl, rfl, rfl, by decide +kernel, rfl, by decide +kernel, by decide +kernel⟩
theorem xV6 (T : Top w K mg) (sm : SM base) {f : Addr} {fd : FuncData} (F : Fun K "listed" "listed" (zQ3 19) f fd) : FnG P w K mg base 1 f fd ["entries"] (spG K 1 (zZp 2 yV9)) :=
  zVs F xVo sm rfl rfl fun cdv A outer s H E B C po hr => zQi (zQx (zUc (yY3) rfl T.b_tuple rfl (zQy (yQd (own := [("entry", 1)]) C (zGp (by rfl)) (zQ4) (yWy.e (zX7 (zHa rfl T.zYd))) (fun s1 H1 K1 l1 p1 => zQq 1 (zZw C s1 H1 K1 l1 p1) rfl (.inl rfl) (by decide)) (fun s1 H1 K1 l1 p1 => zVx (zQm (zZw C s1 H1 K1 l1 p1) (zQb 1 rfl (.inl rfl) yXt yXl) (zQb 0 rfl (.inr (.inl rfl)) zG3 zG1))) (fun s1 H1 K1 l1 p1 => zQb 1 rfl (.inl rfl) yXt yXl)) (zQ6))))
theorem xZ4 (T : Top w K mg) (sm : SM base) {k : Nat} (hk : 1 ≤ k) : yJe P w K mg base k "listed" ["entries"] yQ3 := zJ6 T.f_listed hk (xV6 T sm)
theorem yJl : FnScope ["entries", "index", "entry"] ["entries"] (defScope (zQ3 20)) := ⟨rfl, rfl, rfl, by decide +kernel, rfl, by decide +kernel, by decide +kernel⟩
theorem yJo (T : Top w K mg) (sm : SM base) {f : Addr} {fd : FuncData} (F : Fun K "sorted_entries" "sorted_entries" (zQ3 20) f fd) : FnG P w K mg base 3 f fd ["entries"] (spG K 1 (zZp 3 zYl)) :=
  zVs F yJl sm rfl rfl fun cdv A outer s H E B C po hr => zQg (yQe (is := [1, 2]) C po (xX0 rfl T.b_enumerate (zQa (zQb 0 rfl (.inl rfl) zG3 zG1) (zQe))) (zJ8 2 C (zQt (zQq 1 C rfl (.inl rfl) (by decide)) (zQt (zQq 2 C rfl (.inl rfl) (by decide)) (zX3)))) (zUa (zQ7 (zQ4) (zQ7 (zQ4) (zKk)))) (zQi (zZs (zZ6 (zZ5 (zQw C ⟨yW9 T sm (by decide)⟩ rfl hr rfl (zQa (zQb 2 rfl (.inl rfl) yXt yXl) (zQe))))) (zQi (yVy C (yWa T (k := 1) (by decide)) (hr.mono (by decide)) (by decide) rfl (zQa (zQb 1 rfl (.inl rfl) xUc xUa) (zQe)))) (zQ2)))) (zQi (zQx (zQw C ⟨xZ4 T sm (by decide)⟩ rfl hr rfl (zQa (zQb 0 rfl (.inl rfl) zG3 zG1) (zQe)))))
theorem yJt (T : Top w K mg) (sm : SM base) {k : Nat} (hk : 3 ≤ k) : wGx P w K mg base k "sorted_entries" [] (pS true 0 0 1 [] [] zKi) := wJm T.f_sorted_entries (fun F => wUe (ps := []) (pv := "entries") (yJo T sm) hk 0 [] rfl (fun _ _ _ _ _ _ us ws rest h1 h2 h3 => match us, ws, rest, h1, h2, h3 with | [], [], [], _, _, _ => rfl | [], [], _ :: _, _, _, h => rfl) F)
theorem yJn : FnScope ["self", "fresh", "roots", "entries"] ["self", "fresh", "roots", "entries"] (defScope (zK6 (zQ3 32) 2)) := ⟨rfl, rfl, rfl, by decide +kernel, rfl, by decide +kernel, by decide +kernel⟩
theorem yJr (T : Top w K mg) (sm : SM base) {f : Addr} {fd : FuncData} (F : Fun K "__init__" "Table.__init__" (zK6 (zQ3 32) 2) f fd) : FnG P w K mg base 4 f fd ["self", "fresh", "roots", "entries"] (spG K 4 (zZp 4 zYm)) :=
  zVs F yJn sm rfl rfl fun cdv A outer s H E B C po hr => zQg (yYo (xHx C (yJt T sm (k := 3) (by decide)) (hr.mono (by decide)) rfl (yJk (zQb 3 rfl (.inl rfl) zG3 zG1) zJr) rfl) (zQb 0 rfl (.inl rfl) zKm zKl) (yX7 T.fl_Table_kept zYb)) (zQg (zZs (zZ6 (zZ5 (zQw C ⟨yYa T sm (by decide)⟩ rfl hr rfl (zQa (zQb 1 rfl (.inl rfl) yXs yXk) (zQe))))) (zQi (yVy C (yK9 T (k := 1) (by decide)) (hr.mono (by decide)) (by decide) rfl (zQa (zQb 1 rfl (.inl rfl) yXs yXk) (zQe)))) (zQ2)) (zQg (zZs (yZj.t (zX0 (zZ6 (zZ5 (zYk (zQb 2 rfl (.inl rfl) yZh yZg) rfl T.b_isinstance rfl rfl T.b_str rfl))) (zJk (zQm C (zQb 2 rfl (.inl rfl) yZh yZg) (xHy (zQb 0 rfl (.inl rfl) zKm zKl) (wVg T.cn_Table_ROOTS xUx)))))) (zQi (yVy C (yK8 T (k := 1) (by decide)) (hr.mono (by decide)) (by decide) rfl (zQa (zQb 2 rfl (.inl rfl) yZh yZg) (zQe)))) (zQ2)) (zQg (yYo (zQb 1 rfl (.inl rfl) yXs yXk) (zQb 0 rfl (.inl rfl) zKm zKl) (yX7 T.fl_Table_kept_fresh zYb)) (zQi (yYo (zQb 2 rfl (.inl rfl) yZh yZg) (zQb 0 rfl (.inl rfl) zKm zKl) (yX7 T.fl_Table_kept_roots zYb))))))
theorem wK9 (T : Top w K mg) (sm : SM base) {k : Nat} (hk : 4 ≤ k) : xQx P w K mg base k "Table" (RMk K mg "Table") ["fresh", "roots"] (pS true 1 2 4 [0, 1, 2] [] zXd) := yQy T.m_Table___init__ (fun F => vJn (ps := ["self", "fresh", "roots"]) (pv := "entries") (yJr T sm) hk 1 [] [0, 1, 2] [] (by simp) (by simp) (fun _ => .nil) rfl (fun _ _ _ _ _ _ us mv ws rest h1 h2 h3 h4 => match us, mv, ws, rest, h1, h2, h3, h4 with | [_], [], [_, _], [], _, _, _, _ => rfl | [_], [], [_, _], _ :: _, _, _, _, h => rfl) F)
theorem yQh : FnScope ["self", "entries"] ["self", "entries"] (defScope (zK6 (zQ3 32) 9)) := ⟨rfl, rfl, rfl, by decide +kernel, rfl, by decide +kernel, by decide +kernel⟩
theorem yQp (T : Top w K mg) (sm : SM base) {f : Addr} {fd : FuncData} (F : Fun K "with_entries" "Table.with_entries" (zK6 (zQ3 32) 9) f fd) : FnG P w K mg base 6 f fd ["self", "entries"] (spG K 2 (zZp 2 zV8)) :=
  zVs F yQh sm rfl rfl fun cdv A outer s H E B C po hr => zQi (zQx (xZc C (wK9 T sm (k := 4) (by decide)) (hr.mono (by decide)) rfl (yJk (zQb 1 rfl (.inl rfl) zG3 zG1) (zXc (zUz (zQb 0 rfl (.inl rfl) zKm zKl) (yX7 T.fl_Table_kept_fresh zYb)) (zXc (zUz (zQb 0 rfl (.inl rfl) zKm zKl) (yX7 T.fl_Table_kept_roots zYb)) (zJr)))) rfl))
theorem vQd (T : Top w K mg) (sm : SM base) {k : Nat} (hk : 6 ≤ k) : xQx P w K mg base k "Table" (yHv K "with_entries") [] (pD 2 0 2 [0, 1] [] zXx) := yQy T.m_Table_with_entries (fun F => wVe (ps := ["self", "entries"]) (yQp T sm) hk 2 [0, 1] rfl (fun _ _ _ _ _ _ us ws h1 h2 => match us, ws, h1, h2 with | [_, _], [], _, _ => rfl) F)
theorem yVb : FnScope ["self", "other", "entry"] ["self", "other"] (defScope (zK6 (zQ3 32) 16)) := ⟨rfl, rfl, rfl, by decide +kernel, rfl, by decide +kernel, by decide +kernel⟩
theorem xJu (T : Top w K mg) (sm : SM base) {f : Addr} {fd : FuncData} (F : Fun K "__sub__" "Table.__sub__" (zK6 (zQ3 32) 16) f fd) : FnG P w K mg base 7 f fd ["self", "other"] (spG K 2 (zZp 3 zH4)) :=
  zVs F yVb sm rfl rfl fun cdv A outer s H E B C po hr => zQg (xZd (yXe (zQb 0 rfl (.inl rfl) zKm zKl) (yG9 C (vQe T sm (k := 2) (by decide)) (hr.mono (by decide)) yX0) (yZd (zQa (zQb 1 rfl (.inr (.inl rfl)) zHp zHn) (zQe)) (zJr)) rfl rfl)) (zQi (zQx (yXe (zQb 0 rfl (.inl rfl) zKm zKl) (yG9 C (vQd T sm (k := 6) (by decide)) (hr.mono (by decide)) yX0) (yZd (zQa (zUc (yY3) rfl T.b_tuple rfl (zQy (yQd (own := [("entry", 2)]) C (zGp (by rfl)) (zQ4) (yWy.e (zX7 (zUz (zQb 0 rfl (.inl rfl) zKm zKl) (yX7 T.fl_Table_kept zYb)))) (fun s1 H1 K1 l1 p1 => zQq 2 (zZw C s1 H1 K1 l1 p1) rfl (.inl rfl) (by decide)) (fun s1 H1 K1 l1 p1 => zVx (zQm (zZw C s1 H1 K1 l1 p1) (zQb 2 rfl (.inl rfl) yXt yXl) (zUz (zQb 1 rfl (.inr (.inl rfl)) zHp zHn) (yX7 T.fl_Table_kept zYb)))) (fun s1 H1 K1 l1 p1 => zQb 2 rfl (.inl rfl) yXt yXl)) (zQ6))) (zQe)) (zJr)) rfl rfl)))
theorem yGo : FnScope ["_law_pen_here", "_law_count", "_law_digit", "_law_at", "_law_cell", "_law_great", "_law_mixed"] ["_law_pen_here", "_law_count"] (defScope (zQ3 35)) := ⟨rfl, rfl, rfl, by decide +kernel, rfl, by decide +kernel, by decide +kernel⟩
theorem yGz (T : Top w K mg) (sm : SM base) {f : Addr} {fd : FuncData} (F : Fun K "_law_draw" "_law_draw" (zQ3 35) f fd) : FnG P w K mg base 1 f fd ["_law_pen_here", "_law_count"] (spG K 2 (zZp 7 yQo)) :=
  zVs F yGo sm rfl rfl fun cdv A outer s H E B C po hr => zQg (zZs (zQm C (zQr C (zQb 0 rfl (.inl rfl) zQv zQu) (zQf) zQl) (zQf)) (zQg (zQ5 2 C rfl (.inl rfl) (zZd (zQr C (zQb 0 rfl (.inl rfl) zQv zQu) (zQf) zQl) (zQb 1 rfl (.inl rfl) zWq zWo))) (zQg (yXc C (zZd (zQr C (zQb 0 rfl (.inl rfl) zQv zQu) (zQf) zQl) (zQb 1 rfl (.inl rfl) zWq zWo)) (zQb 0 rfl (.inl rfl) zQv zQu) (zQf)) (zQi (zQx (zQb 2 rfl (.inl rfl) yUf yUd))))) (zQ2)) (zQg (zQ5 3 C rfl (.inl rfl) (zQr C (zQb 0 rfl (.inl rfl) zQv zQu) (zQf) zQl)) (zQg (yXc C (zZd (zQb 3 rfl (.inl rfl) zJq zJp) (zQf)) (zQb 0 rfl (.inl rfl) zQv zQu) (zQf)) (zQg (zQ5 4 C rfl (.inl rfl) (zZd (zZd (zQf) (zQb 3 rfl (.inl rfl) zJq zJp)) (zQf))) (zQg (zZs (zQm C (zQr C (zQb 0 rfl (.inl rfl) zQv zQu) (zQf) zQl) (zZq (zQe))) (zQi (zQ5 4 C rfl (.inl rfl) (zQr C (zQr C (zQb 0 rfl (.inl rfl) zQv zQu) (zQf) zQl) (zZd (zQb 3 rfl (.inl rfl) zJq zJp) (zZv (zVg) rfl T.b_len rfl (zQy (zQr C (zQb 0 rfl (.inl rfl) zQv zQu) (zQf) zQl) (zQ6)))) xGq))) (zQ2)) (zQg (zZs (yZj.t (zGf (zQm C (zQb 3 rfl (.inl rfl) zJq zJp) (zZv (zVg) rfl T.b_len rfl (zQy (zQr C (zQb 0 rfl (.inl rfl) zQv zQu) (zQf) zQl) (zQ6)))) (zY4 (zQm C (zZv (xGw) rfl T.b_abs rfl (zQy (zQb 4 rfl (.inl rfl) zGm zGj) (zQ6))) (zZd (zQf) (zQf)))))) (zQg (zQ5 5 C rfl (.inl rfl) (zZd (zZd (zQf) (zZd (zZv (xGw) rfl T.b_abs rfl (zQy (zQb 4 rfl (.inl rfl) zGm zGj) (zQ6))) (zZd (zQf) (zQf)))) (zUc (xZo) rfl T.b_int rfl (zQy (zZx C (zQb 4 rfl (.inl rfl) zGm zGj) (zQf)) (zQ6))))) (zQg (yXc C (zZd (zQb 5 rfl (.inl rfl) yXx yXp) (zQb 1 rfl (.inl rfl) zWq zWo)) (zQb 0 rfl (.inl rfl) zQv zQu) (zQf)) (zQi (zQx (zZd (zQb 5 rfl (.inl rfl) yXx yXp) (zQb 1 rfl (.inl rfl) zWq zWo)))))) (zQ2)) (zQg (zQ5 6 C rfl (.inl rfl) (zZd (zZd (zZd (zZd (zZd (zQb 4 rfl (.inl rfl) zGm zGj) (zQf)) (zZd (zQf) (zQb 3 rfl (.inl rfl) zJq zJp))) (zQf)) (zQf)) (zQf))) (zQg (zQ5 6 C rfl (.inl rfl) (zZd (zZd (zZd (zZd (zZd (zQb 6 rfl (.inl rfl) yXw yXo) (zZd (zZd (zQf) (zQb 3 rfl (.inl rfl) zJq zJp)) (zQf))) (zZd (zZd (zQf) (zQb 3 rfl (.inl rfl) zJq zJp)) (zQb 3 rfl (.inl rfl) zJq zJp))) (zQf)) (zQf)) (zQf))) (zQi (zQx (zZd (zZd (zQb 6 rfl (.inl rfl) yXw yXo) (zQf)) (zQb 1 rfl (.inl rfl) zWq zWo)))))))))))
theorem zJh (T : Top w K mg) (sm : SM base) {k : Nat} (hk : 1 ≤ k) : yJe P w K mg base k "_law_draw" ["_law_pen_here", "_law_count"] zZu := zJ6 T.f__law_draw hk (yGz T sm)
theorem yGm : FnScope ["_law_pen_here", "_law_every", "_law_way", "_law_some", "_law_chosen", "_law_at", "_law_entry"] ["_law_pen_here"] (defScope (zQ3 37)) := ⟨rfl, rfl, rfl, by decide +kernel, rfl, by decide +kernel, by decide +kernel⟩
theorem yGx (T : Top w K mg) (sm : SM base) {f : Addr} {fd : FuncData} (F : Fun K "_law_rule" "_law_rule" (zQ3 37) f fd) : FnG P w K mg base 2 f fd ["_law_pen_here"] (spG K 1 (zZp 7 yQl)) :=
  zVs F yGm sm rfl rfl fun cdv A outer s H E B C po hr => zQg (zQ5 1 C rfl (.inr rfl) (xVh C ⟨yWx T sm (by decide)⟩ hr rfl)) (zQg (zQ5 2 C rfl (.inr rfl) (zQw C ⟨zJh T sm (by decide)⟩ rfl hr rfl (zQa (zQb 0 rfl (.inr (.inl rfl)) zQv zQu) (zQa (zQf) (zQe))))) (zQg (zQ5 3 C rfl (.inl rfl) (zQr C (zZq (zQa (zZq (zQe)) (zQa (zZq (zQa (zQf) (zQe))) (zQa (zZq (zQa (zQf) (zQa (zQf) (zQe)))) (zQa (zZq (zQa (zQf) (zQa (zQf) (zQe)))) (zQa (zZq (zQa (zQf) (zQa (zQf) (zQe)))) (zQa (zZq (zQa (zQf) (zQa (zQf) (zQe)))) (zQa (zZq (zQa (zQf) (zQa (zQf) (zQa (zQf) (zQe))))) (zQa (zZq (zQa (zQf) (zQa (zQf) (zQe)))) (zQe)))))))))) (zQw C ⟨zJh T sm (by decide)⟩ rfl hr rfl (zQa (zQb 0 rfl (.inr (.inl rfl)) zQv zQu) (zQa (zQf) (zQe)))) yQj)) (zQg (yVx (own := [("_law_at", 5)]) 4 C rfl rfl (by rfl) (zGp (by rfl)) (zQ4) (yWy.e (zX7 (zQb 3 rfl (.inl rfl) yG7 yG3))) (fun s1 H1 K1 l1 p1 => zQq 5 (zZw C s1 H1 K1 l1 p1) rfl (.inl rfl) (by decide)) (fun s1 H1 K1 l1 p1 => yGj) (fun s1 H1 K1 l1 p1 => zQr (zZw C s1 H1 K1 l1 p1) (zQb 1 rfl (.inr (.inl rfl)) zUk zUg) (zQb 5 rfl (.inl rfl) zJq zJp) zK2)) (zQg (zZs (zQm C (zQb 2 rfl (.inr (.inl rfl)) zHq zHo) (zQf)) (zQi (yVx (own := [("_law_entry", 6)]) 4 C rfl rfl (by rfl) (zGp (by rfl)) (zQ4) (yWy.e (zX7 (zQb 1 rfl (.inr (.inl rfl)) zUk zUg))) (fun s2 H2 K2 l2 p2 => zQq 6 (zZw C s2 H2 K2 l2 p2) rfl (.inl rfl) (by decide)) (fun s2 H2 K2 l2 p2 => zVx (zZ5 (zQr (zZw C s2 H2 K2 l2 p2) (zZq (zQa (zX6) (zQa (zX6) (zQa (zZx (zZw C s2 H2 K2 l2 p2) (zQw (zZw C s2 H2 K2 l2 p2) ⟨zJh T sm (by decide)⟩ rfl hr rfl (zQa (zQb 0 rfl (.inr (.inl rfl)) zQv zQu) (zQa (zQf) (zQe)))) (zQf)) (zQe))))) (zQb 2 rfl (.inr (.inl rfl)) zHq zHo) zK2))) (fun s2 H2 K2 l2 p2 => zQb 6 rfl (.inl rfl) yXz yXr))) (zQ2)) (zQg (zZs (zQm C (zQb 2 rfl (.inr (.inl rfl)) zHq zHo) (zQz (zQa (zQf) (zQa (zQf) (zQe))))) (zQi (zQ5 4 C rfl (.inl rfl) (yH2 C (zZd (zQb 4 rfl (.inl rfl) zYs zYr) (zZq (zQa (zQr C (zQb 1 rfl (.inr (.inl rfl)) zUk zUg) (zQw C ⟨zJh T sm (by decide)⟩ rfl hr rfl (zQa (zQb 0 rfl (.inr (.inl rfl)) zQv zQu) (zQa (zQf) (zQe)))) yQj) (zQa (zQr C (zQb 1 rfl (.inr (.inl rfl)) zUk zUg) (zQw C ⟨zJh T sm (by decide)⟩ rfl hr rfl (zQa (zQb 0 rfl (.inr (.inl rfl)) zQv zQu) (zQa (zQf) (zQe)))) yQj) (zQe))))) rfl T.b_sorted rfl rfl T.b_set rfl))) (zQ2)) (zQg (zZs (yZj.t (zGf (zQm C (zQb 2 rfl (.inr (.inl rfl)) zHq zHo) (zQf)) (zY4 (zQm C (zQb 4 rfl (.inl rfl) zYs zYr) (zZq (zQe)))))) (zQi (xYl 4 rfl (.inl rfl) (zQw C ⟨zJh T sm (by decide)⟩ rfl hr rfl (zQa (zQb 0 rfl (.inr (.inl rfl)) zQv zQu) (zQa (zZv (zVg) rfl T.b_len rfl (zQy (zQb 4 rfl (.inl rfl) zYs zYr) (zQ6))) (zQe)))))) (zQ2)) (zQi (zQx (zQz (zQa (zQb 4 rfl (.inl rfl) zYs zYr) (zQa (zQr C (zZq (zQa (zQp) (zQa (zQp) (zQa (zQp) (zQe))))) (zQw C ⟨zJh T sm (by decide)⟩ rfl hr rfl (zQa (zQb 0 rfl (.inr (.inl rfl)) zQv zQu) (zQa (zQf) (zQe)))) yQj) (zQa (zQr C (zZq (zQa (zQp) (zQa (zQp) (zQe)))) (zQw C ⟨zJh T sm (by decide)⟩ rfl hr rfl (zQa (zQb 0 rfl (.inr (.inl rfl)) zQv zQu) (zQa (zQf) (zQe)))) yQj) (zQe)))))))))))))
theorem xQq (T : Top w K mg) (sm : SM base) {k : Nat} (hk : 2 ≤ k) : yJe P w K mg base k "_law_rule" ["_law_pen_here"] zGn := zJ6 T.f__law_rule hk (yGx T sm)
theorem yWh : FnScope ["cls", "fresh", "roots"] ["cls", "fresh", "roots"] (defScope (zK6 (zQ3 32) 3)) := ⟨rfl, rfl, rfl, by decide +kernel, rfl, by decide +kernel, by decide +kernel⟩
theorem yWn (T : Top w K mg) (sm : SM base) {f : Addr} {fd : FuncData} (F : Fun K "empty" "Table.empty" (zK6 (zQ3 32) 3) f fd) : FnG P w K mg base 6 f fd ["cls", "fresh", "roots"] (spG K 3 (zZp 3 zGt)) :=
  zVs F yWh sm rfl rfl fun cdv A outer s H E B C po hr => zQi (zQx (xZf (zQb 0 rfl (.inl rfl) xG0 xGy) (xHb C (wK9 T sm (k := 4) (by decide)) (hr.mono (by decide)) xXh) (yV2 (zXc (zQb 1 rfl (.inl rfl) yXs yXk) (zXc (zQb 2 rfl (.inl rfl) yZh yZg) (zJr)))) rfl))
theorem vJq (T : Top w K mg) (sm : SM base) {k : Nat} (hk : 6 ≤ k) : xQx P w K mg base k "Table" (wXb K "empty") ["fresh", "roots"] (pD 1 2 3 [0, 1, 2] [] zVz) := yQy T.m_Table_empty (fun F => vQc (ps := ["cls", "fresh", "roots"]) (yWn T sm) hk 1 [] [0, 1, 2] [] (by simp) (by simp) (fun _ => .nil) rfl (fun _ _ _ _ _ _ us mv ws h1 h2 h3 => match us, mv, ws, h1, h2, h3 with | [_], [], [_, _], _, _, _ => rfl) F)
theorem yV6 : FnScope ["self", "other"] ["self", "other"] (defScope (zK6 (zQ3 32) 14)) := ⟨rfl, rfl, rfl, by decide +kernel, rfl, by decide +kernel, by decide +kernel⟩
theorem yKi (T : Top w K mg) (sm : SM base) {f : Addr} {fd : FuncData} (F : Fun K "__or__" "Table.__or__" (zK6 (zQ3 32) 14) f fd) : FnG P w K mg base 7 f fd ["self", "other"] (spG K 2 (zZp 2 zU1)) :=
  zVs F yV6 sm rfl rfl fun cdv A outer s H E B C po hr => zQg (xZd (yXe (zQb 0 rfl (.inl rfl) zKm zKl) (yG9 C (vQe T sm (k := 2) (by decide)) (hr.mono (by decide)) yX0) (yZd (zQa (zQb 1 rfl (.inl rfl) zHp zHn) (zQe)) (zJr)) rfl rfl)) (zQi (zQx (yXe (zQb 0 rfl (.inl rfl) zKm zKl) (yG9 C (vQd T sm (k := 6) (by decide)) (hr.mono (by decide)) yX0) (yZd (zQa (zQw C ⟨xZ4 T sm (by decide)⟩ rfl hr rfl (zQa (zZd (zUz (zQb 0 rfl (.inl rfl) zKm zKl) (yX7 T.fl_Table_kept zYb)) (zUz (zQb 1 rfl (.inl rfl) zHp zHn) (yX7 T.fl_Table_kept zYb))) (zQe))) (zQe)) (zJr)) rfl rfl)))
theorem vJp (T : Top w K mg) (sm : SM base) {k : Nat} (hk : 7 ≤ k) : xQx P w K mg base k "Table" (ROp K .BitOr) [] (pD 2 0 2 [0, 1] [] zJi) := yQy T.m_Table___or__ (fun F => wVe (ps := ["self", "other"]) (yKi T sm) hk 2 [0, 1] rfl (fun _ _ _ _ _ _ us ws h1 h2 => match us, ws, h1, h2 with | [_, _], [], _, _ => rfl) F)
theorem yYr : FnScope ["_law_rule_here", "_law_found", "_law_entry"] ["_law_rule_here"] (defScope (zQ3 38)) := ⟨rfl, rfl, rfl, by decide +kernel, rfl, by decide +kernel, by decide +kernel⟩
theorem yY4 (T : Top w K mg) (sm : SM base) {f : Addr} {fd : FuncData} (F : Fun K "_law_sheet" "_law_sheet" (zQ3 38) f fd) : FnG P w K mg base 8 f fd ["_law_rule_here"] (spG K 1 (zZp 3 zHd)) :=
  zVs F yYr sm rfl rfl fun cdv A outer s H E B C po hr => zQg (zQ5 1 C rfl (.inl rfl) (yGh (zHa rfl T.g_Table) (xWf C (vJq T sm (k := 6) (by decide)) (hr.mono (by decide)) yHq) (yV2 (zXc (zQr C (zQb 0 rfl (.inl rfl) zQo zQn) (zQf) zQl) (zXc (zQr C (zQb 0 rfl (.inl rfl) zQo zQn) (zQf) zQl) (zJr)))) rfl rfl)) (zQg (yQe (is := [2]) C po (zX7 (zQr C (zQb 0 rfl (.inl rfl) zQo zQn) (zQf) zQl)) (zQq 2 C rfl (.inl rfl) (by decide)) (zQ4) (zQi (zQ5 1 C rfl (.inl rfl) (xYo (zQb 1 rfl (.inl rfl) zXp zXl) (xZc C (wK9 T sm (k := 4) (by decide)) (hr.mono (by decide)) rfl (yZd (zQa (zQb 2 rfl (.inl rfl) yXz yXr) (zQe)) (zXc (zQr C (zQb 0 rfl (.inl rfl) zQo zQn) (zQf) zQl) (zXc (zQr C (zQb 0 rfl (.inl rfl) zQo zQn) (zQf) zQl) (zJr)))) rfl) (wYu C (vJp T sm (k := 7) (by decide)) (hr.mono (by decide)) wQq))))) (zQi (zQx (zQb 1 rfl (.inl rfl) zXp zXl))))
theorem yHc (T : Top w K mg) (sm : SM base) {k : Nat} (hk : 8 ≤ k) : yJe P w K mg base k "_law_sheet" ["_law_rule_here"] zUq := zJ6 T.f__law_sheet hk (yY4 T sm)
theorem yYu : FnScope ["_law_rule_here"] ["_law_rule_here"] (defScope (zQ3 53)) := ⟨rfl, rfl, rfl, by decide +kernel, rfl, by decide +kernel, by decide +kernel⟩
theorem yY7 (T : Top w K mg) (sm : SM base) {f : Addr} {fd : FuncData} (F : Fun K "_law_least" "_law_least" (zQ3 53) f fd) : FnG P w K mg base 1 f fd ["_law_rule_here"] (spG K 1 (zZp 1 zHf)) :=
  zVs F yYu sm rfl rfl fun cdv A outer s H E B C po hr => zQg (zZs (zQm C (zQz (zQa (zQp) (zQa (zQp) (zQe)))) (zQr C (zQb 0 rfl (.inl rfl) zQo zQn) (zQf) zQl)) (zQi (zQx (zQf))) (zQ2)) (zQi (zQx (zWa (yZj.t (zX0 (zQm C (zQz (zQa (zQp) (zQa (zQp) (zQe)))) (zQr C (zQb 0 rfl (.inl rfl) zQo zQn) (zQf) zQl)) (zJk (zQm C (zQz (zQa (zQp) (zQa (zQp) (zQe)))) (zQr C (zQb 0 rfl (.inl rfl) zQo zQn) (zQf) zQl))))) (zXe) (zQf))))
theorem yHf (T : Top w K mg) (sm : SM base) {k : Nat} (hk : 1 ≤ k) : yJe P w K mg base k "_law_least" ["_law_rule_here"] zUt := zJ6 T.f__law_least hk (yY7 T sm)
theorem xX2 : FnScope ["x", "scanning"] ["x", "scanning"] (defScope (zQ3 4)) := ⟨rfl, rfl, rfl, by decide +kernel, rfl, by decide +kernel, by decide +kernel⟩
theorem xX8 (T : Top w K mg) (sm : SM base) {f : Addr} {fd : FuncData} (F : Fun K "scan_of" "scan_of" (zQ3 4) f fd) : FnG P w K mg base 1 f fd ["x", "scanning"] (spG K 2 (zZp 2 yW3)) :=
  zVs F xX2 sm rfl rfl fun cdv A outer s H E B C po hr => zQi (zQx (zWa (zQm C (zQb 1 rfl (.inl rfl) yZ5 yZ4) (zHa rfl T.yU5)) (zQz (zQa (zQp) (zQa (zQb 0 rfl (.inl rfl) wHy wHx) (zQe)))) (zQz (zQa (zQp) (zQa (zQb 0 rfl (.inl rfl) wHy wHx) (zQa (zQf) (zQe)))))))
theorem yHb (T : Top w K mg) (sm : SM base) {k : Nat} (hk : 1 ≤ k) : yJe P w K mg base k "scan_of" ["x", "scanning"] zG5 := zJ6 T.f_scan_of hk (xX8 T sm)
theorem yWb : FnScope ["table", "registers", "scanning", "least", "places", "cut", "scan", "steps"] ["table", "registers", "scanning"] (defScope (zQ3 5)) := ⟨rfl, rfl, rfl, by decide +kernel, rfl, by decide +kernel, by decide +kernel⟩
theorem zGu (T : Top w K mg) (sm : SM base) {f : Addr} {fd : FuncData} (F : Fun K "freeing_run" "freeing_run" (zQ3 5) f fd) : FnG P w K mg base 6 f fd ["table", "registers", "scanning"] (spG K 3 (zZp 8 zGr)) :=
  zVs F yWb sm rfl rfl fun cdv A outer s H E B C po hr => zQg (zQ5 3 C rfl (.inl rfl) (zQw C ⟨zU4 T sm (by decide)⟩ rfl hr rfl (zQa (zQb 0 rfl (.inl rfl) yVp yVo) (zQe)))) (zQg (zZs (zQm C (zQb 3 rfl (.inl rfl) xZu xZt) (zXe)) (zQi (zQx (zXe))) (zQ2)) (zQg (zQ5 4 C rfl (.inl rfl) (zWa (zQm C (zQb 1 rfl (.inl rfl) yG5 yG1) (zQf)) (zQz (zQa (zQf) (zQe))) (zQz (zQa (zQf) (zQa (zXe) (zQe)))))) (zQg (xVe 5 6 C rfl rfl rfl (by decide) rfl rfl (zQz (zQa (zQp) (zQa (zQf) (zQa (zQf) (zQa (zXe) (zQe)))))) (zQw C ⟨yHb T sm (by decide)⟩ rfl hr rfl (zQa (zQf) (zQa (zQb 2 rfl (.inl rfl) yZ5 yZ4) (zQe)))) (by rfl)) (zQg (zZs (zQm C (zQb 3 rfl (.inl rfl) xZu xZt) (zQf)) (zQi (zQx (zQz (zQa (zQz (zQa (zQf) (zQa (zQz (zQa (zQz (zQa (zQf) (zQe))) (zQa (zQz (zQa (zXe) (zQe))) (zQe)))) (zQe)))) (zQa (zQb 4 rfl (.inl rfl) yG6 yG2) (zQa (zQz (zQa (zQz (zQa (zQp) (zQe))) (zQa (zQb 5 rfl (.inl rfl) xGz xGx) (zQa (zQb 6 rfl (.inl rfl) xKd xKb) (zQa (zQz (zQa (zQp) (zQe))) (zQe)))))) (zQe))))))) (zQ2)) (zQg (zQ5 7 C rfl (.inl rfl) (zQz (zQa (zQz (zQa (zQp) (zQe))) (zQa (zQz (zQa (zQp) (zQa (zQf) (zQa (zQf) (zQa (zQf) (zQe)))))) (zQa (zQb 5 rfl (.inl rfl) xGz xGx) (zQa (zQb 6 rfl (.inl rfl) xKd xKb) (zQa (zQw C ⟨yHb T sm (by decide)⟩ rfl hr rfl (zQa (zQf) (zQa (zQb 2 rfl (.inl rfl) yZ5 yZ4) (zQe)))) (zQa (zQz (zQa (zQp) (zQe))) (zQe))))))))) (zQi (zQx (zQz (zQa (zQz (zQa (zQf) (zQa (zQz (zQa (zQz (zQa (zQf) (zQe))) (zQa (zQz (zQa (zQf) (zQe))) (zQa (zQz (zQa (zXe) (zQe))) (zQe))))) (zQe)))) (zQa (zQb 4 rfl (.inl rfl) yG6 yG2) (zQa (zQb 7 rfl (.inl rfl) xUb xY9) (zQe))))))))))))
theorem wH5 (T : Top w K mg) (sm : SM base) {k : Nat} (hk : 6 ≤ k) : ∃ (f : Addr) (fd : FuncData) (dv : List Value) (dvs : List V), FnG P w K mg base k f fd ["table", "registers", "scanning"] (spG K (["table", "registers", "scanning"] : List Str).length zXg) ∧ mg "freeing_run" = some (.ref f) ∧ PySem.W.keepIn K (.ref f) = true ∧ Vals dvs dv ∧ (∀ F : Hp, RA K F [] dvs) ∧
    ∀ (s : Shared) (us ws : List Value), K.In s.heap → us.length = 1 → ws.length = (["registers", "scanning"] : List Str).length → BindsTo s fd ⟨us, (["registers", "scanning"] : List Str).zip ws⟩ ((["table", "registers", "scanning"] : List Str).zip (pick [0, 1, 2] (us ++ ws ++ dv))) :=
  xQp T.f_freeing_run hk (zGu T sm) 1 ["registers", "scanning"] [] [0, 1, 2] [] (by simp) (by simp) (fun _ => .nil) fun _ _ _ _ _ _ us mv ws h1 h2 h3 => match us, mv, ws, h1, h2, h3 with | [_], [], [_, _], _, _, _ => rfl
theorem vJc (T : Top w K mg) (sm : SM base) {k : Nat} (hk : 6 ≤ k) : ∃ (f : Addr) (fd : FuncData) (dv : List Value) (dvs : List V), FnG P w K mg base k f fd ["table", "registers", "scanning"] (spG K (["table", "registers", "scanning"] : List Str).length zXg) ∧ mg "freeing_run" = some (.ref f) ∧ PySem.W.keepIn K (.ref f) = true ∧ Vals dvs dv ∧ (∀ F : Hp, RA K F [] dvs) ∧
    ∀ (s : Shared) (us ws : List Value), K.In s.heap → us.length = 0 → ws.length = (["scanning", "registers", "table"] : List Str).length → BindsTo s fd ⟨us, (["scanning", "registers", "table"] : List Str).zip ws⟩ ((["table", "registers", "scanning"] : List Str).zip (pick [2, 1, 0] (us ++ ws ++ dv))) :=
  xQp T.f_freeing_run hk (zGu T sm) 0 ["scanning", "registers", "table"] [] [2, 1, 0] [] (by simp) (by simp) (fun _ => .nil) fun _ _ _ _ _ _ us mv ws h1 h2 h3 => match us, mv, ws, h1, h2, h3 with | [], [], [_, _, _], _, _, _ => rfl
theorem vJb (T : Top w K mg) (sm : SM base) {k : Nat} (hk : 6 ≤ k) : ∃ (f : Addr) (fd : FuncData) (dv : List Value) (dvs : List V), FnG P w K mg base k f fd ["table", "registers", "scanning"] (spG K (["table", "registers", "scanning"] : List Str).length zXg) ∧ mg "freeing_run" = some (.ref f) ∧ PySem.W.keepIn K (.ref f) = true ∧ Vals dvs dv ∧ (∀ F : Hp, RA K F [.int 2, .str "whole"] dvs) ∧
    ∀ (s : Shared) (us ws : List Value), K.In s.heap → us.length = 1 → ws.length = ([] : List Str).length → BindsTo s fd ⟨us, ([] : List Str).zip ws⟩ ((["table", "registers", "scanning"] : List Str).zip (pick [0, 1, 2] (us ++ ws ++ dv))) :=
  xQp T.f_freeing_run hk (zGu T sm) 1 [] [("registers", .int 2), ("scanning", .str "whole")] [0, 1, 2] [.int 2, .str "whole"] (by simp) (by simp) (fun _ => .cons (.int _) (.cons (.str _) (.nil))) fun _ _ _ _ _ _ us mv ws h1 h2 h3 => match us, mv, ws, h1, h2, h3 with | [_], [_, _], [], _, _, _ => ⟨_, _, _, _, _, _, rfl, rfl, ⟨_, _, _, _, _, _, rfl, rfl, rfl⟩⟩
theorem yWd : FnScope ["_law_state", "_law_one", "_law_ground", "_law_cells", "_law_colors", "_law_visited"] ["_law_state", "_law_one"] (defScope (zQ3 40)) := ⟨rfl, rfl, rfl, by decide +kernel, rfl, by decide +kernel, by decide +kernel⟩
theorem yWj (T : Top w K mg) (sm : SM base) {f : Addr} {fd : FuncData} (F : Fun K "_law_shaded" "_law_shaded" (zQ3 40) f fd) : FnG P w K mg base 1 f fd ["_law_state", "_law_one"] (spG K 2 (zZp 6 yZs)) :=
  zVs F yWd sm rfl rfl fun cdv A outer s H E B C po hr => zQg (yQf (is := [2, 3, 4, 5]) (zQb 0 rfl (.inl rfl) zQ9 zQ8) (zJ8 4 C (zQt (zQq 2 C rfl (.inl rfl) (by decide)) (zQt (zQq 3 C rfl (.inl rfl) (by decide)) (zQt (zQq 4 C rfl (.inl rfl) (by decide)) (zQt (zQq 5 C rfl (.inl rfl) (by decide)) (zX3)))))) (zUa (zQ7 (zQ4) (zQ7 (zQ4) (zQ7 (zQ4) (zQ7 (zQ4) (zKk))))))) (zQg (zZs (yZj.t (zX0 (zQm C (zQb 1 rfl (.inl rfl) zZk zZi) (zXe)) (zJk (zQm C (zQr C (zQb 4 rfl (.inl rfl) zZ2 zZ1) (zQb 1 rfl (.inl rfl) zZk zZi) zK2) (zQp))))) (zQi (zQx (zQb 0 rfl (.inl rfl) zQ9 zQ8))) (zQ2)) (zQi (zQx (zQz (zQa (zQb 2 rfl (.inl rfl) yWt yWq) (zQa (zQb 3 rfl (.inl rfl) zZb zZa) (zQa (zZd (zZd (yXd (zQb 4 rfl (.inl rfl) zZ2 zZ1) (zY5) (zKq (zQb 1 rfl (.inl rfl) zZk zZi))) (zQz (zQa (zQp) (zQe)))) (yXd (zQb 4 rfl (.inl rfl) zZ2 zZ1) (zKq (zZd (zQb 1 rfl (.inl rfl) zZk zZi) (zQf))) (zY5))) (zQa (zQb 5 rfl (.inl rfl) zXm zXi) (zQe)))))))))
theorem zYa (T : Top w K mg) (sm : SM base) {k : Nat} (hk : 1 ≤ k) : yJe P w K mg base k "_law_shaded" ["_law_state", "_law_one"] zJ5 := zJ6 T.f__law_shaded hk (yWj T sm)
theorem yH6 : FnScope ["_law_row", "_law_at", "_law_thing"] ["_law_row", "_law_at", "_law_thing"] (defScope (zQ3 41)) := ⟨rfl, rfl, rfl, by decide +kernel, rfl, by decide +kernel, by decide +kernel⟩
theorem xQe (T : Top w K mg) (sm : SM base) {f : Addr} {fd : FuncData} (F : Fun K "_law_put" "_law_put" (zQ3 41) f fd) : FnG P w K mg base 1 f fd ["_law_row", "_law_at", "_law_thing"] (spG K 3 (zZp 3 yKa)) :=
  zVs F yH6 sm rfl rfl fun cdv A outer s H E B C po hr => zQi (zQx (zZd (zZd (yXd (zQb 0 rfl (.inl rfl) zKc zKa) (zY5) (zKq (zQb 1 rfl (.inl rfl) zJq zJp))) (zQz (zQa (zQb 2 rfl (.inl rfl) zUi zUe) (zQe)))) (yXd (zQb 0 rfl (.inl rfl) zKc zKa) (zKq (zZd (zQb 1 rfl (.inl rfl) zJq zJp) (zQf))) (zY5))))
theorem zKh (T : Top w K mg) (sm : SM base) {k : Nat} (hk : 1 ≤ k) : yJe P w K mg base k "_law_put" ["_law_row", "_law_at", "_law_thing"] zXa := zJ6 T.f__law_put hk (xQe T sm)
theorem yWf : FnScope ["_law_rule_here", "_law_state", "_law_step", "_law_width", "_law_objects", "_law_cells", "_law_colors", "_law_visited", "_law_source", "_law_held", "_law_later"] ["_law_rule_here", "_law_state", "_law_step"] (defScope (zQ3 42)) := ⟨rfl, rfl, rfl, by decide +kernel, rfl, by decide +kernel, by decide +kernel⟩
theorem yWl (T : Top w K mg) (sm : SM base) {f : Addr} {fd : FuncData} (F : Fun K "_law_loaded" "_law_loaded" (zQ3 42) f fd) : FnG P w K mg base 2 f fd ["_law_rule_here", "_law_state", "_law_step"] (spG K 3 (zZp 11 zGs)) :=
  zVs F yWf sm rfl rfl fun cdv A outer s H E B C po hr => zQg (yQf (is := [3, 4, 5, 6, 7]) (zQb 1 rfl (.inl rfl) zQ9 zQ8) (zJ8 4 C (zQt (zJ8 2 C (zQt (zQq 3 C rfl (.inl rfl) (by decide)) (zQt (zQq 4 C rfl (.inl rfl) (by decide)) (zX3)))) (zQt (zQq 5 C rfl (.inl rfl) (by decide)) (zQt (zQq 6 C rfl (.inl rfl) (by decide)) (zQt (zQq 7 C rfl (.inl rfl) (by decide)) (zX3)))))) (zUa (zQ7 (zUa (zQ7 (zQ4) (zQ7 (zQ4) (zKk)))) (zQ7 (zQ4) (zQ7 (zQ4) (zQ7 (zQ4) (zKk))))))) (zQg (zQ5 8 C rfl (.inl rfl) (zQr C (zQb 5 rfl (.inl rfl) zZb zZa) (zQr C (zQb 2 rfl (.inl rfl) zQk zQj) (zQf) zQl) yJ5)) (zQg (zQ5 9 C rfl (.inl rfl) (zQr C (zQr C (zQb 4 rfl (.inl rfl) zZl zZj) (zQb 8 rfl (.inl rfl) zJb zJa) zK2) (zQr C (zQb 2 rfl (.inl rfl) zQk zQj) (zQf) zQl) yJ5)) (zQg (zQ5 10 C rfl (.inl rfl) (zQb 1 rfl (.inl rfl) zQ9 zQ8)) (zQg (zZs (zQm C (zQz (zQa (zQp) (zQa (zQr C (zQb 6 rfl (.inl rfl) zZ2 zZ1) (zQb 8 rfl (.inl rfl) zJb zJa) zK2) (zQe)))) (zQr C (zQb 0 rfl (.inl rfl) zQo zQn) (zQf) zQl)) (zQi (zQ5 10 C rfl (.inl rfl) (zQw C ⟨zYa T sm (by decide)⟩ rfl hr rfl (zQa (zQb 1 rfl (.inl rfl) zQ9 zQ8) (zQa (zQb 9 rfl (.inl rfl) zGl zGi) (zQe)))))) (zQ2)) (zQi (zQx (zQz (zQa (zQr C (zQb 10 rfl (.inl rfl) zXo zXk) (zQf) zQl) (zQa (zQw C ⟨zKh T sm (by decide)⟩ rfl hr rfl (zQa (zQb 5 rfl (.inl rfl) zZb zZa) (zQa (zQr C (zQb 2 rfl (.inl rfl) zQk zQj) (zQf) zQl) (zQa (zQb 9 rfl (.inl rfl) zGl zGi) (zQe))))) (zQa (zQr C (zQb 10 rfl (.inl rfl) zXo zXk) (zQf) zQl) (zQa (zQb 7 rfl (.inl rfl) zXm zXi) (zQe))))))))))))
theorem yUt (T : Top w K mg) (sm : SM base) {k : Nat} (hk : 2 ≤ k) : yJe P w K mg base k "_law_loaded" ["_law_rule_here", "_law_state", "_law_step"] zKt := zJ6 T.f__law_loaded hk (yWl T sm)
theorem yWc : FnScope ["_law_rule_here", "_law_state", "_law_step", "_law_width", "_law_objects", "_law_cells", "_law_colors", "_law_visited", "_law_source", "_law_given", "_law_color", "_law_held", "_law_row", "_law_later"] ["_law_rule_here", "_law_state", "_law_step"] (defScope (zQ3 43)) := ⟨rfl, rfl, rfl, by decide +kernel, rfl, by decide +kernel, by decide +kernel⟩
theorem yWi (T : Top w K mg) (sm : SM base) {f : Addr} {fd : FuncData} (F : Fun K "_law_stored" "_law_stored" (zQ3 43) f fd) : FnG P w K mg base 2 f fd ["_law_rule_here", "_law_state", "_law_step"] (spG K 3 (zZp 14 zYp)) :=
  zVs F yWc sm rfl rfl fun cdv A outer s H E B C po hr => zQg (yQf (is := [3, 4, 5, 6, 7]) (zQb 1 rfl (.inl rfl) zQ9 zQ8) (zJ8 4 C (zQt (zJ8 2 C (zQt (zQq 3 C rfl (.inl rfl) (by decide)) (zQt (zQq 4 C rfl (.inl rfl) (by decide)) (zX3)))) (zQt (zQq 5 C rfl (.inl rfl) (by decide)) (zQt (zQq 6 C rfl (.inl rfl) (by decide)) (zQt (zQq 7 C rfl (.inl rfl) (by decide)) (zX3)))))) (zUa (zQ7 (zUa (zQ7 (zQ4) (zQ7 (zQ4) (zKk)))) (zQ7 (zQ4) (zQ7 (zQ4) (zQ7 (zQ4) (zKk))))))) (zQg (zQ5 8 C rfl (.inl rfl) (zQr C (zQb 5 rfl (.inl rfl) zZb zZa) (zQr C (zQb 2 rfl (.inl rfl) zQk zQj) (zQf) zQl) yJ5)) (zQg (zQ5 9 C rfl (.inl rfl) (zWa (zQm C (zQr C (zQb 2 rfl (.inl rfl) zQk zQj) (zQf) zQl) (zXe)) (zXe) (zQr C (zQb 5 rfl (.inl rfl) zZb zZa) (zQr C (zQb 2 rfl (.inl rfl) zQk zQj) (zQf) zQl) yJ5))) (zQg (xVe 10 11 C rfl rfl rfl (by decide) rfl rfl (zQr C (zQb 6 rfl (.inl rfl) zZ2 zZ1) (zQb 8 rfl (.inl rfl) zJb zJa) zK2) (zQr C (zQr C (zQb 4 rfl (.inl rfl) zZl zZj) (zQb 8 rfl (.inl rfl) zJb zJa) zK2) (zQr C (zQb 2 rfl (.inl rfl) zQk zQj) (zQf) zQl) yJ5) (by rfl)) (zQg (zQ5 12 C rfl (.inl rfl) (zQw C ⟨zKh T sm (by decide)⟩ rfl hr rfl (zQa (zQr C (zQb 4 rfl (.inl rfl) zZl zZj) (zQb 8 rfl (.inl rfl) zJb zJa) zK2) (zQa (zQr C (zQb 2 rfl (.inl rfl) zQk zQj) (zQf) zQl) (zQa (zQb 9 rfl (.inl rfl) yXy yXq) (zQe)))))) (zQg (zQ5 13 C rfl (.inl rfl) (zQz (zQa (zQz (zQa (zQb 3 rfl (.inl rfl) zZ8 zZ7) (zQa (zQw C ⟨zKh T sm (by decide)⟩ rfl hr rfl (zQa (zQb 4 rfl (.inl rfl) zZl zZj) (zQa (zQb 8 rfl (.inl rfl) zJb zJa) (zQa (zQb 12 rfl (.inl rfl) zKc zKa) (zQe))))) (zQe)))) (zQa (zQb 5 rfl (.inl rfl) zZb zZa) (zQa (zQb 6 rfl (.inl rfl) zZ2 zZ1) (zQa (zQb 7 rfl (.inl rfl) zXm zXi) (zQe))))))) (zQg (zZs (zQm C (zQz (zQa (zQp) (zQa (zQb 10 rfl (.inl rfl) zWr zWp) (zQe)))) (zQr C (zQb 0 rfl (.inl rfl) zQo zQn) (zQf) zQl)) (zQi (zQ5 13 C rfl (.inl rfl) (zQw C ⟨zYa T sm (by decide)⟩ rfl hr rfl (zQa (zQb 13 rfl (.inl rfl) zXo zXk) (zQa (zQb 11 rfl (.inl rfl) zGl zGi) (zQe)))))) (zQ2)) (zQg (zZs (zQm C (zQz (zQa (zQp) (zQa (zQb 10 rfl (.inl rfl) zWr zWp) (zQe)))) (zQr C (zQb 0 rfl (.inl rfl) zQo zQn) (zQf) zQl)) (zQi (zQ5 13 C rfl (.inl rfl) (zQw C ⟨zYa T sm (by decide)⟩ rfl hr rfl (zQa (zQb 13 rfl (.inl rfl) zXo zXk) (zQa (zQb 9 rfl (.inl rfl) yXy yXq) (zQe)))))) (zQ2)) (zQg (zZs (zQm C (zQz (zQa (zQp) (zQa (zQb 10 rfl (.inl rfl) zWr zWp) (zQe)))) (zQr C (zQb 0 rfl (.inl rfl) zQo zQn) (zQf) zQl)) (zQi (zQx (zQz (zQa (zQr C (zQb 13 rfl (.inl rfl) zXo zXk) (zQf) zQl) (zQa (zQb 5 rfl (.inl rfl) zZb zZa) (zQa (zQw C ⟨zKh T sm (by decide)⟩ rfl hr rfl (zQa (zQr C (zQb 13 rfl (.inl rfl) zXo zXk) (zQf) zQl) (zQa (zQb 8 rfl (.inl rfl) zJb zJa) (zQa (zQp) (zQe))))) (zQa (zQw C ⟨zKh T sm (by decide)⟩ rfl hr rfl (zQa (zQb 7 rfl (.inl rfl) zXm zXi) (zQa (zQb 8 rfl (.inl rfl) zJb zJa) (zQa (zQz (zQe)) (zQe))))) (zQe)))))))) (zQ2)) (zQi (zQx (zQb 13 rfl (.inl rfl) zXo zXk)))))))))))
theorem yUr (T : Top w K mg) (sm : SM base) {k : Nat} (hk : 2 ≤ k) : yJe P w K mg base k "_law_stored" ["_law_rule_here", "_law_state", "_law_step"] zJ4 := zJ6 T.f__law_stored hk (yWi T sm)
theorem yV3 : FnScope ["_law_state", "_law_step", "_law_width", "_law_objects", "_law_cells", "_law_colors", "_law_visited", "_law_one", "_law_fields", "_law_later", "_law_f", "_law_seen", "_law_color"] ["_law_state", "_law_step"] (defScope (zQ3 44)) := ⟨rfl, rfl, rfl, by decide +kernel, rfl, by decide +kernel, by decide +kernel⟩
theorem yKf (T : Top w K mg) (sm : SM base) {f : Addr} {fd : FuncData} (F : Fun K "_law_scanned" "_law_scanned" (zQ3 44) f fd) : FnG P w K mg base 2 f fd ["_law_state", "_law_step"] (spG K 2 (zZp 13 yQk)) :=
  zVs F yV3 sm rfl rfl fun cdv A outer s H E B C po hr => zQg (yQf (is := [2, 3, 4, 5, 6]) (zQb 0 rfl (.inl rfl) zQ9 zQ8) (zJ8 4 C (zQt (zJ8 2 C (zQt (zQq 2 C rfl (.inl rfl) (by decide)) (zQt (zQq 3 C rfl (.inl rfl) (by decide)) (zX3)))) (zQt (zQq 4 C rfl (.inl rfl) (by decide)) (zQt (zQq 5 C rfl (.inl rfl) (by decide)) (zQt (zQq 6 C rfl (.inl rfl) (by decide)) (zX3)))))) (zUa (zQ7 (zUa (zQ7 (zQ4) (zQ7 (zQ4) (zKk)))) (zQ7 (zQ4) (zQ7 (zQ4) (zQ7 (zQ4) (zKk))))))) (zQg (zQ5 7 C rfl (.inl rfl) (zQr C (zQb 1 rfl (.inl rfl) zQk zQj) (zQf) zQl)) (zQg (zQ5 8 C rfl (.inl rfl) (zWa (zQm C (zZv (zVg) rfl T.b_len rfl (zQy (zQb 1 rfl (.inl rfl) zQk zQj) (zQ6))) (zQf)) (xVf C (zQb 2 rfl (.inl rfl) zZ8 zZ7) rfl T.b_list rfl T.b_range) (zZq (zQa (zQr C (zQb 1 rfl (.inl rfl) zQk zQj) (zQf) zQl) (zQe))))) (zQg (zQ5 9 C rfl (.inl rfl) (zQb 0 rfl (.inl rfl) zQ9 zQ8)) (zQg (yQe (is := [10]) C po (zX7 (zQb 8 rfl (.inl rfl) yZz yZw)) (zQq 10 C rfl (.inl rfl) (by decide)) (zQ4) (zQi (zQ5 9 C rfl (.inl rfl) (zQw C ⟨zYa T sm (by decide)⟩ rfl hr rfl (zQa (zQb 9 rfl (.inl rfl) zXo zXk) (zQa (zQr C (zQr C (zQb 3 rfl (.inl rfl) zZl zZj) (zQb 7 rfl (.inl rfl) zZk zZi) zK2) (zQb 10 rfl (.inl rfl) xKe xKc) zK2) (zQe))))))) (zQg (zQ5 11 C rfl (.inl rfl) (zUc (yY3) rfl T.b_tuple rfl (zQy (zZv (xV5) rfl T.b_sorted rfl (zQy (zZd (zUc (xZn C) rfl T.b_list rfl (zQy (zQr C (zQb 6 rfl (.inl rfl) zXm zXi) (zQb 7 rfl (.inl rfl) zZk zZi) zK2) (zQ6))) (zQb 8 rfl (.inl rfl) yZz yZw)) (zQ6))) (zQ6)))) (zQg (zQ5 12 C rfl (.inl rfl) (zQr C (zZq (zQa (zQp) (zQa (zQp) (zQe)))) (zUc (xZo) rfl T.b_int rfl (zQy (zZx C (zZv (zVg) rfl T.b_len rfl (zQy (zQb 11 rfl (.inl rfl) yQv yQs) (zQ6))) (zQb 2 rfl (.inl rfl) zZ8 zZ7)) (zQ6))) yQj)) (zQi (zQx (zQz (zQa (zQr C (zQb 9 rfl (.inl rfl) zXo zXk) (zQf) zQl) (zQa (zQb 4 rfl (.inl rfl) zZb zZa) (zQa (zQw C ⟨zKh T sm (by decide)⟩ rfl hr rfl (zQa (zQr C (zQb 9 rfl (.inl rfl) zXo zXk) (zQf) zQl) (zQa (zQb 7 rfl (.inl rfl) zZk zZi) (zQa (zQb 12 rfl (.inl rfl) zWr zWp) (zQe))))) (zQa (zQw C ⟨zKh T sm (by decide)⟩ rfl hr rfl (zQa (zQb 6 rfl (.inl rfl) zXm zXi) (zQa (zQb 7 rfl (.inl rfl) zZk zZi) (zQa (zQb 11 rfl (.inl rfl) yQv yQs) (zQe))))) (zQe))))))))))))))
theorem yWv (T : Top w K mg) (sm : SM base) {k : Nat} (hk : 2 ≤ k) : yJe P w K mg base k "_law_scanned" ["_law_state", "_law_step"] yQ4 := zJ6 T.f__law_scanned hk (yKf T sm)
theorem yGn : FnScope ["_law_rule_here", "_law_state", "_law_step", "_law_width", "_law_objects", "_law_cells", "_law_colors", "_law_visited", "_law_kind", "_law_held", "_law_seen", "_law_later", "_law_one"] ["_law_rule_here", "_law_state", "_law_step"] (defScope (zQ3 45)) := ⟨rfl, rfl, rfl, by decide +kernel, rfl, by decide +kernel, by decide +kernel⟩
theorem yGy (T : Top w K mg) (sm : SM base) {f : Addr} {fd : FuncData} (F : Fun K "_law_made" "_law_made" (zQ3 45) f fd) : FnG P w K mg base 3 f fd ["_law_rule_here", "_law_state", "_law_step"] (spG K 3 (zZp 13 zGg)) :=
  zVs F yGn sm rfl rfl fun cdv A outer s H E B C po hr => zQg (yQf (is := [3, 4, 5, 6, 7]) (zQb 1 rfl (.inl rfl) zQ9 zQ8) (zJ8 4 C (zQt (zJ8 2 C (zQt (zQq 3 C rfl (.inl rfl) (by decide)) (zQt (zQq 4 C rfl (.inl rfl) (by decide)) (zX3)))) (zQt (zQq 5 C rfl (.inl rfl) (by decide)) (zQt (zQq 6 C rfl (.inl rfl) (by decide)) (zQt (zQq 7 C rfl (.inl rfl) (by decide)) (zX3)))))) (zUa (zQ7 (zUa (zQ7 (zQ4) (zQ7 (zQ4) (zKk)))) (zQ7 (zQ4) (zQ7 (zQ4) (zQ7 (zQ4) (zKk))))))) (zQg (zQ5 8 C rfl (.inl rfl) (zQr C (zQb 2 rfl (.inl rfl) zQk zQj) (zQf) zQl)) (zQg (zZs (zQm C (zQb 8 rfl (.inl rfl) zZn zZm) (zQp)) (zQi (zQx (zQw C ⟨yUt T sm (by decide)⟩ rfl hr rfl (zQa (zQb 0 rfl (.inl rfl) zQo zQn) (zQa (zQb 1 rfl (.inl rfl) zQ9 zQ8) (zQa (zQb 2 rfl (.inl rfl) zQk zQj) (zQe))))))) (zQ2)) (zQg (zZs (zQm C (zQb 8 rfl (.inl rfl) zZn zZm) (zQp)) (zQi (zQx (zQw C ⟨yUr T sm (by decide)⟩ rfl hr rfl (zQa (zQb 0 rfl (.inl rfl) zQo zQn) (zQa (zQb 1 rfl (.inl rfl) zQ9 zQ8) (zQa (zQb 2 rfl (.inl rfl) zQk zQj) (zQe))))))) (zQ2)) (zQg (zZs (zQm C (zQb 8 rfl (.inl rfl) zZn zZm) (zQp)) (zQi (zQx (zQw C ⟨yWv T sm (by decide)⟩ rfl hr rfl (zQa (zQb 1 rfl (.inl rfl) zQ9 zQ8) (zQa (zQb 2 rfl (.inl rfl) zQk zQj) (zQe)))))) (zQ2)) (zQg (zZs (zQm C (zQb 8 rfl (.inl rfl) zZn zZm) (zQz (zQa (zQp) (zQa (zQp) (zQe))))) (zQg (zQ5 9 C rfl (.inl rfl) (zWa (zQm C (zQb 8 rfl (.inl rfl) zZn zZm) (zQp)) (zXe) (zQr C (zQb 5 rfl (.inl rfl) zZb zZa) (zQr C (zQb 2 rfl (.inl rfl) zQk zQj) (zQf) zQl) yJ5))) (zQi (zQx (zQz (zQa (zQr C (zQb 1 rfl (.inl rfl) zQ9 zQ8) (zQf) zQl) (zQa (zQw C ⟨zKh T sm (by decide)⟩ rfl hr rfl (zQa (zQb 5 rfl (.inl rfl) zZb zZa) (zQa (zQr C (zQb 2 rfl (.inl rfl) zQk zQj) (zQf) zQl) (zQa (zQb 9 rfl (.inl rfl) zGl zGi) (zQe))))) (zQa (zQb 6 rfl (.inl rfl) zZ2 zZ1) (zQa (zQb 7 rfl (.inl rfl) zXm zXi) (zQe))))))))) (zQ2)) (zQg (zZs (zQm C (zQb 8 rfl (.inl rfl) zZn zZm) (zQp)) (zQg (zQ5 10 C rfl (.inl rfl) (zWa (zQm C (zQr C (zQb 0 rfl (.inl rfl) zQo zQn) (zQf) zQl) (zQp)) (xVd C (zQb 3 rfl (.inl rfl) zZ8 zZ7) rfl T.b_tuple rfl T.b_range) (zQz (zQe)))) (zQg (zQ5 11 C rfl (.inl rfl) (zQw C ⟨zKh T sm (by decide)⟩ rfl hr rfl (zQa (zQb 5 rfl (.inl rfl) zZb zZa) (zQa (zQr C (zQb 2 rfl (.inl rfl) zQk zQj) (zQf) zQl) (zQa (zZv (zVg) rfl T.b_len rfl (zQy (zQb 4 rfl (.inl rfl) zZl zZj) (zQ6))) (zQe)))))) (zQi (zQx (zQz (zQa (zQz (zQa (zQb 3 rfl (.inl rfl) zZ8 zZ7) (zQa (zZd (zQb 4 rfl (.inl rfl) zZl zZj) (zQz (zQa (zZd (zQz (zQa (zXe) (zQe))) (zQb 3 rfl (.inl rfl) zZ8 zZ7)) (zQe)))) (zQe)))) (zQa (zQb 11 rfl (.inl rfl) zXo zXk) (zQa (zZd (zQb 6 rfl (.inl rfl) zZ2 zZ1) (zQz (zQa (zQr C (zQb 0 rfl (.inl rfl) zQo zQn) (zQf) zQl) (zQe)))) (zQa (zZd (zQb 7 rfl (.inl rfl) zXm zXi) (zQz (zQa (zQb 10 rfl (.inl rfl) yQv yQs) (zQe)))) (zQe)))))))))) (zQ2)) (zQg (zZs (zQm C (zQb 8 rfl (.inl rfl) zZn zZm) (zQz (zQa (zQp) (zQa (zQp) (zQe))))) (zQi (yQe (is := [12]) C po (zX7 (zQb 5 rfl (.inl rfl) zZb zZa)) (zQq 12 C rfl (.inl rfl) (by decide)) (zQ4) (zQi (zQ5 1 C rfl (.inl rfl) (zQw C ⟨zYa T sm (by decide)⟩ rfl hr rfl (zQa (zQb 1 rfl (.inl rfl) zQ9 zQ8) (zQa (zQb 12 rfl (.inl rfl) zZk zZi) (zQe)))))))) (zQ2)) (zQi (zQx (zQb 1 rfl (.inl rfl) zQ9 zQ8))))))))))
theorem yKs (T : Top w K mg) (sm : SM base) {k : Nat} (hk : 3 ≤ k) : yJe P w K mg base k "_law_made" ["_law_rule_here", "_law_state", "_law_step"] zVl := zJ6 T.f__law_made hk (yGy T sm)
theorem yJm : FnScope ["_law_state", "_law_numbers", "_law_cells", "_law_r"] ["_law_state", "_law_numbers"] (defScope (zQ3 46)) := ⟨rfl, rfl, rfl, by decide +kernel, rfl, by decide +kernel, by decide +kernel⟩
theorem yJq (T : Top w K mg) (sm : SM base) {f : Addr} {fd : FuncData} (F : Fun K "_law_are_there" "_law_are_there" (zQ3 46) f fd) : FnG P w K mg base 1 f fd ["_law_state", "_law_numbers"] (spG K 2 (zZp 4 zG0)) :=
  zVs F yJm sm rfl rfl fun cdv A outer s H E B C po hr => zQg (zQ5 2 C rfl (.inr rfl) (zQr C (zQb 0 rfl (.inl rfl) zQ9 zQ8) (zQf) zQl)) (zQi (zQx (zZx C (yQd (own := [("_law_r", 3)]) C (zGp (by rfl)) (zQ4) (yWy.e (zX7 (zQb 1 rfl (.inl rfl) yQw yQt))) (fun s1 H1 K1 l1 p1 => zQq 3 (zZw C s1 H1 K1 l1 p1) rfl (.inl rfl) (by decide)) (fun s1 H1 K1 l1 p1 => zVx (yZj.t (zX0 (zQm (zZw C s1 H1 K1 l1 p1) (zQb 3 rfl (.inl rfl) yKl yKj) (zZv (zVg) rfl T.b_len rfl (zQy (zQb 2 rfl (.inr (.inl rfl)) zZb zZa) (zQ6)))) (zJk (zQm (zZw C s1 H1 K1 l1 p1) (zQr (zZw C s1 H1 K1 l1 p1) (zQb 2 rfl (.inr (.inl rfl)) zZb zZa) (zQb 3 rfl (.inl rfl) yKl yKj) zK2) (zXe)))))) (fun s1 H1 K1 l1 p1 => zQb 3 rfl (.inl rfl) yKl yKj)) (zZq (zQe)))))
theorem zKy (T : Top w K mg) (sm : SM base) {k : Nat} (hk : 1 ≤ k) : yJe P w K mg base k "_law_are_there" ["_law_state", "_law_numbers"] zVi := zJ6 T.f__law_are_there hk (yJq T sm)
theorem yH8 : FnScope ["_law_rule_here", "_law_state", "_law_step", "_law_width", "_law_objects", "_law_cells", "_law_colors", "_law_visited", "_law_kind", "_law_whites", "_law_one"] ["_law_rule_here", "_law_state", "_law_step"] (defScope (zQ3 47)) := ⟨rfl, rfl, rfl, by decide +kernel, rfl, by decide +kernel, by decide +kernel⟩
theorem xQg (T : Top w K mg) (sm : SM base) {f : Addr} {fd : FuncData} (F : Fun K "_law_can" "_law_can" (zQ3 47) f fd) : FnG P w K mg base 2 f fd ["_law_rule_here", "_law_state", "_law_step"] (spG K 3 (zZp 11 yKb)) :=
  zVs F yH8 sm rfl rfl fun cdv A outer s H E B C po hr => zQg (yQf (is := [3, 4, 5, 6, 7]) (zQb 1 rfl (.inl rfl) zQ9 zQ8) (zJ8 4 C (zQt (zJ8 2 C (zQt (zQq 3 C rfl (.inl rfl) (by decide)) (zQt (zQq 4 C rfl (.inl rfl) (by decide)) (zX3)))) (zQt (zQq 5 C rfl (.inl rfl) (by decide)) (zQt (zQq 6 C rfl (.inr rfl) (by decide)) (zQt (zQq 7 C rfl (.inl rfl) (by decide)) (zX3)))))) (zUa (zQ7 (zUa (zQ7 (zQ4) (zQ7 (zQ4) (zKk)))) (zQ7 (zQ4) (zQ7 (zQ4) (zQ7 (zQ4) (zKk))))))) (zQg (zQ5 8 C rfl (.inl rfl) (zQr C (zQb 2 rfl (.inl rfl) zQk zQj) (zQf) zQl)) (zQg (zZs (yZj.t (zX0 (yZj.t (zGf (zQm C (zQb 8 rfl (.inl rfl) zZn zZm) (zQz (zQa (zQp) (zQa (zQp) (zQe))))) (zY4 (zQm C (zQr C (zQb 2 rfl (.inl rfl) zQk zQj) (zQf) zQl) (zZv (zVg) rfl T.b_len rfl (zQy (zQb 5 rfl (.inl rfl) zZb zZa) (zQ6))))))) (zJk (yZj.t (zGf (zQm C (zQb 8 rfl (.inl rfl) zZn zZm) (zQp)) (zY4 (zQm C (zQr C (zQb 2 rfl (.inl rfl) zQk zQj) (zQf) zQl) (zZv (zVg) rfl T.b_len rfl (zQy (zQb 5 rfl (.inl rfl) zZb zZa) (zQ6)))))))))) (zQi (zQx (zX6))) (zQ2)) (zQg (zZs (zQm C (zQb 8 rfl (.inl rfl) zZn zZm) (zQp)) (zQi (zQx (snd_and (zQw C ⟨zKy T sm (by decide)⟩ rfl hr rfl (zQa (zQb 1 rfl (.inl rfl) zQ9 zQ8) (zQa (zZq (zQa (zQr C (zQb 2 rfl (.inl rfl) zQk zQj) (zQf) zQl) (zQe))) (zQe)))) (zVn (zZx C (zQr C (zQb 2 rfl (.inl rfl) zQk zQj) (zQf) zQl) (zQb 3 rfl (.inl rfl) zZ8 zZ7)))))) (zQ2)) (zQg (zZs (zQm C (zQb 8 rfl (.inl rfl) zZn zZm) (zQp)) (zQi (zQx (snd_and (zQw C ⟨zKy T sm (by decide)⟩ rfl hr rfl (zQa (zQb 1 rfl (.inl rfl) zQ9 zQ8) (zQa (zZd (zZq (zQa (zQr C (zQb 2 rfl (.inl rfl) zQk zQj) (zQf) zQl) (zQe))) (zZd (zZq (zQa (zQr C (zQb 2 rfl (.inl rfl) zQk zQj) (zQf) zQl) (zQe))) (zUc (xZo) rfl T.b_int rfl (zQy (zZx C (zQr C (zQb 2 rfl (.inl rfl) zQk zQj) (zQf) zQl) (zXe)) (zQ6))))) (zQe)))) (zVn (zZx C (zQr C (zQb 2 rfl (.inl rfl) zQk zQj) (zQf) zQl) (zQb 3 rfl (.inl rfl) zZ8 zZ7)))))) (zQ2)) (zQg (zZs (zQm C (zQb 8 rfl (.inl rfl) zZn zZm) (zQp)) (zQi (zQx (snd_and (zZx C (zQr C (zQb 2 rfl (.inl rfl) zQk zQj) (zQf) zQl) (zQr C (zQb 2 rfl (.inl rfl) zQk zQj) (zQf) zQl)) (zVn (zQw C ⟨zKy T sm (by decide)⟩ rfl hr rfl (zQa (zQb 1 rfl (.inl rfl) zQ9 zQ8) (zQa (zZq (zQa (zQr C (zQb 2 rfl (.inl rfl) zQk zQj) (zQf) zQl) (zQe))) (zQe)))))))) (zQ2)) (zQg (zZs (zQm C (zQb 8 rfl (.inl rfl) zZn zZm) (zQp)) (zQi (zQx (zQw C ⟨zKy T sm (by decide)⟩ rfl hr rfl (zQa (zQb 1 rfl (.inl rfl) zQ9 zQ8) (zQa (zZq (zQa (zQr C (zQb 2 rfl (.inl rfl) zQk zQj) (zQf) zQl) (zQe))) (zQe)))))) (zQ2)) (zQg (zZs (zQm C (zQb 8 rfl (.inl rfl) zZn zZm) (zQp)) (zQg (zZs (yZj.t (zX0 (zQm C (zQr C (zQb 2 rfl (.inl rfl) zQk zQj) (zQf) zQl) (zZv (zVg) rfl T.b_len rfl (zQy (zQb 4 rfl (.inl rfl) zZl zZj) (zQ6)))) (zJk (zQm C (zQr C (zQb 6 rfl (.inr (.inl rfl)) zZ2 zZ1) (zQr C (zQb 2 rfl (.inl rfl) zQk zQj) (zQf) zQl) yJ5) (zQp))))) (zQi (zQx (zX6))) (zQ2)) (zQi (zQx (xZb (zZx C (zZv (zVg) rfl T.b_len rfl (zQy (zQb 2 rfl (.inl rfl) zQk zQj) (zQ6))) (zQf)) (zVn (snd_and (zZx C (zQr C (zQb 2 rfl (.inl rfl) zQk zQj) (zQf) zQl) (zQb 3 rfl (.inl rfl) zZ8 zZ7)) (zVn (zZx C (zQr C (zQb 2 rfl (.inl rfl) zQk zQj) (zQf) zQl) (zQr C (zQb 7 rfl (.inl rfl) zXm zXi) (zQr C (zQb 2 rfl (.inl rfl) zQk zQj) (zQf) zQl) yJ5))))))))) (zQ2)) (zQg (zZs (zQm C (zQb 8 rfl (.inl rfl) zZn zZm) (zQp)) (zQg (yVx (own := [("_law_one", 10)]) 9 C rfl rfl (by rfl) (zGp (by rfl)) (zQ4) (yWy.e (zX7 (zQb 5 rfl (.inl rfl) zZb zZa))) (fun s1 H1 K1 l1 p1 => zQq 10 (zZw C s1 H1 K1 l1 p1) rfl (.inl rfl) (by decide)) (fun s1 H1 K1 l1 p1 => zVx (yZj.t (zGf (zQm (zZw C s1 H1 K1 l1 p1) (zQb 10 rfl (.inl rfl) zZk zZi) (zXe)) (zY4 (zQm (zZw C s1 H1 K1 l1 p1) (zQr (zZw C s1 H1 K1 l1 p1) (zQb 6 rfl (.inr (.inl rfl)) zZ2 zZ1) (zQb 10 rfl (.inl rfl) zZk zZi) zK2) (zQp)))))) (fun s1 H1 K1 l1 p1 => zQb 10 rfl (.inl rfl) zZk zZi)) (zQi (zQx (snd_and (zZx C (zQp) (zQb 6 rfl (.inr (.inl rfl)) zZ2 zZ1)) (zVn (xZb (zZx C (zQr C (zQb 0 rfl (.inl rfl) zQo zQn) (zQf) zQl) (zQp)) (zVn (zZx C (zQb 9 rfl (.inl rfl) yWs yWp) (zZq (zQe)))))))))) (zQ2)) (zQi (zQx (xZb (snd_and (zZx C (zQb 8 rfl (.inl rfl) zZn zZm) (zQp)) (zVn (zZx C (zZv (zVg) rfl T.b_len rfl (zQy (zQb 4 rfl (.inl rfl) zZl zZj) (zQ6))) (zQf)))) (zVn (snd_and (zZx C (zQb 8 rfl (.inl rfl) zZn zZm) (zQp)) (zVn (zZx C (zQr C (zQb 0 rfl (.inl rfl) zQo zQn) (zQf) zQl) (zQp))))))))))))))))
theorem xJi (T : Top w K mg) (sm : SM base) {k : Nat} (hk : 2 ≤ k) : yJe P w K mg base k "_law_can" ["_law_rule_here", "_law_state", "_law_step"] yZ6 := zJ6 T.f__law_can hk (xQg T sm)
theorem yWe : FnScope ["_law_rule_here", "_law_story", "_law_heap_here", "_law_cells", "_law_steps", "_law_many", "_law_state", "_law_found", "_law_at", "_law_step"] ["_law_rule_here", "_law_story"] (defScope (zQ3 48)) := ⟨rfl, rfl, rfl, by decide +kernel, rfl, by decide +kernel, by decide +kernel⟩
theorem yWk (T : Top w K mg) (sm : SM base) {f : Addr} {fd : FuncData} (F : Fun K "_law_played" "_law_played" (zQ3 48) f fd) : FnG P w K mg base 4 f fd ["_law_rule_here", "_law_story"] (spG K 2 (zZp 10 zYq)) :=
  zVs F yWe sm rfl rfl fun cdv A outer s H E B C po hr => zQg (yQf (is := [2, 3, 4]) (zQb 1 rfl (.inl rfl) zXn zXj) (zJ8 3 C (zQt (zQq 2 C rfl (.inl rfl) (by decide)) (zQt (zQq 3 C rfl (.inl rfl) (by decide)) (zQt (zQq 4 C rfl (.inl rfl) (by decide)) (zX3))))) (zUa (zQ7 (zQ4) (zQ7 (zQ4) (zQ7 (zQ4) (zKk)))))) (zQg (zQ5 5 C rfl (.inl rfl) (zZv (zVg) rfl T.b_len rfl (zQy (zQr C (zQb 2 rfl (.inl rfl) zG4 zG2) (zQf) zQl) (zQ6)))) (zQg (zQ5 6 C rfl (.inl rfl) (zQz (zQa (zQb 2 rfl (.inl rfl) zG4 zG2) (zQa (zQb 3 rfl (.inl rfl) zZb zZa) (zQa (zZd (zQz (zQa (zQp) (zQe))) (zQb 5 rfl (.inl rfl) yQx yQu)) (zQa (zZd (zQz (zQa (zQz (zQe)) (zQe))) (zQb 5 rfl (.inl rfl) yQx yQu)) (zQe))))))) (zQg (zZs (yZj.t (zX0 (zQm C (zQb 4 rfl (.inl rfl) zJt zJs) (zQz (zQe))) (zJk (zQm C (zQr C (zQb 4 rfl (.inl rfl) zJt zJs) (zQf) zQl) (zQz (zQa (zQp) (zQe))))))) (zQi (zQx (zZq (zQe)))) (zQ2)) (zQg (zQ5 7 C rfl (.inl rfl) (zZq (zQa (zQw C ⟨yKs T sm (by decide)⟩ rfl hr rfl (zQa (zQb 0 rfl (.inl rfl) zQo zQn) (zQa (zQb 6 rfl (.inl rfl) zQ9 zQ8) (zQa (zQr C (zQb 4 rfl (.inl rfl) zJt zJs) (zQf) zQl) (zQe))))) (zQe)))) (zQg (yQe (is := [8, 9]) C po (xXz rfl T.b_enumerate (zQa (yXd (zQb 4 rfl (.inl rfl) zJt zJs) (zKq (zQf)) (zY5)) (zQa (zQf) (zQe)))) (zJ8 2 C (zQt (zQq 8 C rfl (.inl rfl) (by decide)) (zQt (zQq 9 C rfl (.inl rfl) (by decide)) (zX3)))) (zUa (zQ7 (zQ4) (zQ7 (zQ4) (zKk)))) (zQg (zZs (yZj.t (zX0 (zQm C (zQr C (zQb 4 rfl (.inl rfl) zJt zJs) (zZd (zQb 8 rfl (.inl rfl) zJq zJp) (zQf)) xGq) (zQz (zQa (zQp) (zQe)))) (zX0 (zQm C (zQb 9 rfl (.inl rfl) zQk zQj) (zQz (zQa (zQp) (zQe)))) (zJk (zZ6 (zZ5 (zQw C ⟨xJi T sm (by decide)⟩ rfl hr rfl (zQa (zQb 0 rfl (.inl rfl) zQo zQn) (zQa (zQr C (zQb 7 rfl (.inl rfl) zXp zXl) (yJj (zQf)) xYx) (zQa (zQb 9 rfl (.inl rfl) zQk zQj) (zQe))))))))))) (zQi (zQx (zZq (zQe)))) (zQ2)) (zQi (xHz 7 rfl (.inl rfl) (zQw C ⟨yKs T sm (by decide)⟩ rfl hr rfl (zQa (zQb 0 rfl (.inl rfl) zQo zQn) (zQa (zQr C (zQb 7 rfl (.inl rfl) zXp zXl) (yJj (zQf)) xYx) (zQa (zQb 9 rfl (.inl rfl) zQk zQj) (zQe))))))))) (zQi (zQx (zQb 7 rfl (.inl rfl) zXp zXl))))))))
theorem yUs (T : Top w K mg) (sm : SM base) {k : Nat} (hk : 4 ≤ k) : yJe P w K mg base k "_law_played" ["_law_rule_here", "_law_story"] zVy := zJ6 T.f__law_played hk (yWk T sm)
theorem yVa : FnScope ["_law_thing"] ["_law_thing"] (defScope (zQ3 49)) := ⟨rfl, rfl, rfl, by decide +kernel, rfl, by decide +kernel, by decide +kernel⟩
theorem yVd (T : Top w K mg) (sm : SM base) {f : Addr} {fd : FuncData} (F : Fun K "_law_is_index" "_law_is_index" (zQ3 49) f fd) : FnG P w K mg base 1 f fd ["_law_thing"] (spG K 1 (zZp 1 zH3)) :=
  zVs F yVa sm rfl rfl fun cdv A outer s H E B C po hr => zQi (zQx (snd_and (zYk (zQb 0 rfl (.inl rfl) zUi zUe) rfl T.b_isinstance rfl rfl T.b_int rfl) (snd_and (xHw (zYk (zQb 0 rfl (.inl rfl) zUi zUe) rfl T.b_isinstance rfl rfl T.b_bool rfl)) (zVn (zZx C (zQb 0 rfl (.inl rfl) zUi zUe) (zQf))))))
theorem zU5 (T : Top w K mg) (sm : SM base) {k : Nat} (hk : 1 ≤ k) : yJe P w K mg base k "_law_is_index" ["_law_thing"] zK0 := zJ6 T.f__law_is_index hk (yVd T sm)
theorem yWg : FnScope ["_law_row", "_law_many", "_law_one"] ["_law_row", "_law_many"] (defScope (zQ3 51)) := ⟨rfl, rfl, rfl, by decide +kernel, rfl, by decide +kernel, by decide +kernel⟩
theorem yWm (T : Top w K mg) (sm : SM base) {f : Addr} {fd : FuncData} (F : Fun K "_law_is_row" "_law_is_row" (zQ3 51) f fd) : FnG P w K mg base 2 f fd ["_law_row", "_law_many"] (spG K 2 (zZp 3 yZt)) :=
  zVs F yWg sm rfl rfl fun cdv A outer s H E B C po hr => zQg (zZs (zZ6 (zZ5 (zYk (zQb 0 rfl (.inl rfl) zKc zKa) rfl T.b_isinstance rfl rfl T.b_tuple rfl))) (zQi (zQx (zX6))) (zQ2)) (zQi (zQx (zZx C (yQd (own := [("_law_one", 2)]) C (zGp (by rfl)) (zQ4) (yWy.e (zX7 (zQb 0 rfl (.inl rfl) zKc zKa))) (fun s1 H1 K1 l1 p1 => zQq 2 (zZw C s1 H1 K1 l1 p1) rfl (.inl rfl) (by decide)) (fun s1 H1 K1 l1 p1 => zVx (yZj.t (zGf (zQm (zZw C s1 H1 K1 l1 p1) (zQb 2 rfl (.inl rfl) zZk zZi) (zXe)) (zY4 (zZ6 (yZj.t (zGf (zZ5 (zQw (zZw C s1 H1 K1 l1 p1) ⟨zU5 T sm (by decide)⟩ rfl hr rfl (zQa (zQb 2 rfl (.inl rfl) zZk zZi) (zQe)))) (zY4 (zQm (zZw C s1 H1 K1 l1 p1) (zQb 2 rfl (.inl rfl) zZk zZi) (zQb 1 rfl (.inr (.inl rfl)) yQx yQu)))))))))) (fun s1 H1 K1 l1 p1 => zQb 2 rfl (.inl rfl) zZk zZi)) (zZq (zQe)))))
theorem yX4 (T : Top w K mg) (sm : SM base) {k : Nat} (hk : 2 ≤ k) : yJe P w K mg base k "_law_is_row" ["_law_row", "_law_many"] zGx := zJ6 T.f__law_is_row hk (yWm T sm)
theorem yV4 : FnScope ["_law_step", "_law_mode", "_law_sizes", "_law_numbers", "_law_one"] ["_law_step", "_law_mode"] (defScope (zQ3 50)) := ⟨rfl, rfl, rfl, by decide +kernel, rfl, by decide +kernel, by decide +kernel⟩
theorem yKg (T : Top w K mg) (sm : SM base) {f : Addr} {fd : FuncData} (F : Fun K "_law_is_step" "_law_is_step" (zQ3 50) f fd) : FnG P w K mg base 2 f fd ["_law_step", "_law_mode"] (spG K 2 (zZp 5 yQm)) :=
  zVs F yV4 sm rfl rfl fun cdv A outer s H E B C po hr => zQg (zQ5 2 C rfl (.inl rfl) (xYn (zK4 (zQp) (zQf) (zK4 (zQp) (zQf) (zK4 (zQp) (zQf) (zK4 (zQp) (zQf) (zK4 (zQp) (zQf) (zK4 (zQp) (zQf) (zK4 (zQp) (zQf) (zK4 (zQp) (zQf) (xVi))))))))))) (zQg (yXc C (zZd (zQf) (zUc (xZo) rfl T.b_int rfl (zQy (zZx C (zQb 1 rfl (.inl rfl) zKd zKb) (zQp)) (zQ6)))) (zQb 2 rfl (.inl rfl) yXu yXm) (zQp)) (zQg (zZs (yZj.t (zX0 (zZ6 (zZ5 (zYk (zQb 0 rfl (.inl rfl) zQk zQj) rfl T.b_isinstance rfl rfl T.b_tuple rfl))) (zX0 (zQm C (zQb 0 rfl (.inl rfl) zQk zQj) (zQz (zQe))) (zJk (zZ6 (zZ5 (zYk (zQr C (zQb 0 rfl (.inl rfl) zQk zQj) (zQf) zQl) rfl T.b_isinstance rfl rfl T.b_str rfl))))))) (zQi (zQx (zX6))) (zQ2)) (zQg (zQ5 3 C rfl (.inl rfl) (zWa (yZj.t (zGf (zQm C (zQr C (zQb 0 rfl (.inl rfl) zQk zQj) (zQf) zQl) (zQp)) (zY4 (zQm C (zQr C (zQb 0 rfl (.inl rfl) zQk zQj) (yJj (zQf)) xYx) (zXe))))) (yXd (zQb 0 rfl (.inl rfl) zQk zQj) (zKq (zQf)) (zKq (zQf))) (yXd (zQb 0 rfl (.inl rfl) zQk zQj) (zKq (zQf)) (zY5)))) (zQi (zQx (snd_and (zZx C (xYm C (zQb 2 rfl (.inl rfl) yXu yXm) (zQr C (zQb 0 rfl (.inl rfl) zQk zQj) (zQf) zQl) (zQf)) (zZv (zVg) rfl T.b_len rfl (zQy (zQb 0 rfl (.inl rfl) zQk zQj) (zQ6)))) (zVn (zZx C (yQd (own := [("_law_one", 4)]) C (zGp (by rfl)) (zQ4) (yWy.e (zX7 (zQb 3 rfl (.inl rfl) yQw yQt))) (fun s1 H1 K1 l1 p1 => zQq 4 (zZw C s1 H1 K1 l1 p1) rfl (.inl rfl) (by decide)) (fun s1 H1 K1 l1 p1 => zVx (zZ6 (zZ5 (zQw (zZw C s1 H1 K1 l1 p1) ⟨zU5 T sm (by decide)⟩ rfl hr rfl (zQa (zQb 4 rfl (.inl rfl) zZk zZi) (zQe)))))) (fun s1 H1 K1 l1 p1 => zQb 4 rfl (.inl rfl) zZk zZi)) (zZq (zQe))))))))))
theorem yWw (T : Top w K mg) (sm : SM base) {k : Nat} (hk : 2 ≤ k) : yJe P w K mg base k "_law_is_step" ["_law_step", "_law_mode"] yQ5 := zJ6 T.f__law_is_step hk (yKg T sm)
theorem yJ9 : FnScope ["_law_story", "_law_mode", "_law_places", "_law_most", "_law_widest", "_law_width", "_law_objects", "_law_cells", "_law_steps", "_law_row", "_law_step"] ["_law_story", "_law_mode", "_law_places", "_law_most", "_law_widest"] (defScope (zQ3 52)) := ⟨rfl, rfl, rfl, by decide +kernel, rfl, by decide +kernel, by decide +kernel⟩
theorem yVc (T : Top w K mg) (sm : SM base) {f : Addr} {fd : FuncData} (F : Fun K "_law_is_story" "_law_is_story" (zQ3 52) f fd) : FnG P w K mg base 3 f fd ["_law_story", "_law_mode", "_law_places", "_law_most", "_law_widest"] (spG K 5 (zZp 11 zH2)) :=
  zVs F yJ9 sm rfl rfl fun cdv A outer s H E B C po hr => zQg (zZs (yZj.t (zX0 (zZ6 (zZ5 (zYk (zQb 0 rfl (.inl rfl) zXn zXj) rfl T.b_isinstance rfl rfl T.b_tuple rfl))) (zX0 (zQm C (zZv (zVg) rfl T.b_len rfl (zQy (zQb 0 rfl (.inl rfl) zXn zXj) (zQ6))) (zQf)) (zX0 (zZ6 (zZ5 (zYk (zQr C (zQb 0 rfl (.inl rfl) zXn zXj) (zQf) zQl) rfl T.b_isinstance rfl rfl T.b_tuple rfl))) (zJk (zQm C (zZv (zVg) rfl T.b_len rfl (zQy (zQr C (zQb 0 rfl (.inl rfl) zXn zXj) (zQf) zQl) (zQ6))) (zQf))))))) (zQi (zQx (zX6))) (zQ2)) (zQg (yQf (is := [5, 6, 7, 8]) (zQb 0 rfl (.inl rfl) zXn zXj) (zJ8 3 C (zQt (zJ8 2 C (zQt (zQq 5 C rfl (.inr rfl) (by decide)) (zQt (zQq 6 C rfl (.inr rfl) (by decide)) (zX3)))) (zQt (zQq 7 C rfl (.inl rfl) (by decide)) (zQt (zQq 8 C rfl (.inl rfl) (by decide)) (zX3))))) (zUa (zQ7 (zUa (zQ7 (zQ4) (zQ7 (zQ4) (zKk)))) (zQ7 (zQ4) (zQ7 (zQ4) (zKk)))))) (zQg (zZs (yZj.t (zX0 (zZ6 (zZ5 (zQw C ⟨zU5 T sm (by decide)⟩ rfl hr rfl (zQa (zQb 5 rfl (.inr (.inl rfl)) zZ8 zZ7) (zQe))))) (zX0 (zZ6 (xXy C (zQf) (zQb 5 rfl (.inr (.inl rfl)) zZ8 zZ7) (zQb 4 rfl (.inl rfl) yWr yWo))) (zX0 (zZ6 (zZ5 (zYk (zQb 6 rfl (.inr (.inl rfl)) zZl zZj) rfl T.b_isinstance rfl rfl T.b_tuple rfl))) (zJk (zQm C (zZv (zVg) rfl T.b_len rfl (zQy (zQb 6 rfl (.inr (.inl rfl)) zZl zZj) (zQ6))) (zQb 3 rfl (.inl rfl) yG8 yG4))))))) (zQi (zQx (zX6))) (zQ2)) (zQg (zZs (zQm C (yQd (own := [("_law_row", 9)]) C (zGp (by rfl)) (zQ4) (yWy.e (zX7 (zQb 6 rfl (.inr (.inl rfl)) zZl zZj))) (fun s1 H1 K1 l1 p1 => zQq 9 (zZw C s1 H1 K1 l1 p1) rfl (.inl rfl) (by decide)) (fun s1 H1 K1 l1 p1 => zVx (yZj.t (zX0 (zZ6 (zZ5 (zQw (zZw C s1 H1 K1 l1 p1) ⟨yX4 T sm (by decide)⟩ rfl hr rfl (zQa (zQb 9 rfl (.inl rfl) zKc zKa) (zQa (zZv (zVg) rfl T.b_len rfl (zQy (zQb 6 rfl (.inr (.inl rfl)) zZl zZj) (zQ6))) (zQe)))))) (zJk (zQm (zZw C s1 H1 K1 l1 p1) (zZv (zVg) rfl T.b_len rfl (zQy (zQb 9 rfl (.inl rfl) zKc zKa) (zQ6))) (zQb 5 rfl (.inr (.inl rfl)) zZ8 zZ7)))))) (fun s1 H1 K1 l1 p1 => zQb 9 rfl (.inl rfl) zKc zKa)) (zZq (zQe))) (zQi (zQx (zX6))) (zQ2)) (zQg (zZs (yZj.t (zX0 (zZ6 (zZ5 (zQw C ⟨yX4 T sm (by decide)⟩ rfl hr rfl (zQa (zQb 7 rfl (.inl rfl) zZb zZa) (zQa (zZv (zVg) rfl T.b_len rfl (zQy (zQb 6 rfl (.inr (.inl rfl)) zZl zZj) (zQ6))) (zQe)))))) (zJk (zQm C (zZv (zVg) rfl T.b_len rfl (zQy (zQb 7 rfl (.inl rfl) zZb zZa) (zQ6))) (zQb 2 rfl (.inl rfl) zKs zKr))))) (zQi (zQx (zX6))) (zQ2)) (zQg (zZs (yZj.t (zX0 (zZ6 (zZ5 (zYk (zQb 8 rfl (.inl rfl) zJt zJs) rfl T.b_isinstance rfl rfl T.b_tuple rfl))) (zJk (zQm C (zZv (zVg) rfl T.b_len rfl (zQy (zQb 8 rfl (.inl rfl) zJt zJs) (zQ6))) (zQf))))) (zQi (zQx (zX6))) (zQ2)) (zQi (zQx (zZx C (yQd (own := [("_law_step", 10)]) C (zGp (by rfl)) (zQ4) (yWy.e (zX7 (zQb 8 rfl (.inl rfl) zJt zJs))) (fun s2 H2 K2 l2 p2 => zQq 10 (zZw C s2 H2 K2 l2 p2) rfl (.inl rfl) (by decide)) (fun s2 H2 K2 l2 p2 => zVx (zZ6 (zZ5 (zQw (zZw C s2 H2 K2 l2 p2) ⟨yWw T sm (by decide)⟩ rfl hr rfl (zQa (zQb 10 rfl (.inl rfl) zQk zQj) (zQa (zQb 1 rfl (.inr (.inl rfl)) zKd zKb) (zQe))))))) (fun s2 H2 K2 l2 p2 => zQb 10 rfl (.inl rfl) zQk zQj)) (zZq (zQe))))))))))
theorem yKt (T : Top w K mg) (sm : SM base) {k : Nat} (hk : 3 ≤ k) : yJe P w K mg base k "_law_is_story" ["_law_story", "_law_mode", "_law_places", "_law_most", "_law_widest"] zKz := zJ6 T.f__law_is_story hk (yVc T sm)
theorem yYt : FnScope ["_law_objects", "_law_cells", "_law_found", "_law_earlier", "_law_inner", "_law_one", "_law_other"] ["_law_objects", "_law_cells"] (defScope (zQ3 39)) := ⟨rfl, rfl, rfl, by decide +kernel, rfl, by decide +kernel, by decide +kernel⟩
theorem yY6 (T : Top w K mg) (sm : SM base) {f : Addr} {fd : FuncData} (F : Fun K "_law_reach" "_law_reach" (zQ3 39) f fd) : FnG P w K mg base 1 f fd ["_law_objects", "_law_cells"] (spG K 2 (zZp 7 yXh)) :=
  zVs F yYt sm rfl rfl fun cdv A outer s H E B C po hr => zQg (zQ5 2 C rfl (.inl rfl) (yW1 C (yQd (own := [("_law_one", 5)]) C (zGp (by rfl)) (zQ4) (yWy.e (zX7 (zQb 1 rfl (.inl rfl) zZb zZa))) (fun s1 H1 K1 l1 p1 => zQq 5 (zZw C s1 H1 K1 l1 p1) rfl (.inl rfl) (by decide)) (fun s1 H1 K1 l1 p1 => zVx (zQm (zZw C s1 H1 K1 l1 p1) (zQb 5 rfl (.inl rfl) zZk zZi) (zXe))) (fun s1 H1 K1 l1 p1 => zQb 5 rfl (.inl rfl) zZk zZi)) rfl T.b_sorted rfl rfl T.b_set rfl)) (zQg (zQ5 3 C rfl (.inl rfl) (yJj (zQf))) (zQg (xVc po (zQm C (zQb 3 rfl (.inl rfl) yKm yKk) (zZv (zVg) rfl T.b_len rfl (zQy (zQb 2 rfl (.inl rfl) zXp zXl) (zQ6)))) (zQg (zQ5 3 C rfl (.inl rfl) (zZv (zVg) rfl T.b_len rfl (zQy (zQb 2 rfl (.inl rfl) zXp zXl) (zQ6)))) (zQg (zQ5 4 C rfl (.inl rfl) (zZq (zQe))) (zQg (yQe (is := [5]) C po (zX7 (zQb 2 rfl (.inl rfl) zXp zXl)) (zQq 5 C rfl (.inl rfl) (by decide)) (zQ4) (zQi (xVg 4 rfl (.inl rfl) (yQd (own := [("_law_other", 6)]) C (zGp (by rfl)) (zQ4) (yWy.e (zX7 (zQr C (zQb 0 rfl (.inl rfl) zZl zZj) (zQb 5 rfl (.inl rfl) zZk zZi) zK2))) (fun s2 H2 K2 l2 p2 => zQq 6 (zZw C s2 H2 K2 l2 p2) rfl (.inl rfl) (by decide)) (fun s2 H2 K2 l2 p2 => zVx (zQm (zZw C s2 H2 K2 l2 p2) (zQb 6 rfl (.inl rfl) yXv yXn) (zXe))) (fun s2 H2 K2 l2 p2 => zQb 6 rfl (.inl rfl) yXv yXn))))) (zQi (zQ5 2 C rfl (.inl rfl) (yW1 C (zZd (zQb 2 rfl (.inl rfl) zXp zXl) (zQb 4 rfl (.inl rfl) yUe yUc)) rfl T.b_sorted rfl rfl T.b_set rfl))))))) (zQi (zQx (zQb 2 rfl (.inl rfl) zXp zXl)))))
theorem yHe (T : Top w K mg) (sm : SM base) {k : Nat} (hk : 1 ≤ k) : yJe P w K mg base k "_law_reach" ["_law_objects", "_law_cells"] zUs := zJ6 T.f__law_reach hk (yY6 T sm)
theorem yYv : FnScope ["_law_rule_here", "_law_story", "_law_mode", "_law_places", "_law_states", "_law_colors", "_law_one"] ["_law_rule_here", "_law_story", "_law_mode", "_law_places"] (defScope (zQ3 54)) := ⟨rfl, rfl, rfl, by decide +kernel, rfl, by decide +kernel, by decide +kernel⟩
theorem yY8 (T : Top w K mg) (sm : SM base) {f : Addr} {fd : FuncData} (F : Fun K "_law_frees" "_law_frees" (zQ3 54) f fd) : FnG P w K mg base 5 f fd ["_law_rule_here", "_law_story", "_law_mode", "_law_places"] (spG K 4 (zZp 7 zHg)) :=
  zVs F yYv sm rfl rfl fun cdv A outer s H E B C po hr => zQg (zZs (yZj.t (zX0 (zZ6 (zZ5 (zQw C ⟨yKt T sm (by decide)⟩ rfl hr rfl (zQa (zQb 1 rfl (.inl rfl) zXn zXj) (zQa (zQb 2 rfl (.inl rfl) zKd zKb) (zQa (zQb 3 rfl (.inl rfl) zKs zKr) (zQa (zQf) (zQa (zQf) (zQe))))))))) (zJk (zQm C (yXd (zQr C (zQb 1 rfl (.inl rfl) zXn zXj) (zQf) zQl) (zKq (yJj (zQf))) (zY5)) (zQz (zQa (zQz (zQa (zQp) (zQe))) (zQe))))))) (zQi (zQx (zX6))) (zQ2)) (zQg (zQ5 4 C rfl (.inl rfl) (zQw C ⟨yUs T sm (by decide)⟩ rfl hr rfl (zQa (zQb 0 rfl (.inl rfl) zQo zQn) (zQa (zQb 1 rfl (.inl rfl) zXn zXj) (zQe))))) (zQg (zZs (zQm C (zQb 4 rfl (.inl rfl) yZx yZu) (zZq (zQe))) (zQi (zQx (zX6))) (zQ2)) (zQg (zQ5 5 C rfl (.inr rfl) (zQr C (zQr C (zQb 4 rfl (.inl rfl) yZx yZu) (yJj (zQf)) xYx) (zQf) zQl)) (zQi (zQx (zZx C (yQd (own := [("_law_one", 6)]) C (zGp (by rfl)) (zQ4) (yWy.e (zX7 (zQw C ⟨yHe T sm (by decide)⟩ rfl hr rfl (zQa (zQr C (zQr C (zQb 1 rfl (.inl rfl) zXn zXj) (zQf) zQl) (zQf) zQl) (zQa (zQr C (zQb 1 rfl (.inl rfl) zXn zXj) (zQf) zQl) (zQe)))))) (fun s1 H1 K1 l1 p1 => zQq 6 (zZw C s1 H1 K1 l1 p1) rfl (.inl rfl) (by decide)) (fun s1 H1 K1 l1 p1 => zVx (zQm (zZw C s1 H1 K1 l1 p1) (zQr (zZw C s1 H1 K1 l1 p1) (zQb 5 rfl (.inr (.inl rfl)) zZ2 zZ1) (zQb 6 rfl (.inl rfl) zZk zZi) zK2) (zQp))) (fun s1 H1 K1 l1 p1 => zQb 6 rfl (.inl rfl) zZk zZi)) (zZq (zQe))))))))
theorem yJ6 (T : Top w K mg) (sm : SM base) {k : Nat} (hk : 5 ≤ k) : yJe P w K mg base k "_law_frees" ["_law_rule_here", "_law_story", "_law_mode", "_law_places"] zVt := zJ6 T.f__law_frees hk (yY8 T sm)
theorem yYs : FnScope ["_law_pen_here", "_law_rule_here", "_law_sheet_here", "_law_places", "_law_mode", "_law_due", "_law_told", "_law_plain"] ["_law_pen_here"] (defScope (zQ3 55)) := ⟨rfl, rfl, rfl, by decide +kernel, rfl, by decide +kernel, by decide +kernel⟩
theorem yY5 (T : Top w K mg) (sm : SM base) {f : Addr} {fd : FuncData} (F : Fun K "_law_right" "_law_right" (zQ3 55) f fd) : FnG P w K mg base 9 f fd ["_law_pen_here"] (spG K 1 (zZp 8 zHe)) :=
  zVs F yYs sm rfl rfl fun cdv A outer s H E B C po hr => zQg (zQ5 1 C rfl (.inl rfl) (zQw C ⟨xQq T sm (by decide)⟩ rfl hr rfl (zQa (zQb 0 rfl (.inl rfl) zQv zQu) (zQe)))) (zQg (zQ5 2 C rfl (.inl rfl) (zQw C ⟨yHc T sm (by decide)⟩ rfl hr rfl (zQa (zQb 1 rfl (.inl rfl) zQo zQn) (zQe)))) (zQg (zQ5 3 C rfl (.inl rfl) (zQr C (zZq (zQa (zQf) (zQa (zQf) (zQa (zZd (zQf) (zQw C ⟨zJh T sm (by decide)⟩ rfl hr rfl (zQa (zQb 0 rfl (.inl rfl) zQv zQu) (zQa (zQf) (zQe))))) (zQe))))) (zQw C ⟨zJh T sm (by decide)⟩ rfl hr rfl (zQa (zQb 0 rfl (.inl rfl) zQv zQu) (zQa (zQf) (zQe)))) yQj)) (zQg (zQ5 4 C rfl (.inl rfl) (zQr C (zZq (zQa (zQp) (zQa (zQp) (zQe)))) (zQw C ⟨zJh T sm (by decide)⟩ rfl hr rfl (zQa (zQb 0 rfl (.inl rfl) zQv zQu) (zQa (zQf) (zQe)))) yQj)) (zQg (zQ5 5 C rfl (.inl rfl) (zQw C ⟨yHf T sm (by decide)⟩ rfl hr rfl (zQa (zQb 1 rfl (.inl rfl) zQo zQn) (zQe)))) (zQg (zZs (zQm C (zZv (yJp C) rfl T.b_repr rfl (zQy (zZq (zQa (zQw C ⟨zU4 T sm (by decide)⟩ rfl hr rfl (zQa (zQb 2 rfl (.inl rfl) zXz zXy) (zQe))) (zQa (xXw C ⟨vJd T sm (by decide)⟩ rfl rfl hr rfl (zXc (zQb 2 rfl (.inl rfl) zXz zXy) (zJr))) (zQe)))) (zQ6))) (zZv (yJp C) rfl T.b_repr rfl (zQy (zZq (zQa (zQb 5 rfl (.inl rfl) zU3 zU2) (zQa (zQb 5 rfl (.inl rfl) zU3 zU2) (zQe)))) (zQ6)))) (zQi (zQx (zX6))) (zQ2)) (zQg (zQ5 6 C rfl (.inl rfl) (yVz C ⟨wH5 T sm (by decide)⟩ rfl rfl hr rfl (zQa (zQb 2 rfl (.inl rfl) zXz zXy) (zQe)) (zXc (zQb 3 rfl (.inl rfl) zKs zKr) (zXc (zQb 4 rfl (.inl rfl) zKd zKb) (zJr))))) (zQg (zZs (zQm C (zZv (yJp C) rfl T.b_repr rfl (zQy (xXx C ⟨vJc T sm (by decide)⟩ rfl rfl hr rfl (zXc (zQb 4 rfl (.inl rfl) zKd zKb) (zXc (zQb 3 rfl (.inl rfl) zKs zKr) (zXc (zQb 2 rfl (.inl rfl) zXz zXy) (zJr))))) (zQ6))) (zZv (yJp C) rfl T.b_repr rfl (zQy (zQb 6 rfl (.inl rfl) zGk zGh) (zQ6)))) (zQi (zQx (zX6))) (zQ2)) (zQg (zQ5 7 C rfl (.inl rfl) (yVz C ⟨vJb T sm (by decide)⟩ rfl rfl hr rfl (zQa (zQb 2 rfl (.inl rfl) zXz zXy) (zQe)) (zJr))) (zQg (zZs (zQm C (zZv (yJp C) rfl T.b_repr rfl (zQy (yVz C ⟨wH5 T sm (by decide)⟩ rfl rfl hr rfl (zQa (zQb 2 rfl (.inl rfl) zXz zXy) (zQe)) (zXc (zQf) (zXc (zQp) (zJr)))) (zQ6))) (zZv (yJp C) rfl T.b_repr rfl (zQy (zQb 7 rfl (.inl rfl) zUj zUf) (zQ6)))) (zQi (zQx (zX6))) (zQ2)) (zQg (zZs (zQm C (zQb 5 rfl (.inl rfl) zU3 zU2) (zXe)) (zQi (zQx (snd_and (zZx C (zQb 6 rfl (.inl rfl) zGk zGh) (zXe)) (zVn (zZx C (zQb 7 rfl (.inl rfl) zUj zUf) (zXe)))))) (zQ2)) (zQg (zZs (yZj.t (zX0 (zZ6 (zZ5 (zQw C ⟨yJ6 T sm (by decide)⟩ rfl hr rfl (zQa (zQb 1 rfl (.inl rfl) zQo zQn) (zQa (zQb 6 rfl (.inl rfl) zGk zGh) (zQa (zQb 4 rfl (.inl rfl) zKd zKb) (zQa (zZv (wJh C) rfl T.b_min rfl (zQy (zQb 3 rfl (.inl rfl) zKs zKr) (zQy (zQf) (zQ6)))) (zQe)))))))) (zJk (zZ6 (zZ5 (zQw C ⟨yJ6 T sm (by decide)⟩ rfl hr rfl (zQa (zQb 1 rfl (.inl rfl) zQo zQn) (zQa (zQb 7 rfl (.inl rfl) zUj zUf) (zQa (zQp) (zQa (zQf) (zQe))))))))))) (zQi (zQx (zX6))) (zQ2)) (zQi (zQx (snd_and (zZx C (zZv (zVg) rfl T.b_len rfl (zQy (zQr C (zQb 7 rfl (.inl rfl) zUj zUf) (zQf) zQl) (zQ6))) (zQb 5 rfl (.inl rfl) zU3 zU2)) (zVn (xZb (zZx C (zQb 4 rfl (.inl rfl) zKd zKb) (zQp)) (zVn (zZx C (zZv (zVg) rfl T.b_len rfl (zQy (zQr C (zQb 6 rfl (.inl rfl) zGk zGh) (zQf) zQl) (zQ6))) (zQb 5 rfl (.inl rfl) zU3 zU2)))))))))))))))))))
theorem yHd (T : Top w K mg) (sm : SM base) {k : Nat} (hk : 9 ≤ k) : yJe P w K mg base k "_law_right" ["_law_pen_here"] zUr := zJ6 T.f__law_right hk (yY5 T sm)
theorem yYw : FnScope ["cls", "fresh", "roots"] ["cls", "fresh", "roots"] (defScope (zK6 (zQ3 32) 4)) := ⟨rfl, rfl, rfl, by decide +kernel, rfl, by decide +kernel, by decide +kernel⟩
theorem yY9 (T : Top w K mg) (sm : SM base) {f : Addr} {fd : FuncData} (F : Fun K "full" "Table.full" (zK6 (zQ3 32) 4) f fd) : FnG P w K mg base 6 f fd ["cls", "fresh", "roots"] (spG K 3 (zZp 3 zHh)) :=
  zVs F yYw sm rfl rfl fun cdv A outer s H E B C po hr => zQi (zQx (xZf (zQb 0 rfl (.inl rfl) xG0 xGy) (xHb C (wK9 T sm (k := 4) (by decide)) (hr.mono (by decide)) xXh) (yJk (zHa rfl T.zYd) (zXc (zQb 1 rfl (.inl rfl) yXs yXk) (zXc (zQb 2 rfl (.inl rfl) yZh yZg) (zJr)))) rfl))
theorem vJo (T : Top w K mg) (sm : SM base) {k : Nat} (hk : 6 ≤ k) : xQx P w K mg base k "Table" (wXb K "full") ["fresh", "roots"] (pD 1 2 3 [0, 1, 2] [] zUu) := yQy T.m_Table_full (fun F => vQc (ps := ["cls", "fresh", "roots"]) (yY9 T sm) hk 1 [] [0, 1, 2] [] (by simp) (by simp) (fun _ => .nil) rfl (fun _ _ _ _ _ _ us mv ws h1 h2 h3 => match us, mv, ws, h1, h2, h3 with | [_], [], [_, _], _, _, _ => rfl) F)
theorem wXn : FnScope ["_law_script", "_law_pen_here", "_law_turn"] ["_law_script"] (defScope (zQ3 56)) := ⟨rfl, rfl, rfl, by decide +kernel, rfl, by decide +kernel, by decide +kernel⟩
theorem xGv (T : Top w K mg) (sm : SM base) {f : Addr} {fd : FuncData} (F : Fun K "law" "law" (zQ3 56) f fd) : FnG P w K mg base 10 f fd ["_law_script"] (spG K 1 (zZp 3 xV0)) :=
  zVs F wXn sm rfl rfl fun cdv A outer s H E B C po hr => zQg (xYk 1 C rfl (.inl rfl) (zQw C ⟨xJh T sm (by decide)⟩ rfl hr rfl (zQa (zQb 0 rfl (.inl rfl) yZy yZv) (zQe)))) (zQg (yQe (is := [2]) C po (xVj rfl T.b_range (zQy (zQf) (zQ6))) (zQq 2 C rfl (.inl rfl) (by decide)) (zQ4) (zQi (zZs (zZ6 (zZ5 (zQw C ⟨yHd T sm (by decide)⟩ rfl hr rfl (zQa (zQb 1 rfl (.inl rfl) zQv zQu) (zQe))))) (zQi (zQx (zX6))) (zQ2)))) (zQi (zQx (zZx C (zQw C ⟨zU4 T sm (by decide)⟩ rfl hr rfl (zQa (yGh (zHa rfl T.g_Table) (xWf C (vJo T sm (k := 6) (by decide)) (hr.mono (by decide)) yHq) (yV2 (zXc (zQp) (zXc (zQp) (zJr)))) rfl rfl) (zQe))) (zXe)))))
theorem vJe (T : Top w K mg) (sm : SM base) {k : Nat} (hk : 10 ≤ k) : yJe P w K mg base k "law" ["_law_script"] yHg := zJ6 T.f_law hk (xGv T sm)
end
theorem all_mk {w : World} {K : PySem.W.Frag} {h : Heap} {mg : Str → Option Value} {fa : Addr} (X : K.In h) (G : h.Ns mainGlobals mg) (hfa : mg "law" = some (.ref fa))
    (xQ0 : PySem.W.nsIn K mainGlobals "list" = some none)
    (zGe : PySem.W.nsIn K mainGlobals "isinstance" = some none)
    (xW1 : PySem.W.nsIn K mainGlobals "str" = some none)
    (yYh : PySem.W.nsIn K mainGlobals "tuple" = some none)
    (xW4 : PySem.W.nsIn K mainGlobals "len" = some none)
    (zG9 : PySem.W.nsIn K mainGlobals "enumerate" = some none)
    (xW6 : PySem.W.nsIn K mainGlobals "abs" = some none)
    (xW5 : PySem.W.nsIn K mainGlobals "int" = some none)
    (yVi : PySem.W.nsIn K mainGlobals "sorted" = some none)
    (xW2 : PySem.W.nsIn K mainGlobals "set" = some none)
    (yYi : PySem.W.nsIn K mainGlobals "range" = some none)
    (xQ1 : PySem.W.nsIn K mainGlobals "bool" = some none)
    (xQz : PySem.W.nsIn K mainGlobals "repr" = some none)
    (xW3 : PySem.W.nsIn K mainGlobals "min" = some none)
    {v_COLORS : Value} (yVj : PySem.W.nsIn K mainGlobals "COLORS" = some (some v_COLORS)) (yVn : rdK K 9 v_COLORS = some yJd)
    {v_KINDS : Value} (yYk : PySem.W.nsIn K mainGlobals "KINDS" = some (some v_KINDS)) (yY0 : rdK K 9 v_KINDS = some yK6)
    {v_ENTRIES : Value} (yXa : PySem.W.nsIn K mainGlobals "ENTRIES" = some (some v_ENTRIES)) (yXg : rdK K 9 v_ENTRIES = some zYd)
    {t_WHOLE : Nat} (yYj : PySem.W.nsIn K mainGlobals "WHOLE" = some (some (.str "whole" t_WHOLE)))
    {Ck_Mismatch : Addr} (zYj : PySem.W.nsIn K mainGlobals "Mismatch" = some (some (.ref Ck_Mismatch)))
    {Ck_InvalidEntry : Addr} (zVf : PySem.W.nsIn K mainGlobals "InvalidEntry" = some (some (.ref Ck_InvalidEntry)))
    {Ck_InvalidFresh : Addr} (zVe : PySem.W.nsIn K mainGlobals "InvalidFresh" = some (some (.ref Ck_InvalidFresh)))
    {Ck_InvalidRoots : Addr} (zVd : PySem.W.nsIn K mainGlobals "InvalidRoots" = some (some (.ref Ck_InvalidRoots)))
    (zHk : wUd K Ck_Mismatch = true)
    (zHl : wZ4 K Ck_Mismatch [] = true)
    {odx_InvalidEntry anx_InvalidEntry : Option Addr} {slx_InvalidEntry : Array (Option Value)} {fx_InvalidEntry : Addr} {ocx_InvalidEntry kVx_InvalidEntry dcx_InvalidEntry pmx_InvalidEntry cdx_InvalidEntry ctx_InvalidEntry : Value}
    (zWh : wZ0 K Ck_InvalidEntry = true) (zW8 : PySem.W.findIn K (.ref Ck_InvalidEntry) "__init__" = some (some (.ref fx_InvalidEntry))) (zWn : xKt K Ck_InvalidEntry fx_InvalidEntry ["index"] = true)
    (zWz : K.lookup fx_InvalidEntry = some ⟨ocx_InvalidEntry, odx_InvalidEntry, .func (PySem.W.fnOf "__init__" "InvalidEntry.__init__" (defArgs (zK6 (zQ3 8) 0)) (defBody (zK6 (zQ3 8) 0)) (defScope (zK6 (zQ3 8) 0)) .none kVx_InvalidEntry dcx_InvalidEntry pmx_InvalidEntry anx_InvalidEntry cdx_InvalidEntry ctx_InvalidEntry), slx_InvalidEntry⟩) (zWd : PySem.W.codeIn K cdx_InvalidEntry "InvalidEntry.__init__" = true) (zW2 : PySem.W.keepIn K (.ref fx_InvalidEntry) = true)
    (zWk : wZ4 K Ck_InvalidEntry ["index"] = true)
    {odx_InvalidFresh anx_InvalidFresh : Option Addr} {slx_InvalidFresh : Array (Option Value)} {fx_InvalidFresh : Addr} {ocx_InvalidFresh kVx_InvalidFresh dcx_InvalidFresh pmx_InvalidFresh cdx_InvalidFresh ctx_InvalidFresh : Value}
    (zWg : wZ0 K Ck_InvalidFresh = true) (zW7 : PySem.W.findIn K (.ref Ck_InvalidFresh) "__init__" = some (some (.ref fx_InvalidFresh))) (zWm : xKt K Ck_InvalidFresh fx_InvalidFresh ["value"] = true)
    (zWy : K.lookup fx_InvalidFresh = some ⟨ocx_InvalidFresh, odx_InvalidFresh, .func (PySem.W.fnOf "__init__" "InvalidFresh.__init__" (defArgs (zK6 (zQ3 9) 0)) (defBody (zK6 (zQ3 9) 0)) (defScope (zK6 (zQ3 9) 0)) .none kVx_InvalidFresh dcx_InvalidFresh pmx_InvalidFresh anx_InvalidFresh cdx_InvalidFresh ctx_InvalidFresh), slx_InvalidFresh⟩) (zWc : PySem.W.codeIn K cdx_InvalidFresh "InvalidFresh.__init__" = true) (zW1 : PySem.W.keepIn K (.ref fx_InvalidFresh) = true)
    (zWj : wZ4 K Ck_InvalidFresh ["value"] = true)
    {odx_InvalidRoots anx_InvalidRoots : Option Addr} {slx_InvalidRoots : Array (Option Value)} {fx_InvalidRoots : Addr} {ocx_InvalidRoots kVx_InvalidRoots dcx_InvalidRoots pmx_InvalidRoots cdx_InvalidRoots ctx_InvalidRoots : Value}
    (zWf : wZ0 K Ck_InvalidRoots = true) (zW6 : PySem.W.findIn K (.ref Ck_InvalidRoots) "__init__" = some (some (.ref fx_InvalidRoots))) (zWl : xKt K Ck_InvalidRoots fx_InvalidRoots ["value"] = true)
    (zWx : K.lookup fx_InvalidRoots = some ⟨ocx_InvalidRoots, odx_InvalidRoots, .func (PySem.W.fnOf "__init__" "InvalidRoots.__init__" (defArgs (zK6 (zQ3 10) 0)) (defBody (zK6 (zQ3 10) 0)) (defScope (zK6 (zQ3 10) 0)) .none kVx_InvalidRoots dcx_InvalidRoots pmx_InvalidRoots anx_InvalidRoots cdx_InvalidRoots ctx_InvalidRoots), slx_InvalidRoots⟩) (zWb : PySem.W.codeIn K cdx_InvalidRoots "InvalidRoots.__init__" = true) (zW0 : PySem.W.keepIn K (.ref fx_InvalidRoots) = true)
    (zWi : wZ4 K Ck_InvalidRoots ["value"] = true)
    {Ck_Table : Addr} (zJj : PySem.W.nsIn K mainGlobals "Table" = some (some (.ref Ck_Table))) (zJg : PySem.W.plainGet K Ck_Table Str.empty = true) (zJf : PySem.W.hasDictIn K Ck_Table = true) (zJe : PySem.W.plainOver K Ck_Table = true) (zJd : PySem.W.findIn K (.ref Ck_Table) "__setattr__" = some (some (.builtin "object.__setattr__")))
    (zUv : PySem.W.findIn K (.ref Ck_Table) "kept" = some none)
    (zVv : PySem.W.findIn K (.ref Ck_Table) "kept_fresh" = some none)
    (zVu : PySem.W.findIn K (.ref Ck_Table) "kept_roots" = some none)
    {uc_Table_ROOTS : Value} (zYy : PySem.W.findIn K (.ref Ck_Table) "ROOTS" = some (some uc_Table_ROOTS)) (zYo : rdK K 9 uc_Table_ROOTS = some (.tuple [.str "once", .str "again"])) (zY3 : PySem.W.specialIn K uc_Table_ROOTS "__get__" = some none)
    {od_Table___contains__ an_Table___contains__ : Option Addr} {sl_Table___contains__ : Array (Option Value)} {f_Table___contains__ : Addr} {oc_Table___contains__ kV_Table___contains__ dc_Table___contains__ pm_Table___contains__ cd_Table___contains__ ct_Table___contains__ : Value}
    (zJv : K.lookup f_Table___contains__ = some ⟨oc_Table___contains__, od_Table___contains__, .func (PySem.W.fnOf "__contains__" "Table.__contains__" (defArgs (zK6 (zQ3 32) 18)) (defBody (zK6 (zQ3 32) 18)) (defScope (zK6 (zQ3 32) 18)) .none kV_Table___contains__ dc_Table___contains__ pm_Table___contains__ an_Table___contains__ cd_Table___contains__ ct_Table___contains__), sl_Table___contains__⟩) (zJm : PySem.W.codeIn K cd_Table___contains__ "Table.__contains__" = true) (zJx : PySem.W.keepIn K (.ref f_Table___contains__) = true)
    (zJo : PySem.W.isFn K (.ref f_Table___contains__) = true)
    (zJ0 : PySem.W.findIn K (.ref Ck_Table) "__contains__" = some (some (.ref f_Table___contains__)))
    {od_Table_is_beside an_Table_is_beside : Option Addr} {sl_Table_is_beside : Array (Option Value)} {f_Table_is_beside : Addr} {oc_Table_is_beside kV_Table_is_beside dc_Table_is_beside pm_Table_is_beside cd_Table_is_beside ct_Table_is_beside : Value}
    (zV0 : K.lookup f_Table_is_beside = some ⟨oc_Table_is_beside, od_Table_is_beside, .func (PySem.W.fnOf "is_beside" "Table.is_beside" (defArgs (zK6 (zQ3 32) 11)) (defBody (zK6 (zQ3 32) 11)) (defScope (zK6 (zQ3 32) 11)) .none kV_Table_is_beside dc_Table_is_beside pm_Table_is_beside an_Table_is_beside cd_Table_is_beside ct_Table_is_beside), sl_Table_is_beside⟩) (zVq : PySem.W.codeIn K cd_Table_is_beside "Table.is_beside" = true) (zJw : PySem.W.keepIn K (.ref f_Table_is_beside) = true)
    (zVr : PySem.W.isFn K (.ref f_Table_is_beside) = true)
    (zV2 : PySem.W.findIn K (.ref Ck_Table) "is_beside" = some (some (.ref f_Table_is_beside)))
    {od_Table___init__ an_Table___init__ : Option Addr} {sl_Table___init__ : Array (Option Value)} {f_Table___init__ : Addr} {oc_Table___init__ dc_Table___init__ pm_Table___init__ cd_Table___init__ ct_Table___init__ : Value} {D_Table___init__ : Addr}
    (zKe : K.lookup f_Table___init__ = some ⟨oc_Table___init__, od_Table___init__, .func (PySem.W.fnOf "__init__" "Table.__init__" (defArgs (zK6 (zQ3 32) 2)) (defBody (zK6 (zQ3 32) 2)) (defScope (zK6 (zQ3 32) 2)) .none (.ref D_Table___init__) dc_Table___init__ pm_Table___init__ an_Table___init__ cd_Table___init__ ct_Table___init__), sl_Table___init__⟩) (zV1 : PySem.W.codeIn K cd_Table___init__ "Table.__init__" = true) (zKf : PySem.W.keepIn K (.ref f_Table___init__) = true)
    (zV5 : PySem.W.isFn K (.ref f_Table___init__) = true)
    {mt_Table___init___fresh : Nat} (zX9 : PySem.W.nsIn K D_Table___init__ "fresh" = some (some (.str "black" mt_Table___init___fresh)))
    {mt_Table___init___roots : Nat} (zX8 : PySem.W.nsIn K D_Table___init__ "roots" = some (some (.str "once" mt_Table___init___roots)))
    (zKg : PySem.W.findIn K (.ref Ck_Table) "__init__" = some (some (.ref f_Table___init__)))
    (zV3 : PySem.W.makesIn K Ck_Table = true) (zV4 : PySem.W.keepIn K (.ref Ck_Table) = true)
    {od_Table_need_beside an_Table_need_beside : Option Addr} {sl_Table_need_beside : Array (Option Value)} {f_Table_need_beside : Addr} {oc_Table_need_beside kV_Table_need_beside dc_Table_need_beside pm_Table_need_beside cd_Table_need_beside ct_Table_need_beside : Value}
    (zJ9 : K.lookup f_Table_need_beside = some ⟨oc_Table_need_beside, od_Table_need_beside, .func (PySem.W.fnOf "need_beside" "Table.need_beside" (defArgs (zK6 (zQ3 32) 13)) (defBody (zK6 (zQ3 32) 13)) (defScope (zK6 (zQ3 32) 13)) .none kV_Table_need_beside dc_Table_need_beside pm_Table_need_beside an_Table_need_beside cd_Table_need_beside ct_Table_need_beside), sl_Table_need_beside⟩) (zJy : PySem.W.codeIn K cd_Table_need_beside "Table.need_beside" = true) (zX4 : PySem.W.keepIn K (.ref f_Table_need_beside) = true)
    (zJ1 : PySem.W.isFn K (.ref f_Table_need_beside) = true)
    (zVc : PySem.W.findIn K (.ref Ck_Table) "need_beside" = some (some (.ref f_Table_need_beside)))
    {od_Table_with_entries an_Table_with_entries : Option Addr} {sl_Table_with_entries : Array (Option Value)} {f_Table_with_entries : Addr} {oc_Table_with_entries kV_Table_with_entries dc_Table_with_entries pm_Table_with_entries cd_Table_with_entries ct_Table_with_entries : Value}
    (zJu : K.lookup f_Table_with_entries = some ⟨oc_Table_with_entries, od_Table_with_entries, .func (PySem.W.fnOf "with_entries" "Table.with_entries" (defArgs (zK6 (zQ3 32) 9)) (defBody (zK6 (zQ3 32) 9)) (defScope (zK6 (zQ3 32) 9)) .none kV_Table_with_entries dc_Table_with_entries pm_Table_with_entries an_Table_with_entries cd_Table_with_entries ct_Table_with_entries), sl_Table_with_entries⟩) (zJl : PySem.W.codeIn K cd_Table_with_entries "Table.with_entries" = true) (zXw : PySem.W.keepIn K (.ref f_Table_with_entries) = true)
    (zJn : PySem.W.isFn K (.ref f_Table_with_entries) = true)
    (zJz : PySem.W.findIn K (.ref Ck_Table) "with_entries" = some (some (.ref f_Table_with_entries)))
    {od_Table_empty an_Table_empty : Option Addr} {sl_Table_empty : Array (Option Value)} {f_Table_empty : Addr} {oc_Table_empty dc_Table_empty pm_Table_empty cd_Table_empty ct_Table_empty : Value} {D_Table_empty : Addr}
    (zYu : K.lookup f_Table_empty = some ⟨oc_Table_empty, od_Table_empty, .func (PySem.W.fnOf "empty" "Table.empty" (defArgs (zK6 (zQ3 32) 3)) (defBody (zK6 (zQ3 32) 3)) (defScope (zK6 (zQ3 32) 3)) .none (.ref D_Table_empty) dc_Table_empty pm_Table_empty an_Table_empty cd_Table_empty ct_Table_empty), sl_Table_empty⟩) (zWv : PySem.W.codeIn K cd_Table_empty "Table.empty" = true) (zYv : PySem.W.keepIn K (.ref f_Table_empty) = true)
    {p_Table_empty : Addr} {rs_Table_empty : List Value} (zYt : PySem.W.recIn K p_Table_empty "classmethod" = some (.ref f_Table_empty :: rs_Table_empty)) (zW5 : PySem.W.fnIn K f_Table_empty = true)
    {mt_Table_empty_fresh : Nat} (zVb : PySem.W.nsIn K D_Table_empty "fresh" = some (some (.str "black" mt_Table_empty_fresh)))
    {mt_Table_empty_roots : Nat} (zVa : PySem.W.nsIn K D_Table_empty "roots" = some (some (.str "once" mt_Table_empty_roots)))
    {mc_Table_empty : Value} (zGv : PySem.W.typeIn K (.ref Ck_Table) = some mc_Table_empty) (zW4 : PySem.W.readsIn K Ck_Table mc_Table_empty = true) (zW3 : PySem.W.specialIn K (.ref Ck_Table) "__getattribute__" = some (some (.builtin "type.__getattribute__"))) (zYx : PySem.W.findCls K (.ref Ck_Table) mc_Table_empty "empty" = some (.get (.builtin "classmethod.__get__") (.ref p_Table_empty) .none (.ref Ck_Table)))
    {od_Table___or__ an_Table___or__ : Option Addr} {sl_Table___or__ : Array (Option Value)} {f_Table___or__ : Addr} {oc_Table___or__ kV_Table___or__ dc_Table___or__ pm_Table___or__ cd_Table___or__ ct_Table___or__ : Value}
    (zWt : K.lookup f_Table___or__ = some ⟨oc_Table___or__, od_Table___or__, .func (PySem.W.fnOf "__or__" "Table.__or__" (defArgs (zK6 (zQ3 32) 14)) (defBody (zK6 (zQ3 32) 14)) (defScope (zK6 (zQ3 32) 14)) .none kV_Table___or__ dc_Table___or__ pm_Table___or__ an_Table___or__ cd_Table___or__ ct_Table___or__), sl_Table___or__⟩) (zKv : PySem.W.codeIn K cd_Table___or__ "Table.__or__" = true) (zWu : PySem.W.keepIn K (.ref f_Table___or__) = true)
    (zKx : PySem.W.isFn K (.ref f_Table___or__) = true)
    (zWw : PySem.W.findIn K (.ref Ck_Table) "__or__" = some (some (.ref f_Table___or__)))
    (zKw : PySem.W.selfFirst K Ck_Table = true)
    {od_Table_full an_Table_full : Option Addr} {sl_Table_full : Array (Option Value)} {f_Table_full : Addr} {oc_Table_full dc_Table_full pm_Table_full cd_Table_full ct_Table_full : Value} {D_Table_full : Addr}
    (zUm : K.lookup f_Table_full = some ⟨oc_Table_full, od_Table_full, .func (PySem.W.fnOf "full" "Table.full" (defArgs (zK6 (zQ3 32) 4)) (defBody (zK6 (zQ3 32) 4)) (defScope (zK6 (zQ3 32) 4)) .none (.ref D_Table_full) dc_Table_full pm_Table_full an_Table_full cd_Table_full ct_Table_full), sl_Table_full⟩) (zYw : PySem.W.codeIn K cd_Table_full "Table.full" = true) (zUn : PySem.W.keepIn K (.ref f_Table_full) = true)
    {p_Table_full : Addr} {rs_Table_full : List Value} (zUl : PySem.W.recIn K p_Table_full "classmethod" = some (.ref f_Table_full :: rs_Table_full)) (zY1 : PySem.W.fnIn K f_Table_full = true)
    {mt_Table_full_fresh : Nat} (zVp : PySem.W.nsIn K D_Table_full "fresh" = some (some (.str "black" mt_Table_full_fresh)))
    {mt_Table_full_roots : Nat} (zVo : PySem.W.nsIn K D_Table_full "roots" = some (some (.str "once" mt_Table_full_roots)))
    {mc_Table_full : Value} (zHr : PySem.W.typeIn K (.ref Ck_Table) = some mc_Table_full) (zY0 : PySem.W.readsIn K Ck_Table mc_Table_full = true) (zYz : PySem.W.specialIn K (.ref Ck_Table) "__getattribute__" = some (some (.builtin "type.__getattribute__"))) (zUo : PySem.W.findCls K (.ref Ck_Table) mc_Table_full "full" = some (.get (.builtin "classmethod.__get__") (.ref p_Table_full) .none (.ref Ck_Table)))
    {od0 an0 : Option Addr} {sl0 : Array (Option Value)} {f0 : Addr} {oc0 kV0 dc0 pm0 cd0 ct0 : Value}
    (a0 : PySem.W.nsIn K mainGlobals "_law_pen" = some (some (.ref f0))) (l0 : K.lookup f0 = some ⟨oc0, od0, .func (PySem.W.fnOf "_law_pen" "_law_pen" (defArgs (zQ3 34)) (defBody (zQ3 34)) (defScope (zQ3 34)) .none kV0 dc0 pm0 an0 cd0 ct0), sl0⟩) (c0 : PySem.W.codeIn K cd0 "_law_pen" = true) (k0 : PySem.W.keepIn K (.ref f0) = true)
    {od1 an1 : Option Addr} {sl1 : Array (Option Value)} {f1 : Addr} {oc1 kV1 dc1 pm1 cd1 ct1 : Value}
    (a1 : PySem.W.nsIn K mainGlobals "is_color" = some (some (.ref f1))) (l1 : K.lookup f1 = some ⟨oc1, od1, .func (PySem.W.fnOf "is_color" "is_color" (defArgs (zQ3 17)) (defBody (zQ3 17)) (defScope (zQ3 17)) .none kV1 dc1 pm1 an1 cd1 ct1), sl1⟩) (c1 : PySem.W.codeIn K cd1 "is_color" = true) (k1 : PySem.W.keepIn K (.ref f1) = true)
    {od2 an2 : Option Addr} {sl2 : Array (Option Value)} {f2 : Addr} {oc2 kV2 dc2 pm2 cd2 ct2 : Value}
    (a2 : PySem.W.nsIn K mainGlobals "is_entry" = some (some (.ref f2))) (l2 : K.lookup f2 = some ⟨oc2, od2, .func (PySem.W.fnOf "is_entry" "is_entry" (defArgs (zQ3 18)) (defBody (zQ3 18)) (defScope (zQ3 18)) .none kV2 dc2 pm2 an2 cd2 ct2), sl2⟩) (c2 : PySem.W.codeIn K cd2 "is_entry" = true) (k2 : PySem.W.keepIn K (.ref f2) = true)
    {od3 an3 : Option Addr} {sl3 : Array (Option Value)} {f3 : Addr} {oc3 kV3 dc3 pm3 cd3 ct3 : Value}
    (a3 : PySem.W.nsIn K mainGlobals "least_freeing" = some (some (.ref f3))) (l3 : K.lookup f3 = some ⟨oc3, od3, .func (PySem.W.fnOf "least_freeing" "least_freeing" (defArgs (zQ3 3)) (defBody (zQ3 3)) (defScope (zQ3 3)) .none kV3 dc3 pm3 an3 cd3 ct3), sl3⟩) (c3 : PySem.W.codeIn K cd3 "least_freeing" = true) (k3 : PySem.W.keepIn K (.ref f3) = true)
    {od4 an4 : Option Addr} {sl4 : Array (Option Value)} {f4 : Addr} {oc4 kV4 dc4 pm4 cd4 ct4 : Value}
    (a4 : PySem.W.nsIn K mainGlobals "_law_entries" = some (some (.ref f4))) (l4 : K.lookup f4 = some ⟨oc4, od4, .func (PySem.W.fnOf "_law_entries" "_law_entries" (defArgs (zQ3 36)) (defBody (zQ3 36)) (defScope (zQ3 36)) .none kV4 dc4 pm4 an4 cd4 ct4), sl4⟩) (c4 : PySem.W.codeIn K cd4 "_law_entries" = true) (k4 : PySem.W.keepIn K (.ref f4) = true)
    {od5 an5 : Option Addr} {sl5 : Array (Option Value)} {f5 : Addr} {oc5 kV5 dc5 pm5 cd5 ct5 : Value}
    (a5 : PySem.W.nsIn K mainGlobals "listed" = some (some (.ref f5))) (l5 : K.lookup f5 = some ⟨oc5, od5, .func (PySem.W.fnOf "listed" "listed" (defArgs (zQ3 19)) (defBody (zQ3 19)) (defScope (zQ3 19)) .none kV5 dc5 pm5 an5 cd5 ct5), sl5⟩) (c5 : PySem.W.codeIn K cd5 "listed" = true) (k5 : PySem.W.keepIn K (.ref f5) = true)
    {od6 an6 : Option Addr} {sl6 : Array (Option Value)} {f6 : Addr} {oc6 kV6 dc6 pm6 cd6 ct6 : Value}
    (a6 : PySem.W.nsIn K mainGlobals "sorted_entries" = some (some (.ref f6))) (l6 : K.lookup f6 = some ⟨oc6, od6, .func (PySem.W.fnOf "sorted_entries" "sorted_entries" (defArgs (zQ3 20)) (defBody (zQ3 20)) (defScope (zQ3 20)) .none kV6 dc6 pm6 an6 cd6 ct6), sl6⟩) (c6 : PySem.W.codeIn K cd6 "sorted_entries" = true) (k6 : PySem.W.keepIn K (.ref f6) = true)
    {od7 an7 : Option Addr} {sl7 : Array (Option Value)} {f7 : Addr} {oc7 kV7 dc7 pm7 cd7 ct7 : Value}
    (a7 : PySem.W.nsIn K mainGlobals "_law_draw" = some (some (.ref f7))) (l7 : K.lookup f7 = some ⟨oc7, od7, .func (PySem.W.fnOf "_law_draw" "_law_draw" (defArgs (zQ3 35)) (defBody (zQ3 35)) (defScope (zQ3 35)) .none kV7 dc7 pm7 an7 cd7 ct7), sl7⟩) (c7 : PySem.W.codeIn K cd7 "_law_draw" = true) (k7 : PySem.W.keepIn K (.ref f7) = true)
    {od8 an8 : Option Addr} {sl8 : Array (Option Value)} {f8 : Addr} {oc8 kV8 dc8 pm8 cd8 ct8 : Value}
    (a8 : PySem.W.nsIn K mainGlobals "_law_rule" = some (some (.ref f8))) (l8 : K.lookup f8 = some ⟨oc8, od8, .func (PySem.W.fnOf "_law_rule" "_law_rule" (defArgs (zQ3 37)) (defBody (zQ3 37)) (defScope (zQ3 37)) .none kV8 dc8 pm8 an8 cd8 ct8), sl8⟩) (c8 : PySem.W.codeIn K cd8 "_law_rule" = true) (k8 : PySem.W.keepIn K (.ref f8) = true)
    {od9 an9 : Option Addr} {sl9 : Array (Option Value)} {f9 : Addr} {oc9 kV9 dc9 pm9 cd9 ct9 : Value}
    (a9 : PySem.W.nsIn K mainGlobals "_law_sheet" = some (some (.ref f9))) (l9 : K.lookup f9 = some ⟨oc9, od9, .func (PySem.W.fnOf "_law_sheet" "_law_sheet" (defArgs (zQ3 38)) (defBody (zQ3 38)) (defScope (zQ3 38)) .none kV9 dc9 pm9 an9 cd9 ct9), sl9⟩) (c9 : PySem.W.codeIn K cd9 "_law_sheet" = true) (k9 : PySem.W.keepIn K (.ref f9) = true)
    {od10 an10 : Option Addr} {sl10 : Array (Option Value)} {f10 : Addr} {oc10 kV10 dc10 pm10 cd10 ct10 : Value}
    (a10 : PySem.W.nsIn K mainGlobals "_law_least" = some (some (.ref f10))) (l10 : K.lookup f10 = some ⟨oc10, od10, .func (PySem.W.fnOf "_law_least" "_law_least" (defArgs (zQ3 53)) (defBody (zQ3 53)) (defScope (zQ3 53)) .none kV10 dc10 pm10 an10 cd10 ct10), sl10⟩) (c10 : PySem.W.codeIn K cd10 "_law_least" = true) (k10 : PySem.W.keepIn K (.ref f10) = true)
    {od11 an11 : Option Addr} {sl11 : Array (Option Value)} {f11 : Addr} {oc11 kV11 dc11 pm11 cd11 ct11 : Value}
    (a11 : PySem.W.nsIn K mainGlobals "scan_of" = some (some (.ref f11))) (l11 : K.lookup f11 = some ⟨oc11, od11, .func (PySem.W.fnOf "scan_of" "scan_of" (defArgs (zQ3 4)) (defBody (zQ3 4)) (defScope (zQ3 4)) .none kV11 dc11 pm11 an11 cd11 ct11), sl11⟩) (c11 : PySem.W.codeIn K cd11 "scan_of" = true) (k11 : PySem.W.keepIn K (.ref f11) = true)
    {od12 an12 : Option Addr} {sl12 : Array (Option Value)} {f12 : Addr} {oc12 dc12 pm12 cd12 ct12 : Value} {D12 : Addr}
    (a12 : PySem.W.nsIn K mainGlobals "freeing_run" = some (some (.ref f12))) (l12 : K.lookup f12 = some ⟨oc12, od12, .func (PySem.W.fnOf "freeing_run" "freeing_run" (defArgs (zQ3 5)) (defBody (zQ3 5)) (defScope (zQ3 5)) .none (.ref D12) dc12 pm12 an12 cd12 ct12), sl12⟩) (c12 : PySem.W.codeIn K cd12 "freeing_run" = true) (k12 : PySem.W.keepIn K (.ref f12) = true)
    {t12_registers : Nat} (zUw : PySem.W.nsIn K D12 "registers" = some (some (.int 2 t12_registers)))
    {t12_scanning : Nat} (zGo : PySem.W.nsIn K D12 "scanning" = some (some (.str "whole" t12_scanning)))
    {od13 an13 : Option Addr} {sl13 : Array (Option Value)} {f13 : Addr} {oc13 kV13 dc13 pm13 cd13 ct13 : Value}
    (a13 : PySem.W.nsIn K mainGlobals "_law_shaded" = some (some (.ref f13))) (l13 : K.lookup f13 = some ⟨oc13, od13, .func (PySem.W.fnOf "_law_shaded" "_law_shaded" (defArgs (zQ3 40)) (defBody (zQ3 40)) (defScope (zQ3 40)) .none kV13 dc13 pm13 an13 cd13 ct13), sl13⟩) (c13 : PySem.W.codeIn K cd13 "_law_shaded" = true) (k13 : PySem.W.keepIn K (.ref f13) = true)
    {od14 an14 : Option Addr} {sl14 : Array (Option Value)} {f14 : Addr} {oc14 kV14 dc14 pm14 cd14 ct14 : Value}
    (a14 : PySem.W.nsIn K mainGlobals "_law_put" = some (some (.ref f14))) (l14 : K.lookup f14 = some ⟨oc14, od14, .func (PySem.W.fnOf "_law_put" "_law_put" (defArgs (zQ3 41)) (defBody (zQ3 41)) (defScope (zQ3 41)) .none kV14 dc14 pm14 an14 cd14 ct14), sl14⟩) (c14 : PySem.W.codeIn K cd14 "_law_put" = true) (k14 : PySem.W.keepIn K (.ref f14) = true)
    {od15 an15 : Option Addr} {sl15 : Array (Option Value)} {f15 : Addr} {oc15 kV15 dc15 pm15 cd15 ct15 : Value}
    (a15 : PySem.W.nsIn K mainGlobals "_law_loaded" = some (some (.ref f15))) (l15 : K.lookup f15 = some ⟨oc15, od15, .func (PySem.W.fnOf "_law_loaded" "_law_loaded" (defArgs (zQ3 42)) (defBody (zQ3 42)) (defScope (zQ3 42)) .none kV15 dc15 pm15 an15 cd15 ct15), sl15⟩) (c15 : PySem.W.codeIn K cd15 "_law_loaded" = true) (k15 : PySem.W.keepIn K (.ref f15) = true)
    {od16 an16 : Option Addr} {sl16 : Array (Option Value)} {f16 : Addr} {oc16 kV16 dc16 pm16 cd16 ct16 : Value}
    (a16 : PySem.W.nsIn K mainGlobals "_law_stored" = some (some (.ref f16))) (l16 : K.lookup f16 = some ⟨oc16, od16, .func (PySem.W.fnOf "_law_stored" "_law_stored" (defArgs (zQ3 43)) (defBody (zQ3 43)) (defScope (zQ3 43)) .none kV16 dc16 pm16 an16 cd16 ct16), sl16⟩) (c16 : PySem.W.codeIn K cd16 "_law_stored" = true) (k16 : PySem.W.keepIn K (.ref f16) = true)
    {od17 an17 : Option Addr} {sl17 : Array (Option Value)} {f17 : Addr} {oc17 kV17 dc17 pm17 cd17 ct17 : Value}
    (a17 : PySem.W.nsIn K mainGlobals "_law_scanned" = some (some (.ref f17))) (l17 : K.lookup f17 = some ⟨oc17, od17, .func (PySem.W.fnOf "_law_scanned" "_law_scanned" (defArgs (zQ3 44)) (defBody (zQ3 44)) (defScope (zQ3 44)) .none kV17 dc17 pm17 an17 cd17 ct17), sl17⟩) (c17 : PySem.W.codeIn K cd17 "_law_scanned" = true) (k17 : PySem.W.keepIn K (.ref f17) = true)
    {od18 an18 : Option Addr} {sl18 : Array (Option Value)} {f18 : Addr} {oc18 kV18 dc18 pm18 cd18 ct18 : Value}
    (a18 : PySem.W.nsIn K mainGlobals "_law_made" = some (some (.ref f18))) (l18 : K.lookup f18 = some ⟨oc18, od18, .func (PySem.W.fnOf "_law_made" "_law_made" (defArgs (zQ3 45)) (defBody (zQ3 45)) (defScope (zQ3 45)) .none kV18 dc18 pm18 an18 cd18 ct18), sl18⟩) (c18 : PySem.W.codeIn K cd18 "_law_made" = true) (k18 : PySem.W.keepIn K (.ref f18) = true)
    {od19 an19 : Option Addr} {sl19 : Array (Option Value)} {f19 : Addr} {oc19 kV19 dc19 pm19 cd19 ct19 : Value}
    (a19 : PySem.W.nsIn K mainGlobals "_law_are_there" = some (some (.ref f19))) (l19 : K.lookup f19 = some ⟨oc19, od19, .func (PySem.W.fnOf "_law_are_there" "_law_are_there" (defArgs (zQ3 46)) (defBody (zQ3 46)) (defScope (zQ3 46)) .none kV19 dc19 pm19 an19 cd19 ct19), sl19⟩) (c19 : PySem.W.codeIn K cd19 "_law_are_there" = true) (k19 : PySem.W.keepIn K (.ref f19) = true)
    {od20 an20 : Option Addr} {sl20 : Array (Option Value)} {f20 : Addr} {oc20 kV20 dc20 pm20 cd20 ct20 : Value}
    (a20 : PySem.W.nsIn K mainGlobals "_law_can" = some (some (.ref f20))) (l20 : K.lookup f20 = some ⟨oc20, od20, .func (PySem.W.fnOf "_law_can" "_law_can" (defArgs (zQ3 47)) (defBody (zQ3 47)) (defScope (zQ3 47)) .none kV20 dc20 pm20 an20 cd20 ct20), sl20⟩) (c20 : PySem.W.codeIn K cd20 "_law_can" = true) (k20 : PySem.W.keepIn K (.ref f20) = true)
    {od21 an21 : Option Addr} {sl21 : Array (Option Value)} {f21 : Addr} {oc21 kV21 dc21 pm21 cd21 ct21 : Value}
    (a21 : PySem.W.nsIn K mainGlobals "_law_played" = some (some (.ref f21))) (l21 : K.lookup f21 = some ⟨oc21, od21, .func (PySem.W.fnOf "_law_played" "_law_played" (defArgs (zQ3 48)) (defBody (zQ3 48)) (defScope (zQ3 48)) .none kV21 dc21 pm21 an21 cd21 ct21), sl21⟩) (c21 : PySem.W.codeIn K cd21 "_law_played" = true) (k21 : PySem.W.keepIn K (.ref f21) = true)
    {od22 an22 : Option Addr} {sl22 : Array (Option Value)} {f22 : Addr} {oc22 kV22 dc22 pm22 cd22 ct22 : Value}
    (a22 : PySem.W.nsIn K mainGlobals "_law_is_index" = some (some (.ref f22))) (l22 : K.lookup f22 = some ⟨oc22, od22, .func (PySem.W.fnOf "_law_is_index" "_law_is_index" (defArgs (zQ3 49)) (defBody (zQ3 49)) (defScope (zQ3 49)) .none kV22 dc22 pm22 an22 cd22 ct22), sl22⟩) (c22 : PySem.W.codeIn K cd22 "_law_is_index" = true) (k22 : PySem.W.keepIn K (.ref f22) = true)
    {od23 an23 : Option Addr} {sl23 : Array (Option Value)} {f23 : Addr} {oc23 kV23 dc23 pm23 cd23 ct23 : Value}
    (a23 : PySem.W.nsIn K mainGlobals "_law_is_row" = some (some (.ref f23))) (l23 : K.lookup f23 = some ⟨oc23, od23, .func (PySem.W.fnOf "_law_is_row" "_law_is_row" (defArgs (zQ3 51)) (defBody (zQ3 51)) (defScope (zQ3 51)) .none kV23 dc23 pm23 an23 cd23 ct23), sl23⟩) (c23 : PySem.W.codeIn K cd23 "_law_is_row" = true) (k23 : PySem.W.keepIn K (.ref f23) = true)
    {od24 an24 : Option Addr} {sl24 : Array (Option Value)} {f24 : Addr} {oc24 kV24 dc24 pm24 cd24 ct24 : Value}
    (a24 : PySem.W.nsIn K mainGlobals "_law_is_step" = some (some (.ref f24))) (l24 : K.lookup f24 = some ⟨oc24, od24, .func (PySem.W.fnOf "_law_is_step" "_law_is_step" (defArgs (zQ3 50)) (defBody (zQ3 50)) (defScope (zQ3 50)) .none kV24 dc24 pm24 an24 cd24 ct24), sl24⟩) (c24 : PySem.W.codeIn K cd24 "_law_is_step" = true) (k24 : PySem.W.keepIn K (.ref f24) = true)
    {od25 an25 : Option Addr} {sl25 : Array (Option Value)} {f25 : Addr} {oc25 kV25 dc25 pm25 cd25 ct25 : Value}
    (a25 : PySem.W.nsIn K mainGlobals "_law_is_story" = some (some (.ref f25))) (l25 : K.lookup f25 = some ⟨oc25, od25, .func (PySem.W.fnOf "_law_is_story" "_law_is_story" (defArgs (zQ3 52)) (defBody (zQ3 52)) (defScope (zQ3 52)) .none kV25 dc25 pm25 an25 cd25 ct25), sl25⟩) (c25 : PySem.W.codeIn K cd25 "_law_is_story" = true) (k25 : PySem.W.keepIn K (.ref f25) = true)
    {od26 an26 : Option Addr} {sl26 : Array (Option Value)} {f26 : Addr} {oc26 kV26 dc26 pm26 cd26 ct26 : Value}
    (a26 : PySem.W.nsIn K mainGlobals "_law_reach" = some (some (.ref f26))) (l26 : K.lookup f26 = some ⟨oc26, od26, .func (PySem.W.fnOf "_law_reach" "_law_reach" (defArgs (zQ3 39)) (defBody (zQ3 39)) (defScope (zQ3 39)) .none kV26 dc26 pm26 an26 cd26 ct26), sl26⟩) (c26 : PySem.W.codeIn K cd26 "_law_reach" = true) (k26 : PySem.W.keepIn K (.ref f26) = true)
    {od27 an27 : Option Addr} {sl27 : Array (Option Value)} {f27 : Addr} {oc27 kV27 dc27 pm27 cd27 ct27 : Value}
    (a27 : PySem.W.nsIn K mainGlobals "_law_frees" = some (some (.ref f27))) (l27 : K.lookup f27 = some ⟨oc27, od27, .func (PySem.W.fnOf "_law_frees" "_law_frees" (defArgs (zQ3 54)) (defBody (zQ3 54)) (defScope (zQ3 54)) .none kV27 dc27 pm27 an27 cd27 ct27), sl27⟩) (c27 : PySem.W.codeIn K cd27 "_law_frees" = true) (k27 : PySem.W.keepIn K (.ref f27) = true)
    {od28 an28 : Option Addr} {sl28 : Array (Option Value)} {f28 : Addr} {oc28 kV28 dc28 pm28 cd28 ct28 : Value}
    (a28 : PySem.W.nsIn K mainGlobals "_law_right" = some (some (.ref f28))) (l28 : K.lookup f28 = some ⟨oc28, od28, .func (PySem.W.fnOf "_law_right" "_law_right" (defArgs (zQ3 55)) (defBody (zQ3 55)) (defScope (zQ3 55)) .none kV28 dc28 pm28 an28 cd28 ct28), sl28⟩) (c28 : PySem.W.codeIn K cd28 "_law_right" = true) (k28 : PySem.W.keepIn K (.ref f28) = true)
    {od29 an29 : Option Addr} {sl29 : Array (Option Value)} {f29 : Addr} {oc29 kV29 dc29 pm29 cd29 ct29 : Value}
    (a29 : PySem.W.nsIn K mainGlobals "law" = some (some (.ref f29))) (l29 : K.lookup f29 = some ⟨oc29, od29, .func (PySem.W.fnOf "law" "law" (defArgs (zQ3 56)) (defBody (zQ3 56)) (defScope (zQ3 56)) .none kV29 dc29 pm29 an29 cd29 ct29), sl29⟩) (c29 : PySem.W.codeIn K cd29 "law" = true) (k29 : PySem.W.keepIn K (.ref f29) = true)
    : ∃ fd : FuncData, (∀ (s : Shared) (v : Value), BindsTo s fd ⟨[v], []⟩ [("_law_script", v)]) ∧ ∀ base : Heap, K.In base → base.Ns mainGlobals mg → SM base → TabG K mg base → FnG PySem.Challenge.rw_shadeguards_k54_runs_that_free_old_objec.prog w K mg base 10 fa fd ["_law_script"] (spG K 1 yHg) := by
  have e := hfa.symm.trans (PySem.W.mg_of X G a29)
  cases e
  have T : Top w K mg := ⟨PySem.W.mg_none_of X G xQ0, PySem.W.mg_none_of X G zGe, PySem.W.mg_none_of X G xW1, PySem.W.mg_none_of X G yYh, PySem.W.mg_none_of X G xW4, PySem.W.mg_none_of X G zG9, PySem.W.mg_none_of X G xW6, PySem.W.mg_none_of X G xW5, PySem.W.mg_none_of X G yVi, PySem.W.mg_none_of X G xW2, PySem.W.mg_none_of X G yYi, PySem.W.mg_none_of X G xQ1, PySem.W.mg_none_of X G xQz, PySem.W.mg_none_of X G xW3, wQ5 (PySem.W.mg_of X G yVj) yVn, wQ5 (PySem.W.mg_of X G yYk) yY0, wQ5 (PySem.W.mg_of X G yXa) yXg, wJy (PySem.W.mg_of X G yYj), wW5 (PySem.W.mg_of X G zYj) zYj zHk, xZ7 zYj zHl, xHi (PySem.W.mg_of X G zVf) zVf zWh zW8 zWn zWz zWd zW2 (fun _ _ _ _ _ _ us hl => match us, hl with | [_, _], _ => rfl), xZ7 zVf zWk, xHi (PySem.W.mg_of X G zVe) zVe zWg zW7 zWm zWy zWc zW1 (fun _ _ _ _ _ _ us hl => match us, hl with | [_, _], _ => rfl), xZ7 zVe zWj, xHi (PySem.W.mg_of X G zVd) zVd zWf zW6 zWl zWx zWb zW0 (fun _ _ _ _ _ _ us hl => match us, hl with | [_, _], _ => rfl), xZ7 zVd zWi, wJz (PySem.W.mg_of X G zJj) zJj, xKw zJj (zH6 zJg zJf zJe zJd) zUv, xKw zJj (zH6 zJg zJf zJe zJd) zVv, xKw zJj (zH6 zJg zJf zJe zJd) zVu, wVf zJj (zH6 zJg zJf zJe zJd) zYy zYo zY3 (by decide), ⟨_, _, _, zJj, (zH6 zJg zJf zJe zJd), wQc zJ0 zJo, yHi zJv zJm zJx⟩, ⟨_, _, _, zJj, (zH6 zJg zJf zJe zJd), yYx zV2 zVr zJw, yHi zV0 zVq zJw⟩, ⟨_, _, _, zJj, (zH6 zJg zJf zJe zJd), wXu zKg zV5 zV3 zV4 (PySem.W.mg_of X G zJj), xKx zKe zV1 zKf (yQ1 ⟨_, zX9, ⟨_, rfl⟩⟩ (yQ1 ⟨_, zX8, ⟨_, rfl⟩⟩ (xZy)))⟩, ⟨_, _, _, zJj, (zH6 zJg zJf zJe zJd), yYx zVc zJ1 zX4, yHi zJ9 zJy zX4⟩, ⟨_, _, _, zJj, (zH6 zJg zJf zJe zJd), yYx zJz zJn zXw, yHi zJu zJl zXw⟩, ⟨_, _, _, zJj, (zH6 zJg zJf zJe zJd), xVs zW4 zW3 zYx zYt zW5, xKx zYu zWv zYv (yQ1 ⟨_, zVb, ⟨_, rfl⟩⟩ (yQ1 ⟨_, zVa, ⟨_, rfl⟩⟩ (xZy)))⟩, ⟨_, _, _, zJj, (zH6 zJg zJf zJe zJd), wXs zWw zKx zKw, yHi zWt zKv zWu⟩, ⟨_, _, _, zJj, (zH6 zJg zJf zJe zJd), xVs zY0 zYz zUo zUl zY1, xKx zUm zYw zUn (yQ1 ⟨_, zVp, ⟨_, rfl⟩⟩ (yQ1 ⟨_, zVo, ⟨_, rfl⟩⟩ (xZy)))⟩, zYg (PySem.W.mg_of X G a0) l0 c0 k0 fun _ _ _ _ _ _ us hl => match us, hl with | [_], _ => rfl, zYg (PySem.W.mg_of X G a1) l1 c1 k1 fun _ _ _ _ _ _ us hl => match us, hl with | [_], _ => rfl, zYg (PySem.W.mg_of X G a2) l2 c2 k2 fun _ _ _ _ _ _ us hl => match us, hl with | [_], _ => rfl, zYg (PySem.W.mg_of X G a3) l3 c3 k3 fun _ _ _ _ _ _ us hl => match us, hl with | [_], _ => rfl, zYg (PySem.W.mg_of X G a4) l4 c4 k4 fun _ _ _ _ _ _ us hl => match us, hl with | [], _ => rfl, zYg (PySem.W.mg_of X G a5) l5 c5 k5 fun _ _ _ _ _ _ us hl => match us, hl with | [_], _ => rfl, wJ6 (PySem.W.mg_of X G a6) l6 c6 k6, zYg (PySem.W.mg_of X G a7) l7 c7 k7 fun _ _ _ _ _ _ us hl => match us, hl with | [_, _], _ => rfl, zYg (PySem.W.mg_of X G a8) l8 c8 k8 fun _ _ _ _ _ _ us hl => match us, hl with | [_], _ => rfl, zYg (PySem.W.mg_of X G a9) l9 c9 k9 fun _ _ _ _ _ _ us hl => match us, hl with | [_], _ => rfl, zYg (PySem.W.mg_of X G a10) l10 c10 k10 fun _ _ _ _ _ _ us hl => match us, hl with | [_], _ => rfl, zYg (PySem.W.mg_of X G a11) l11 c11 k11 fun _ _ _ _ _ _ us hl => match us, hl with | [_, _], _ => rfl, wJ7 (PySem.W.mg_of X G a12) l12 c12 k12 (yQ1 ⟨_, zUw, ⟨_, rfl⟩⟩ (yQ1 ⟨_, zGo, ⟨_, rfl⟩⟩ (xZy))), zYg (PySem.W.mg_of X G a13) l13 c13 k13 fun _ _ _ _ _ _ us hl => match us, hl with | [_, _], _ => rfl, zYg (PySem.W.mg_of X G a14) l14 c14 k14 fun _ _ _ _ _ _ us hl => match us, hl with | [_, _, _], _ => rfl, zYg (PySem.W.mg_of X G a15) l15 c15 k15 fun _ _ _ _ _ _ us hl => match us, hl with | [_, _, _], _ => rfl, zYg (PySem.W.mg_of X G a16) l16 c16 k16 fun _ _ _ _ _ _ us hl => match us, hl with | [_, _, _], _ => rfl, zYg (PySem.W.mg_of X G a17) l17 c17 k17 fun _ _ _ _ _ _ us hl => match us, hl with | [_, _], _ => rfl, zYg (PySem.W.mg_of X G a18) l18 c18 k18 fun _ _ _ _ _ _ us hl => match us, hl with | [_, _, _], _ => rfl, zYg (PySem.W.mg_of X G a19) l19 c19 k19 fun _ _ _ _ _ _ us hl => match us, hl with | [_, _], _ => rfl, zYg (PySem.W.mg_of X G a20) l20 c20 k20 fun _ _ _ _ _ _ us hl => match us, hl with | [_, _, _], _ => rfl, zYg (PySem.W.mg_of X G a21) l21 c21 k21 fun _ _ _ _ _ _ us hl => match us, hl with | [_, _], _ => rfl, zYg (PySem.W.mg_of X G a22) l22 c22 k22 fun _ _ _ _ _ _ us hl => match us, hl with | [_], _ => rfl, zYg (PySem.W.mg_of X G a23) l23 c23 k23 fun _ _ _ _ _ _ us hl => match us, hl with | [_, _], _ => rfl, zYg (PySem.W.mg_of X G a24) l24 c24 k24 fun _ _ _ _ _ _ us hl => match us, hl with | [_, _], _ => rfl, zYg (PySem.W.mg_of X G a25) l25 c25 k25 fun _ _ _ _ _ _ us hl => match us, hl with | [_, _, _, _, _], _ => rfl, zYg (PySem.W.mg_of X G a26) l26 c26 k26 fun _ _ _ _ _ _ us hl => match us, hl with | [_, _], _ => rfl, zYg (PySem.W.mg_of X G a27) l27 c27 k27 fun _ _ _ _ _ _ us hl => match us, hl with | [_, _, _, _], _ => rfl, zYg (PySem.W.mg_of X G a28) l28 c28 k28 fun _ _ _ _ _ _ us hl => match us, hl with | [_], _ => rfl, zYg (PySem.W.mg_of X G a29) l29 c29 k29 fun _ _ _ _ _ _ us hl => match us, hl with | [_], _ => rfl⟩
  exact ⟨PySem.W.fnOf "law" "law" (defArgs (zQ3 56)) (defBody (zQ3 56)) (defScope (zQ3 56)) .none kV29 dc29 pm29 an29 cd29 ct29, fun s v => .of_eq rfl, fun base _ _ sm tg => xGv T sm (fun_mk (st := zQ3 56) l29 c29 k29)⟩
end Ev

open PySem PySem.W PyProof.Rows
set_option maxHeartbeats 0 in
theorem PySem.Challenge.cw_shadeguards_k54_runs_that_free_old_objec_holds : PySem.Challenge.rw_shadeguards_k54_runs_that_free_old_objec.Holds := by
  w_on; o_law
  refine Ev.wJx (r := Ev.hq9R) (q := Ev.hq9V) (K := Ev.hq9S.heap_1) (as := Ev.hq9A) (ek := Ev.hq9E) (M := 40000) (loose := Ev.hq9N) (d := HandSHeadRun.topDef Ev.hq9R.prog 56) (kwd := []) (Ev.wH3 _) (by kernel_rfl) (fun s => by kernel_rfl) (Ev.wXk "special-get-raises" Ev.hq9_false Ev.hq9_true) (by kernel_rfl) (by kernel_rfl) (by kernel_rfl) (by rfl) (by first | assumption | decide +kernel) (by decide +kernel) ⟨rfl, rfl, rfl, rfl, rfl, by decide +kernel⟩ ?hw ?hc
  case hw => w_witness2
  k_fill
  refine Ev.wXi (l := PySem.Challenge.rw_shadeguards_k54_runs_that_free_old_objec) (n := 63) (k := 10) (x := "_law_script") (g := Ev.yHg) rfl rfl (by decide) rfl ⟨rfl, by decide, by decide⟩ (fun w h Y => by first | exact PySem.W.kIn_of Y | exact PySem.W.km_in_of Y) ?hd ?ho ?F Ev.law_true
  case hd => intro w; kernel_rfl
  case ho => intro w; kernel_rfl
  case F =>
    intro w mg fa h KX G hmg
    refine' Ev.all_mk KX G hmg (xQ0 := ?xQ0) (zGe := ?zGe) (xW1 := ?xW1) (yYh := ?yYh) (xW4 := ?xW4) (zG9 := ?zG9) (xW6 := ?xW6) (xW5 := ?xW5) (yVi := ?yVi) (xW2 := ?xW2) (yYi := ?yYi) (xQ1 := ?xQ1) (xQz := ?xQz) (xW3 := ?xW3) (yVj := ?yVj) (yVn := ?yVn) (yYk := ?yYk) (yY0 := ?yY0) (yXa := ?yXa) (yXg := ?yXg) (yYj := ?yYj) (zYj := ?zYj) (zVf := ?zVf) (zVe := ?zVe) (zVd := ?zVd) (zHk := ?zHk) (zHl := ?zHl) (zWh := ?zWh) (zW8 := ?zW8) (zWn := ?zWn) (zWz := ?zWz) (zWd := ?zWd) (zW2 := ?zW2) (zWk := ?zWk) (zWg := ?zWg) (zW7 := ?zW7) (zWm := ?zWm) (zWy := ?zWy) (zWc := ?zWc) (zW1 := ?zW1) (zWj := ?zWj) (zWf := ?zWf) (zW6 := ?zW6) (zWl := ?zWl) (zWx := ?zWx) (zWb := ?zWb) (zW0 := ?zW0) (zWi := ?zWi) (zJj := ?zJj) (zJg := ?zJg) (zJf := ?zJf) (zJe := ?zJe) (zJd := ?zJd) (zUv := ?zUv) (zVv := ?zVv) (zVu := ?zVu) (zYy := ?zYy) (zYo := ?zYo) (zY3 := ?zY3) (zJ0 := ?zJ0) (zJo := ?zJo) (zJv := ?zJv) (zJm := ?zJm) (zJx := ?zJx) (zV2 := ?zV2) (zVr := ?zVr) (zV0 := ?zV0) (zVq := ?zVq) (zJw := ?zJw) (zKg := ?zKg) (zV5 := ?zV5) (zKe := ?zKe) (zV1 := ?zV1) (zKf := ?zKf) (zX9 := ?zX9) (zX8 := ?zX8) (zV3 := ?zV3) (zV4 := ?zV4) (zVc := ?zVc) (zJ1 := ?zJ1) (zJ9 := ?zJ9) (zJy := ?zJy) (zX4 := ?zX4) (zJz := ?zJz) (zJn := ?zJn) (zJu := ?zJu) (zJl := ?zJl) (zXw := ?zXw) (zGv := ?zGv) (zW4 := ?zW4) (zW3 := ?zW3) (zYx := ?zYx) (zYt := ?zYt) (zW5 := ?zW5) (zYu := ?zYu) (zWv := ?zWv) (zYv := ?zYv) (zVb := ?zVb) (zVa := ?zVa) (zWw := ?zWw) (zKx := ?zKx) (zWt := ?zWt) (zKv := ?zKv) (zWu := ?zWu) (zKw := ?zKw) (zHr := ?zHr) (zY0 := ?zY0) (zYz := ?zYz) (zUo := ?zUo) (zUl := ?zUl) (zY1 := ?zY1) (zUm := ?zUm) (zYw := ?zYw) (zUn := ?zUn) (zVp := ?zVp) (zVo := ?zVo) (a0 := ?a0) (l0 := ?l0) (c0 := ?c0) (k0 := ?k0) (a1 := ?a1) (l1 := ?l1) (c1 := ?c1) (k1 := ?k1) (a2 := ?a2) (l2 := ?l2) (c2 := ?c2) (k2 := ?k2) (a3 := ?a3) (l3 := ?l3) (c3 := ?c3) (k3 := ?k3) (a4 := ?a4) (l4 := ?l4) (c4 := ?c4) (k4 := ?k4) (a5 := ?a5) (l5 := ?l5) (c5 := ?c5) (k5 := ?k5) (a6 := ?a6) (l6 := ?l6) (c6 := ?c6) (k6 := ?k6) (a7 := ?a7) (l7 := ?l7) (c7 := ?c7) (k7 := ?k7) (a8 := ?a8) (l8 := ?l8) (c8 := ?c8) (k8 := ?k8) (a9 := ?a9) (l9 := ?l9) (c9 := ?c9) (k9 := ?k9) (a10 := ?a10) (l10 := ?l10) (c10 := ?c10) (k10 := ?k10) (a11 := ?a11) (l11 := ?l11) (c11 := ?c11) (k11 := ?k11) (a12 := ?a12) (l12 := ?l12) (c12 := ?c12) (k12 := ?k12) (zUw := ?zUw) (zGo := ?zGo) (a13 := ?a13) (l13 := ?l13) (c13 := ?c13) (k13 := ?k13) (a14 := ?a14) (l14 := ?l14) (c14 := ?c14) (k14 := ?k14) (a15 := ?a15) (l15 := ?l15) (c15 := ?c15) (k15 := ?k15) (a16 := ?a16) (l16 := ?l16) (c16 := ?c16) (k16 := ?k16) (a17 := ?a17) (l17 := ?l17) (c17 := ?c17) (k17 := ?k17) (a18 := ?a18) (l18 := ?l18) (c18 := ?c18) (k18 := ?k18) (a19 := ?a19) (l19 := ?l19) (c19 := ?c19) (k19 := ?k19) (a20 := ?a20) (l20 := ?l20) (c20 := ?c20) (k20 := ?k20) (a21 := ?a21) (l21 := ?l21) (c21 := ?c21) (k21 := ?k21) (a22 := ?a22) (l22 := ?l22) (c22 := ?c22) (k22 := ?k22) (a23 := ?a23) (l23 := ?l23) (c23 := ?c23) (k23 := ?k23) (a24 := ?a24) (l24 := ?l24) (c24 := ?c24) (k24 := ?k24) (a25 := ?a25) (l25 := ?l25) (c25 := ?c25) (k25 := ?k25) (a26 := ?a26) (l26 := ?l26) (c26 := ?c26) (k26 := ?k26) (a27 := ?a27) (l27 := ?l27) (c27 := ?c27) (k27 := ?k27) (a28 := ?a28) (l28 := ?l28) (c28 := ?c28) (k28 := ?k28) (a29 := ?a29) (l29 := ?l29) (c29 := ?c29) (k29 := ?k29)
    (case xQ0 => k_is); (case zGe => k_is); (case xW1 => k_is); (case yYh => k_is); (case xW4 => k_is); (case zG9 => k_is); (case xW6 => k_is); (case xW5 => k_is); (case yVi => k_is); (case xW2 => k_is); (case yYi => k_is); (case xQ1 => k_is); (case xQz => k_is); (case xW3 => k_is); (case yVj => k_is); (case yVn => rfl); (case yYk => k_is); (case yY0 => rfl); (case yXa => k_is); (case yXg => rfl); (case yYj => k_is); (case zYj => k_is); (case zVf => k_is); (case zVe => k_is); (case zVd => k_is); (case zHk => kernel_rfl); (case zHl => kernel_rfl); (case zWh => kernel_rfl); (case zW8 => k_is); (case zWn => kernel_rfl); (case zWz => k_is); (case zWd => k_is); (case zW2 => k_is); (case zWk => kernel_rfl); (case zWg => kernel_rfl); (case zW7 => k_is); (case zWm => kernel_rfl); (case zWy => k_is); (case zWc => k_is); (case zW1 => k_is); (case zWj => kernel_rfl); (case zWf => kernel_rfl); (case zW6 => k_is); (case zWl => kernel_rfl); (case zWx => k_is); (case zWb => k_is); (case zW0 => k_is); (case zWi => kernel_rfl); (case zJj => k_is); (case zJg => first | kernel_rfl | k_is); (case zJf => first | kernel_rfl | k_is); (case zJe => first | kernel_rfl | k_is); (case zJd => first | kernel_rfl | k_is); (case zUv => k_is); (case zVv => k_is); (case zVu => k_is); (case zYy => k_is); (case zYo => rfl); (case zY3 => first | kernel_rfl | k_is); (case zJ0 => k_is); (case zJo => first | kernel_rfl | k_is); (case zJv => k_is); (case zJm => k_is); (case zJx => k_is); (case zV2 => k_is); (case zVr => first | kernel_rfl | k_is); (case zV0 => k_is); (case zVq => k_is); (case zJw => k_is); (case zKg => k_is); (case zV5 => first | kernel_rfl | k_is); (case zKe => k_is); (case zV1 => k_is); (case zKf => k_is); (case zX9 => k_is); (case zX8 => k_is); (case zV3 => first | kernel_rfl | k_is); (case zV4 => first | kernel_rfl | k_is); (case zVc => k_is); (case zJ1 => first | kernel_rfl | k_is); (case zJ9 => k_is); (case zJy => k_is); (case zX4 => k_is); (case zJz => k_is); (case zJn => first | kernel_rfl | k_is); (case zJu => k_is); (case zJl => k_is); (case zXw => k_is); (case zGv => k_is); (case zW4 => first | kernel_rfl | k_is); (case zW3 => first | kernel_rfl | k_is); (case zYx => k_is); (case zYt => k_is); (case zW5 => first | kernel_rfl | k_is); (case zYu => k_is); (case zWv => k_is); (case zYv => k_is); (case zVb => k_is); (case zVa => k_is); (case zWw => k_is); (case zKx => first | kernel_rfl | k_is); (case zWt => k_is); (case zKv => k_is); (case zWu => k_is); (case zKw => first | kernel_rfl | k_is); (case zHr => k_is); (case zY0 => first | kernel_rfl | k_is); (case zYz => first | kernel_rfl | k_is); (case zUo => k_is); (case zUl => k_is); (case zY1 => first | kernel_rfl | k_is); (case zUm => k_is); (case zYw => k_is); (case zUn => k_is); (case zVp => k_is); (case zVo => k_is); (case a0 => k_is); (case l0 => k_is); (case c0 => k_is); (case k0 => k_is); (case a1 => k_is); (case l1 => k_is); (case c1 => k_is); (case k1 => k_is); (case a2 => k_is); (case l2 => k_is); (case c2 => k_is); (case k2 => k_is); (case a3 => k_is); (case l3 => k_is); (case c3 => k_is); (case k3 => k_is); (case a4 => k_is); (case l4 => k_is); (case c4 => k_is); (case k4 => k_is); (case a5 => k_is); (case l5 => k_is); (case c5 => k_is); (case k5 => k_is); (case a6 => k_is); (case l6 => k_is); (case c6 => k_is); (case k6 => k_is); (case a7 => k_is); (case l7 => k_is); (case c7 => k_is); (case k7 => k_is); (case a8 => k_is); (case l8 => k_is); (case c8 => k_is); (case k8 => k_is); (case a9 => k_is); (case l9 => k_is); (case c9 => k_is); (case k9 => k_is); (case a10 => k_is); (case l10 => k_is); (case c10 => k_is); (case k10 => k_is); (case a11 => k_is); (case l11 => k_is); (case c11 => k_is); (case k11 => k_is); (case a12 => k_is); (case l12 => k_is); (case c12 => k_is); (case k12 => k_is); (case zUw => k_is); (case zGo => k_is); (case a13 => k_is); (case l13 => k_is); (case c13 => k_is); (case k13 => k_is); (case a14 => k_is); (case l14 => k_is); (case c14 => k_is); (case k14 => k_is); (case a15 => k_is); (case l15 => k_is); (case c15 => k_is); (case k15 => k_is); (case a16 => k_is); (case l16 => k_is); (case c16 => k_is); (case k16 => k_is); (case a17 => k_is); (case l17 => k_is); (case c17 => k_is); (case k17 => k_is); (case a18 => k_is); (case l18 => k_is); (case c18 => k_is); (case k18 => k_is); (case a19 => k_is); (case l19 => k_is); (case c19 => k_is); (case k19 => k_is); (case a20 => k_is); (case l20 => k_is); (case c20 => k_is); (case k20 => k_is); (case a21 => k_is); (case l21 => k_is); (case c21 => k_is); (case k21 => k_is); (case a22 => k_is); (case l22 => k_is); (case c22 => k_is); (case k22 => k_is); (case a23 => k_is); (case l23 => k_is); (case c23 => k_is); (case k23 => k_is); (case a24 => k_is); (case l24 => k_is); (case c24 => k_is); (case k24 => k_is); (case a25 => k_is); (case l25 => k_is); (case c25 => k_is); (case k25 => k_is); (case a26 => k_is); (case l26 => k_is); (case c26 => k_is); (case k26 => k_is); (case a27 => k_is); (case l27 => k_is); (case c27 => k_is); (case k27 => k_is); (case a28 => k_is); (case l28 => k_is); (case c28 => k_is); (case k28 => k_is); (case a29 => k_is); (case l29 => k_is); (case c29 => k_is); (case k29 => k_is)
