import PyProof.Rows.All
import Wide.All
import OpenK.AllK
import Wide.FinOn
import KE.OsRun
import HandS.Head2
import HandS.ForMost
import HandS.ForExc
import HandS.TupAny
import HandS.TupMul
import HandS.IsInst
import HandS.Deep
import HandS.Flow
import HandS.Style
import HandS.Lambda
import HandS.EndTab
import HandS.TupLe
import HandS.RaiseMore
import PyProof.RowDictHeap
import HandS.Star
import HandS.Defaults
import HandS.TryOnly
import HandS.Small
import HandS.Codes
import HandS.Dict
import HandS.EndBits
import HandS.SortInts
import HandS.More
import HandS.MakeKwOnly
import HandS.SetFor
import HandS.Strs
import HandS.Conv
import HandS.Zip
import HandS.Zip0
import HandS.Text
import HandS.ExcInit
import HandS.ExcIs
import HandS.ExcField
import HandS.ExcValue
import KE.KTryMore
import KE.KExcInit
import HandS.WordsExc
import KE.KExcIs
import KE.GoesMore
import KE.GoesEnum
import KE.KStar
import HandS.Property
import HandS.ClsMeth
import HandS.SlotsOwn
import PyProof.InstNe
import KE.KCallOwn
import HandS.FStr
import HandS.Wide
import HandS.ExcOwn
import KE.KUnpackStar
import PyProof.ListNew
import HandS.ListItems
import KE.KWithOwn
import HandS.HotCalls
import KE.KSuper
import KE.KBoundM
import HandS.TupSets
import HandS.SortOrd
import PySem.Challenge.RW_shadeguards_k58_whole_more_entries
set_option Elab.async false
set_option linter.all false
set_option maxRecDepth 100000
set_option maxHeartbeats 40000000
namespace Ev
open PySem PySem.W PySem.Calls PyProof.Rows
/-! ### the head by one run of the top, told by the kernel for each answer of one row -/
/-- the hook is this one (a word for unification) -/
def vKc (_ : Hook) : Prop := True
theorem vJx (H : Hook) : vKc H := trivial
/-- the run's equation -/
def xJs (r : OpenRow) (q : Program) (K : Params → Frag) (as : List Addr) (M : Nat) (loose : List PySem.Str) (w : World) : Prop :=
  ∀ os : OsState, (HeadRun.endF (HeadRun.stepQ (HeadRun.denQ HeadRun.tabQ) r.prog w) M r.prog w os).map (fun s => (HeadRun.looksF r.prog (boot_heap w.params) s.abs, HeadRun.seenQ q loose (importedModules r.prog.main.body) (fun s => xlAt q [] s && recOk r.toRowW.records s) s.abs, as.map (HeadRun.getT s))) = some (true, openGood q loose, (K w.params).map fun x => some x.2)
theorem wKx {r : OpenRow} {q : Program} {K : Params → Frag} {as : List Addr} {M : Nat} {loose : List PySem.Str} (row : String) (hf : ∀ w : World, xJs r q K as M loose (w.withFollow row false)) (ht : ∀ w : World, xJs r q K as M loose (w.withFollow row true)) (w : World) : xJs r q K as M loose w :=
  byRow2 row (P := xJs r q K as M loose) hf ht w
theorem wW6 {r : OpenRow} {q : Program} {K : Params → Frag} {as : List Addr} {ek : ∀ P, as = (K P).map (·.1)} {M : Nat} {loose : List PySem.Str} {d : DefRec} {kwd : List (PySem.Str × PySem.Expr)} (_ : vKc (kHook K as ek))
    (e : opening r.prog = plainProg r.prog.main.scope.names) (f : ∀ s, fenceModules? r.prog s = some s) (run : ∀ w, xJs r q K as M loose w)
    (hdef : defOf q r.name = some (d, kwd)) (hp : r.prog.theDef r.name = some (d.params, d.body, d.scope)) (hk : kwWritten? d.params.kwonlyargs d.params.kw_defaults = some kwd)
    (hwr : (!r.writes || r.records.isEmpty) = true) (k1 : r.wellSaid = true) (ok : (chainsOk q && opensWell r.prog && (frees r.toRowW && r.within.isEmpty)) = true) (hb : r.prog.bare) (hw : r.toRowW.promised)
    (call : WalkO q loose (XL q []) (kHook K as ek).says r.toRowW d kwd fun f vs => PySem.call f vs) : r.Holds := by
  have left : LeftO r.prog q loose (fun s => xlAt q [] s && recOk r.toRowW.records s) (kHook K as ek).obs (kHook K as ek).val (M + 600) true :=
    HeadRun.left_oneK (M := M) e (Nat.ble_eq_true_of_le (by omega)) f (Nat.ble_eq_true_of_le (by omega)) fun w os => run w os
  exact holds_open (r := r) (q := q) (loose := loose) (XP := XL q []) (YP := (kHook K as ek).says) (d := d) (kwd := kwd) left (kHook K as ek).of (kHook K as ek).keeps (fun s z => xl_of s (Bool.and_eq_true_iff.mp z).1) XL.keeps hdef hp hk (fun s z => recFacts_of (Bool.and_eq_true_iff.mp z).2) hwr k1 ok hb hw call
end Ev

section
open PySem PySem.W PySem.Calls PyProof.Rows
local macro_rules | `(tactic| o_head $H) => `(tactic| (have _z := Ev.vJx $H; contradiction))
theorem Ev.hq9S (_ : False) : OpenRow.Holds (OpenLaw.row PySem.Challenge.rw_shadeguards_k58_whole_more_entries) := by
  k_head
end
namespace Ev
open PySem PySem.W PySem.Calls PyProof.Rows
abbrev hq9R : OpenRow := OpenLaw.row PySem.Challenge.rw_shadeguards_k58_whole_more_entries
abbrev hq9V : Program := view hq9R.prog [95]
def hq9N0 : List PySem.Str := ["_wall", "WHOLE", "least_freeing", "scan_of", "freeing_run", "ShadeError", "InvalidEntry", "InvalidFresh", "InvalidRoots", "InvalidGoal", "ParseError", "Mismatch", "GOALS", "ANY", "LIT", "BOTH", "AGAIN", "NEW_GREY", "NEW_BLACK", "SOURCE_GREY"]
def hq9N1 : List PySem.Str := ["SOURCE_BLACK", "OLD_WHITE", "OLD_GREY", "LOAD_WHITE", "LOAD_GREY", "OF_WHITE", "STRONG_WHOLE", "STRONG_FIELDS", "LIT_WAYS", "ONE_REGISTER", "SNAPSHOT", "safe_ways", "bounded_ways", "need_goal", "ways", "fits", "has_property", "START_losing", "END", "case_of"]
def hq9N2 : List PySem.Str := ["scanned", "run_with_white", "run_with_two", "run_with_three", "run_between_fields", "losing_run", "START_overruns", "ONE", "NONE", "again_black", "again_grey", "grey_ones", "chained", "steps_to_shade", "lone_ones", "longer_run", "overrun", "COLORS", "KINDS", "ENTRIES"]
def hq9N3 : List PySem.Str := ["is_color", "is_entry", "listed", "sorted_entries", "entry_rank", "ROOTS", "entry_text", "parts_text", "entry_in", "entries_in", "parts_in", "one_line", "need_one_line", "Table", "YES", "NO", "judge", "_law_pen", "_law_draw", "_law_entries"]
def hq9N4 : List PySem.Str := ["_law_rule", "_law_sheet", "_law_rank", "_law_settings", "_law_pair_right"]
def hq9N : List PySem.Str := hq9N0 ++ hq9N1 ++ hq9N2 ++ hq9N3 ++ hq9N4
noncomputable def hq9A : List Addr := (hq9S.heap_1 { strHash := fun _ => 0, shareClass := fun _ => 0, mergeTok := id, idOf := fun _ => 0, idOfShared := fun _ _ => 0, followText := fun _ => false, idOfImm := fun _ => 0 }).map (·.1)
theorem hq9E (P : Params) : hq9A = (hq9S.heap_1 P).map (·.1) := by kernel_rfl
theorem hq9_false (w : World) : xJs hq9R hq9V hq9S.heap_1 hq9A 40000 hq9N (w.withFollow "special-get-raises" false) := by
  intro os
  kernel_rfl
theorem hq9_true (w : World) : xJs hq9R hq9V hq9S.heap_1 hq9A 40000 hq9N (w.withFollow "special-get-raises" true) := by
  intro os
  kernel_rfl
end Ev
namespace Ev
open PySem PySem.Spec PyProof.Rows L2
structure Cl (p : Prop) : Prop where
  go : p

def zZr (fs : List (Str × PyData)) : List (PyData × PyData) := fs.map fun p => (.str p.1, p.2)
def yWq (c : Str) (fs : List (Str × PyData)) : PyData := .dict ((.none, .str c) :: zZr fs)
def wQ1 (c : Str) : PyData := .dict [(.none, .bool true), (.none, .str c)]
inductive Ob where
  | lst (xs : List PyData)
  | dic (es : List (PyData × PyData))
  | ins (c : Str) (fs : List (Str × PyData))
def dOf : Ob → PyData
  | .lst xs => .list xs
  | .dic es => .dict es
  | .ins c fs => yWq c fs
structure Thk where
  f : Nat
  c : Nat
  q : Str
  P : L2.Hp → List Addr → Prop
  mono : ∀ F F' ro ro', (∀ b o, F b = some o → F' b = some o) → (∃ t, ro' = ro ++ t) → P F ro → P F' ro'
inductive SV where
  | d (x : PyData)
  | ob (o : Ob)
  | cell (n : Nat)
  | thk (t : Thk)
abbrev SV.own (xs : List PyData) : SV := .ob (.lst xs)
inductive EV where
  | d (x : PyData)
  | new (o : Ob)
  | pk (i : Nat) (o : Ob)
  | cell (n : Nat)
abbrev EV.fresh (xs : List PyData) : EV := .new (.lst xs)
structure Mem where
  sl : List (Option SV)
  cs : List Ob
structure Exn where
  cls : Str
  fs : List (Str × PyData)
inductive Res (α : Type) where
  | ok (a : α) (m : Mem)
  | thr (x : Exn) (m : Mem)
  | bad
abbrev Pg (α : Type) := Mem → Res α
def Res.wp {α : Type} (r : Res α) (Q : α → Mem → Prop) (E : Exn → Mem → Prop) : Prop :=
  match r with
  | .ok a m => Q a m
  | .thr x m => E x m
  | .bad => False
def Pg.bind {α β : Type} (f : Pg α) (g : α → Pg β) : Pg β := fun m =>
  match f m with
  | .ok a m' => g a m'
  | .thr x m' => .thr x m'
  | .bad => .bad
def Pg.ret {α : Type} (a : α) : Pg α := fun m => .ok a m
def Pg.stuck {α : Type} : Pg α := fun _ => .bad
theorem wp_bind {α β : Type} {f : Pg α} {g : α → Pg β} {m : Mem} {Q : β → Mem → Prop} {E : Exn → Mem → Prop} (h : (Pg.bind f g m).wp Q E) : (f m).wp (fun a m' => (g a m').wp Q E) E := by
  unfold Pg.bind at h
  cases e : f m with
  | ok a m' => rw [e] at h; exact h
  | thr x m' => rw [e] at h; exact h
  | bad => rw [e] at h; exact h
theorem Res.wp.imp {α : Type} {r : Res α} {Q Q' : α → Mem → Prop} {E E' : Exn → Mem → Prop} (h : r.wp Q E) (hQ : ∀ a m, Q a m → Q' a m) (hE : ∀ a m, E a m → E' a m) : r.wp Q' E' := by
  cases r with
  | ok a m => exact hQ a m h
  | thr x m => exact hE x m h
  | bad => exact h
def zKz {α : Type} : Option α → Pg α
  | some a => .ret a
  | none => .stuck
def yW1 {α : Type} (f : Pg α) : Pg α := fun m =>
  match f m with
  | .ok a m' => .ok a m'
  | .thr _ _ => .bad
  | .bad => .bad
theorem yVo {α : Type} {f : Pg α} {m : Mem} {Q : α → Mem → Prop} {E : Exn → Mem → Prop} (h : (yW1 f m).wp Q E) : (f m).wp Q fun _ _ => False := by
  unfold yW1 at h
  cases e : f m with
  | ok a m' => rw [e] at h; exact h
  | thr x m' => rw [e] at h; exact h
  | bad => rw [e] at h; exact h
end Ev

namespace Ev
open PySem PySem.Spec PyProof.Rows L2

def yGu : Key → PyData
  | .inl i => .int i
  | .inr s => .str s

theorem yYb {K : PySem.W.Frag} {F F' : Hp} (e : Same F F') {a : Addr} {xs : List V} (h : SqT K F a xs) : SqT K F' a xs := by
  rcases h with (h | ⟨o, h⟩) | h
  · exact Or.inl (Or.inl (e _ _ h))
  · exact Or.inl (Or.inr ⟨o, e _ _ h⟩)
  · exact Or.inr h

def mkC (n : Nat) : HO := .rng (n : Int) (-1)
theorem wVa {n m : Nat} (h : mkC n = mkC m) : n = m := by
  unfold mkC at h
  injection h with h _
  exact Int.ofNat.inj h
def yZn (F H : Hp) : Prop := ∀ a o, F a = some o → (∀ n, o ≠ mkC n) → H a = some o
theorem xof {F H : Hp} (s : Same F H) : yZn F H := fun a o e _ => s a o e
theorem zZ7 {K : PySem.W.Frag} {F F' : Hp} (e : yZn F F') {a : Addr} {xs : List V} (h : SqT K F a xs) : SqT K F' a xs := by
  rcases h with (h | ⟨o, h⟩) | h
  · exact Or.inl (Or.inl (e _ _ h (by intro n z; cases z)))
  · exact Or.inl (Or.inr ⟨o, e _ _ h (by intro n z; cases z)⟩)
  · exact Or.inr h
def LQ (K : PySem.W.Frag) (H : Hp) (a : Addr) (xs : List V) : Prop :=
  Rd H a (.lst xs) ∨ ∃ (its : List Value) (n : Nat), K.lookup a = some { cls := .type "list", data := .seq its.toArray n } ∧ its.length ≤ sizeLine ∧ Vals xs its
theorem LQ.of {K : PySem.W.Frag} {H : Hp} {a : Addr} {xs : List V} (h : H a = some (.lst xs)) : LQ K H a xs := .inl (.inl h)
theorem LQ.mono {K : PySem.W.Frag} {F F' : Hp} (e : Same F F') {a : Addr} {xs : List V} (h : LQ K F a xs) : LQ K F' a xs := by
  rcases h with (h | ⟨o, h⟩) | h
  · exact Or.inl (Or.inl (e _ _ h))
  · exact Or.inl (Or.inr ⟨o, e _ _ h⟩)
  · exact Or.inr h
theorem LQ.mox {K : PySem.W.Frag} {F F' : Hp} (e : yZn F F') {a : Addr} {xs : List V} (h : LQ K F a xs) : LQ K F' a xs := by
  rcases h with (h | ⟨o, h⟩) | h
  · exact Or.inl (Or.inl (e _ _ h (by intro n z; cases z)))
  · exact Or.inl (Or.inr ⟨o, e _ _ h (by intro n z; cases z)⟩)
  · exact Or.inr h
theorem LQ.sq {K : PySem.W.Frag} {H : Hp} {a : Addr} {xs : List V} (h : LQ K H a xs) : SqL K H a xs := by
  rcases h with h | ⟨its, n, h1, h2, h3⟩
  · exact Or.inl h
  · exact Or.inr ⟨_, its.toArray, n, h1, rfl, rfl, rfl, by simpa using h2, by simpa using h3⟩
theorem LQ.at {X : Cx} {pins : List (Addr × Obj)} {sg : L2.St} {H : Hp} {s : Shared} {a : Addr} {xs : List V} (h : LQ X.K H a xs) (I : L2.Inv X pins sg H s) :
    xs.length ≤ sizeLine ∧ ∃ (its : List Value) (n : Nat), Vals xs its ∧ xs.length = its.length ∧ s.heap.get? a = some { cls := .type "list", data := .seq its.toArray n } := by
  rcases h with h | ⟨its, n, h1, h2, h3⟩
  · obtain ⟨z, its, n, r, e⟩ := h.ok I.hok
    exact ⟨z, its, n, r, r.length, e⟩
  · exact ⟨by rw [h3.length]; exact h2, its, n, h3, h3.length, I.kIn a _ h1⟩

def yQx (K : PySem.W.Frag) (c : Str) (C : Addr) : Prop := PySem.W.nsIn K mainGlobals c = some (some (.ref C))
theorem yQx.one {K : PySem.W.Frag} {c : Str} {C D : Addr} (h : yQx K c C) (g : yQx K c D) : C = D := by
  unfold yQx at h g
  rw [h] at g
  cases g
  rfl
def excO (a : Addr) (cls : Value) (d : Option Addr) : HO := .ext fun h => ∃ oe vs, h.get? a = some oe ∧ Zc cls d oe ∧ oe.data = .fields vs
def xQm (n : Nat) : PyData := .dict [(.none, .int 1), (.none, .int n)]
mutual
inductive R (K : PySem.W.Frag) (F : Hp) : PyData → V → Prop
  | non : R K F .none .non
  | bl (b : Bool) : R K F (.bool b) (.bl b)
  | int (i : Int) : R K F (.int i) (.int i)
  | str (x : Str) : R K F (.str x) (.str x)
  | lst {a : Addr} {vs : List V} {ds : List PyData} : LQ K F a vs → RA K F ds vs → R K F (.list ds) (.ref a)
  | tup {a : Addr} {vs : List V} {ds : List PyData} : SqT K F a vs → RA K F ds vs → R K F (.tuple ds) (.ref a)
  | dic {a : Addr} {kvs : List (Key × V)} {es : List (PyData × PyData)} : F a = some (.dK kvs) → RK K F es kvs → R K F (.dict es) (.ref a)
  | ins {a dx C : Addr} {c : Str} {fs : List (PyData × PyData)} {vs : List (Str × V)} : yQx K c C → F a = some (.ins C dx vs) → F dx = some (.own a) → RF K F fs vs → R K F (.dict ((.none, .str c) :: fs)) (.ref a)
  | cls {C : Addr} {c : Str} : yQx K c C → R K F (.dict ((.none, .bool true) :: (.none, .str c) :: [])) (.ref C)
  | exn0 {a C : Addr} {c : Str} : yQx K c C → F a = some (excO a (.ref C) none) → R K F (.dict ((.none, .int 0) :: (.none, .str c) :: [])) (.ref a)
  | exn {a d C : Addr} {c : Str} {fs : List (PyData × PyData)} {vs : List (Str × V)} : yQx K c C → F a = some (excO a (.ref C) (some d)) → F d = some (.xd vs) → RF K F fs vs → R K F (.dict ((.none, .int 0) :: (.none, .str c) :: fs)) (.ref a)
  | cell {a : Addr} {n : Nat} : F a = some (mkC n) → R K F (.dict ((.none, .int 1) :: (.none, .int n) :: [])) (.ref a)
inductive RA (K : PySem.W.Frag) (F : Hp) : List PyData → List V → Prop
  | nil : RA K F [] []
  | cons {d : PyData} {ds : List PyData} {v : V} {vs : List V} : R K F d v → RA K F ds vs → RA K F (d :: ds) (v :: vs)
inductive RK (K : PySem.W.Frag) (F : Hp) : List (PyData × PyData) → List (Key × V) → Prop
  | nil : RK K F [] []
  | cons {k : Key} {d : PyData} {es : List (PyData × PyData)} {v : V} {kvs : List (Key × V)} : R K F d v → RK K F es kvs → RK K F ((yGu k, d) :: es) ((k, v) :: kvs)
inductive RF (K : PySem.W.Frag) (F : Hp) : List (PyData × PyData) → List (Str × V) → Prop
  | nil : RF K F [] []
  | cons {k : Str} {d : PyData} {es : List (PyData × PyData)} {v : V} {kvs : List (Str × V)} : R K F d v → RF K F es kvs → RF K F ((.str k, d) :: es) ((k, v) :: kvs)
end

section
variable {K : PySem.W.Frag} {F F' H : Hp}
mutual
theorem R.mono (e : Same F F') : ∀ {d : PyData} {v : V}, R K F d v → R K F' d v
  | _, _, .non => .non
  | _, _, .bl b => .bl b
  | _, _, .int i => .int i
  | _, _, .str x => .str x
  | _, _, .lst h a => .lst (h.mono e) (RA.mono e a)
  | _, _, .tup h a => .tup (yYb e h) (RA.mono e a)
  | _, _, .dic h a => .dic (e _ _ h) (RK.mono e a)
  | _, _, .ins n h1 h2 a => .ins n (e _ _ h1) (e _ _ h2) (RF.mono e a)
  | _, _, .cls n => .cls n
  | _, _, .exn0 n h1 => .exn0 n (e _ _ h1)
  | _, _, .exn n h1 h2 a => .exn n (e _ _ h1) (e _ _ h2) (RF.mono e a)
  | _, _, .cell h1 => .cell (e _ _ h1)
theorem RA.mono (e : Same F F') : ∀ {ds : List PyData} {vs : List V}, RA K F ds vs → RA K F' ds vs
  | _, _, .nil => .nil
  | _, _, .cons h a => .cons (R.mono e h) (RA.mono e a)
theorem RK.mono (e : Same F F') : ∀ {es : List (PyData × PyData)} {kvs : List (Key × V)}, RK K F es kvs → RK K F' es kvs
  | _, _, .nil => .nil
  | _, _, .cons h a => .cons (R.mono e h) (RK.mono e a)
theorem RF.mono (e : Same F F') : ∀ {es : List (PyData × PyData)} {kvs : List (Str × V)}, RF K F es kvs → RF K F' es kvs
  | _, _, .nil => .nil
  | _, _, .cons h a => .cons (R.mono e h) (RF.mono e a)
end
theorem RA.len : ∀ {ds : List PyData} {vs : List V}, RA K F ds vs → ds.length = vs.length
  | _, _, .nil => rfl
  | _, _, .cons _ a => congrArg (· + 1) (RA.len a)
theorem RA.app : ∀ {ds es : List PyData} {vs ws : List V}, RA K F ds vs → RA K F es ws → RA K F (ds ++ es) (vs ++ ws)
  | _, _, _, _, .nil, b => b
  | _, _, _, _, .cons h a, b => .cons h (RA.app a b)
theorem RA.take : ∀ {ds : List PyData} {vs : List V} (n : Nat), RA K F ds vs → RA K F (ds.take n) (vs.take n)
  | _, _, 0, _ => by rw [List.take_zero, List.take_zero]; exact .nil
  | _, _, n + 1, .nil => by rw [List.take_nil, List.take_nil]; exact .nil
  | _, _, n + 1, .cons h a => .cons h (RA.take n a)
theorem RA.drop : ∀ {ds : List PyData} {vs : List V} (n : Nat), RA K F ds vs → RA K F (ds.drop n) (vs.drop n)
  | _, _, 0, a => a
  | _, _, n + 1, .nil => by rw [List.drop_nil, List.drop_nil]; exact .nil
  | _, _, n + 1, .cons h a => RA.drop n a
theorem RA.get : ∀ {ds : List PyData} {vs : List V} {i : Nat} {d : PyData}, RA K F ds vs → ds[i]? = some d → ∃ v, vs[i]? = some v ∧ R K F d v
  | _, _, _, _, .nil, e => by simp at e
  | _, _, 0, _, .cons h _, e => by
    simp at e
    subst e
    exact ⟨_, rfl, h⟩
  | _, _, i + 1, d, .cons _ a, e => by
    obtain ⟨v, h1, h2⟩ := RA.get (i := i) (d := d) a (by simpa using e)
    exact ⟨v, by simpa using h1, h2⟩
theorem RA.set : ∀ {ds : List PyData} {vs : List V} (i : Nat) {d : PyData} {v : V}, RA K F ds vs → R K F d v → RA K F (ds.set i d) (vs.set i v)
  | _, _, _, _, _, .nil, _ => .nil
  | _, _, 0, _, _, .cons _ a, h => .cons h a
  | _, _, i + 1, _, _, .cons h' a, h => .cons h' (RA.set i a h)
theorem RA.rep {ds : List PyData} {vs : List V} (a : RA K F ds vs) : ∀ n : Nat, RA K F (List.replicate n ds).flatten (List.replicate n vs).flatten
  | 0 => .nil
  | n + 1 => by
    rw [List.replicate_succ, List.replicate_succ, List.flatten_cons, List.flatten_cons]
    exact a.app (RA.rep a n)
theorem RA.one {d : PyData} {v : V} (h : R K F d v) : RA K F [d] [v] := .cons h .nil
theorem RA.ints : ∀ ns : List Int, RA K F (ns.map PyData.int) (ns.map V.int)
  | [] => .nil
  | n :: ns => .cons (.int n) (RA.ints ns)

mutual
theorem R.dp (e : yZn F H) : ∀ {d : PyData} {v : V}, R K F d v → d.canLay0 = true → Dp K H v d
  | _, _, .non, _ => .non
  | _, _, .bl b, _ => .bl b
  | _, _, .int i, _ => .int i
  | _, _, .str x, _ => .str x
  | _, _, .lst h a, c => .lst (h.mox e).sq (RA.dp e a (by simpa [PyData.canLay0] using c))
  | _, _, .tup h a, c => .tup (zZ7 e h) (RA.dp e a (by simpa [PyData.canLay0] using c))
  | _, _, .dic h a, c => by simp [PyData.canLay0] at c
  | _, _, .ins _ _ _ _, c => by simp [PyData.canLay0] at c
  | _, _, .cls _, c => by simp [PyData.canLay0] at c
  | _, _, .exn0 _ _, c => by simp [PyData.canLay0] at c
  | _, _, .exn _ _ _ _, c => by simp [PyData.canLay0] at c
  | _, _, .cell _, c => by simp [PyData.canLay0] at c
theorem RA.dp (e : yZn F H) : ∀ {ds : List PyData} {vs : List V}, RA K F ds vs → PyData.canLayAll0 ds = true → DpAll K H vs ds
  | _, _, .nil, _ => .nil
  | _, _, .cons h a, c => by
    simp only [PyData.canLayAll0, Bool.and_eq_true] at c
    exact .cons (R.dp e h c.1) (RA.dp e a c.2)
end
theorem RF.get : ∀ {fs : List (Str × PyData)} {vs : List (Str × V)}, RF K F (zZr fs) vs → ∀ (x : Str), (∀ d, fs.lookup x = some d → ∃ v, vs.lookup x = some v ∧ R K F d v) ∧ (fs.lookup x = none → vs.lookup x = none)
  | [], _, .nil, x => ⟨fun d h => by simp at h, fun _ => rfl⟩
  | (k, d) :: fs, _, .cons h t, x => by
    obtain ⟨h1, h2⟩ := RF.get (fs := fs) t x
    rw [List.lookup_cons, List.lookup_cons]
    cases e : x == k with
    | true => exact ⟨fun d' z => by cases z; exact ⟨_, rfl, h⟩, fun z => by cases z⟩
    | false => exact ⟨h1, h2⟩
theorem RF.len : ∀ {fs : List (PyData × PyData)} {vs : List (Str × V)}, RF K F fs vs → fs.length = vs.length
  | _, _, .nil => rfl
  | _, _, .cons _ a => congrArg (· + 1) (RF.len a)
theorem RK.len : ∀ {fs : List (PyData × PyData)} {vs : List (Key × V)}, RK K F fs vs → fs.length = vs.length
  | _, _, .nil => rfl
  | _, _, .cons _ a => congrArg (· + 1) (RK.len a)
def yXj : PyData → Bool
  | .int _ => true
  | .str _ => true
  | _ => false
def zZi (es : List (PyData × PyData)) : Bool := es.all fun p => yXj p.1
theorem RK.plain : ∀ {es : List (PyData × PyData)} {kvs : List (Key × V)}, RK K F es kvs → zZi es = true
  | _, _, .nil => rfl
  | _, _, .cons (k := k) _ a => by
    have := RK.plain a
    unfold zZi at this ⊢
    rw [List.all_cons, this]
    cases k <;> rfl
theorem R.dict {es : List (PyData × PyData)} {v : V} (h : R K F (.dict es) v) (p : zZi es = true) : ∃ a kvs, v = .ref a ∧ F a = some (.dK kvs) ∧ RK K F es kvs := by
  cases h with
  | dic h1 h2 => exact ⟨_, _, rfl, h1, h2⟩
  | ins _ _ _ _ => simp [zZi, yXj] at p
  | cls _ => simp [zZi, yXj] at p
  | exn0 _ _ => simp [zZi, yXj] at p
  | exn _ _ _ _ => simp [zZi, yXj] at p
  | cell _ => simp [zZi, yXj] at p
def OH (K : PySem.W.Frag) (F H : Hp) (Z : Addr → Prop) (a : Addr) : Ob → Prop
  | .lst xs => ∃ vs, H a = some (.lst vs) ∧ RA K F xs vs
  | .dic es => ∃ kvs, H a = some (.dK kvs) ∧ RK K F es kvs
  | .ins c fs => ∃ C dx vs, H a = some (.ins C dx vs) ∧ H dx = some (.own a) ∧ ¬ Z dx ∧ yQx K c C ∧ RF K F (zZr fs) vs
theorem OH.live {Z : Addr → Prop} {a : Addr} {o : Ob} (h : OH K F H Z a o) : ∃ u, H a = some u := by
  cases o with
  | lst xs => obtain ⟨vs, h, _⟩ := h; exact ⟨_, h⟩
  | dic xs => obtain ⟨vs, h, _⟩ := h; exact ⟨_, h⟩
  | ins c fs => obtain ⟨C, dx, vs, h, _⟩ := h; exact ⟨_, h⟩
theorem OH.noOwn {Z : Addr → Prop} {a b : Addr} {o : Ob} (h : OH K F H Z a o) : H a ≠ some (.own b) := by
  cases o with
  | lst xs => obtain ⟨vs, h, _⟩ := h; rw [h]; simp
  | dic xs => obtain ⟨vs, h, _⟩ := h; rw [h]; simp
  | ins c fs => obtain ⟨C, dx, vs, h, _⟩ := h; rw [h]; simp
theorem OH.keep {H' : Hp} {Z Z' : Addr → Prop} {a : Addr} {o : Ob} (h : OH K F H Z a o) (e : Same F F') (ha : ∀ u, H a = some u → H' a = some u) (hd : ∀ d, H d = some (.own a) → H' d = some (.own a)) (hz : ∀ d, H d = some (.own a) → Z' d → Z d) : OH K F' H' Z' a o := by
  cases o with
  | lst xs => obtain ⟨vs, h1, h2⟩ := h; exact ⟨vs, ha _ h1, h2.mono e⟩
  | dic xs => obtain ⟨vs, h1, h2⟩ := h; exact ⟨vs, ha _ h1, h2.mono e⟩
  | ins c fs => obtain ⟨C, dx, vs, h1, h2, h3, h4, h5⟩ := h; exact ⟨C, dx, vs, ha _ h1, hd _ h2, fun z => h3 (hz _ h2 z), h4, h5.mono e⟩
end
end Ev

namespace Ev
open PySem PySem.Spec PyProof.Rows L2

theorem OH.ntbl {K : PySem.W.Frag} {F H : Hp} {Z : Addr → Prop} {a : Addr} {o : Ob} (h : OH K F H Z a o) {u : HO} (e : H a = some u) : ∀ ps, u ≠ .tbl ps := fun ps z => by
  subst z
  cases o with
  | lst xs => obtain ⟨vs, h1, _⟩ := h; rw [e] at h1; cases h1
  | dic xs => obtain ⟨vs, h1, _⟩ := h; rw [e] at h1; cases h1
  | ins c fs => obtain ⟨C, dx, vs, h1, _⟩ := h; rw [e] at h1; cases h1
def wY3 : HO → Prop
  | .tbl _ => True
  | .ext _ => True
  | _ => False
theorem OH.soft {K : PySem.W.Frag} {F H : Hp} {Z : Addr → Prop} {a : Addr} {o : Ob} (h : OH K F H Z a o) : ∃ u, H a = some u ∧ ¬ wY3 u := by
  cases o with
  | lst xs => obtain ⟨vs, h1, _⟩ := h; exact ⟨_, h1, fun z => z⟩
  | dic xs => obtain ⟨vs, h1, _⟩ := h; exact ⟨_, h1, fun z => z⟩
  | ins c fs => obtain ⟨C, dx, vs, h1, _⟩ := h; exact ⟨_, h1, fun z => z⟩
structure HInv where
  P : Hp → Prop
  st : ∀ H H' : Hp, P H → (∀ b o, H b = some o → wY3 o → H' b = some o) → P H'
def HInv.and (A B : HInv) : HInv := ⟨fun H => A.P H ∧ B.P H, fun H H' h e => ⟨A.st H H' h.1 e, B.st H H' h.2 e⟩⟩
structure CInv where
  P : Hp → Prop
  st : ∀ H H' : Hp, P H → (∀ b p, H b = some (.ext p) → H' b = some (.ext p)) → P H'
def CInv.toH (T : CInv) : HInv := ⟨T.P, fun H H' h e => T.st H H' h fun b p q => e b _ q trivial⟩
def CInv.and (A B : CInv) : CInv := ⟨fun H => A.P H ∧ B.P H, fun H H' h e => ⟨A.st H H' h.1 e, B.st H H' h.2 e⟩⟩
def T0 : CInv := ⟨fun _ => True, fun _ _ _ _ => trivial⟩
theorem HInv.go (T : HInv) {H H' : Hp} (h : T.P H) (e : ∀ b o, H b = some o → H' b = some o) : T.P H' := T.st H H' h fun b o q _ => e b o q
theorem HInv.up (T : HInv) {H : Hp} {a : Addr} {o u : HO} (h : T.P H) (e : H a = some o) (n : ¬ wY3 o) : T.P (upd H a u) := T.st H _ h fun b v q k => by
  by_cases z : b = a
  · subst z
    rw [e] at q
    cases q
    exact absurd k n
  · rw [upd_ne z]
    exact q
theorem HInv.us (T : HInv) {H : Hp} {a : Addr} {u : HO} (h : T.P H) (e : ∃ o, H a = some o ∧ ¬ wY3 o) : T.P (upd H a u) := by
  obtain ⟨o, e1, e2⟩ := e
  exact T.up h e1 e2
structure Wd where
  F : Hp
  ro : List Addr
  m : Mem
  sg : L2.St
  H : Hp
  Z : Addr → Prop
  T : CInv
def Own (w : Wd) (a : Addr) : Prop := ∃ (i : Nat) (o : Ob), w.m.sl[i]? = some (some (SV.ob o)) ∧ w.sg[i]? = some (some (V.ref a))
def RS (K : PySem.W.Frag) (w : Wd) : SV → V → Prop
  | .d x, v => R K w.F x v
  | .ob o, v => ∃ a, v = .ref a ∧ OH K w.F w.H w.Z a o ∧ w.F a = none ∧ a ∉ w.ro ∧ ¬ w.Z a
  | .cell n, v => ∃ a, v = .ref a ∧ w.ro[n]? = some a
  | .thk t, v => v = .ref t.f ∧ t.P w.F w.ro ∧ ∀ H, w.T.P H → H t.c = some (LamX.CodeO t.c t.q)
def zGp : List Str := ["law", "_law_names_right", "_law_right", "_law_asks", "_law_prices_right", "_law_told", "_law_tried_right", "_law_at_right", "_law_did", "_law_unlike_right", "_law_trials_right", "_law_left_out_right", "_law_back", "_law_tabled", "_law_place_right", "_law_wish_right", "_law_deed", "_law_due", "_law_wide_right", "_law_begun", "_law_kept_right", "_law_call_right", "_law_run_right"]
def vJs (x : Str) : Str := x ++ ".<locals>." ++ "<lambda>"
def xWw (K : PySem.W.Frag) : List (Addr × Str) := zGp.filterMap fun x => (PySem.W.tabIn K x).map fun p => (p.2, vJs x)
def TOf (K : PySem.W.Frag) : HInv := ⟨fun H => LamX.Tabs (xWw K) H, fun H H' h e p hp => by
  obtain ⟨ps, h1, h2, h3⟩ := h p hp
  refine ⟨ps, e _ _ h1 trivial, h2, fun pos cv hc => ?_⟩
  obtain ⟨c, e1, e2⟩ := h3 pos cv hc
  exact ⟨c, e1, e _ _ e2 trivial⟩⟩
def TK (K : PySem.W.Frag) (w : Wd) : HInv := w.T.toH.and (TOf K)
def TB (K : PySem.W.Frag) (w : Wd) : Prop := (TK K w).P w.H ∧ (∀ b ps, w.F b ≠ some (.tbl ps)) ∧ ∀ b ps, w.H b = some (.tbl ps) → ∃ q, (b, q) ∈ xWw K
theorem yKl {K : PySem.W.Frag} {H : Hp} {a : Addr} {u : HO} (h : ∀ b ps, H b = some (.tbl ps) → ∃ q, (b, q) ∈ xWw K) (n : ∀ ps, u ≠ .tbl ps) : ∀ b ps, upd H a u b = some (.tbl ps) → ∃ q, (b, q) ∈ xWw K := fun b ps e => by
  by_cases z : b = a
  · subst z
    rw [upd_same] at e
    exact absurd (Option.some.inj e) (n ps)
  · rw [upd_ne z] at e
    exact h b ps e
theorem xQu {t : Thk} {F F' : Hp} {ro ro' : List Addr} (h : t.P F ro) (s : Same F F') (p : ∃ u, ro' = ro ++ u := by exact ⟨[], (List.append_nil _).symm⟩) : t.P F' ro' := t.mono F F' ro ro' (fun b o e => s b o e) p h
theorem wJ4 {xs : List V} : ∀ n, HO.lst xs ≠ mkC n := fun n z => by cases z
theorem xVl {xs : List (Key × V)} : ∀ n, HO.dK xs ≠ mkC n := fun n z => by cases z
theorem xX9 {C d : Addr} {xs : List (Str × V)} : ∀ n, HO.ins C d xs ≠ mkC n := fun n z => by cases z
theorem wJ3 {d : Addr} : ∀ n, HO.own d ≠ mkC n := fun n z => by cases z
structure Rep (K : PySem.W.Frag) (w : Wd) : Prop where
  sub : yZn w.F w.H
  le : w.m.sl.length ≤ w.sg.length
  sl : ∀ (i : Nat) (v : SV), w.m.sl[i]? = some (some v) → ∃ x, w.sg[i]? = some (some x) ∧ RS K w v x
  cs : ∀ (n : Nat) (o : Ob), w.m.cs[n]? = some o → ∃ a, w.ro[n]? = some a ∧ OH K w.F w.H (fun _ => False) a o
  ln : w.m.cs.length = w.ro.length
  rf : ∀ n a, w.ro[n]? = some a → w.F a = some (mkC n) ∨ w.F a = none ∧ ∃ c fs, w.m.cs[n]? = some (.ins c fs)
  rk : ∀ n a, w.F a = some (mkC n) → w.ro[n]? = some a
  nd : w.ro.Nodup
  ow : ∀ (i j : Nat) (xs ys : Ob) (x : V), w.m.sl[i]? = some (some (SV.ob xs)) → w.m.sl[j]? = some (some (SV.ob ys)) → w.sg[i]? = some (some x) → w.sg[j]? = some (some x) → i = j
  zl : ∀ a, w.Z a → w.H a ≠ none
  oo : ∀ d a, w.H d = some (.own a) → ∃ C vs, w.H a = some (.ins C d vs)
  tb : TB K w
theorem Rep.roLive {K : PySem.W.Frag} {w : Wd} (r : Rep K w) {a : Addr} (h : a ∈ w.ro) : w.H a ≠ none := by
  obtain ⟨n, hn⟩ := List.mem_iff_getElem?.mp h
  have hl : n < w.m.cs.length := by
    rw [r.ln]
    exact (List.getElem?_eq_some_iff.mp hn).1
  obtain ⟨b, h1, h2⟩ := r.cs n _ (List.getElem?_eq_getElem hl)
  rw [hn] at h1
  cases h1
  obtain ⟨u, hu⟩ := h2.live
  rw [hu]
  simp
theorem Rep.ownAt {K : PySem.W.Frag} {w : Wd} (r : Rep K w) {a : Addr} (h : Own w a) : w.H a ≠ none ∧ w.F a = none ∧ a ∉ w.ro ∧ ¬ w.Z a := by
  obtain ⟨i, xs, h1, h2⟩ := h
  obtain ⟨x, h3, b, h4, h5, h6, h7, h8⟩ := r.sl i _ h1
  rw [h2] at h3
  cases h3
  cases h4
  obtain ⟨u, hu⟩ := h5.live
  exact ⟨by rw [hu]; simp, h6, h7, h8⟩
theorem Rep.noOwnDict {K : PySem.W.Frag} {w : Wd} (r : Rep K w) {a d : Addr} (h : w.H d = some (.own a)) : d ∉ w.ro ∧ ¬ Own w d := by
  refine ⟨fun hm => ?_, fun ⟨i, xs, h1, h2⟩ => ?_⟩
  · obtain ⟨n, hn⟩ := List.mem_iff_getElem?.mp hm
    have hl : n < w.m.cs.length := by
      rw [r.ln]
      exact (List.getElem?_eq_some_iff.mp hn).1
    obtain ⟨b, h1, h2⟩ := r.cs n _ (List.getElem?_eq_getElem hl)
    rw [hn] at h1
    cases h1
    exact h2.noOwn h
  · obtain ⟨x, h3, b, h4, h5, _⟩ := r.sl i _ h1
    rw [h2] at h3
    cases h3
    cases h4
    exact h5.noOwn h

structure FolE (w w' : Wd) : Prop where
  z : w'.Z = w.Z
  t : w'.T = w.T
  ext : Same w.F w'.F
  pre : ∃ t, w'.ro = w.ro ++ t
  frm : ∀ a o, w.H a = some o → a ∉ w.ro → (∀ ps, o ≠ .tbl ps) → w'.H a = some o
  new : ∀ a, a ∈ w'.ro → a ∈ w.ro ∨ w.H a = none
  liv : ∀ a, w.H a ≠ none → w'.H a ≠ none
  grow : ∀ a, w'.F a ≠ none → w.F a ≠ none ∨ ¬ w.Z a
  own : ∀ a, Own w' a → Own w a
structure FolS (w w' : Wd) : Prop where
  z : w'.Z = w.Z
  t : w'.T = w.T
  ext : Same w.F w'.F
  pre : ∃ t, w'.ro = w.ro ++ t
  frm : ∀ a o, w.H a = some o → a ∉ w.ro → w.Z a → (∀ ps, o ≠ .tbl ps) → w'.H a = some o
  new : ∀ a, a ∈ w'.ro → a ∈ w.ro ∨ ¬ w.Z a
  liv : ∀ a, w.H a ≠ none → w'.H a ≠ none
  grow : ∀ a, w'.F a ≠ none → w.F a ≠ none ∨ ¬ w.Z a
theorem FolE.s {K : PySem.W.Frag} {w w' : Wd} (r : Rep K w) (f : FolE w w') : FolS w w' := ⟨f.z, f.t, f.ext, f.pre, fun a o h n _ k => f.frm a o h n k, fun a h => (f.new a h).imp id fun q z => r.zl a z q, f.liv, f.grow⟩
theorem FolE.refl (w : Wd) : FolE w w := ⟨rfl, rfl, Same.refl _, ⟨[], (List.append_nil _).symm⟩, fun _ _ h _ _ => h, fun _ h => .inl h, fun _ h => h, fun _ h => .inl h, fun _ h => h⟩
theorem FolS.refl (w : Wd) : FolS w w := ⟨rfl, rfl, Same.refl _, ⟨[], (List.append_nil _).symm⟩, fun _ _ h _ _ _ => h, fun _ h => .inl h, fun _ h => h, fun _ h => .inl h⟩
theorem zHz {α : Type} {o : Option α} {a : α} (h : o = some a) : o ≠ none := by
  rw [h]
  simp
theorem FolE.trans {w w1 w2 : Wd} (f : FolE w w1) (g : FolE w1 w2) : FolE w w2 := by
  have nr : ∀ a, w.H a ≠ none → a ∉ w.ro → a ∉ w1.ro := fun a h n q => (f.new a q).elim n h
  refine ⟨g.z.trans f.z, g.t.trans f.t, f.ext.trans g.ext, ?_, fun a o h n k => g.frm a o (f.frm a o h n k) (nr a (zHz h) n) k, fun a h => ?_, fun a h => g.liv a (f.liv a h), fun a h => ?_, fun a h => f.own a (g.own a h)⟩
  · obtain ⟨t, e⟩ := f.pre
    obtain ⟨u, e2⟩ := g.pre
    exact ⟨t ++ u, by rw [e2, e, List.append_assoc]⟩
  · rcases g.new a h with q | q
    · exact f.new a q
    · exact .inr (Classical.byContradiction fun z => f.liv a z q)
  · rcases g.grow a h with q | q
    · exact f.grow a q
    · rw [f.z] at q
      exact .inr q
theorem FolS.trans {w w1 w2 : Wd} (f : FolS w w1) (g : FolS w1 w2) : FolS w w2 := by
  refine ⟨g.z.trans f.z, g.t.trans f.t, f.ext.trans g.ext, ?_, fun a o h n z k => g.frm a o (f.frm a o h n z k) (fun q => (f.new a q).elim n fun k => k z) (by rw [f.z]; exact z) k, fun a h => ?_, fun a h => g.liv a (f.liv a h), fun a h => ?_⟩
  · obtain ⟨t, e⟩ := f.pre
    obtain ⟨u, e2⟩ := g.pre
    exact ⟨t ++ u, by rw [e2, e, List.append_assoc]⟩
  · rcases g.new a h with q | q
    · exact f.new a q
    · rw [f.z] at q
      exact .inr q
  · rcases g.grow a h with q | q
    · exact f.grow a q
    · rw [f.z] at q
      exact .inr q
theorem FolE.at {w w' : Wd} (f : FolE w w') {n : Nat} {a : Addr} (h : w.ro[n]? = some a) : w'.ro[n]? = some a := by
  obtain ⟨t, e⟩ := f.pre
  rw [e, List.getElem?_append_left (List.getElem?_eq_some_iff.mp h).1]
  exact h
theorem FolS.at {w w' : Wd} (f : FolS w w') {n : Nat} {a : Addr} (h : w.ro[n]? = some a) : w'.ro[n]? = some a := by
  obtain ⟨t, e⟩ := f.pre
  rw [e, List.getElem?_append_left (List.getElem?_eq_some_iff.mp h).1]
  exact h

def RE (K : PySem.W.Frag) (w : Wd) : EV → V → Prop
  | .d x, v => R K w.F x v
  | .new o, v => ∃ a, v = .ref a ∧ OH K w.F w.H w.Z a o ∧ w.F a = none ∧ a ∉ w.ro ∧ ¬ w.Z a ∧ ¬ Own w a
  | .pk i o, v => w.m.sl[i]? = some (some (SV.ob o)) ∧ w.sg[i]? = some (some v)
  | .cell n, v => ∃ a, v = .ref a ∧ w.ro[n]? = some a
inductive OV where
  | d (x : PyData)
  | cell (n : Nat)
def zHc : EV → OV
  | .d x => .d x
  | .new o => .d (dOf o)
  | .pk _ o => .d (dOf o)
  | .cell n => .cell n
def RO (K : PySem.W.Frag) (w : Wd) : OV → V → Prop
  | .d x, v => R K w.F x v ∨ ∃ a o, x = dOf o ∧ v = .ref a ∧ OH K w.F w.H (fun _ => False) a o ∧ a ∉ w.ro
  | .cell n, v => ∃ a, v = .ref a ∧ w.ro[n]? = some a
theorem OH.any {K : PySem.W.Frag} {F H : Hp} {Z : Addr → Prop} {a : Addr} {o : Ob} (h : OH K F H Z a o) : OH K F H (fun _ => False) a o := h.keep (Same.refl _) (fun _ z => z) (fun _ z => z) fun _ _ z => z.elim
theorem RE.ro {K : PySem.W.Frag} {w : Wd} (r : Rep K w) : ∀ {v : EV} {x : V}, RE K w v x → RO K w (zHc v) x
  | .d _, _, h => .inl h
  | .new o, _, ⟨a, e, h, _, n, _, _⟩ => .inr ⟨a, o, rfl, e, h.any, n⟩
  | .pk i o, _, ⟨h1, h2⟩ => by
    obtain ⟨x, h3, a, e, h, _, n, _⟩ := r.sl i _ h1
    rw [h2] at h3
    cases h3
    exact .inr ⟨a, o, rfl, e, h.any, n⟩
  | .cell _, _, h => h
theorem RO.fol {K : PySem.W.Frag} {w w' : Wd} (r : Rep K w) (f : FolE w w') : ∀ {v : OV} {x : V}, RO K w v x → RO K w' v x
  | .d _, _, .inl h => .inl (h.mono f.ext)
  | .d _, _, .inr ⟨a, o, e1, e2, h, n⟩ => .inr ⟨a, o, e1, e2, h.keep f.ext (fun u z => f.frm _ _ z n (h.ntbl z)) (fun d z => f.frm _ _ z (r.noOwnDict z).1 (by intro _ q; cases q)) (fun _ _ z => z), fun q => (f.new a q).elim n (by obtain ⟨u, hu⟩ := h.live; exact zHz hu)⟩
  | .cell _, _, ⟨a, e, h⟩ => ⟨a, e, f.at h⟩
def lk : OV → Mem → Option PyData
  | .d x, _ => some x
  | .cell n, m => m.cs[n]?.map dOf
def look {α : Type} (o : OV) (k : PyData → Pg α) : Pg α := fun m => match lk o m with
  | some x => k x m
  | none => .bad
def RN (K : PySem.W.Frag) (w : Wd) (x : PyData) (v : V) : Prop := R K w.F x v ∨ ∃ a o, x = dOf o ∧ v = .ref a ∧ OH K w.F w.H (fun _ => False) a o
theorem RO.rn {K : PySem.W.Frag} {w : Wd} (r : Rep K w) : ∀ {o : OV} {v : V} {x : PyData}, RO K w o v → lk o w.m = some x → RN K w x v
  | .d y, v, x, h, e => by
    cases e
    rcases h with h | ⟨a, o, e1, e2, h, _⟩
    · exact .inl h
    · exact .inr ⟨a, o, e1, e2, h⟩
  | .cell n, v, x, ⟨a, e1, e2⟩, e => by
    have e : w.m.cs[n]?.map dOf = some x := e
    cases ec : w.m.cs[n]? with
    | none =>
      rw [ec] at e
      cases e
    | some o =>
      rw [ec] at e
      cases e
      obtain ⟨b, h1, h2⟩ := r.cs n o ec
      rw [e2] at h1
      cases h1
      exact .inr ⟨a, o, rfl, e1, h2⟩
theorem zJe {α : Type} {o : OV} {k : PyData → Pg α} {m : Mem} {P : α → Mem → Prop} {E : Exn → Mem → Prop} (h : (look o k m).wp P E) : ∃ x, lk o m = some x ∧ (k x m).wp P E := by
  unfold look at h
  cases e : lk o m with
  | none =>
    rw [e] at h
    exact h.elim
  | some x =>
    rw [e] at h
    exact ⟨x, rfl, h⟩
theorem yUm : ∀ {fs gs : List (Str × PyData)}, zZr fs = zZr gs → fs = gs
  | [], [], _ => rfl
  | [], _ :: _, h => by simp [zZr] at h
  | _ :: _, [], h => by simp [zZr] at h
  | (k, d) :: fs, (k', d') :: gs, h => by
    simp only [zZr, List.map_cons, List.cons.injEq, Prod.mk.injEq, PyData.str.injEq] at h
    obtain ⟨⟨e1, e2⟩, h⟩ := h
    rw [e1, e2, yUm h]
section
variable {K : PySem.W.Frag} {w : Wd} {v : V}
theorem RN.non (h : RN K w .none v) : v = .non := by
  rcases h with h | ⟨_, o, e, _⟩
  · cases h; rfl
  · cases o <;> cases e
theorem RN.bl {b : Bool} (h : RN K w (.bool b) v) : v = .bl b := by
  rcases h with h | ⟨_, o, e, _⟩
  · cases h; rfl
  · cases o <;> cases e
theorem RN.int {i : Int} (h : RN K w (.int i) v) : v = .int i := by
  rcases h with h | ⟨_, o, e, _⟩
  · cases h; rfl
  · cases o <;> cases e
theorem RN.str {i : Str} (h : RN K w (.str i) v) : v = .str i := by
  rcases h with h | ⟨_, o, e, _⟩
  · cases h; rfl
  · cases o <;> cases e
theorem RN.tup {xs : List PyData} (h : RN K w (.tuple xs) v) : ∃ a vs, v = .ref a ∧ SqT K w.F a vs ∧ RA K w.F xs vs := by
  rcases h with h | ⟨_, o, e, _⟩
  · cases h with
    | tup h a => exact ⟨_, _, rfl, h, a⟩
  · cases o <;> cases e
theorem RN.lst {xs : List PyData} (s : yZn w.F w.H) (h : RN K w (.list xs) v) : ∃ a vs, v = .ref a ∧ LQ K w.H a vs ∧ RA K w.F xs vs := by
  rcases h with h | ⟨a, o, e, ev, h⟩
  · cases h with
    | lst h a => exact ⟨_, _, rfl, h.mox s, a⟩
  · cases o with
    | lst ys =>
      cases e
      obtain ⟨vs, h1, h2⟩ := h
      exact ⟨a, vs, ev, .of h1, h2⟩
    | dic es => cases e
    | ins c fs => cases e
theorem RN.dic {es : List (PyData × PyData)} (s : yZn w.F w.H) (h : RN K w (.dict es) v) (p : zZi es = true) : ∃ a kvs, v = .ref a ∧ w.H a = some (.dK kvs) ∧ RK K w.F es kvs := by
  rcases h with h | ⟨a, o, e, ev, h⟩
  · obtain ⟨a, kvs, e, h1, h2⟩ := h.dict p
    exact ⟨a, kvs, e, s _ _ h1 xVl, h2⟩
  · cases o with
    | lst ys => cases e
    | dic es =>
      cases e
      obtain ⟨vs, h1, h2⟩ := h
      exact ⟨a, vs, ev, h1, h2⟩
    | ins c fs =>
      cases e
      simp [zZi, yXj] at p
theorem RN.ins {c : Str} {fs : List (Str × PyData)} (s : yZn w.F w.H) (h : RN K w (yWq c fs) v) : ∃ a C dx vs, v = .ref a ∧ yQx K c C ∧ w.H a = some (.ins C dx vs) ∧ RF K w.F (zZr fs) vs := by
  rcases h with h | ⟨a, o, e, ev, h⟩
  · unfold yWq at h
    cases h with
    | dic h1 h2 =>
      have := h2.plain
      simp [zZi, yXj] at this
    | ins n h1 h2 h3 => exact ⟨_, _, _, _, rfl, n, s _ _ h1 xX9, h3⟩
  · cases o with
    | lst ys => cases e
    | dic es =>
      obtain ⟨vs, h1, h2⟩ := h
      have e : yWq c fs = .dict es := e
      unfold yWq at e
      cases e
      have := h2.plain
      simp [zZi, yXj] at this
    | ins c' fs' =>
      have e : yWq c fs = yWq c' fs' := e
      unfold yWq at e
      simp only [PyData.dict.injEq, List.cons.injEq, Prod.mk.injEq, PyData.str.injEq, true_and] at e
      obtain ⟨e1, e2⟩ := e
      have e2 := yUm e2
      subst e1 e2
      obtain ⟨C, dx, vs, h1, h2, h3, h4, h5⟩ := h
      exact ⟨a, C, dx, vs, ev, h4, h1, h5⟩
end

abbrev XBt := Exn → Wd → Prop
def XW (K : PySem.W.Frag) (B : XBt) (w : Wd) : Exn → Mem → Prop := fun x m' => ∀ w' : Wd, w'.m = m' → FolS w w' → Rep K w' → B x w'
theorem XW.fol {K : PySem.W.Frag} {B : XBt} {w w1 : Wd} (f : FolS w w1) {x : Exn} {m : Mem} (h : XW K B w x m) : XW K B w1 x m := fun w' e g r => h w' e (f.trans g) r
def WE (X : Cx) (e : Expr) : TE := fun sg H Q => Cl (∀ (pins : List (Addr × Obj)) (s : Shared), L2.Inv X pins sg H s → wpAny (model X.prog X.w) X.A (eval e X.env) (EP X pins sg Q) X.xe s)
def WT (X : Cx) (e : Expr) : TT := fun sg H Q => Cl (∀ (pins : List (Addr × Obj)) (s : Shared), L2.Inv X pins sg H s → wpAny (model X.prog X.w) X.A (isTrue e X.env (eval e X.env)) (TP X pins sg Q) X.xe s)
def WA (X : Cx) (es : List Expr) : TA := fun sg H Q => Cl (∀ (pos : Pos) (pins : List (Addr × Obj)) (s : Shared), L2.Inv X pins sg H s → wpAny (model X.prog X.w) X.A (spliced (backTo pos (starEach es X.env))) (AP X pins sg Q) X.xe s)
def WS (X : Cx) (st : Stmt) : TS := fun D sg H => Cl (∀ (pins : List (Addr × Obj)) (s : Shared), L2.Inv X pins sg H s → wpAny (model X.prog X.w) X.A (exec st X.env) (SP X pins D) X.xe s)
def WB (X : Cx) (sts : List Stmt) : TS := fun D sg H => Cl (∀ (pins : List (Addr × Obj)) (s : Shared), L2.Inv X pins sg H s → wpAny (model X.prog X.w) X.A (execs sts X.env) (SP X pins D) X.xe s)
theorem zHk {X : Cx} {e : Expr} : PE X e (WE X e) := ⟨fun pins s _ _ _ I h => h.go pins s I⟩
theorem wZt {X : Cx} {e : Expr} : PT X e (WT X e) := ⟨fun pins s _ _ _ I h => h.go pins s I⟩
theorem xY2 {X : Cx} {es : List Expr} : PA X es (WA X es) := ⟨fun pos pins s _ _ _ I h => h.go pos pins s I⟩
theorem vJf {X : Cx} {st : Stmt} : PS X st (WS X st) := ⟨fun pins s _ _ _ I h => h.go pins s I⟩
theorem wKd {X : Cx} {sts : List Stmt} : PSs X sts (WB X sts) := ⟨fun pins s _ _ _ I h => h.go pins s I⟩
theorem zUx {X : Cx} {e : Expr} {t : TE} (h : PE X e t) {sg : L2.St} {H : Hp} {Q : VK} (q : t sg H Q) : WE X e sg H Q := ⟨fun pins s I => h.run pins s sg H Q I q⟩
theorem xHh {X : Cx} {e : Expr} {t : TT} (h : PT X e t) {sg : L2.St} {H : Hp} {Q : Bool → Hp → Prop} (q : t sg H Q) : WT X e sg H Q := ⟨fun pins s I => h.run pins s sg H Q I q⟩
theorem xKm {X : Cx} {es : List Expr} {t : TA} (h : PA X es t) {sg : L2.St} {H : Hp} {Q : List V → Hp → Prop} (q : t sg H Q) : WA X es sg H Q := ⟨fun pos pins s I => h.run pos pins s sg H Q I q⟩
theorem yJz {X : Cx} {st : Stmt} {t : TS} (h : PS X st t) {D : Ends} {sg : L2.St} {H : Hp} (q : t D sg H) : WS X st D sg H := ⟨fun pins s I => h.run pins s sg H D I q⟩
theorem wXv {X : Cx} {sts : List Stmt} {t : TS} (h : PSs X sts t) {D : Ends} {sg : L2.St} {H : Hp} (q : t D sg H) : WB X sts D sg H := ⟨fun pins s I => h.run pins s sg H D I q⟩

def zYh (K : PySem.W.Frag) (w : Wd) (Q : VK) : EV → Mem → Prop := fun v m' => ∀ (w' : Wd) (x : V), w'.m = m' → w'.sg = w.sg → FolE w w' → Rep K w' → RE K w' v x → Q x w'.H
def wV6 (K : PySem.W.Frag) (w : Wd) (Q : Bool → Hp → Prop) : Bool → Mem → Prop := fun b m' => ∀ (w' : Wd), w'.m = m' → w'.sg = w.sg → FolE w w' → Rep K w' → Q b w'.H
def Snd (X : Cx) (B : XBt) (e : Expr) (f : Pg EV) : Prop := ∀ (w : Wd) (Q : VK), Rep X.K w → (f w.m).wp (zYh X.K w Q) (XW X.K B w) → WE X e w.sg w.H Q
def xKk (X : Cx) (B : XBt) (e : Expr) (f : Pg Bool) : Prop := ∀ (w : Wd) (Q : Bool → Hp → Prop), Rep X.K w → (f w.m).wp (wV6 X.K w Q) (XW X.K B w) → WT X e w.sg w.H Q
def wY2 (K : PySem.W.Frag) (w : Wd) (Q : List V → Hp → Prop) : List OV → Mem → Prop := fun vs m' => ∀ (w' : Wd) (xs : List V), w'.m = m' → w'.sg = w.sg → FolE w w' → Rep K w' → Paired (RO K w') vs xs → Q xs w'.H
def wXp (X : Cx) (B : XBt) (es : List Expr) (f : Pg (List OV)) : Prop := ∀ (w : Wd) (Q : List V → Hp → Prop), Rep X.K w → (f w.m).wp (wY2 X.K w Q) (XW X.K B w) → WA X es w.sg w.H Q
inductive AV where
  | d (x : PyData)
  | cell (n : Nat)
def RV (K : PySem.W.Frag) (w : Wd) : AV → V → Prop
  | .d x, v => R K w.F x v
  | .cell n, v => ∃ a, v = .ref a ∧ w.ro[n]? = some a
theorem RV.fol {K : PySem.W.Frag} {w w' : Wd} (f : FolE w w') : ∀ {v : AV} {x : V}, RV K w v x → RV K w' v x
  | .d _, _, h => R.mono f.ext h
  | .cell _, _, ⟨a, e, h⟩ => ⟨a, e, f.at h⟩
def xG0 (K : PySem.W.Frag) (w : Wd) (Q : List V → Hp → Prop) : List AV → Mem → Prop := fun vs m' => ∀ (w' : Wd) (xs : List V), w'.m = m' → w'.sg = w.sg → FolE w w' → Rep K w' → Paired (RV K w') vs xs → Q xs w'.H
def xKl (X : Cx) (B : XBt) (es : List Expr) (f : Pg (List AV)) : Prop := ∀ (w : Wd) (Q : List V → Hp → Prop), Rep X.K w → (f w.m).wp (xG0 X.K w Q) (XW X.K B w) → WA X es w.sg w.H Q
inductive Fl where
  | next
  | brk
  | cont
  | ret (v : EV)
def yQw (K : PySem.W.Frag) (w : Wd) (D : Ends) : Fl → Mem → Prop := fun f m' => ∀ (w' : Wd), w'.m = m' → FolS w w' → Rep K w' → match f with
  | .next => D.nx w'.sg w'.H
  | .brk => D.bk w'.sg w'.H
  | .cont => D.ct w'.sg w'.H
  | .ret v => ∀ x, RE K w' v x → D.rt x w'.H
def xXi (X : Cx) (B : XBt) (st : Stmt) (f : Pg Fl) : Prop := ∀ (w : Wd) (D : Ends), Rep X.K w → (f w.m).wp (yQw X.K w D) (XW X.K B w) → WS X st D w.sg w.H
def xGz (X : Cx) (B : XBt) (sts : List Stmt) (f : Pg Fl) : Prop := ∀ (w : Wd) (D : Ends), Rep X.K w → (f w.m).wp (yQw X.K w D) (XW X.K B w) → WB X sts D w.sg w.H

theorem zQ0 {X : Cx} {B : XBt} {e : Expr} {f : Pg EV} {α : Type} {g : EV → Pg α} {P : α → Mem → Prop} {w : Wd} {Q : VK} (h : Snd X B e f) (r : Rep X.K w) (hw : (Pg.bind f g w.m).wp P (XW X.K B w))
    (next : ∀ (v : EV) (w' : Wd) (x : V), w'.sg = w.sg → FolE w w' → Rep X.K w' → RE X.K w' v x → (g v w'.m).wp P (XW X.K B w') → Q x w'.H) : WE X e w.sg w.H Q := by
  refine h w Q r ((wp_bind hw).imp (fun v m' q w' x e1 e2 f r' re => ?_) fun _ _ q => q)
  subst e1
  exact next v w' x e2 f r' re (q.imp (fun _ _ z => z) fun _ _ z => z.fol (f.s r))
theorem yZy {X : Cx} {B : XBt} {e : Expr} {f : Pg Bool} {α : Type} {g : Bool → Pg α} {P : α → Mem → Prop} {w : Wd} {Q : Bool → Hp → Prop} (h : xKk X B e f) (r : Rep X.K w) (hw : (Pg.bind f g w.m).wp P (XW X.K B w))
    (next : ∀ (v : Bool) (w' : Wd), w'.sg = w.sg → FolE w w' → Rep X.K w' → (g v w'.m).wp P (XW X.K B w') → Q v w'.H) : WT X e w.sg w.H Q := by
  refine h w Q r ((wp_bind hw).imp (fun v m' q w' e1 e2 f r' => ?_) fun _ _ q => q)
  subst e1
  exact next v w' e2 f r' (q.imp (fun _ _ z => z) fun _ _ z => z.fol (f.s r))
theorem yYl {X : Cx} {B : XBt} {es : List Expr} {f : Pg (List OV)} {α : Type} {g : List OV → Pg α} {P : α → Mem → Prop} {w : Wd} {Q : List V → Hp → Prop} (h : wXp X B es f) (r : Rep X.K w) (hw : (Pg.bind f g w.m).wp P (XW X.K B w))
    (next : ∀ (v : List OV) (w' : Wd) (xs : List V), w'.sg = w.sg → FolE w w' → Rep X.K w' → Paired (RO X.K w') v xs → (g v w'.m).wp P (XW X.K B w') → Q xs w'.H) : WA X es w.sg w.H Q := by
  refine h w Q r ((wp_bind hw).imp (fun v m' q w' x e1 e2 f r' re => ?_) fun _ _ q => q)
  subst e1
  exact next v w' x e2 f r' re (q.imp (fun _ _ z => z) fun _ _ z => z.fol (f.s r))
theorem zUz {X : Cx} {B : XBt} {es : List Expr} {f : Pg (List AV)} {α : Type} {g : List AV → Pg α} {P : α → Mem → Prop} {w : Wd} {Q : List V → Hp → Prop} (h : xKl X B es f) (r : Rep X.K w) (hw : (Pg.bind f g w.m).wp P (XW X.K B w))
    (next : ∀ (v : List AV) (w' : Wd) (xs : List V), w'.sg = w.sg → FolE w w' → Rep X.K w' → Paired (RV X.K w') v xs → (g v w'.m).wp P (XW X.K B w') → Q xs w'.H) : WA X es w.sg w.H Q := by
  refine h w Q r ((wp_bind hw).imp (fun v m' q w' x e1 e2 f r' re => ?_) fun _ _ q => q)
  subst e1
  exact next v w' x e2 f r' re (q.imp (fun _ _ z => z) fun _ _ z => z.fol (f.s r))
end Ev

namespace Ev
open PySem PySem.Spec PyProof.Rows L2

theorem OH.lay {K : PySem.W.Frag} {F H : Hp} {Z : Addr → Prop} {a p : Addr} {o : Ob} {u : HO} (h : OH K F H Z a o) (hp : H p = none) : OH K F (upd H p u) Z a o :=
  h.keep (Same.refl _) (fun u z => by rw [upd_ne (ne_of_none z hp)]; exact z) (fun d z => by rw [upd_ne (ne_of_none z hp)]; exact z) fun _ _ z => z
theorem lay {K : PySem.W.Frag} {w : Wd} (r : Rep K w) {p : Addr} (hp : w.H p = none) (o : HO) (hno : ∀ a, o ≠ .own a := by intro _ z; first | cases z | (unfold excO at z; cases z)) (hnt : ∀ ps, o ≠ .tbl ps := by intro _ z; first | cases z | (unfold excO at z; cases z)) : Rep K { w with H := upd w.H p o } ∧ FolE w { w with H := upd w.H p o } := by
  have up : ∀ {a : Addr} {u : HO}, w.H a = some u → upd w.H p o a = some u := fun {a u} h => by
    rw [upd_ne (ne_of_none h hp)]
    exact h
  have liv : ∀ a, w.H a ≠ none → upd w.H p o a ≠ none := fun a h => by
    cases e : w.H a with
    | none => exact absurd e h
    | some u =>
      rw [up e]
      simp
  refine ⟨⟨fun a u h n => up (r.sub a u h n), r.le, fun i v h => ?_, fun n xs h => ?_, r.ln, r.rf, r.rk, r.nd, r.ow, fun a h => liv a (r.zl a h), fun d a h => ?_, ⟨(TK _ w).go r.tb.1 fun _ _ e => up e, r.tb.2.1, yKl r.tb.2.2 hnt⟩⟩, ⟨rfl, rfl, Same.refl _, ⟨[], (List.append_nil _).symm⟩, fun a u h _ _ => up h, fun a h => .inl h, liv, fun a h => .inl h, fun a h => h⟩⟩
  · obtain ⟨x, h1, h2⟩ := r.sl i v h
    refine ⟨x, h1, ?_⟩
    cases v with
    | d y => exact h2
    | ob ys =>
      obtain ⟨a, e, h, q⟩ := h2
      exact ⟨a, e, h.lay hp, q⟩
    | cell n => exact h2
    | thk t => exact h2
  · obtain ⟨a, h1, h2⟩ := r.cs n xs h
    exact ⟨a, h1, h2.lay hp⟩
  · have h : upd w.H p o d = some (.own a) := h
    by_cases q : d = p
    · rw [q, upd_same] at h
      exact absurd (Option.some.inj h) (hno a)
    · rw [upd_ne q] at h
      obtain ⟨C, vs, e⟩ := r.oo d a h
      exact ⟨C, vs, up e⟩
theorem yYd {F H : Hp} {a : Addr} {u : HO} (s : yZn F H) (h : H a = some u) (hm : ∀ n, F a ≠ some (mkC n)) (hu : ∀ n, u ≠ mkC n) : Same F (upd F a u) ∧ yZn (upd F a u) H ∧ ∀ b n, upd F a u b = some (mkC n) → F b = some (mkC n) := by
  refine ⟨fun b v e => ?_, fun b v e n => ?_, fun b n e => ?_⟩
  · by_cases q : b = a
    · subst q
      have := s _ _ e fun n z => hm n (by rw [show F b = some v from e, z])
      rw [h] at this
      rw [upd_same]
      exact this
    · rw [upd_ne q]
      exact e
  · by_cases q : b = a
    · subst q
      rw [upd_same] at e
      rw [h]
      exact e
    · rw [upd_ne q] at e
      exact s _ _ e n
  · by_cases q : b = a
    · subst q
      rw [upd_same] at e
      exact absurd (Option.some.inj e) (hu n)
    · rw [upd_ne q] at e
      exact e
theorem OH.frozen {K : PySem.W.Frag} {F H : Hp} {Z : Addr → Prop} {a : Addr} {o : Ob} (s : yZn F H) (h : OH K F H Z a o) (hz : ¬ Z a) (hm : ∀ b n, F b = some (mkC n) → b ≠ a ∧ ∀ c, H b ≠ some (.own c)) :
    ∃ F' : Hp, Same F F' ∧ yZn F' H ∧ R K F' (dOf o) (.ref a) ∧ (∀ b, F' b ≠ none → F b ≠ none ∨ ¬ Z b) ∧ (∀ b, F b = none → b ≠ a → (∀ c, H b ≠ some (.own c)) → F' b = none) ∧ (∀ b ps, F' b = some (.tbl ps) → F b = some (.tbl ps)) ∧ ∀ b n, F' b = some (mkC n) → F b = some (mkC n) := by
  have ma : ∀ n, F a ≠ some (mkC n) := fun n z => (hm a n z).1 rfl
  have one : ∀ {u : HO}, H a = some u → (∀ b, upd F a u b ≠ none → F b ≠ none ∨ ¬ Z b) ∧ ∀ b, F b = none → b ≠ a → upd F a u b = none := fun {u} hu => by
    refine ⟨fun b e => ?_, fun b e n => ?_⟩
    · by_cases q : b = a
      · subst q
        exact .inr hz
      · rw [upd_ne q] at e
        exact .inl e
    · rw [upd_ne n]
      exact e
  have nt : ∀ {G : Hp} {p : Addr} {v : HO} {b : Addr} {ps : Array Value}, (∀ qs, v ≠ .tbl qs) → upd G p v b = some (.tbl ps) → G b = some (.tbl ps) := fun {G p v b ps} hv e => by
    by_cases z : b = p
    · subst z
      rw [upd_same] at e
      exact absurd (Option.some.inj e) (hv ps)
    · rw [upd_ne z] at e
      exact e
  cases o with
  | lst xs =>
    obtain ⟨vs, h1, h2⟩ := h
    obtain ⟨s1, s2, s3⟩ := yYd s h1 ma wJ4
    exact ⟨_, s1, s2, .lst (.of upd_same) (h2.mono s1), (one h1).1, fun b e n _ => (one h1).2 b e n, fun b ps e => nt (by intro _ z; cases z) e, s3⟩
  | dic xs =>
    obtain ⟨vs, h1, h2⟩ := h
    obtain ⟨s1, s2, s3⟩ := yYd s h1 ma xVl
    exact ⟨_, s1, s2, .dic upd_same (h2.mono s1), (one h1).1, fun b e n _ => (one h1).2 b e n, fun b ps e => nt (by intro _ z; cases z) e, s3⟩
  | ins c fs =>
    obtain ⟨C, dx, vs, h1, h2, h3, h4, h5⟩ := h
    obtain ⟨s1, s2, s5⟩ := yYd s h1 ma xX9
    obtain ⟨s3, s4, s6⟩ := yYd s2 h2 (fun n z => (hm dx n (s5 dx n z)).2 a h2) wJ3
    have ne : a ≠ dx := fun z => by rw [z, h2] at h1; cases h1
    refine ⟨_, fun b u e => s3 _ _ (s1 _ _ e), s4, .ins h4 (s3 _ _ upd_same) upd_same (h5.mono fun b u e => s3 _ _ (s1 _ _ e)), fun b e => ?_, fun b e n q => ?_, fun b ps e => nt (by intro _ z; cases z) (nt (by intro _ z; cases z) e), fun b n e => s5 b n (s6 b n e)⟩
    · by_cases q : b = dx
      · rw [q]
        exact .inr h3
      · rw [upd_ne q] at e
        exact (one h1).1 b e
    · rw [upd_ne (fun z => q a (by rw [z]; exact h2))]
      exact (one h1).2 b e n
theorem Rep.mk_ne {K : PySem.W.Frag} {w : Wd} (r : Rep K w) {p : Addr} (hr : p ∉ w.ro) : ∀ b n, w.F b = some (mkC n) → b ≠ p ∧ ∀ c, w.H b ≠ some (.own c) := fun b n e => by
  have m := List.mem_of_getElem? (r.rk n b e)
  exact ⟨fun z => hr (z ▸ m), fun c z => (r.noOwnDict z).1 m⟩
theorem Rep.rf_up {K : PySem.W.Frag} {w : Wd} (r : Rep K w) {F' : Hp} (s : Same w.F F') (g : ∀ b, b ∈ w.ro → w.F b = none → F' b = none) : ∀ n a, w.ro[n]? = some a → F' a = some (mkC n) ∨ F' a = none ∧ ∃ c fs, w.m.cs[n]? = some (.ins c fs) := fun n a e => by
  rcases r.rf n a e with q | ⟨q, z⟩
  · exact .inl (s _ _ q)
  · exact .inr ⟨g a (List.mem_of_getElem? e) q, z⟩
theorem fix {K : PySem.W.Frag} {w : Wd} (r : Rep K w) {p : Addr} {o : Ob} (h : OH K w.F w.H w.Z p o) (hf : w.F p = none) (hr : p ∉ w.ro) (hz : ¬ w.Z p) (ho : ¬ Own w p) :
    ∃ F', Rep K { w with F := F' } ∧ FolE w { w with F := F' } ∧ R K F' (dOf o) (.ref p) := by
  obtain ⟨F', s1, s2, rd, g1, g2, g3, g4⟩ := h.frozen r.sub hz (r.mk_ne hr)
  refine ⟨F', ⟨s2, r.le, fun i v h => ?_, fun n xs h => ?_, r.ln, r.rf_up s1 fun a e hn => ?_, fun n a e => r.rk n a (g4 a n e), r.nd, r.ow, r.zl, r.oo, ⟨r.tb.1, fun b ps e => r.tb.2.1 b ps (g3 b ps e), r.tb.2.2⟩⟩, ⟨rfl, rfl, s1, ⟨[], (List.append_nil _).symm⟩, fun a u h _ _ => h, fun a h => .inl h, fun a h => h, g1, fun a h => h⟩, rd⟩
  · obtain ⟨x, h1, h2⟩ := r.sl i v h
    refine ⟨x, h1, ?_⟩
    cases v with
    | d y => exact R.mono s1 h2
    | ob ys =>
      obtain ⟨a, e, h3, h5, h6, h7⟩ := h2
      refine ⟨a, e, h3.keep s1 (fun _ z => z) (fun _ z => z) (fun _ _ z => z), ?_, h6, h7⟩
      subst e
      have oa : Own w a := ⟨i, ys, h, h1⟩
      exact g2 a h5 (fun q => ho (q ▸ oa)) fun c z => (r.noOwnDict z).2 oa
    | cell n => exact h2
    | thk t => exact ⟨h2.1, xQu h2.2.1 s1, h2.2.2⟩
  · obtain ⟨a, h1, h2⟩ := r.cs n xs h
    exact ⟨a, h1, h2.keep s1 (fun _ z => z) (fun _ z => z) (fun _ _ z => z)⟩
  · exact g2 a hn (fun q => hr (q ▸ e)) fun c z => (r.noOwnDict z).1 e
theorem Rep.noF {K : PySem.W.Frag} {w : Wd} (r : Rep K w) {p : Addr} (hp : w.H p = none) : w.F p = none := by
  cases e : w.F p with
  | none => rfl
  | some u =>
    have := r.sub p u e fun n z => r.roLive (List.mem_of_getElem? (r.rk n p (by rw [e, z]))) hp
    rw [hp] at this
    cases this
theorem yGt {K : PySem.W.Frag} {w : Wd} (r : Rep K w) {p : Addr} (hp : w.H p = none) (o : HO) (hno : ∀ a, o ≠ .own a := by intro _ z; first | cases z | (unfold excO at z; cases z)) (hnt : ∀ ps, o ≠ .tbl ps := by intro _ z; first | cases z | (unfold excO at z; cases z)) (hnm : ∀ n, o ≠ mkC n := by intro _ z; first | cases z | (unfold excO at z; cases z)) : Rep K { w with F := upd w.F p o, H := upd w.H p o } ∧ FolE w { w with F := upd w.F p o, H := upd w.H p o } := by
  obtain ⟨r1, f1⟩ := lay r hp o hno hnt
  have no : ¬ Own w p := fun h => (r.ownAt h).1 hp
  have nf := r.noF hp
  have sm : Same w.F (upd w.F p o) := fun a u e => by
    rw [upd_ne (ne_of_none e nf)]
    exact e
  refine ⟨⟨fun a u e n => ?_, r1.le, fun i v h => ?_, fun n xs h => ?_, r1.ln, r.rf_up sm fun a e hn => ?_, fun n a e => r.rk n a ?_, r1.nd, r1.ow, r1.zl, r1.oo, ⟨r1.tb.1, fun b ps e => ?_, r1.tb.2.2⟩⟩, ⟨rfl, rfl, sm, f1.pre, f1.frm, f1.new, f1.liv, fun a e => ?_, f1.own⟩⟩
  · have e : upd w.F p o a = some u := e
    show upd w.H p o a = some u
    by_cases q : a = p
    · subst q
      rw [upd_same] at e ⊢
      exact e
    · rw [upd_ne q] at e ⊢
      exact r.sub a u e n
  · obtain ⟨x, h1, h2⟩ := r1.sl i v h
    refine ⟨x, h1, ?_⟩
    cases v with
    | d y => exact R.mono sm h2
    | ob ys =>
      obtain ⟨a, e, h3, h5, h6⟩ := h2
      refine ⟨a, e, h3.keep sm (fun _ z => z) (fun _ z => z) (fun _ _ z => z), ?_, h6⟩
      show upd w.F p o a = none
      rw [upd_ne (fun q => no (by subst e q; exact ⟨i, ys, h, h1⟩))]
      exact h5
    | cell n => exact h2
    | thk t => exact ⟨h2.1, xQu h2.2.1 sm, h2.2.2⟩
  · obtain ⟨a, h1, h2⟩ := r1.cs n xs h
    exact ⟨a, h1, h2.keep sm (fun _ z => z) (fun _ z => z) (fun _ _ z => z)⟩
  · show upd w.F p o a = none
    rw [upd_ne (fun q : a = p => r.roLive (by rw [← q]; exact e) hp)]
    exact hn
  · have e : upd w.F p o a = some (mkC n) := e
    by_cases q : a = p
    · subst q
      rw [upd_same] at e
      exact absurd (Option.some.inj e) (hnm n)
    · rw [upd_ne q] at e
      exact e
  · have e : upd w.F p o b = some (.tbl ps) := e
    by_cases q : b = p
    · subst q
      rw [upd_same] at e
      exact hnt ps (Option.some.inj e)
    · rw [upd_ne q] at e
      exact r.tb.2.1 b ps e
  · have e : upd w.F p o a ≠ none := e
    by_cases q : a = p
    · subst q
      exact .inr fun z => r.zl _ z hp
    · rw [upd_ne q] at e
      exact .inl e
theorem wVc {K : PySem.W.Frag} {w : Wd} (r : Rep K w) {p : Addr} (hp : w.H p = none) {u : HO} {o : Ob} (h : OH K w.F (upd w.H p u) w.Z p o) : RE K { w with H := upd w.H p u } (.new o) (.ref p) :=
  ⟨p, rfl, h, r.noF hp, fun h => r.roLive h hp, fun h => r.zl p h hp, fun h => (r.ownAt h).1 hp⟩
theorem xZw {K : PySem.W.Frag} {w : Wd} (r : Rep K w) {p : Addr} (hp : w.H p = none) {xs : List PyData} {vs : List V} (h : RA K w.F xs vs) : RE K { w with H := upd w.H p (.lst vs) } (.fresh xs) (.ref p) := wVc r hp ⟨vs, upd_same, h⟩
theorem yK7 {K : PySem.W.Frag} {w : Wd} (r : Rep K w) {p : Addr} (hp : w.H p = none) {xs : List PyData} {vs : List V} (h : RA K w.F xs vs) : RE K { w with F := upd w.F p (.tup vs), H := upd w.H p (.tup vs) } (.d (.tuple xs)) (.ref p) := by
  have f := (yGt r hp (.tup vs)).2
  exact R.tup (.inl (.inl upd_same)) (h.mono f.ext)

def zHd (m : Mem) (i : Nat) (x : PyData) : Mem := { m with sl := m.sl.set i (some (.d x)) }
def toA : EV → Pg AV
  | .d x => .ret (.d x)
  | .new o => .ret (.d (dOf o))
  | .pk i o => fun m => .ok (.d (dOf o)) (zHd m i (dOf o))
  | .cell n => .ret (.cell n)
theorem yHg {α : Type} {l : List α} {i j : Nat} {x y : α} (h : (l.set i x)[j]? = some y) : (j = i ∧ y = x) ∨ (j ≠ i ∧ l[j]? = some y) := by
  by_cases e : i = j
  · subst e
    refine .inl ⟨rfl, ?_⟩
    by_cases q : i < l.length
    · rw [List.getElem?_set_self q] at h
      exact (Option.some.inj h).symm
    · rw [List.getElem?_eq_none (by rw [List.length_set]; omega)] at h
      cases h
  · rw [List.getElem?_set_ne e] at h
    exact .inr ⟨fun q => e q.symm, h⟩
theorem yUj {K : PySem.W.Frag} {w : Wd} (r : Rep K w) {i : Nat} {o : Ob} {x : V} (h1 : w.m.sl[i]? = some (some (SV.ob o))) (h2 : w.sg[i]? = some (some x)) :
    ∃ w' : Wd, w'.m = zHd w.m i (dOf o) ∧ w'.sg = w.sg ∧ w'.H = w.H ∧ FolE w w' ∧ Rep K w' ∧ R K w'.F (dOf o) x := by
  obtain ⟨y, h3, a, e, hO, hF, hro, hz⟩ := r.sl i _ h1
  rw [h2] at h3
  cases h3
  subst e
  obtain ⟨F', s1, s2, rd, g1, g2, g3, g4⟩ := hO.frozen r.sub hz (r.mk_ne hro)
  have sl' : ∀ (j : Nat) (v : SV), (zHd w.m i (dOf o)).sl[j]? = some (some v) → (j = i ∧ v = .d (dOf o)) ∨ (j ≠ i ∧ w.m.sl[j]? = some (some v)) := fun j v h => by
    rcases yHg (show (w.m.sl.set i (some (.d (dOf o))))[j]? = some (some v) from h) with ⟨q1, q2⟩ | q
    · exact .inl ⟨q1, Option.some.inj q2⟩
    · exact .inr q
  refine ⟨{ w with F := F', m := zHd w.m i (dOf o) }, rfl, rfl, rfl, ⟨rfl, rfl, s1, ⟨[], (List.append_nil _).symm⟩, fun b u h _ _ => h, fun b h => .inl h, fun b h => h, g1, fun b ⟨j, ys, q1, q2⟩ => ?_⟩,
    ⟨s2, ?_, fun j v h => ?_, fun n ys h => ?_, r.ln, r.rf_up s1 fun b hb hn => ?_, fun n b e => r.rk n b (g4 b n e), r.nd, fun j k ys zs v p1 p2 p3 p4 => ?_, r.zl, r.oo, ⟨r.tb.1, fun b ps e => r.tb.2.1 b ps (g3 b ps e), r.tb.2.2⟩⟩, rd⟩
  · rcases sl' j _ q1 with ⟨_, q⟩ | ⟨_, q⟩
    · cases q
    · exact ⟨j, ys, q, q2⟩
  · show (w.m.sl.set i _).length ≤ _
    rw [List.length_set]
    exact r.le
  · rcases sl' j v h with ⟨q1, q2⟩ | ⟨q1, q2⟩
    · subst q1 q2
      exact ⟨.ref a, h2, rd⟩
    · obtain ⟨y, p1, p2⟩ := r.sl j v q2
      refine ⟨y, p1, ?_⟩
      cases v with
      | d z => exact R.mono s1 p2
      | ob zs =>
        obtain ⟨b, e, k1, k3, k4⟩ := p2
        refine ⟨b, e, k1.keep s1 (fun _ z => z) (fun _ z => z) (fun _ _ z => z), ?_, k4⟩
        subst e
        exact g2 b k3 (fun z => q1 (r.ow j i _ _ _ q2 h1 p1 (by rw [z]; exact h2))) fun c z => (r.noOwnDict z).2 ⟨j, zs, q2, p1⟩
      | cell n => exact p2
      | thk t => exact ⟨p2.1, xQu p2.2.1 s1, p2.2.2⟩
  · obtain ⟨b, k1, k2⟩ := r.cs n ys h
    exact ⟨b, k1, k2.keep s1 (fun _ z => z) (fun _ z => z) (fun _ _ z => z)⟩
  · exact g2 b hn (fun z => hro (z ▸ hb)) fun c z => (r.noOwnDict z).1 hb
  · rcases sl' j _ p1 with ⟨_, q⟩ | ⟨_, q⟩
    · cases q
    · rcases sl' k _ p2 with ⟨_, q'⟩ | ⟨_, q'⟩
      · cases q'
      · exact r.ow j k _ _ _ q q' p3 p4
theorem zUy {K : PySem.W.Frag} {w : Wd} (r : Rep K w) : ∀ {v : EV} {x : V}, RE K w v x → ∃ (a : AV) (w' : Wd), toA v w.m = .ok a w'.m ∧ w'.sg = w.sg ∧ w'.H = w.H ∧ FolE w w' ∧ Rep K w' ∧ RV K w' a x
  | .d y, x, h => ⟨.d y, w, rfl, rfl, rfl, FolE.refl w, r, h⟩
  | .cell n, x, h => ⟨.cell n, w, rfl, rfl, rfl, FolE.refl w, r, h⟩
  | .new o, x, ⟨a, e, h1, h3, h4, h5, h6⟩ => by
    obtain ⟨F', r1, f1, rd⟩ := fix r h1 h3 h4 h5 h6
    subst e
    exact ⟨.d (dOf o), { w with F := F' }, rfl, rfl, rfl, f1, r1, rd⟩
  | .pk i o, x, ⟨h1, h2⟩ => by
    obtain ⟨w', e1, e2, e3, f, r', h⟩ := yUj r h1 h2
    exact ⟨.d (dOf o), w', by rw [e1]; rfl, e2, e3, f, r', h⟩
def yH0 : AV → Pg PyData
  | .d x => .ret x
  | .cell _ => .stuck

section
variable {X : Cx} {B : XBt} {e : Expr} {es : List Expr} {f : Pg EV} {pos : Pos}
def zQh {α : Type} : Pg (List α) := .ret []
def zQb (f : Pg EV) (g : Pg (List AV)) : Pg (List AV) := .bind f fun v => .bind (toA v) fun a => .bind g fun r => .ret (a :: r)
def zXa (f : Pg EV) (g : Pg (List OV)) : Pg (List OV) := .bind f fun v => .bind g fun r => .ret (zHc v :: r)
theorem zQc : xKl X B [] zQh := fun w Q r h => xKm pa_nil (h w [] rfl rfl (FolE.refl w) r .nil)
theorem zZ0 : wXp X B [] zQh := fun w Q r h => xKm pa_nil (h w [] rfl rfl (FolE.refl w) r .nil)
theorem yKu {K : PySem.W.Frag} {w w' : Wd} (f : FolE w w') : ∀ {vs : List AV} {xs : List V}, Paired (RV K w) vs xs → Paired (RV K w') vs xs
  | _, _, .nil => .nil
  | _, _, .cons h t => .cons (h.fol f) (yKu f t)
theorem zQa {g : Pg (List AV)} (h1 : Snd X B e f) (h2 : xKl X B es g) (hs : starEach (e :: es) X.env = (false, eval e X.env) :: starEach es X.env := by rfl) : xKl X B (e :: es) (zQb f g) := by
  intro w Q r h
  refine xKm (pa_cons zHk xY2 hs) ?_
  refine zQ0 h1 r h fun v w1 x e1 f1 r1 re h' => ?_
  obtain ⟨a, w2, ea, e2, e3, f2, r2, rv⟩ := zUy r1 re
  have h'' := wp_bind h'
  rw [ea] at h''
  rw [← e1, ← e2, ← e3]
  have h3 : (Pg.bind g (fun r => Pg.ret (a :: r)) w2.m).wp (xG0 X.K w Q) (XW X.K B w2) := Res.wp.imp h'' (fun _ _ q => q) fun _ _ q => q.fol (f2.s r1)
  refine zUz h2 r2 h3 fun vs w3 xs e4 f3 r3 rvs q => ?_
  exact q w3 (x :: xs) rfl (e4.trans (e2.trans e1)) (f1.trans (f2.trans f3)) r3 (.cons (rv.fol f3) rvs)
theorem zZm {g : Pg (List OV)} (h1 : Snd X B e f) (h2 : wXp X B es g) (hs : starEach (e :: es) X.env = (false, eval e X.env) :: starEach es X.env := by rfl) : wXp X B (e :: es) (zXa f g) := by
  intro w Q r h
  refine xKm (pa_cons zHk xY2 hs) ?_
  refine zQ0 h1 r h fun v w1 x e1 f1 r1 re h' => ?_
  rw [← e1]
  refine yYl h2 r1 h' fun vs w3 xs e4 f3 r3 rvs q => ?_
  exact q w3 (x :: xs) rfl (e4.trans e1) (f1.trans f3) r3 (.cons ((re.ro r1).fol r1 f3) rvs)
def dataOf : List AV → Option (List PyData)
  | [] => some []
  | .d x :: r => match dataOf r with
    | some xs => some (x :: xs)
    | none => none
  | .cell _ :: _ => none
theorem yXr {K : PySem.W.Frag} {w : Wd} : ∀ {vs : List AV} {xs : List V} {ds : List PyData}, Paired (RV K w) vs xs → dataOf vs = some ds → RA K w.F ds xs
  | [], _, _, .nil, e => by
    cases e
    exact .nil
  | .d x :: r, _, ds, .cons h t, e => by
    unfold dataOf at e
    cases q : dataOf r with
    | none =>
      rw [q] at e
      cases e
    | some zs =>
      rw [q] at e
      cases e
      exact .cons h (yXr t q)
  | .cell _ :: _, _, _, .cons _ _, e => by cases e
def yY9 (xs : List PyData) : Bool := decide (xs.length ≤ 16777216)
theorem yH8 {K : PySem.W.Frag} {F : Hp} {xs : List PyData} {vs : List V} (h : yY9 xs = true) (a : RA K F xs vs) : vs.length ≤ sizeLine := by
  rw [← a.len, sizeLine_eq]
  exact of_decide_eq_true h
def xUh (vs : List AV) : Option EV := match dataOf vs with
  | some xs => if yY9 xs then some (.d (.tuple xs)) else none
  | none => none
def xJa (vs : List AV) : Option EV := match dataOf vs with
  | some xs => if yY9 xs then some (.fresh xs) else none
  | none => none
def zQl (g : Pg (List AV)) : Pg EV := .bind g fun vs => zKz (xUh vs)
def zVu (g : Pg (List AV)) : Pg EV := .bind g fun vs => zKz (xJa vs)
theorem zXn {α : Type} {o : Option α} {m : Mem} {P : α → Mem → Prop} {E : Exn → Mem → Prop} (h : (zKz o m).wp P E) : ∃ a, o = some a ∧ P a m := by
  cases o with
  | none => exact h.elim
  | some a => exact ⟨a, rfl, h⟩
theorem zQf {g : Pg (List AV)} {k : Nat} (h : xKl X B es g) : Snd X B (.Tuple es k pos) (zQl g) := by
  intro w Q r hw
  refine zUx (pe_tup xY2) ?_
  refine zUz h r hw fun vs w1 xs e1 f1 r1 rv q => ?_
  obtain ⟨v, ev, q⟩ := zXn q
  unfold xUh at ev
  cases ed : dataOf vs with
  | none =>
    rw [ed] at ev
    cases ev
  | some ds =>
    rw [ed] at ev
    dsimp only at ev
    split at ev
    · rename_i hl
      cases ev
      have ra := yXr rv ed
      refine ⟨yH8 hl ra, fun p hp => ?_⟩
      obtain ⟨r2, f2⟩ := yGt r1 hp (.tup xs)
      exact q { w1 with F := upd w1.F p (.tup xs), H := upd w1.H p (.tup xs) } _ rfl e1 (f1.trans f2) r2 (yK7 r1 hp ra)
    · cases ev
theorem zZs {g : Pg (List AV)} (h : xKl X B es g) : Snd X B (.List es pos) (zVu g) := by
  intro w Q r hw
  refine zUx (pe_lst xY2) ?_
  refine zUz h r hw fun vs w1 xs e1 f1 r1 rv q => ?_
  obtain ⟨v, ev, q⟩ := zXn q
  unfold xJa at ev
  cases ed : dataOf vs with
  | none =>
    rw [ed] at ev
    cases ev
  | some ds =>
    rw [ed] at ev
    dsimp only at ev
    split at ev
    · rename_i hl
      cases ev
      have ra := yXr rv ed
      refine ⟨yH8 hl ra, fun p hp => ?_⟩
      obtain ⟨r2, f2⟩ := lay r1 hp (.lst xs)
      exact q { w1 with H := upd w1.H p (.lst xs) } _ rfl e1 (f1.trans f2) r2 (xZw r1 hp ra)
    · cases ev

def evC (d : PyData) : Pg EV := .ret (.d d)
theorem zQw {j} : Snd X B (.Constant .none j pos) (evC .none) := fun w Q r h => zUx pe_non (h w .non rfl rfl (FolE.refl w) r .non)
theorem zVx {b j} : Snd X B (.Constant (.bool b) j pos) (evC (.bool b)) := fun w Q r h => zUx pe_bl (h w (.bl b) rfl rfl (FolE.refl w) r (.bl b))
theorem zQe {i j} : Snd X B (.Constant (.int i) j pos) (evC (.int i)) := fun w Q r h => zUx pe_int (h w (.int i) rfl rfl (FolE.refl w) r (.int i))
theorem zQk {x j} : Snd X B (.Constant (.str x) j pos) (evC (.str x)) := fun w Q r h => zUx pe_str (h w (.str x) rfl rfl (FolE.refl w) r (.str x))
def xXs (i : Nat) : Option (Option SV) → Option EV
  | some (some (.d x)) => some (.d x)
  | some (some (.ob o)) => some (.pk i o)
  | some (some (.cell n)) => some (.cell n)
  | _ => none
def zQg (i : Nat) : Pg EV := fun m => zKz (xXs i m.sl[i]?) m
theorem zQd {x : Str} (i : Nat) (hN : X.N[i]? = some x) (hv : Vis X.env.scope x) (hd : (x == ("__debug__" : Str)) = false := by decide) (hcd : (x == ("__classdict__" : Str)) = false := by decide) : Snd X B (.Name x pos) (zQg i) := by
  intro w Q r h
  refine zUx (pe_var hN hv hd hcd) ?_
  obtain ⟨v, ev, q⟩ := zXn (show (zKz (xXs i w.m.sl[i]?) w.m).wp _ _ from h)
  cases es : w.m.sl[i]? with
  | none =>
    rw [es] at ev
    cases ev
  | some o =>
    cases o with
    | none =>
      rw [es] at ev
      cases ev
    | some sv =>
      obtain ⟨x, h1, h2⟩ := r.sl i sv es
      refine ⟨x, h1, q w x rfl rfl (FolE.refl w) r ?_⟩
      rw [es] at ev
      cases sv with
      | d y =>
        cases ev
        exact h2
      | ob ys =>
        cases ev
        exact ⟨es, h1⟩
      | cell n =>
        cases ev
        exact h2
      | thk t => cases ev
def GC (X : Cx) (x : Str) (d : PyData) : Prop := ∃ (v : V) (u : Value), X.mg x = some u ∧ RelV v u ∧ ∀ F : Hp, R X.K F d v
theorem zQt {x : Str} {d : PyData} (hg : Gl X x) (h : GC X x d) (hd : (x == ("__debug__" : Str)) = false := by decide) : Snd X B (.Name x pos) (evC d) := by
  obtain ⟨v, u, hm, rv, hr⟩ := h
  intro w Q r h
  exact zUx (pe_glob hg hm rv hd) (h w v rfl rfl (FolE.refl w) r (hr w.F))
end
end Ev

namespace Ev
open PySem PySem.Spec PyProof.Rows L2

def anyR (X : Cx) (f : Value → Value → Sem Value) : R2 := fun x y H Q => ∃ r, OpR X f r ∧ r x y H Q
theorem yGs {X : Cx} {f : Value → Value → Sem Value} : OpR X f (anyR X f) := by
  intro pins s sg H x y v u Q I rx ry h
  obtain ⟨r, ho, q⟩ := h
  exact ho pins s sg H x y v u Q I rx ry q

theorem wJg (t : Addr) (items : Array Value) (n : Nat) (dd : Option Addr) (sl : Array (Option Value)) (x : Int) (u : Tok) (c0 : (decide (x < -(2 ^ 63)) || decide (x ≥ 2 ^ 63)) = false) (c1 : (items.isEmpty || x == 1) = true) :
    Meets (Builtin.«tuple.__mul__» ⟨[.ref t, .int x u], []⟩) (fun _ R s => s.heap.get? t = some { cls := .type "tuple", dict := dd, data := .seq items n, slots := sl } ∧ R (.ok (.ret (Value.ref t))) s) :=
  .of_wp fun prog w A R s h => by
    obtain ⟨hp, g, d, tk, os⟩ := s
    obtain ⟨hl, h⟩ := h
    have f1 := AutoSeq1.idx_int
    wp_walk using wpAny_loadPart' hl
    repeat (first
      | (refine wpAny_ite_false (decide_eq_false (by rw [c0]; exact Bool.false_ne_true)) ?_; wp_walk using wpAny_loadPart' hl)
      | (refine wpAny_ite_true (decide_eq_true c1) ?_; wp_walk using wpAny_loadPart' hl))
    exact ⟨_, rfl, h⟩
theorem xHy (t : Addr) (items : Array Value) (n : Nat) (dd : Option Addr) (sl : Array (Option Value)) (x : Int) (u : Tok) (c0 : (decide (x < -(2 ^ 63)) || decide (x ≥ 2 ^ 63)) = false) (c1 : (items.isEmpty || x == 1) = false) (c2 : (decide (x ≤ 0) || items.isEmpty) = true) :
    Meets (Builtin.«tuple.__mul__» ⟨[.ref t, .int x u], []⟩) (fun _ R s => s.heap.get? t = some { cls := .type "tuple", dict := dd, data := .seq items n, slots := sl } ∧
      R (.ok (.ret (Value.ref s.heap.objs.size))) { s with heap := s.heap.push { cls := Value.type "tuple", data := Data.seq #[] }, toks := s.toks }) :=
  .of_wp fun prog w A R s h => by
    obtain ⟨hp, g, d, tk, os⟩ := s
    obtain ⟨hl, h⟩ := h
    have f1 := AutoSeq1.idx_int
    wp_walk using wpAny_loadPart' hl
    repeat (first
      | (refine wpAny_ite_false (decide_eq_false (by rw [c0]; exact Bool.false_ne_true)) ?_; wp_walk using wpAny_loadPart' hl)
      | (refine wpAny_ite_false (decide_eq_false (by rw [c1]; exact Bool.false_ne_true)) ?_; wp_walk using wpAny_loadPart' hl)
      | (refine wpAny_ite_true (decide_eq_true c2) ?_; wp_walk using wpAny_loadPart' hl))
    exact ⟨_, rfl, h⟩
def wWc (K : PySem.W.Frag) : R2 := fun x y H Q => ∃ l k xs, x = .ref l ∧ y = .int k ∧ SqT K H l xs ∧ k ≤ 1000 ∧ -1000 ≤ k ∧ xs.length ≤ 1000 ∧
  ((xs = [] ∨ k = 1) → Q (.ref l) H) ∧ (¬ (xs = [] ∨ k = 1) → ∀ p, H p = none → Q (.ref p) (upd H p (.tup (List.replicate k.toNat xs).flatten)))
theorem xH6 {X : Cx} : OpR X (binaryOp .Mult) (wWc X.K) := by
  intro pins s sg H x y v u Q I rx ry h
  obtain ⟨l, k, xs, rfl, rfl, hT, h1, h0, hz, q1, q2⟩ := h
  by_cases big : xs ≠ [] ∧ 2 ≤ k
  · exact op_repT pins s sg H _ _ v u Q I rx ry ⟨l, k, xs, rfl, rfl, hT, big.1, big.2, h1, hz, q2 (fun z => z.elim big.1 fun e => by omega)⟩
  · cases rx
    obtain ⟨t, rfl⟩ := ry
    obtain ⟨its, r, ⟨⟨cls, dd, data, sl⟩, ho, hc, n, hd⟩, hs⟩ := I.tuple hT
    simp only at hc hd
    subst hc hd
    have c0 : (decide (k < -(2 ^ 63)) || decide (k ≥ 2 ^ 63)) = false := by
      rw [decide_eq_false (by omega), decide_eq_false (by omega)] <;> rfl
    by_cases one : xs = [] ∨ k = 1
    · have c1 : (its.toArray.isEmpty || k == 1) = true := by
        rcases one with e | e
        · subst e
          cases r
          rfl
        · subst e
          simp
      refine wpAny_binaryOp_repeat_ref (T := "tuple") (U := "int") (by decide) ⟨_, ho, rfl⟩ (fun s' => typeIs_int s' k t) noFill_tuple_mul F.fills_int_mul F.slot_int_rmul repeat_tuple F.slot_int_index.lookup
        (call_meets F.slot_int_rmul (typeIs_int s k t) F.entry_int_rmul (F.args_int_rmul_2 _ _) (int_rmul_tuple k t l its.toArray n dd sl)
          ⟨ho, rfl, ⟨_, ho, rfl⟩, call_meets F.slot_tuple_mul ⟨_, ho, rfl⟩ F.entry_tuple_mul (F.args_tuple_mul_2 _ _) (wJg l its.toArray n dd sl k t c0 c1) ⟨ho, ?_⟩⟩)
      exact ⟨.ref l, H, I, rfl, q1 one⟩
    · have hne : xs ≠ [] := fun e => one (.inl e)
      have hk : k ≤ 0 := by
        have : ¬ (2 ≤ k) := fun z => big ⟨hne, z⟩
        have : k ≠ 1 := fun e => one (.inr e)
        omega
      have hi : its.toArray.isEmpty = false := by
        cases r with
        | nil => exact absurd rfl hne
        | cons a b => rfl
      have c1 : (its.toArray.isEmpty || k == 1) = false := by
        rw [hi, Bool.false_or]
        exact beq_eq_false_iff_ne.mpr (by omega)
      have c2 : (decide (k ≤ 0) || its.toArray.isEmpty) = true := by
        rw [decide_eq_true hk]
        rfl
      refine wpAny_binaryOp_repeat_ref (T := "tuple") (U := "int") (by decide) ⟨_, ho, rfl⟩ (fun s' => typeIs_int s' k t) noFill_tuple_mul F.fills_int_mul F.slot_int_rmul repeat_tuple F.slot_int_index.lookup
        (call_meets F.slot_int_rmul (typeIs_int s k t) F.entry_int_rmul (F.args_int_rmul_2 _ _) (int_rmul_tuple k t l its.toArray n dd sl)
          ⟨ho, rfl, ⟨_, ho, rfl⟩, call_meets F.slot_tuple_mul ⟨_, ho, rfl⟩ F.entry_tuple_mul (F.args_tuple_mul_2 _ _) (xHy l its.toArray n dd sl k t c0 c1 c2) ⟨ho, ?_⟩⟩)
      have q := q2 one s.heap.objs.size (I.hok.fresh (Nat.le_refl _))
      have e0 : k.toNat = 0 := by omega
      rw [e0] at q
      refine ⟨.ref s.heap.objs.size, _, I.laid (t' := s.toks) (o := .tup []) (fun b ob q => Heap.get?_push_of_some _ q) (Nat.le_refl _) ?_, rfl, q⟩
      exact ⟨Nat.zero_le _, [], .nil, IsTup.new _ _⟩

def wH9 (K : PySem.W.Frag) : R2 := fun x y H Q => ∃ l b xs zs, x = .ref l ∧ y = .ref b ∧ LQ K H l xs ∧ LQ K H b zs ∧ xs.length + zs.length ≤ sizeLine ∧ ∀ p, H p = none → Q (.ref p) (upd H p (.lst (xs ++ zs)))
theorem wJt {X : Cx} : OpR X (binaryOp .Add) (wH9 X.K) := by
  rintro pins s sg H x y v u Q I rx ry ⟨l, b, xs, zs, rfl, rfl, h1, h2, hz, q⟩
  cases rx
  cases ry
  obtain ⟨_, its, n, ra, la, ea⟩ := h1.at I
  obtain ⟨_, its', n', rb, lb, eb⟩ := h2.at I
  refine PySem.P.add_list ea eb ?_ (by simp only [List.size_toArray]; omega)
  rw [show its.toArray ++ its'.toArray = (its ++ its').toArray by simp]
  exact ⟨.ref _, _, I.lnew (t' := s.toks) (ra.append rb) (by simp only [List.length_append]; omega), rfl, q _ I.fresh⟩
def wH7 (K : PySem.W.Frag) : R2 := fun x y H Q => ∃ l k xs, x = .ref l ∧ y = .int k ∧ LQ K H l xs ∧ -1000 ≤ k ∧ k ≤ 1000 ∧ xs.length ≤ 1000 ∧ ∀ p, H p = none → Q (.ref p) (upd H p (.lst (List.replicate k.toNat xs).flatten))
theorem wJh (its : List Value) (k : Nat) : List.foldl (fun x1 x2 => x1 ++ x2) #[] (List.replicate (if its.toArray.isEmpty = true then 0 else k) its.toArray) = (List.replicate k its).flatten.toArray := by
  cases its with
  | nil =>
    rw [if_pos (by rfl), size_rep]
    simp
  | cons a r => rw [if_neg (by simp), size_rep]
theorem wJs {X : Cx} : OpR X (binaryOp .Mult) (wH7 X.K) := by
  rintro pins s sg H x y v u Q I rx ry ⟨l, k, xs, rfl, rfl, h1, k0, k1, hz, q⟩
  cases rx
  obtain ⟨t, rfl⟩ := ry
  obtain ⟨_, its, n, ra, la, ea⟩ := h1.at I
  have ls := sizeLine_eq
  have big : its.length * k.toNat ≤ 1000 * 1000 := Nat.mul_le_mul (by omega) (by omega)
  have sz : its.toArray.size * k.toNat ≤ 1000000 := by simpa using big
  have c1 : ¬ its.toArray.size * k.toNat > (2 ^ 63 - 1) / 8 := by omega
  have c2 : ¬ (!Builtin.List.listFitsIndex k) = true := by
    rw [fitsIndex_both (by omega) (by omega)]
    simp
  have c3 : ¬ Builtin.List.listTooLong (its.toArray.size * k.toNat) = true := by
    rw [notLongL (by omega)]
    simp
  refine wpAny_binaryOp_repeat_ref (T := "list") (U := "int") (by decide) ⟨_, ea, rfl⟩ (fun s' => typeIs_int s' k t) noFill_list_mul F.fills_int_mul F.slot_int_rmul repeat_list F.slot_int_index.lookup
    (call_meets F.slot_int_rmul (typeIs_int s k t) F.entry_int_rmul (F.args_int_rmul_2 _ _) (int___rmul___int_list k t l its.toArray n)
      ⟨ea, rfl, ⟨_, ea, rfl⟩, call_meets F.slot_list_mul ⟨_, ea, rfl⟩ F.entry_list_mul (F.args_list_mul_2 _ _) (AutoListH.list___mul___list_int_3 l its.toArray n k t c2 c1 c3) ⟨ea, ?_⟩⟩)
  rw [wJh]
  exact ⟨.ref _, _, I.lnew (t' := s.toks) (ra.rep k.toNat) (by rw [PyProof.Rows.lm_len_rep_flat, Nat.mul_comm, la]; omega), rfl, q _ I.fresh⟩
def xK9 (i j : Int) : Bool := (decide (-(2 ^ 64) < i) && decide (i < 2 ^ 64)) || (decide (-(2 ^ 64) < j) && decide (j < 2 ^ 64))
theorem wJ9 {i j : Int} (h : xK9 i j = true) : CMul i j := by
  unfold xK9 at h
  simp only [Bool.or_eq_true, Bool.and_eq_true, decide_eq_true_eq] at h
  exact h
def xK1 (i j : Int) : Bool := decide (0 ≤ j) && decide (j ≤ 1000000) && decide (i.natAbs < 2 ^ 64)
theorem wJo {i j : Int} (h : xK1 i j = true) : CPow i j := by
  unfold xK1 at h
  simp only [Bool.and_eq_true, decide_eq_true_eq] at h
  exact ⟨h.1.1, h.1.2, h.2⟩
def yZs (xs : List PyData) (k : Int) : Bool := decide (k ≤ 1000) && decide (-1000 ≤ k) && decide (xs.length ≤ 1000)
def yW7 (op : Operator) (x y : PyData) : Option EV :=
  match op with
  | .Add => match x, y with
    | .int i, .int j => some (.d (.int (i + j)))
    | .str a, .str b => if a.length + b.length ≤ 16777216 then some (.d (.str (a ++ b))) else none
    | .tuple xs, .tuple ys => if xs.length + ys.length ≤ 16777216 then some (.d (.tuple (xs ++ ys))) else none
    | .list xs, .list ys => if xs.length + ys.length ≤ 16777216 then some (.fresh (xs ++ ys)) else none
    | _, _ => none
  | .Sub => match x, y with
    | .int i, .int j => some (.d (.int (i - j)))
    | _, _ => none
  | .Mult => match x, y with
    | .int i, .int j => if xK9 i j then some (.d (.int (i * j))) else none
    | .tuple xs, .int k => if yZs xs k then some (.d (.tuple (List.replicate k.toNat xs).flatten)) else none
    | .list xs, .int k => if yZs xs k then some (.fresh (List.replicate k.toNat xs).flatten) else none
    | _, _ => none
  | .FloorDiv => match x, y with
    | .int i, .int j => if decide (0 < j) && decide (j < 1073741824) then some (.d (.int (i / j))) else none
    | _, _ => none
  | .Mod => match x, y with
    | .int i, .int j => if 0 < j then some (.d (.int (i % j))) else none
    | _, _ => none
  | .Pow => match x, y with
    | .int i, .int j => if xK1 i j then some (.d (.int (i ^ j.toNat))) else none
    | _, _ => none
  | _ => none
def xWs (w : Wd) : EV → V → Prop
  | .new _, x => ∀ a, x = .ref a → w.H a = none
  | _, _ => True
theorem xWs.back {w w1 : Wd} (f : FolE w w1) {v : EV} {x : V} (h : xWs w1 v x) : xWs w v x := by
  cases v with
  | new o => exact fun a e => Classical.byContradiction fun z => f.liv a z (h a e)
  | _ => trivial
def yWj (K : PySem.W.Frag) (w : Wd) (Q : VK) : EV → Mem → Prop := fun v m' => ∀ (w' : Wd) (x : V), w'.m = m' → w'.sg = w.sg → FolE w w' → Rep K w' → RE K w' v x → xWs w v x → Q x w'.H
theorem zYh.f {K : PySem.W.Frag} {w : Wd} {Q : VK} {v : EV} {m : Mem} (h : zYh K w Q v m) : yWj K w Q v m := fun w' x a b c d e _ => h w' x a b c d e
def xG1 (K : PySem.W.Frag) (w : Wd) (v : EV) (Q : VK) : Prop := ∀ (w' : Wd) (x : V), w'.m = w.m → w'.sg = w.sg → FolE w w' → Rep K w' → RE K w' v x → xWs w v x → Q x w'.H
theorem xG1.here {K : PySem.W.Frag} {w : Wd} {v : EV} {Q : VK} (k : xG1 K w v Q) (r : Rep K w) {x : V} (h : RE K w v x) (hn : xWs w v x := by trivial) : Q x w.H := k w x rfl rfl (FolE.refl w) r h hn
theorem xG1.tup {K : PySem.W.Frag} {w : Wd} {xs : List PyData} {Q : VK} (k : xG1 K w (.d (.tuple xs)) Q) (r : Rep K w) {vs : List V} (a : RA K w.F xs vs) {p : Addr} (hp : w.H p = none) : Q (.ref p) (upd w.H p (.tup vs)) := by
  obtain ⟨r2, f2⟩ := yGt r hp (.tup vs)
  exact k { w with F := upd w.F p (.tup vs), H := upd w.H p (.tup vs) } _ rfl rfl f2 r2 (yK7 r hp a) trivial
theorem xG1.lst {K : PySem.W.Frag} {w : Wd} {xs : List PyData} {Q : VK} (k : xG1 K w (.fresh xs) Q) (r : Rep K w) {vs : List V} (a : RA K w.F xs vs) {p : Addr} (hp : w.H p = none) : Q (.ref p) (upd w.H p (.lst vs)) := by
  obtain ⟨r2, f2⟩ := lay r hp (.lst vs)
  exact k { w with H := upd w.H p (.lst vs) } _ rfl rfl f2 r2 (xZw r hp a) fun b e => by cases e; exact hp
theorem wQp {α : Type} (n : Nat) (xs : List α) : (List.replicate n xs).flatten.length = n * xs.length := by
  induction n with
  | zero => simp
  | succ n ih => rw [List.replicate_succ, List.flatten_cons, List.length_append, ih, Nat.succ_mul, Nat.add_comm]
theorem RA.of_nil {K : PySem.W.Frag} {F : Hp} {ds : List PyData} (a : RA K F ds []) : ds = [] := by
  cases a
  rfl
theorem wXk {X : Cx} {op : Operator} {x y : PyData} {v : EV} {w : Wd} {a b : V} {Q : VK} (r : Rep X.K w) (ha : RN X.K w x a) (hb : RN X.K w y b) (e : yW7 op x y = some v) (k : xG1 X.K w v Q) : anyR X (binaryOp op) a b w.H Q := by
  have s := r.sub
  cases op <;> try (cases e; done)
  · -- Add
    cases x <;> try (cases e; done)
    · cases y <;> try (cases e; done)
      cases e
      rw [ha.int, hb.int]
      exact ⟨_, op_add, _, _, rfl, rfl, k.here r (.int _)⟩
    · cases y <;> try (cases e; done)
      unfold yW7 at e
      dsimp only at e
      split at e
      · rename_i hl
        cases e
        rw [ha.str, hb.str]
        exact ⟨_, op_add_str, _, _, rfl, rfl, by rw [sizeLine_eq]; exact hl, k.here r (.str _)⟩
      · cases e
    · cases y <;> try (cases e; done)
      unfold yW7 at e
      dsimp only at e
      split at e
      · rename_i hl
        cases e
        obtain ⟨l, vs, rfl, h1, a1⟩ := ha.lst s
        obtain ⟨l', vs', rfl, h2, a2⟩ := hb.lst s
        refine ⟨_, wJt, l, l', vs, vs', rfl, rfl, h1, h2, by rw [← a1.len, ← a2.len, sizeLine_eq]; exact hl, fun p hp => k.lst r (a1.app a2) hp⟩
      · cases e
    · cases y <;> try (cases e; done)
      unfold yW7 at e
      dsimp only at e
      split at e
      · rename_i xs ys hl
        cases e
        obtain ⟨l, vs, rfl, h1, a1⟩ := ha.tup
        obtain ⟨l', vs', rfl, h2, a2⟩ := hb.tup
        refine ⟨_, op_catA, l, l', vs, vs', rfl, rfl, zZ7 s h1, zZ7 s h2, by rw [← a1.len, ← a2.len, sizeLine_eq]; exact hl, fun z => ?_, fun _ z => ?_, fun _ _ p hp => k.tup r (a1.app a2) hp⟩
        · subst z
          have := a1.of_nil
          subst this
          exact k.here r (.tup h2 a2)
        · subst z
          have := a2.of_nil
          subst this
          rw [List.append_nil] at k
          exact k.here r (.tup h1 a1)
      · cases e
  · -- Sub
    cases x <;> try (cases e; done)
    cases y <;> try (cases e; done)
    cases e
    rw [ha.int, hb.int]
    exact ⟨_, op_sub, _, _, rfl, rfl, k.here r (.int _)⟩
  · -- Mult
    cases x <;> try (cases e; done)
    · cases y <;> try (cases e; done)
      unfold yW7 at e
      dsimp only at e
      split at e
      · rename_i hl
        cases e
        rw [ha.int, hb.int]
        exact ⟨_, op_mul, _, _, rfl, rfl, wJ9 hl, k.here r (.int _)⟩
      · cases e
    · cases y <;> try (cases e; done)
      unfold yW7 at e
      dsimp only at e
      split at e
      · rename_i xs kk hl
        unfold yZs at hl
        simp only [Bool.and_eq_true, decide_eq_true_eq] at hl
        cases e
        obtain ⟨l, vs, rfl, h1, a1⟩ := ha.lst s
        rw [hb.int]
        exact ⟨_, wJs, l, kk, vs, rfl, rfl, h1, hl.1.2, hl.1.1, by rw [← a1.len]; exact hl.2, fun p hp => k.lst r (a1.rep _) hp⟩
      · cases e
    · cases y <;> try (cases e; done)
      unfold yW7 at e
      dsimp only at e
      split at e
      · rename_i xs kk hl
        unfold yZs at hl
        simp only [Bool.and_eq_true, decide_eq_true_eq] at hl
        cases e
        obtain ⟨l, vs, rfl, h1, a1⟩ := ha.tup
        rw [hb.int]
        refine ⟨_, xH6, l, kk, vs, rfl, rfl, zZ7 s h1, hl.1.1, hl.1.2, by rw [← a1.len]; exact hl.2, fun z => ?_, fun _ p hp => k.tup r (a1.rep _) hp⟩
        rcases z with z | z
        · subst z
          have := a1.of_nil
          subst this
          have e0 : (List.replicate kk.toNat ([] : List PyData)).flatten = [] := List.eq_nil_of_length_eq_zero (by rw [wQp]; rfl)
          rw [e0] at k
          exact k.here r (.tup h1 .nil)
        · subst z
          have e0 : (List.replicate (1 : Int).toNat xs).flatten = xs := by simp
          rw [e0] at k
          exact k.here r (.tup h1 a1)
      · cases e
  · -- Mod
    cases x <;> try (cases e; done)
    cases y <;> try (cases e; done)
    unfold yW7 at e
    dsimp only at e
    split at e
    · rename_i hl
      cases e
      rw [ha.int, hb.int]
      exact ⟨_, op_mod, _, _, rfl, rfl, hl, k.here r (.int _)⟩
    · cases e
  · -- Pow
    cases x <;> try (cases e; done)
    cases y <;> try (cases e; done)
    unfold yW7 at e
    dsimp only at e
    split at e
    · rename_i hl
      cases e
      rw [ha.int, hb.int]
      exact ⟨_, op_pow, _, _, rfl, rfl, wJo hl, k.here r (.int _)⟩
    · cases e
  · -- FloorDiv
    cases x <;> try (cases e; done)
    cases y <;> try (cases e; done)
    unfold yW7 at e
    dsimp only at e
    split at e
    · rename_i hl
      simp only [Bool.and_eq_true, decide_eq_true_eq] at hl
      cases e
      rw [ha.int, hb.int]
      exact ⟨_, op_fdiv, _, _, rfl, rfl, hl, k.here r (.int _)⟩
    · cases e
end Ev

namespace Ev
open PySem PySem.Spec PyProof.Rows L2

def SM (base : Heap) : Prop := ∃ o es ep, base.get? sysModules = some o ∧ o.data = .dict es ep
def xWv (K : PySem.W.Frag) (w : Wd) (x : Exn) (cls : Value) (d : Option Addr) : Prop := ∃ C, yQx K x.cls C ∧ cls = .ref C ∧ ((x.fs = [] ∧ d = none) ∨ ∃ dd vs, d = some dd ∧ w.F dd = some (.xd vs) ∧ RF K w.F (zZr x.fs) vs)
def WXB (K : PySem.W.Frag) (B : XBt) : WX := fun cls d sg H => ∃ (x : Exn) (w' : Wd), Rep K w' ∧ w'.sg = sg ∧ w'.H = H ∧ xWv K w' x cls d ∧ B x w'
abbrev B0 : XBt := fun _ _ => False
structure Ctx (X : Cx) (B : XBt) : Prop where
  calm : X.calm = true
  gd : X.A.guards = some []
  rm : Room 0 X.A
  nd : X.N.Nodup
  sm : SM X.base
  tk : Takes X (WXB X.K B)
theorem xHm {X : Cx} : Takes X (WXB X.K B0) := fun u s' ⟨_, _, _, _, _, _, _, _, _, _, _, _, _, _, _, _, _, _, _, _, _, _, h⟩ => h.elim

section
variable {X : Cx} {B : XBt} {a b c e : Expr} {fa fb fc : Pg EV} {pos : Pos}

def two (g : PyData → PyData → Pg EV) (o1 o2 : OV) : Pg EV := look o1 fun x => look o2 fun y => g x y
def zXl (op : Operator) (fa fb : Pg EV) : Pg EV := .bind fa fun v => .bind fb fun u => two (fun x y => zKz (yW7 op x y)) (zHc v) (zHc u)
theorem wKv {g : PyData → PyData → Pg EV} {o1 o2 : OV} {m : Mem} {P : EV → Mem → Prop} {E : Exn → Mem → Prop} (h : (two g o1 o2 m).wp P E) : ∃ x y, lk o1 m = some x ∧ lk o2 m = some y ∧ (g x y m).wp P E := by
  obtain ⟨x, e1, h⟩ := zJe h
  obtain ⟨y, e2, h⟩ := zJe h
  exact ⟨x, y, e1, e2, h⟩
theorem zYh.keep {K : PySem.W.Frag} {w w1 : Wd} {Q : VK} {v : EV} (q : zYh K w Q v w1.m) (e1 : w1.sg = w.sg) (f1 : FolE w w1) : xG1 K w1 v Q := fun w' x em es f r re _ => q w' x em (es.trans e1) (f1.trans f) r re
theorem zZb {op : Operator} (ha : Snd X B a fa) (hb : Snd X B b fb) : Snd X B (.BinOp a op b pos) (zXl op fa fb) := by
  intro w Q r h
  refine zUx (pe_op yGs zHk zHk) ?_
  refine zQ0 ha r h fun v w1 x e1 f1 r1 re h1 => ?_
  rw [← e1]
  refine zQ0 hb r1 h1 fun u w2 y e2 f2 r2 re2 h2 => ?_
  obtain ⟨d1, d2, q1, q2, h3⟩ := wKv h2
  obtain ⟨z, ez, q⟩ := zXn h3
  have o1 := ((re.ro r1).fol r1 f2).rn r2 q1
  have o2 := (re2.ro r2).rn r2 q2
  exact wXk r2 o1 o2 ez (zYh.keep q (e2.trans e1) (f1.trans f2))

def xJc : PyData → PyData → Bool
  | .int i, .int j => decide (i = j)
  | .str a, .str b => decide (a = b)
  | _, _ => false
def xKc (es : List (PyData × PyData)) (k : PyData) : Option PyData := (es.find? fun p => xJc p.1 k).map (·.2)
def wGv (es : List (PyData × PyData)) (k v : PyData) : List (PyData × PyData) := if es.any (fun p => xJc p.1 k) then es.map (fun p => if xJc p.1 k then (p.1, v) else p) else es ++ [(k, v)]
theorem xQb {k : PyData} (h : yXj k = true) : ∃ kk, k = yGu kk := by
  cases k with
  | int i => exact ⟨.inl i, rfl⟩
  | str x => exact ⟨.inr x, rfl⟩
  | _ => cases h
theorem yUa (a b : Key) : xJc (yGu a) (yGu b) = decide (a = b) := by
  cases a <;> cases b <;> simp [yGu, xJc]
theorem RK.val {K : PySem.W.Frag} {F : Hp} : ∀ {es : List (PyData × PyData)} {kvs : List (Key × V)}, RK K F es kvs → ∀ (kk : Key), (∀ d, xKc es (yGu kk) = some d → ∃ v, valV kvs kk = some v ∧ R K F d v) ∧ (xKc es (yGu kk) = none → valV kvs kk = none)
  | _, _, .nil, kk => ⟨fun d h => by simp [xKc] at h, fun _ => rfl⟩
  | _, _, .cons (k := k) (d := d0) (es := es) (v := v0) (kvs := kvs) h t, kk => by
    obtain ⟨h1, h2⟩ := RK.val t kk
    by_cases e : k = kk
    · have e1 : xKc ((yGu k, d0) :: es) (yGu kk) = some d0 := by simp [xKc, yUa, e]
      have e2 : valV ((k, v0) :: kvs) kk = some v0 := valV_pos (p := (k, v0)) e
      rw [e1, e2]
      exact ⟨fun d z => by cases z; exact ⟨_, rfl, h⟩, fun z => by cases z⟩
    · have e1 : xKc ((yGu k, d0) :: es) (yGu kk) = xKc es (yGu kk) := by simp [xKc, yUa, e]
      have e2 : valV ((k, v0) :: kvs) kk = valV kvs kk := by simp [valV, e]
      rw [e1, e2]
      exact ⟨h1, h2⟩
theorem RK.app {K : PySem.W.Frag} {F : Hp} : ∀ {es fs : List (PyData × PyData)} {kvs lvs : List (Key × V)}, RK K F es kvs → RK K F fs lvs → RK K F (es ++ fs) (kvs ++ lvs)
  | _, _, _, _, .nil, b => b
  | _, _, _, _, .cons h a, b => .cons h (RK.app a b)
theorem RK.any {K : PySem.W.Frag} {F : Hp} : ∀ {es : List (PyData × PyData)} {kvs : List (Key × V)}, RK K F es kvs → ∀ (kk : Key), es.any (fun p => xJc p.1 (yGu kk)) = kvs.any fun p => decide (p.1 = kk)
  | _, _, .nil, kk => rfl
  | _, _, .cons (k := k) _ t, kk => by
    rw [List.any_cons, List.any_cons, RK.any t kk, yUa]
theorem RK.rep {K : PySem.W.Frag} {F : Hp} {d : PyData} {v : V} (hd : R K F d v) : ∀ {es : List (PyData × PyData)} {kvs : List (Key × V)}, RK K F es kvs → ∀ (kk : Key), RK K F (es.map fun p => if xJc p.1 (yGu kk) then (p.1, d) else p) (kvs.map fun p => if p.1 = kk then (p.1, v) else p)
  | _, _, .nil, kk => .nil
  | _, _, .cons (k := k) h t, kk => by
    rw [List.map_cons, List.map_cons]
    by_cases e : k = kk
    · simp only [yUa, e, decide_true, if_true]
      exact .cons hd (RK.rep hd t kk)
    · simp only [yUa, e, decide_false, if_false]
      exact .cons h (RK.rep hd t kk)
theorem RK.put {K : PySem.W.Frag} {F : Hp} {es : List (PyData × PyData)} {kvs : List (Key × V)} {d : PyData} {v : V} (h : RK K F es kvs) (hd : R K F d v) (kk : Key) : RK K F (wGv es (yGu kk) d) (putK kvs kk v) := by
  unfold wGv putK
  rw [h.any kk]
  by_cases e : (kvs.any fun p => decide (p.1 = kk)) = true
  · rw [if_pos e, if_pos e]
    exact h.rep hd kk
  · rw [if_neg e, if_neg e]
    exact h.app (.cons hd .nil)
theorem xQc {K : PySem.W.Frag} {w : Wd} {kk : Key} {v : V} (h : RN K w (yGu kk) v) : v = kV kk := by
  cases kk with
  | inl i => exact RN.int h
  | inr x => exact RN.str h

def intsOf : List PyData → Option (List Int)
  | [] => some []
  | .int i :: r => (intsOf r).map (i :: ·)
  | _ => none
theorem yUc : ∀ {xs : List PyData} {ns : List Int}, intsOf xs = some ns → xs = ns.map .int
  | [], ns, e => by cases e; rfl
  | .int i :: r, ns, e => by
    unfold intsOf at e
    cases q : intsOf r with
    | none =>
      rw [q] at e
      cases e
    | some ms =>
      rw [q] at e
      cases e
      rw [yUc q]
      rfl
  | .none :: _, _, e => by cases e
  | .bool _ :: _, _, e => by cases e
  | .str _ :: _, _, e => by cases e
  | .list _ :: _, _, e => by cases e
  | .tuple _ :: _, _, e => by cases e
  | .dict _ :: _, _, e => by cases e
@[simp] theorem yJd : ∀ ns : List Int, intsOf (ns.map .int) = some ns
  | [] => rfl
  | n :: ns => by
    rw [List.map_cons]
    unfold intsOf
    rw [yJd ns]
    rfl
theorem RA.intsV {K : PySem.W.Frag} {F : Hp} : ∀ {ns : List Int} {vs : List V}, RA K F (ns.map .int) vs → vs = ns.map V.int
  | [], _, .nil => rfl
  | n :: ns, _, .cons h t => by
    cases h
    rw [RA.intsV t]
    rfl
def ltL : List Int → List Int → Bool
  | [], [] => false
  | [], _ :: _ => true
  | _ :: _, [] => false
  | x :: xs, y :: ys => if x = y then ltL xs ys else decide (x < y)
theorem wZ5 {ns ms : List Int} : ∀ (k i : Nat), i + k = min ns.length ms.length → Ob.lexAt (fun j => decide (ns.getD j 0 = ms.getD j 0)) (fun j => decide (ns.getD j 0 < ms.getD j 0)) (decide (ns.length < ms.length)) i k = ltL (ns.drop i) (ms.drop i)
  | 0, i, h => by
    rw [Ob.lexAt_zero]
    have h1 : i ≤ ns.length := by omega
    have h2 : i ≤ ms.length := by omega
    by_cases q : ns.length < ms.length
    · have e1 : ns.drop i = [] := List.drop_eq_nil_of_le (by omega)
      have e2 : ms.drop i = ms[i] :: ms.drop (i + 1) := List.drop_eq_getElem_cons (by omega)
      rw [e1, e2, decide_eq_true q]
      rfl
    · have e2 : ms.drop i = [] := List.drop_eq_nil_of_le (by omega)
      rw [e2, decide_eq_false q]
      cases ns.drop i <;> rfl
  | k + 1, i, h => by
    have h1 : i < ns.length := by omega
    have h2 : i < ms.length := by omega
    rw [Ob.lexAt_succ, wZ5 k (i + 1) (by omega), List.drop_eq_getElem_cons h1, List.drop_eq_getElem_cons h2]
    have g1 : ns.getD i 0 = ns[i] := by simp [h1]
    have g2 : ms.getD i 0 = ms[i] := by simp [h2]
    rw [g1, g2]
    show _ = if ns[i] = ms[i] then ltL (ns.drop (i + 1)) (ms.drop (i + 1)) else decide (ns[i] < ms[i])
    by_cases q : ns[i] = ms[i]
    · rw [if_pos (decide_eq_true q), if_pos q]
    · rw [if_neg (by simpa using q), if_neg q]
def rLtT (K : PySem.W.Frag) : R2 := fun x y H Q => ∃ (a b : Addr) (ns ms : List Int), x = .ref a ∧ y = .ref b ∧ SqT K H a (ns.map V.int) ∧ SqT K H b (ms.map V.int) ∧ Q (.bl (ltL ns ms)) H
theorem op_ltT {X : Cx} (hu : X.A.units < cLine) : OpR X (compareOp .Lt) (rLtT X.K) := by
  intro pins s σ H x y v u Q I rx ry h
  obtain ⟨a, b, ns, ms, rfl, rfl, ha, hb, q⟩ := h
  cases rx
  cases ry
  obtain ⟨its, r1, p1, _⟩ := I.tuple ha
  obtain ⟨its2, r2, p2, _⟩ := I.tuple hb
  have i1 : IntsAre its ns := Vals.ints r1
  have i2 : IntsAre its2 ms := Vals.ints r2
  have e1 : its.toArray.size = ns.length := by rw [List.size_toArray]; exact i1.length
  have e2 : its2.toArray.size = ms.length := by rw [List.size_toArray]; exact i2.length
  have at1 : ∀ j (h1 : j < its.toArray.size), ∃ t, its.toArray[j] = .int (ns.getD j 0) t := fun j h1 => PyProof.Rows.IntsAre.int_at i1 _ _ (by simp at h1; simp [h1])
  have at2 : ∀ j (h1 : j < its2.toArray.size), ∃ t, its2.toArray[j] = .int (ms.getD j 0) t := fun j h1 => PyProof.Rows.IntsAre.int_at i2 _ _ (by simp at h1; simp [h1])
  have R := Ob.RcOp.tuples_lt (A := X.A) (s := s) (e := fun j => decide (ns.getD j 0 = ms.getD j 0)) (r := fun j => decide (ns.getD j 0 < ms.getD j 0)) p1 p2 hu (fun j h1 h2 => by
    obtain ⟨t, et⟩ := at1 j h1
    obtain ⟨t', et'⟩ := at2 j h2
    rw [et, et']
    have z : (ns.getD j 0 == ms.getD j 0) = decide (ns.getD j 0 = ms.getD j 0) := by
      by_cases q : ns.getD j 0 = ms.getD j 0
      · rw [decide_eq_true q]; exact beq_iff_eq.mpr q
      · rw [decide_eq_false q]; exact beq_eq_false_iff_ne.mpr q
    rw [← z]
    exact SeqAt.EqAt.int_int _ _ _ _) (fun j h1 h2 _ => by
    obtain ⟨t, et⟩ := at1 j h1
    obtain ⟨t', et'⟩ := at2 j h2
    rw [et, et']
    exact Ob.RcOp.lt_int _ _ _ _)
  rw [e1, e2, wZ5 _ 0 (by omega)] at R
  have z : wpAny (model X.prog X.w) X.A (compareOp .Lt (.ref a) (.ref b)) (EP X pins σ Q) X.xe s := R X.prog X.w X.xe (EP X pins σ Q) ⟨.bl _, H, I, rfl, q⟩
  exact z
def yQb : PyData → Bool
  | .none => true
  | .bool _ => true
  | .int _ => true
  | .str _ => true
  | _ => false
theorem xZ5 {K : PySem.W.Frag} {F : Hp} {x : PyData} {v : V} (h : R K F x v) (f : yQb x = true) : flatV v = true := by
  cases h <;> first | rfl | simp [yQb] at f
theorem yXp {K : PySem.W.Frag} {w : Wd} {x : PyData} {v : V} (h : RN K w x v) (f : yQb x = true) : R K w.F x v := by
  rcases h with h | ⟨_, o, e, _⟩
  · exact h
  · subst e
    cases o <;> simp [dOf, yWq, yQb] at f
theorem wVn {K : PySem.W.Frag} {F F' : Hp} {x y : PyData} {v u : V} (h : R K F x v) (g : R K F' y u) (f : yQb x = true) (f' : yQb y = true) : eqV v u = PyData.eqv x y := by
  cases h <;> first | (simp [yQb] at f; done) | skip
  all_goals (cases g <;> first | (simp [yQb] at f'; done) | simp [eqV, PyData.eqv])
theorem yKa {K : PySem.W.Frag} {F F' : Hp} {x : PyData} {v : V} (h : R K F' x v) (f : yQb x = true) : ∀ {ys : List PyData} {vs : List V}, RA K F ys vs → ys.all yQb = true → vs.all flatV = true ∧ inV v vs = ys.any fun z => PyData.eqv z x
  | [], _, .nil, _ => ⟨rfl, rfl⟩
  | y :: ys, _, .cons g t, e => by
    rw [List.all_cons, Bool.and_eq_true] at e
    obtain ⟨h1, h2⟩ := yKa h f t e.2
    unfold inV at h2 ⊢
    exact ⟨by rw [List.all_cons, xZ5 g e.1, h1]; rfl, by rw [List.any_cons, List.any_cons, h2, wVn g h e.1 f]⟩
def inQ (x : PyData) (ys : List PyData) : Option Bool := if (yQb x && ys.all yQb) || (SeqAt.shaped x && PyData.canLayAll0 ys) then some (ys.any fun z => PyData.eqv z x) else none
def vKq (K : PySem.W.Frag) : R2 := fun x y H Q => ∃ (a b : Addr) (xs ys : List V) (k : Bool), x = .ref a ∧ y = .ref b ∧ ((SqT K H a xs ∧ SqT K H b [] ∧ k = xs.isEmpty) ∨ (SqL K H a xs ∧ SqL K H b ys ∧ xs.length ≠ ys.length ∧ k = false)) ∧ Q (.bl k) H
def vKp (K : PySem.W.Frag) : R2 := fun x y H Q => ∃ (a b : Addr) (xs ys : List V) (k : Bool), x = .ref a ∧ y = .ref b ∧ ((SqT K H a xs ∧ SqT K H b [] ∧ k = xs.isEmpty) ∨ (SqL K H a xs ∧ SqL K H b ys ∧ xs.length ≠ ys.length ∧ k = false)) ∧ Q (.bl (!k)) H
theorem wWo {X : Cx} (hu : X.A.units < cLine) : OpR X (compareOp .Eq) (vKq X.K) := by
  intro pins s σ H x y v u Q I rx ry h
  obtain ⟨a, b, xs, ys, k, rfl, rfl, h, q⟩ := h
  cases rx
  cases ry
  rcases h with ⟨ha, hb, rfl⟩ | ⟨ha, hb, hl, rfl⟩
  · obtain ⟨its, r1, p1, _⟩ := I.tuple ha
    obtain ⟨its2, r2, p2, _⟩ := I.tuple hb
    cases r2
    have R := SeqAt.RcAt.tuples (A := X.A) (s := s) (e := fun _ => true) p1 p2 hu (fun j h1 h2 => absurd h2 (by simp))
    have e : ((List.range (min its.toArray.size ([] : List Value).toArray.size)).all (fun _ => true) && its.toArray.size == ([] : List Value).toArray.size) = xs.isEmpty := by
      cases r1 <;> simp
    rw [e] at R
    have z : wpAny (model X.prog X.w) X.A (compareOp .Eq (.ref a) (.ref b)) (EP X pins σ Q) X.xe s := R X.prog X.w X.xe (EP X pins σ Q) ⟨.bl _, H, I, rfl, q⟩
    exact z
  · obtain ⟨its, r1, p1, _⟩ := I.list ha
    obtain ⟨its2, r2, p2, _⟩ := I.list hb
    have R := SeqAt.RcAt.lists_lengths (A := X.A) (s := s) p1.isList p2.isList (by
      have h1 := r1.length
      have h2 := r2.length
      simp
      omega) hu
    have z : wpAny (model X.prog X.w) X.A (compareOp .Eq (.ref a) (.ref b)) (EP X pins σ Q) X.xe s := R X.prog X.w X.xe (EP X pins σ Q) ⟨.bl _, H, I, rfl, q⟩
    exact z
theorem wWk {X : Cx} (hu : X.A.units < cLine) : OpR X (compareOp .NotEq) (vKp X.K) := by
  intro pins s σ H x y v u Q I rx ry h
  obtain ⟨a, b, xs, ys, k, rfl, rfl, h, q⟩ := h
  cases rx
  cases ry
  rcases h with ⟨ha, hb, rfl⟩ | ⟨ha, hb, hl, rfl⟩
  · obtain ⟨its, r1, p1, _⟩ := I.tuple ha
    obtain ⟨its2, r2, p2, _⟩ := I.tuple hb
    cases r2
    have R := SeqAt.RcNeAt.tuples (A := X.A) (s := s) (e := fun _ => true) p1 p2 hu (fun j h1 h2 => absurd h2 (by simp))
    have e : ((List.range (min its.toArray.size ([] : List Value).toArray.size)).all (fun _ => true) && its.toArray.size == ([] : List Value).toArray.size) = xs.isEmpty := by
      cases r1 <;> simp
    rw [e] at R
    have z : wpAny (model X.prog X.w) X.A (compareOp .NotEq (.ref a) (.ref b)) (EP X pins σ Q) X.xe s := R X.prog X.w X.xe (EP X pins σ Q) ⟨.bl _, H, I, rfl, q⟩
    exact z
  · obtain ⟨its, r1, p1, _⟩ := I.list ha
    obtain ⟨its2, r2, p2, _⟩ := I.list hb
    have R := SeqAt.RcNeAt.lists_lengths (A := X.A) (s := s) p1.isList p2.isList (by
      have h1 := r1.length
      have h2 := r2.length
      simp
      omega) hu
    have z : wpAny (model X.prog X.w) X.A (compareOp .NotEq (.ref a) (.ref b)) (EP X pins σ Q) X.xe s := R X.prog X.w X.xe (EP X pins σ Q) ⟨.bl _, H, I, rfl, q⟩
    exact z
def eqQ (x y : PyData) : Option Bool :=
  match x, y with
  | .list xs, .list ys => if xs.length ≠ ys.length then some false else if SeqAt.shaped (.list xs) && SeqAt.shaped (.list ys) then some (PyData.eqv (.list xs) (.list ys)) else none
  | .tuple xs, .tuple [] => some xs.isEmpty
  | x, y => if SeqAt.shaped x && SeqAt.shaped y then some (PyData.eqv x y) else none
def zYb : PyData → Bool
  | .none => true
  | _ => false
def zG1 (op : CmpOp) (x y : PyData) : Option Bool :=
  match op with
  | .Eq => match x, y with
    | .str a, .str b => some (decide (a = b))
    | x, y => eqQ x y
  | .NotEq => match x, y with
    | .str a, .str b => some (!decide (a = b))
    | x, y => (eqQ x y).map (!·)
  | .Lt => match x, y with
    | .int i, .int j => some (decide (i < j))
    | .tuple xs, .tuple ys => match intsOf xs, intsOf ys with
      | some ns, some ms => some (ltL ns ms)
      | _, _ => none
    | _, _ => none
  | .LtE => match x, y with
    | .int i, .int j => some (decide (i ≤ j))
    | _, _ => none
  | .Gt => match x, y with
    | .int i, .int j => some (decide (j < i))
    | _, _ => none
  | .GtE => match x, y with
    | .int i, .int j => some (decide (j ≤ i))
    | _, _ => none
  | .Is => match y with
    | .none => some (zYb x)
    | .bool j => match x with
      | .bool i => some (decide (i = j))
      | _ => none
    | _ => none
  | .IsNot => match y with
    | .none => some (!zYb x)
    | .bool j => match x with
      | .bool i => some (!decide (i = j))
      | _ => none
    | _ => none
  | .In => match y with
    | .tuple ys => inQ x ys
    | .list ys => inQ x ys
    | .str t => match x with
      | .str s => some (!(Builtin.Str.occurrences t s 0 t.length 1).isEmpty)
      | _ => none
    | .dict es => if zZi es && yXj x then some (xKc es x).isSome else none
    | _ => none
  | .NotIn => match y with
    | .tuple ys => (inQ x ys).map (!·)
    | .list ys => (inQ x ys).map (!·)
    | .str t => match x with
      | .str s => some (!(!(Builtin.Str.occurrences t s 0 t.length 1).isEmpty))
      | _ => none
    | .dict es => if zZi es && yXj x then some (!(xKc es x).isSome) else none
    | _ => none
theorem xUa {K : PySem.W.Frag} {w : Wd} {x : PyData} {v : V} (h : RN K w x v) : zYb x = decide (v = .non) := by
  rcases h with h | ⟨_, o, rfl, rfl, _⟩
  · cases h <;> simp [zYb]
  · cases o <;> simp [zYb, dOf, yWq]
theorem RN.dp {K : PySem.W.Frag} {w : Wd} (s : yZn w.F w.H) {x : PyData} {v : V} (h : RN K w x v) (c : x.canLay0 = true) : Dp K w.H v x := by
  rcases h with h | ⟨a, o, rfl, rfl, h⟩
  · exact h.dp s c
  · cases o with
    | lst xs =>
      obtain ⟨vs, h1, h2⟩ := h
      exact .lst (LQ.of h1).sq (RA.dp s h2 (by simpa [dOf, PyData.canLay0] using c))
    | dic es => simp [dOf, PyData.canLay0] at c
    | ins c' fs => simp [dOf, yWq, PyData.canLay0] at c
theorem xQd {A : Around} {xs : List PyData} {d : PyData} (h : SeqAt.shaped d = true) (hu : A.units + 65 < cLine) : A.units + 1 + min (PyData.depthAll xs) d.depth < cLine := by
  have := SeqAt.depth_of_shaped h
  have : min (PyData.depthAll xs) d.depth ≤ d.depth := Nat.min_le_right _ _
  omega
def vX9 (K : PySem.W.Frag) (neg : Bool) : R2 := fun x y H Q => ∃ d ds, Dp K H x d ∧ (Dp K H y (.tuple ds) ∨ Dp K H y (.list ds)) ∧ SeqAt.shaped d = true ∧ PyData.canLayAll0 ds = true ∧ Q (.bl (if neg then !ds.any fun z => PyData.eqv z d else ds.any fun z => PyData.eqv z d)) H
theorem wZy (hu : X.A.units + 65 < cLine) : OpR X (compareOp .In) (vX9 X.K false) := by
  intro pins s sg H x y v u Q I rx ry h
  obtain ⟨d, ds, hd, he, sd, se, q⟩ := h
  obtain ⟨as, r1⟩ := Dp.reads I d x v hd rx
  rcases he with he | he
  · obtain ⟨bs, r2⟩ := Dp.reads I (.tuple ds) y u he ry
    exact SeqAt.in_tuple_reads r2 r1 se (SeqAt.canLay_of_shaped sd) (xQd sd hu) ⟨.bl _, H, I, rfl, q⟩
  · obtain ⟨bs, r2⟩ := Dp.reads I (.list ds) y u he ry
    exact SeqAt.in_list_reads r2 r1 se (SeqAt.canLay_of_shaped sd) (xQd sd hu) ⟨.bl _, H, I, rfl, q⟩
theorem xZh (hu : X.A.units + 65 < cLine) : OpR X (compareOp .NotIn) (vX9 X.K true) := by
  intro pins s sg H x y v u Q I rx ry h
  obtain ⟨d, ds, hd, he, sd, se, q⟩ := h
  obtain ⟨as, r1⟩ := Dp.reads I d x v hd rx
  rcases he with he | he
  · obtain ⟨bs, r2⟩ := Dp.reads I (.tuple ds) y u he ry
    exact SeqAt.notIn_tuple_reads r2 r1 se (SeqAt.canLay_of_shaped sd) (xQd sd hu) ⟨.bl _, H, I, rfl, q⟩
  · obtain ⟨bs, r2⟩ := Dp.reads I (.list ds) y u he ry
    exact SeqAt.notIn_list_reads r2 r1 se (SeqAt.canLay_of_shaped sd) (xQd sd hu) ⟨.bl _, H, I, rfl, q⟩
def vJa (neg : Bool) : R2 := fun x y H Q => ∃ a kvs k, x = kV k ∧ y = .ref a ∧ H a = some (.dK kvs) ∧ Q (.bl (if neg then !(valV kvs k).isSome else (valV kvs k).isSome)) H
theorem wWm (hu : X.A.units + 1 < cLine) : OpR X (compareOp .In) (vJa false) := by
  intro pins s sg H x y v u Q I rx ry ⟨a, kvs, k, ex, ey, h, q⟩
  subst ex ey
  obtain rfl : u = Value.ref a := ry
  exact d_in hu I (DGet.k h) rx fun s' I' => ⟨.bl _, H, I', rfl, q⟩
theorem xY6 (hu : X.A.units + 1 < cLine) : OpR X (compareOp .NotIn) (vJa true) := by
  intro pins s sg H x y v u Q I rx ry ⟨a, kvs, k, ex, ey, h, q⟩
  subst ex ey
  obtain rfl : u = Value.ref a := ry
  exact d_notIn hu I (DGet.k h) rx fun s' I' => ⟨.bl _, H, I', rfl, q⟩
theorem RK.isSome {K : PySem.W.Frag} {F : Hp} {es : List (PyData × PyData)} {kvs : List (Key × V)} (h : RK K F es kvs) (kk : Key) : (xKc es (yGu kk)).isSome = (valV kvs kk).isSome := by
  obtain ⟨h1, h2⟩ := h.val kk
  cases e : xKc es (yGu kk) with
  | none => rw [h2 e] <;> rfl
  | some d =>
    obtain ⟨v, e2, _⟩ := h1 d e
    rw [e2] <;> rfl
theorem Ctx.u1 (C : Ctx X B) : X.A.units + 1 < cLine := by have := C.rm.un; omega
theorem Ctx.u64 (C : Ctx X B) : X.A.units + 64 < cLine := by have := C.rm.un; omega
theorem Ctx.u65 (C : Ctx X B) : X.A.units + 65 < cLine := by have := C.rm.un; omega
theorem wXe {x y : PyData} {k : Bool} {w : Wd} {u v : V} {T : Bool → Prop} {G : Prop} (C : Ctx X B) (r : Rep X.K w) (ha : RN X.K w x u) (hb : RN X.K w y v) (e : eqQ x y = some k)
    (h1 : ∀ d e, Dp X.K w.H u d → Dp X.K w.H v e → SeqAt.shaped d = true → SeqAt.shaped e = true → T (PyData.eqv d e) → G)
    (h2 : (∃ (a b : Addr) (xs ys : List V) (k : Bool), u = .ref a ∧ v = .ref b ∧ ((SqT X.K w.H a xs ∧ SqT X.K w.H b [] ∧ k = xs.isEmpty) ∨ (SqL X.K w.H a xs ∧ SqL X.K w.H b ys ∧ xs.length ≠ ys.length ∧ k = false)) ∧ T k) → G) (q : T k) : G := by
  have s := r.sub
  have shp : ∀ {d : PyData}, SeqAt.shaped d = true → d.canLay0 = true := fun h => SeqAt.canLay_of_shaped h
  unfold eqQ at e
  split at e
  · rename_i xs ys
    obtain ⟨a, vs, rfl, g1, g2⟩ := ha.lst s
    obtain ⟨b, ws, rfl, g3, g4⟩ := hb.lst s
    split at e
    · rename_i hl
      cases e
      exact h2 ⟨a, b, vs, ws, false, rfl, rfl, .inr ⟨g1.sq, g3.sq, by rw [← g2.len, ← g4.len]; exact hl, rfl⟩, q⟩
    · split at e
      · rename_i hs
        simp only [Bool.and_eq_true] at hs
        cases e
        exact h1 _ _ (ha.dp s (shp hs.1)) (hb.dp s (shp hs.2)) hs.1 hs.2 q
      · cases e
  · rename_i xs
    cases e
    obtain ⟨a, vs, rfl, g1, g2⟩ := ha.tup
    obtain ⟨b, ws, rfl, g3, g4⟩ := hb.tup
    cases g4
    refine h2 ⟨a, b, vs, [], _, rfl, rfl, .inl ⟨zZ7 s g1, zZ7 s g3, rfl⟩, ?_⟩
    cases g2 <;> exact q
  · split at e
    · rename_i hs
      simp only [Bool.and_eq_true] at hs
      cases e
      exact h1 _ _ (ha.dp s (shp hs.1)) (hb.dp s (shp hs.2)) hs.1 hs.2 q
    · cases e
theorem xGf {op : CmpOp} {x y : PyData} {k : Bool} {w : Wd} {u v : V} {Q : VK} (C : Ctx X B) (r : Rep X.K w) (ha : RN X.K w x u) (hb : RN X.K w y v) (e : zG1 op x y = some k) (q : Q (.bl k) w.H) : anyR X (compareOp op) u v w.H Q := by
  have s := r.sub
  have shp : ∀ {d : PyData}, SeqAt.shaped d = true → d.canLay0 = true := fun h => SeqAt.canLay_of_shaped h
  cases op
  · -- Eq
    unfold zG1 at e
    dsimp only at e
    split at e
    · rename_i a b
      cases e
      rw [ha.str, hb.str]
      exact ⟨_, op_eq, rfl, by rw [show decide (V.str a = V.str b) = decide (a = b) from by simp]; exact q⟩
    · exact wXe C r ha hb e (fun d e h1 h2 h3 h4 q => ⟨_, op_eqD C.u64, d, e, h1, h2, h3, h4, q⟩) (fun h => ⟨_, wWo (by have := C.u64; omega), h⟩) q
  · unfold zG1 at e
    dsimp only at e
    split at e
    · rename_i a b
      cases e
      rw [ha.str, hb.str]
      exact ⟨_, op_ne, rfl, by rw [show decide (V.str a = V.str b) = decide (a = b) from by simp]; exact q⟩
    · cases e1 : eqQ x y with
      | none =>
        rw [e1] at e
        cases e
      | some k0 =>
        rw [e1] at e
        cases e
        exact wXe C r ha hb e1 (fun d e h1 h2 h3 h4 q => ⟨_, op_neD C.u64, d, e, h1, h2, h3, h4, q⟩) (fun h => ⟨_, wWk (by have := C.u64; omega), h⟩) q
  · cases x <;> try (cases e; done)
    all_goals (cases y <;> try (cases e; done))
    · cases e
      rw [ha.int, hb.int]
      exact ⟨_, op_lt, _, _, rfl, rfl, q⟩
    · rename_i xs ys
      have e : (match intsOf xs, intsOf ys with
        | some ns, some ms => some (ltL ns ms)
        | _, _ => none) = some k := e
      split at e
      · rename_i ns ms e1 e2
        cases e
        obtain ⟨a, vs, rfl, h1, h2⟩ := ha.tup
        obtain ⟨b, us, rfl, h3, h4⟩ := hb.tup
        rw [yUc e1] at h2
        rw [yUc e2] at h4
        have q1 := h2.intsV
        have q2 := h4.intsV
        subst q1 q2
        exact ⟨_, op_ltT (by have := C.rm.un; omega), a, b, ns, ms, rfl, rfl, zZ7 s h1, zZ7 s h3, q⟩
      · cases e
  · cases x <;> try (cases e; done)
    cases y <;> try (cases e; done)
    cases e
    rw [ha.int, hb.int]
    exact ⟨_, op_le, _, _, rfl, rfl, q⟩
  · cases x <;> try (cases e; done)
    cases y <;> try (cases e; done)
    cases e
    rw [ha.int, hb.int]
    exact ⟨_, op_gt, _, _, rfl, rfl, q⟩
  · cases x <;> try (cases e; done)
    cases y <;> try (cases e; done)
    cases e
    rw [ha.int, hb.int]
    exact ⟨_, op_ge, _, _, rfl, rfl, q⟩
  · -- Is
    cases y <;> try (cases e; done)
    · cases e
      rw [xUa ha] at q
      rw [hb.non]
      exact ⟨_, op_isN, rfl, q⟩
    · cases x <;> try (cases e; done)
      cases e
      rw [ha.bl, hb.bl]
      exact ⟨_, op_isBl, _, _, rfl, rfl, q⟩
  · cases y <;> try (cases e; done)
    · cases e
      rw [xUa ha] at q
      rw [hb.non]
      exact ⟨_, op_notN, rfl, q⟩
    · cases x <;> try (cases e; done)
      cases e
      rw [ha.bl, hb.bl]
      exact ⟨_, op_notBl, _, _, rfl, rfl, q⟩
  · -- In
    cases y <;> try (cases e; done)
    · cases x <;> try (cases e; done)
      cases e
      rw [ha.str, hb.str]
      exact ⟨_, op_in_str, _, _, rfl, rfl, q⟩
    · rename_i ys
      have e : inQ x ys = some k := e
      unfold inQ at e
      split at e
      · rename_i hc
        cases e
        by_cases hf : (yQb x && ys.all yQb) = true
        · simp only [Bool.and_eq_true] at hf
          obtain ⟨a, vs, rfl, h1, h2⟩ := hb.lst s
          obtain ⟨g1, g2⟩ := yKa (yXp ha hf.1) hf.1 h2 hf.2
          exact ⟨_, op_in_seq, a, vs, rfl, .inl h1.sq, xZ5 (yXp ha hf.1) hf.1, g1, by rw [g2]; exact q⟩
        · have hs : SeqAt.shaped x = true ∧ PyData.canLayAll0 ys = true := by
            rw [Bool.not_eq_true] at hf
            rw [hf, Bool.false_or, Bool.and_eq_true] at hc
            exact hc
          exact ⟨_, wZy C.u65, x, _, ha.dp s (shp hs.1), .inr (hb.dp s (by simpa [PyData.canLay0] using hs.2)), hs.1, hs.2, q⟩
      · cases e
    · rename_i ys
      have e : inQ x ys = some k := e
      unfold inQ at e
      split at e
      · rename_i hc
        cases e
        by_cases hf : (yQb x && ys.all yQb) = true
        · simp only [Bool.and_eq_true] at hf
          obtain ⟨a, vs, rfl, h1, h2⟩ := hb.tup
          obtain ⟨g1, g2⟩ := yKa (yXp ha hf.1) hf.1 h2 hf.2
          exact ⟨_, op_in_seq, a, vs, rfl, .inr (zZ7 s h1), xZ5 (yXp ha hf.1) hf.1, g1, by rw [g2]; exact q⟩
        · have hs : SeqAt.shaped x = true ∧ PyData.canLayAll0 ys = true := by
            rw [Bool.not_eq_true] at hf
            rw [hf, Bool.false_or, Bool.and_eq_true] at hc
            exact hc
          exact ⟨_, wZy C.u65, x, _, ha.dp s (shp hs.1), .inl (hb.dp s (by simpa [PyData.canLay0] using hs.2)), hs.1, hs.2, q⟩
      · cases e
    · unfold zG1 at e
      dsimp only at e
      split at e
      · rename_i hs
        simp only [Bool.and_eq_true] at hs
        cases e
        obtain ⟨kk, rfl⟩ := xQb hs.2
        obtain ⟨a, kvs, rfl, hH, rk⟩ := hb.dic s hs.1
        rw [rk.isSome kk] at q
        exact ⟨_, wWm C.u1, a, kvs, kk, xQc ha, rfl, hH, q⟩
      · cases e
  · cases y <;> try (cases e; done)
    · cases x <;> try (cases e; done)
      cases e
      rw [ha.str, hb.str]
      exact ⟨_, op_notin_str, _, _, rfl, rfl, q⟩
    · rename_i ys
      have e : (inQ x ys).map (!·) = some k := e
      unfold inQ at e
      split at e
      · rename_i hc
        cases e
        by_cases hf : (yQb x && ys.all yQb) = true
        · simp only [Bool.and_eq_true] at hf
          obtain ⟨a, vs, rfl, h1, h2⟩ := hb.lst s
          obtain ⟨g1, g2⟩ := yKa (yXp ha hf.1) hf.1 h2 hf.2
          exact ⟨_, op_notIn_seq, a, vs, rfl, .inl h1.sq, xZ5 (yXp ha hf.1) hf.1, g1, by rw [g2]; exact q⟩
        · have hs : SeqAt.shaped x = true ∧ PyData.canLayAll0 ys = true := by
            rw [Bool.not_eq_true] at hf
            rw [hf, Bool.false_or, Bool.and_eq_true] at hc
            exact hc
          exact ⟨_, xZh C.u65, x, _, ha.dp s (shp hs.1), .inr (hb.dp s (by simpa [PyData.canLay0] using hs.2)), hs.1, hs.2, q⟩
      · cases e
    · rename_i ys
      have e : (inQ x ys).map (!·) = some k := e
      unfold inQ at e
      split at e
      · rename_i hc
        cases e
        by_cases hf : (yQb x && ys.all yQb) = true
        · simp only [Bool.and_eq_true] at hf
          obtain ⟨a, vs, rfl, h1, h2⟩ := hb.tup
          obtain ⟨g1, g2⟩ := yKa (yXp ha hf.1) hf.1 h2 hf.2
          exact ⟨_, op_notIn_seq, a, vs, rfl, .inr (zZ7 s h1), xZ5 (yXp ha hf.1) hf.1, g1, by rw [g2]; exact q⟩
        · have hs : SeqAt.shaped x = true ∧ PyData.canLayAll0 ys = true := by
            rw [Bool.not_eq_true] at hf
            rw [hf, Bool.false_or, Bool.and_eq_true] at hc
            exact hc
          exact ⟨_, xZh C.u65, x, _, ha.dp s (shp hs.1), .inl (hb.dp s (by simpa [PyData.canLay0] using hs.2)), hs.1, hs.2, q⟩
      · cases e
    · unfold zG1 at e
      dsimp only at e
      split at e
      · rename_i hs
        simp only [Bool.and_eq_true] at hs
        cases e
        obtain ⟨kk, rfl⟩ := xQb hs.2
        obtain ⟨a, kvs, rfl, hH, rk⟩ := hb.dic s hs.1
        rw [rk.isSome kk] at q
        exact ⟨_, xY6 C.u1, a, kvs, kk, xQc ha, rfl, hH, q⟩
      · cases e
def wY7 (g : PyData → PyData → Option Bool) (o1 o2 : OV) : Pg Bool := look o1 fun x => look o2 fun y => zKz (g x y)
theorem xW8 {g : PyData → PyData → Option Bool} {o1 o2 : OV} {m : Mem} {P : Bool → Mem → Prop} {E : Exn → Mem → Prop} (h : (wY7 g o1 o2 m).wp P E) : ∃ x y k, lk o1 m = some x ∧ lk o2 m = some y ∧ g x y = some k ∧ P k m := by
  obtain ⟨x, e1, h⟩ := zJe h
  obtain ⟨y, e2, h⟩ := zJe h
  obtain ⟨k, e3, h⟩ := zXn h
  exact ⟨x, y, k, e1, e2, e3, h⟩
def zQ3 (op : CmpOp) (fa fb : Pg EV) : Pg Bool := .bind fa fun v => .bind fb fun u => wY7 (zG1 op) (zHc v) (zHc u)
def asV (f : Pg Bool) : Pg EV := .bind f fun k => .ret (.d (.bool k))
theorem zQs {op : CmpOp} (C : Ctx X B) (ha : Snd X B a fa) (hb : Snd X B b fb) (hm : behindInMarks op b = false := by rfl) : xKk X B (.Compare a [op] [b] pos) (zQ3 op fa fb) := by
  intro w Q r h
  refine xHh (pt_cmpR yGs zHk zHk hm) ?_
  refine zQ0 ha r h fun v w1 x e1 f1 r1 re h1 => ?_
  rw [← e1]
  refine zQ0 hb r1 h1 fun u w2 y e2 f2 r2 re2 h2 => ?_
  obtain ⟨d1, d2, k, q1, q2, ez, q⟩ := xW8 h2
  have o1 := ((re.ro r1).fol r1 f2).rn r2 q1
  have o2 := (re2.ro r2).rn r2 q2
  exact xGf C r2 o1 o2 ez ⟨k, rfl, q w2 rfl (e2.trans e1) (f1.trans f2) r2⟩
theorem yZw {op : CmpOp} (C : Ctx X B) (ha : Snd X B a fa) (hb : Snd X B b fb) (hm : behindInMarks op b = false := by rfl) : Snd X B (.Compare a [op] [b] pos) (asV (zQ3 op fa fb)) := by
  intro w Q r h
  refine zUx (pe_cmpR yGs zHk zHk hm) ?_
  have h := wp_bind h
  refine zQ0 ha r h fun v w1 x e1 f1 r1 re h1 => ?_
  rw [← e1]
  refine zQ0 hb r1 h1 fun u w2 y e2 f2 r2 re2 h2 => ?_
  obtain ⟨d1, d2, k, q1, q2, ez, q⟩ := xW8 h2
  have o1 := ((re.ro r1).fol r1 f2).rn r2 q1
  have o2 := (re2.ro r2).rn r2 q2
  exact xGf C r2 o1 o2 ez (q w2 (.bl k) rfl (e2.trans e1) (f1.trans f2) r2 (.bl k))
def xG3 : PyData → Option Bool
  | .none => some false
  | .bool b => some b
  | .int i => some (i != 0)
  | .str s => if s.length ≤ 16777216 then some ((s.length : Int) != 0) else none
  | .list xs => some (!xs.isEmpty)
  | .tuple xs => some (!xs.isEmpty)
  | .dict es => if zZi es then some (!es.isEmpty) else none
def wZi (o : OV) : Pg Bool := look o fun x => zKz (xG3 x)
theorem RK.emp {K : PySem.W.Frag} {F : Hp} {es : List (PyData × PyData)} {kvs : List (Key × V)} (h : RK K F es kvs) : es.isEmpty = kvs.isEmpty := by
  cases h <;> rfl
theorem RA.emp {K : PySem.W.Frag} {F : Hp} {es : List PyData} {kvs : List V} (h : RA K F es kvs) : es.isEmpty = kvs.isEmpty := by
  cases h <;> rfl
theorem xW9 {o : OV} {w : Wd} {v : V} {P : Bool → Mem → Prop} {E : Exn → Mem → Prop} (r : Rep X.K w) (h : RO X.K w o v) (hw : (wZi o w.m).wp P E) : ∃ k, TruV X.K v w.H k ∧ P k w.m := by
  have s := r.sub
  obtain ⟨x, ex, hw⟩ := zJe hw
  have h := h.rn r ex
  obtain ⟨k, ek, q⟩ := zXn hw
  refine ⟨k, ?_, q⟩
  cases x with
  | none =>
    cases ek
    rw [h.non]
    exact rfl
  | bool b =>
    cases ek
    rw [h.bl]
    exact rfl
  | int i =>
    cases ek
    rw [h.int]
    exact rfl
  | str t =>
    unfold xG3 at ek
    dsimp only at ek
    split at ek
    · rename_i hl
      cases ek
      rw [h.str]
      exact ⟨by rw [sizeLine_eq]; exact hl, rfl⟩
    · cases ek
  | list xs =>
    cases ek
    obtain ⟨a, vs, rfl, h1, h2⟩ := h.lst s
    exact .inl ⟨vs, h1.sq, by rw [h2.emp]⟩
  | tuple xs =>
    cases ek
    obtain ⟨a, vs, rfl, h1, h2⟩ := h.tup
    exact .inr (.inl ⟨vs, zZ7 s h1, by rw [h2.emp]⟩)
  | dict es =>
    unfold xG3 at ek
    dsimp only at ek
    split at ek
    · rename_i hp
      cases ek
      obtain ⟨a, kvs, rfl, h1, h2⟩ := h.dic s hp
      exact .inr (.inr ⟨kvs, h1, by rw [h2.emp]⟩)
    · cases ek
def yQc (f : Pg EV) : Pg Bool := .bind f fun v => wZi (zHc v)
theorem zX2 (h : Snd X B e fa) (he : ∀ whole, isTrue e X.env whole = (do let v ← whole; standAt e.pos; holding [v] (truthy v)) := by intro _; rfl) : xKk X B e (yQc fa) := by
  intro w Q r hw
  refine xHh (pt_truth zHk he) ?_
  refine zQ0 h r hw fun v w1 x e1 f1 r1 re h1 => ?_
  obtain ⟨k, hk, q⟩ := xW9 r1 (re.ro r1) h1
  exact ⟨k, hk, q w1 rfl e1 f1 r1⟩
variable {rest : List Expr} {ta tb tc : Pg Bool}
def zGb (t : Pg Bool) : Pg Bool := .bind t fun k => .ret (!k)
def yJy (t u : Pg Bool) : Pg Bool := .bind t fun k => if k then u else .ret false
def yJk (t u : Pg Bool) : Pg Bool := .bind t fun k => if k then .ret true else u
theorem zVy (h : xKk X B a ta) : xKk X B (.UnaryOp .Not a pos) (zGb ta) := by
  intro w Q r hw
  refine xHh (pt_not wZt) ?_
  refine yZy h r hw fun k w1 e1 f1 r1 q => ?_
  exact q w1 rfl e1 f1 r1
def WW (X : Cx) (e : Expr) : TT := fun sg H Q => Cl (∀ (whole : Sem Value) (pins : List (Addr × Obj)) (s : Shared), L2.Inv X pins sg H s → wpAny (model X.prog X.w) X.A (isTrue e X.env whole) (TP X pins sg Q) X.xe s)
theorem vJd : PW X e (WW X e) := ⟨fun wh pins s _ _ _ I h => h.go wh pins s I⟩
def yWt (X : Cx) (B : XBt) (e : Expr) (f : Pg Bool) : Prop := ∀ (w : Wd) (Q : Bool → Hp → Prop), Rep X.K w → (f w.m).wp (wV6 X.K w Q) (XW X.K B w) → WW X e w.sg w.H Q
theorem zG6 (h : xKk X B a ta) : yWt X B (.BoolOp .And [a] pos) ta := fun w Q r hw => ⟨fun wh pins s I => (pw_and1 (wZt (e := a))).run wh pins s _ _ Q I (h w Q r hw)⟩
theorem zK4 (h : xKk X B a ta) : yWt X B (.BoolOp .Or [a] pos) ta := fun w Q r hw => ⟨fun wh pins s I => (pw_or1 (wZt (e := a))).run wh pins s _ _ Q I (h w Q r hw)⟩
theorem yQ1 (h : xKk X B a ta) (h' : yWt X B (.BoolOp .And (b :: rest) pos) tb) : yWt X B (.BoolOp .And (a :: b :: rest) pos) (yJy ta tb) := by
  intro w Q r hw
  refine ⟨fun wh pins s I => ?_⟩
  refine (pw_and (wZt (e := a)) vJd).run wh pins s _ _ Q I ?_
  refine yZy h r hw fun k w1 e1 f1 r1 q => ?_
  cases k with
  | false => exact q w1 rfl e1 f1 r1
  | true =>
    rw [← e1]
    refine iteT (h' w1 Q r1 (q.imp (fun _ _ z w2 em es f r2 => z w2 em (es.trans e1) (f1.trans f) r2) fun _ _ z => z))
theorem zYj (h : xKk X B a ta) (h' : yWt X B (.BoolOp .Or (b :: rest) pos) tb) : yWt X B (.BoolOp .Or (a :: b :: rest) pos) (yJk ta tb) := by
  intro w Q r hw
  refine ⟨fun wh pins s I => ?_⟩
  refine (pw_or (wZt (e := a)) vJd).run wh pins s _ _ Q I ?_
  refine yZy h r hw fun k w1 e1 f1 r1 q => ?_
  cases k with
  | true => exact q w1 rfl e1 f1 r1
  | false =>
    rw [← e1]
    refine iteF (h' w1 Q r1 (q.imp (fun _ _ z w2 em es f r2 => z w2 em (es.trans e1) (f1.trans f) r2) fun _ _ z => z))
theorem yWt.t (h : yWt X B e ta) : xKk X B e ta := fun w Q r hw => ⟨fun pins s I => (h w Q r hw).go _ pins s I⟩
def wQs (f : Pg EV) : Pg EV := .bind f fun v => .bind (wZi (zHc v)) fun k => .ret (.d (.bool (!k)))
def xQl (f g : Pg EV) : Pg EV := .bind f fun v => .bind (wZi (zHc v)) fun k => if k then g else .ret v
theorem wX3 (h : Snd X B a fa) : Snd X B (.UnaryOp .Not a pos) (wQs fa) := by
  intro w Q r hw
  refine zUx (pe_notT zHk) ?_
  refine zQ0 h r hw fun v w1 x e1 f1 r1 re h1 => ?_
  obtain ⟨k, hk, q⟩ := xW9 r1 (re.ro r1) (wp_bind h1)
  exact ⟨k, hk, q w1 (.bl (!k)) rfl e1 f1 r1 (.bl _)⟩
theorem yKn {op} (h : Snd X B a fa) : Snd X B (.BoolOp op [a] pos) fa := fun w Q r hw => zUx (pe_one zHk) (h w Q r hw)
theorem snd_and (h : Snd X B a fa) (h' : Snd X B (.BoolOp .And (b :: rest) pos) fb) : Snd X B (.BoolOp .And (a :: b :: rest) pos) (xQl fa fb) := by
  intro w Q r hw
  refine zUx (pe_andT zHk zHk) ?_
  refine zQ0 h r hw fun v w1 x e1 f1 r1 re h1 => ?_
  obtain ⟨k, hk, q⟩ := xW9 r1 (re.ro r1) (wp_bind h1)
  refine ⟨k, hk, ?_⟩
  cases k with
  | false => exact q w1 x rfl e1 f1 r1 re
  | true =>
    rw [← e1]
    exact iteT (h' w1 Q r1 (q.imp (fun _ _ z w2 y em es f r2 => z w2 y em (es.trans e1) (f1.trans f) r2) fun _ _ z => z))
def xZ8 (t : Pg Bool) (f g : Pg EV) : Pg EV := .bind t fun k => if k then f else g
theorem zX0 (hc : xKk X B c tc) (ha : Snd X B a fa) (hb : Snd X B b fb) : Snd X B (.IfExp c a b pos) (xZ8 tc fa fb) := by
  intro w Q r hw
  refine zUx (pe_ifExp wZt zHk zHk) ?_
  refine yZy hc r hw fun k w1 e1 f1 r1 q => ?_
  rw [← e1]
  cases k with
  | true => exact iteT (ha w1 Q r1 (q.imp (fun _ _ z w2 y em es f r2 => z w2 y em (es.trans e1) (f1.trans f) r2) fun _ _ z => z))
  | false => exact iteF (hb w1 Q r1 (q.imp (fun _ _ z w2 y em es f r2 => z w2 y em (es.trans e1) (f1.trans f) r2) fun _ _ z => z))
end
end Ev

namespace Ev
open PySem PySem.Spec PyProof.Rows L2

section
variable {X : Cx} {B : XBt} {e : Expr} {es : List Expr} {pos p : Pos}
def BOk (X : Cx) (f : Value) (g : List PyData → Option EV) : Prop := ∀ (w : Wd) (ds : List PyData) (xs : List V) (v : EV) (Q : VK), Rep X.K w → Paired (RN X.K w) ds xs → g ds = some v → xG1 X.K w v Q → ∃ r, CallR X f r ∧ r xs w.H Q
def xXd : List OV → Mem → Option (List PyData)
  | [], _ => some []
  | o :: r, m => match lk o m, xXd r m with
    | some x, some xs => some (x :: xs)
    | _, _ => none
theorem xU9 {K : PySem.W.Frag} {w : Wd} (rp : Rep K w) : ∀ {os : List OV} {xs : List V} {ds : List PyData}, Paired (RO K w) os xs → xXd os w.m = some ds → Paired (RN K w) ds xs
  | [], _, _, .nil, e => by
    cases e
    exact .nil
  | o :: r, _, ds, .cons h t, e => by
    unfold xXd at e
    split at e
    · rename_i x xs q1 q2
      cases e
      exact .cons (h.rn rp q1) (xU9 rp t q2)
    · cases e
def zGt (g : List PyData → Option EV) (fo : Pg (List OV)) : Pg EV := .bind fo fun os => fun m => match xXd os m with
  | some ds => zKz (g ds) m
  | none => .bad
theorem anyC {X : Cx} {f : Value} : CallR X f (fun xs H Q => ∃ r, CallR X f r ∧ r xs H Q) := by
  intro pins s sg H xs us Q I rv h
  obtain ⟨r, hc, q⟩ := h
  exact hc pins s sg H xs us Q I rv q
theorem xGn {f : Value} {g : List PyData → Option EV} {fo : Pg (List OV)} (hb : BOk X f g) (ha : wXp X B (e :: es) fo) {w : Wd} {Q : VK} (r : Rep X.K w) (hw : (zGt g fo w.m).wp (zYh X.K w Q) (XW X.K B w)) :
    WA X (e :: es) w.sg w.H fun xs H => ∃ r, CallR X f r ∧ r xs H Q := by
  refine yYl ha r hw fun os w1 xs e1 f1 r1 ro h1 => ?_
  have h1 : (match xXd os w1.m with
    | some ds => zKz (g ds) w1.m
    | none => .bad : Res EV).wp _ _ := h1
  cases ed : xXd os w1.m with
  | none =>
    rw [ed] at h1
    exact h1.elim
  | some ds =>
    rw [ed] at h1
    obtain ⟨v, ev, q⟩ := zXn h1
    exact hb w1 ds xs v Q r1 (xU9 r1 ro ed) ev (zYh.keep q e1 f1)
theorem zG5 {id : String} {x : Str} {g : List PyData → Option EV} {fo : Pg (List OV)} (hb : BOk X (.builtin id) g) (hg : Gl X x) (hm : X.mg x = none) (hv : bootBuiltins x = some (.builtin id)) (ha : wXp X B (e :: es) fo)
    (hn : x ≠ "__name__" := by decide) (hdb : (x == ("__debug__" : Str)) = false := by decide) (he : starEach (e :: es) X.env = (false, eval e X.env) :: starEach es X.env := by rfl) (hpl : (backTo pos (starEach es X.env)).any (·.1) = false := by rfl) :
    Snd X B (.Call (.Name x p) (e :: es) [] pos) (zGt g fo) := fun w Q r hw => zUx (pe_callB anyC hg hm hv xY2 hn hdb he hpl) (xGn hb ha r hw)
theorem zHn {id : String} {x : Str} {g : List PyData → Option EV} {fo : Pg (List OV)} (hb : BOk X (.type id) g) (hg : Gl X x) (hm : X.mg x = none) (hv : bootBuiltins x = some (.type id)) (ha : wXp X B (e :: es) fo)
    (hn : x ≠ "__name__" := by decide) (hdb : (x == ("__debug__" : Str)) = false := by decide) (he : starEach (e :: es) X.env = (false, eval e X.env) :: starEach es X.env := by rfl) (hpl : (backTo pos (starEach es X.env)).any (·.1) = false := by rfl) :
    Snd X B (.Call (.Name x p) (e :: es) [] pos) (zGt g fo) := fun w Q r hw => zUx (pe_callTy anyC hg hm hv xY2 hn hdb he hpl) (xGn hb ha r hw)

def xG4 : List PyData → Option EV
  | [.str s] => if s.length ≤ 16777216 then some (.d (.int s.length)) else none
  | [.list xs] => some (.d (.int xs.length))
  | [.tuple xs] => some (.d (.int xs.length))
  | [.dict es] => if zZi es then some (.d (.int es.length)) else none
  | _ => none
theorem xVj : BOk X (.builtin "len") xG4 := by
  intro w ds xs v Q r h e k
  cases h with
  | nil => cases e
  | @cons d x ds xs h t =>
    cases t with
    | cons _ _ => cases d <;> cases e
    | nil =>
      cases d <;> try (cases e; done)
      · rename_i z
        by_cases hz : z.length ≤ 16777216
        · rw [show xG4 [.str z] = some (.d (.int z.length)) from if_pos hz] at e
          cases e
          rw [h.str]
          exact ⟨_, call_len, _, _, rfl, ⟨by rw [sizeLine_eq]; exact hz, rfl⟩, k.here r (.int _)⟩
        · rw [show xG4 [.str z] = none from if_neg hz] at e
          cases e
      · cases e
        obtain ⟨a, vs, rfl, h1, h2⟩ := h.lst r.sub
        exact ⟨_, call_len, _, _, rfl, .inl ⟨vs, h1.sq, h2.len⟩, k.here r (.int _)⟩
      · cases e
        obtain ⟨a, vs, rfl, h1, h2⟩ := h.tup
        exact ⟨_, call_len, _, _, rfl, .inr ⟨vs, zZ7 r.sub h1, h2.len⟩, k.here r (.int _)⟩
      · rename_i es
        have e : (if zZi es then some (EV.d (.int es.length)) else none) = some v := e
        split at e
        · rename_i hp
          cases e
          obtain ⟨a, kvs, rfl, h1, h2⟩ := h.dic r.sub hp
          exact ⟨_, call_lenD, a, kvs, rfl, h1, by rw [← h2.len]; exact k.here r (.int _)⟩
        · cases e

mutual
def zJt : PyData → Bool
  | .none => true
  | .bool _ => true
  | .int _ => true
  | .str _ => true
  | .list xs => yQ4 xs
  | .tuple xs => yQ4 xs
  | .dict es => zVm es
def yQ4 : List PyData → Bool
  | [] => true
  | x :: xs => zJt x && yQ4 xs
def zVm : List (PyData × PyData) → Bool
  | [] => true
  | (k, x) :: xs => yXj k && (zJt x && zVm xs)
end
theorem wH0 {pins : List (Addr × Obj)} {sg : L2.St} {H : Hp} {s : Shared} (I : L2.Inv X pins sg H s) (sm : SM X.base) {a : Addr} {o : Obj} (h : s.heap.get? a = some o) (hc : ∀ es ep, o.data ≠ .dict es ep) : sysModules ≠ a := by
  obtain ⟨u, es, ep, h1, h2⟩ := sm
  intro e
  have h3 := I.bk _ _ h1
  rw [e, h] at h3
  cases h3
  exact hc es ep h2
mutual
theorem R.reads {pins : List (Addr × Obj)} {sg : L2.St} {H : Hp} {s : Shared} (I : L2.Inv X pins sg H s) (sm : SM X.base) : ∀ {d : PyData} {v : V} {u : Value}, R X.K H d v → zJt d = true → RelV v u → ∃ as, Reads s.heap u d as ∧ sysModules ∉ as
  | _, _, _, .non, _, rv => by
    cases rv
    exact ⟨_, .none, by simp⟩
  | _, _, _, .bl b, _, rv => by
    cases rv
    exact ⟨_, .bool b, by simp⟩
  | _, _, _, .int i, _, ⟨t, e⟩ => by
    subst e
    exact ⟨_, .int i t, by simp⟩
  | _, _, _, .str x, _, ⟨t, e⟩ => by
    subst e
    exact ⟨_, .str x t, by simp⟩
  | .list ds, .ref a, _, .lst h ra, c, rv => by
    cases rv
    obtain ⟨_, its, n, rvs, _, ea⟩ := h.at I
    obtain ⟨as, q, z⟩ := RA.reads I sm ra (by simpa [zJt] using c) rvs
    refine ⟨_, .list ea rfl rfl q, fun hm => ?_⟩
    rcases List.mem_cons.mp hm with e | e
    · exact wH0 I sm ea (fun _ _ z => by cases z) e
    · exact z e
  | .tuple ds, .ref a, _, .tup h ra, c, rv => by
    cases rv
    obtain ⟨its, rvs, ⟨o, h1, h2, n, h3⟩, _⟩ := I.tuple h
    obtain ⟨as, q, z⟩ := RA.reads I sm ra (by simpa [zJt] using c) rvs
    exact ⟨_, .tuple h1 h2 h3 q, z⟩
  | .dict es, .ref a, _, .dic h ra, c, rv => by
    cases rv
    obtain ⟨_, ns, vs, kv, dk⟩ := I.hok a _ h
    obtain ⟨bs, q, z⟩ := RK.reads I sm ra (by simpa [zJt] using c) kv
    refine ⟨_, PyProof.V.reads_dictOf (enc := yGu) (fun k key hk => ?_) dk q, fun hm => ?_⟩
    · rcases keyIs_shape hk with ⟨i, t, rfl, rfl⟩ | ⟨x, t, rfl, rfl⟩
      · exact .int i t
      · exact .str x t
    · rcases List.mem_cons.mp hm with e | e
      · rw [← e] at ns
        simp at ns
      · exact z e
  | .dict _, .ref a, _, .ins _ _ _ _, c, rv => by simp [zJt, zVm, yXj] at c
  | .dict _, .ref a, _, .cls _, c, rv => by simp [zJt, zVm, yXj] at c
  | .dict _, .ref a, _, .exn0 _ _, c, rv => by simp [zJt, zVm, yXj] at c
  | .dict _, .ref a, _, .exn _ _ _ _, c, rv => by simp [zJt, zVm, yXj] at c
  | .dict _, .ref a, _, .cell _, c, rv => by simp [zJt, zVm, yXj] at c
theorem RA.reads {pins : List (Addr × Obj)} {sg : L2.St} {H : Hp} {s : Shared} (I : L2.Inv X pins sg H s) (sm : SM X.base) : ∀ {ds : List PyData} {vs : List V} {us : List Value}, RA X.K H ds vs → yQ4 ds = true → Vals vs us → ∃ as, ReadsAll s.heap us ds as ∧ sysModules ∉ as
  | _, _, _, .nil, _, .nil => ⟨_, .nil, by simp⟩
  | _, _, _, .cons h ra, c, .cons rv rvs => by
    simp only [yQ4, Bool.and_eq_true] at c
    obtain ⟨as, q1, z1⟩ := R.reads I sm h c.1 rv
    obtain ⟨bs, q2, z2⟩ := RA.reads I sm ra c.2 rvs
    exact ⟨_, .cons q1 q2, fun hm => (List.mem_append.mp hm).elim z1 z2⟩
theorem RK.reads {pins : List (Addr × Obj)} {sg : L2.St} {H : Hp} {s : Shared} (I : L2.Inv X pins sg H s) (sm : SM X.base) : ∀ {es : List (PyData × PyData)} {kvs : List (Key × V)} {us : List (Key × Value)}, RK X.K H es kvs → zVm es = true → KV kvs us → ∃ as, PyProof.V.PairsRead s.heap yGu us es as ∧ sysModules ∉ as
  | _, _, _, .nil, _, .nil => ⟨_, .nil, by simp⟩
  | _, _, (k, u) :: us, .cons h ra, c, .cons rv rvs => by
    obtain ⟨e, rv⟩ := rv
    have e : _ = k := e
    subst e
    simp only [zVm, Bool.and_eq_true] at c
    obtain ⟨as, q1, z1⟩ := R.reads I sm h c.2.1 rv
    obtain ⟨bs, q2, z2⟩ := RK.reads I sm ra c.2.2 rvs
    exact ⟨_, .cons q1 q2, fun hm => (List.mem_append.mp hm).elim z1 z2⟩
end
mutual
theorem R.nowX {K : PySem.W.Frag} {F H : Hp} (s : yZn F H) : ∀ {d : PyData} {v : V}, R K F d v → zJt d = true → R K H d v
  | _, _, .non, _ => .non
  | _, _, .bl b, _ => .bl b
  | _, _, .int i, _ => .int i
  | _, _, .str x, _ => .str x
  | _, _, .lst h a, c => .lst (h.mox s) (RA.nowX s a (by simpa [zJt] using c))
  | _, _, .tup h a, c => .tup (zZ7 s h) (RA.nowX s a (by simpa [zJt] using c))
  | _, _, .dic h a, c => .dic (s _ _ h xVl) (RK.nowX s a (by simpa [zJt] using c))
  | _, _, .ins _ _ _ _, c => by simp [zJt, zVm, yXj] at c
  | _, _, .cls _, c => by simp [zJt, zVm, yXj] at c
  | _, _, .exn0 _ _, c => by simp [zJt, zVm, yXj] at c
  | _, _, .exn _ _ _ _, c => by simp [zJt, zVm, yXj] at c
  | _, _, .cell _, c => by simp [zJt, zVm, yXj] at c
theorem RA.nowX {K : PySem.W.Frag} {F H : Hp} (s : yZn F H) : ∀ {ds : List PyData} {vs : List V}, RA K F ds vs → yQ4 ds = true → RA K H ds vs
  | _, _, .nil, _ => .nil
  | _, _, .cons h a, c => by
    simp only [yQ4, Bool.and_eq_true] at c
    exact .cons (R.nowX s h c.1) (RA.nowX s a c.2)
theorem RK.nowX {K : PySem.W.Frag} {F H : Hp} (s : yZn F H) : ∀ {es : List (PyData × PyData)} {kvs : List (Key × V)}, RK K F es kvs → zVm es = true → RK K H es kvs
  | _, _, .nil, _ => .nil
  | _, _, .cons h a, c => by
    simp only [zVm, Bool.and_eq_true] at c
    exact .cons (R.nowX s h c.2.1) (RK.nowX s a c.2.2)
end
def xYp (d : PyData) : Bool := d.showable && decide (d.depth ≤ 64) && zJt d && decide (d.shown.length ≤ 16777216)
def wGm : List PyData → Option EV
  | [.int i] => some (.d (.int (if i < 0 then -i else i)))
  | _ => none
theorem wZ1 : BOk X (.builtin "abs") wGm := by
  intro w ds xs v Q r h e k
  cases h with
  | nil => cases e
  | @cons d x ds xs h t =>
    cases t with
    | cons _ _ => cases d <;> cases e
    | nil =>
      cases d <;> try (cases e; done)
      cases e
      rw [h.int]
      exact ⟨_, call_abs, _, rfl, k.here r (.int _)⟩
def wGi : List PyData → Option EV
  | [.int i] => some (.d (.int i))
  | [.bool b] => some (.d (.int (if b then 1 else 0)))
  | _ => none
theorem wWr : BOk X (.type "int") wGi := by
  intro w ds xs v Q r h e k
  cases h with
  | nil => cases e
  | @cons d x ds xs h t =>
    cases t with
    | cons _ _ => cases d <;> cases e
    | nil =>
      cases d <;> try (cases e; done)
      · cases e
        rw [h.bl]
        exact ⟨_, call_int1, .inr ⟨_, rfl, k.here r (.int _)⟩⟩
      · cases e
        rw [h.int]
        exact ⟨_, call_int1, .inl ⟨_, rfl, k.here r (.int _)⟩⟩
def vYd : List PyData → Option EV
  | [.int i, .int j] => some (.d (.int (if j < i then j else i)))
  | _ => none
def vQw : List PyData → Option EV
  | [.int i, .int j] => some (.d (.int (if j > i then j else i)))
  | _ => none
theorem wWq (C : Ctx X B) : BOk X (.builtin "max") vQw := by
  intro w ds xs v Q r h e k
  cases h with
  | nil => cases e
  | @cons d x ds xs h t =>
    cases t with
    | nil => cases d <;> cases e
    | @cons d2 x2 ds2 xs2 h2 t2 =>
      cases t2 with
      | cons _ _ => cases d <;> cases d2 <;> cases e
      | nil =>
        cases d <;> try (cases e; done)
        cases d2 <;> try (cases e; done)
        cases e
        rw [h.int, h2.int]
        exact ⟨_, call_max2 C.calm, _, _, rfl, k.here r (.int _)⟩

def yV8 : List PyData → Option EV
  | [.list xs] => some (.d (.tuple xs))
  | [.tuple xs] => some (.d (.tuple xs))
  | _ => none
theorem yX9 : BOk X (.type "tuple") yV8 := by
  intro w ds xs v Q r h e k
  cases h with
  | nil => cases e
  | @cons d x ds xs h t =>
    cases t with
    | cons _ _ => cases d <;> cases e
    | nil =>
      cases d <;> try (cases e; done)
      · cases e
        obtain ⟨a, vs, rfl, h1, h2⟩ := h.lst r.sub
        exact ⟨_, call_tuple_of, a, vs, rfl, .inl ⟨h1.sq, fun p hp => k.tup r h2 hp⟩⟩
      · cases e
        obtain ⟨a, vs, rfl, h1, h2⟩ := h.tup
        exact ⟨_, call_tuple_of, a, vs, rfl, .inr ⟨zZ7 r.sub h1, k.here r (.tup h1 h2)⟩⟩
def wQn : List PyData → Option EV
  | [.list xs] => some (.fresh xs)
  | [.tuple xs] => some (.fresh xs)
  | _ => none
theorem xY9 : BOk X (.type "list") wQn := by
  intro w ds xs v Q r h e k
  cases h with
  | nil => cases e
  | @cons d x ds xs h t =>
    cases t with
    | cons _ _ => cases d <;> cases e
    | nil =>
      cases d <;> try (cases e; done)
      · cases e
        obtain ⟨a, vs, rfl, h1, h2⟩ := h.lst r.sub
        exact ⟨_, call_list_of, a, vs, rfl, .inl h1.sq, fun p hp => k.lst r h2 hp⟩
      · cases e
        obtain ⟨a, vs, rfl, h1, h2⟩ := h.tup
        exact ⟨_, call_list_of, a, vs, rfl, .inr (zZ7 r.sub h1), fun p hp => k.lst r h2 hp⟩

def boolsOf : List PyData → Option (List Bool)
  | [] => some []
  | .bool b :: r => match boolsOf r with
    | some bs => some (b :: bs)
    | none => none
  | _ => none
theorem yWh {K : PySem.W.Frag} {F : Hp} : ∀ {ds : List PyData} {vs : List V} {bs : List Bool}, RA K F ds vs → boolsOf ds = some bs → vs = bs.map V.bl
  | [], _, _, .nil, e => by
    cases e
    rfl
  | .bool b :: r, _, _, .cons h t, e => by
    unfold boolsOf at e
    cases q : boolsOf r with
    | none =>
      rw [q] at e
      cases e
    | some zs =>
      rw [q] at e
      cases e
      cases h
      rw [yWh t q]
      rfl
  | .none :: _, _, _, _, e => by cases e
  | .int _ :: _, _, _, _, e => by cases e
  | .str _ :: _, _, _, _, e => by cases e
  | .list _ :: _, _, _, _, e => by cases e
  | .tuple _ :: _, _, _, _, e => by cases e
  | .dict _ :: _, _, _, _, e => by cases e
def wYd : List PyData → Option EV
  | [.list xs] => match boolsOf xs with
    | some bs => some (.d (.bool (bs.all id)))
    | none => none
  | _ => none
theorem ok_all (C : Ctx X B) : BOk X (.builtin "all") wYd := by
  intro w ds xs v Q r h e k
  cases h with
  | nil => cases e
  | @cons d x ds xs h t =>
    cases t with
    | cons _ _ => cases d <;> cases e
    | nil =>
      cases d <;> try (cases e; done)
      unfold wYd at e
      dsimp only at e
      split at e
      · rename_i bs hb
        cases e
        obtain ⟨a, vs, rfl, h1, h2⟩ := h.lst r.sub
        refine ⟨_, cr_all C.calm, a, bs, rfl, ?_, k.here r (.bl _)⟩
        rw [← yWh h2 hb]
        exact h1.sq
      · cases e
def wYb : List PyData → Option EV
  | [.list xs] => match boolsOf xs with
    | some bs => some (.d (.bool (bs.any id)))
    | none => none
  | _ => none
theorem wZ0 (C : Ctx X B) : BOk X (.builtin "any") wYb := by
  intro w ds xs v Q r h e k
  cases h with
  | nil => cases e
  | @cons d x ds xs h t =>
    cases t with
    | cons _ _ => cases d <;> cases e
    | nil =>
      cases d <;> try (cases e; done)
      unfold wYb at e
      dsimp only at e
      split at e
      · rename_i bs hb
        cases e
        obtain ⟨a, vs, rfl, h1, h2⟩ := h.lst r.sub
        refine ⟨_, cr_any C.calm, a, bs, rfl, ?_, k.here r (.bl _)⟩
        rw [← yWh h2 hb]
        exact h1.sq
      · cases e

def tyName : PyData → Option String
  | .none => some "NoneType"
  | .bool _ => some "bool"
  | .int _ => some "int"
  | .str _ => some "str"
  | .list _ => some "list"
  | .tuple _ => some "tuple"
  | .dict es => if zZi es then some "dict" else none
theorem wZh {w : Wd} (s : yZn w.F w.H) {d : PyData} {v : V} (h : RN X.K w d v) {t : String} (ht : tyName d = some t) : TyX X.K w.H v (.type t) := by
  rcases h with h | ⟨a, o, rfl, rfl, h⟩
  · cases h with
    | non => cases ht; exact .base .non
    | bl b => cases ht; exact .base (.bl b)
    | int i => cases ht; exact .base (.int i)
    | str x => cases ht; exact .base (.str x)
    | lst hq ra =>
      cases ht
      rcases hq.mox s with (q | ⟨o, q⟩) | ⟨its, n, q, _⟩
      · exact .base (.lst q)
      · exact .base (.frz q)
      · exact .kList q rfl
    | tup hq ra =>
      cases ht
      rcases zZ7 s hq with (q | ⟨o, q⟩) | ⟨o, its, n, q, c, _⟩
      · exact .base (.tup q)
      · exact .fTuple q
      · exact .kTuple q c
    | dic hq ra =>
      unfold tyName at ht
      dsimp only at ht
      split at ht
      · cases ht
        exact .base (.dK (s _ _ hq xVl))
      · cases ht
    | ins _ _ _ _ => simp [tyName, zZi, yXj] at ht
    | cls _ => simp [tyName, zZi, yXj] at ht
    | exn0 _ _ => simp [tyName, zZi, yXj] at ht
    | exn _ _ _ _ => simp [tyName, zZi, yXj] at ht
    | cell _ => simp [tyName, zZi, yXj] at ht
  · cases o with
    | lst xs =>
      obtain ⟨vs, h1, h2⟩ := h
      cases ht
      exact .base (.lst h1)
    | dic es =>
      obtain ⟨vs, h1, h2⟩ := h
      unfold dOf tyName at ht
      dsimp only at ht
      split at ht
      · cases ht
        exact .base (.dK h1)
      · cases ht
    | ins c' fs => simp [dOf, yWq, tyName, zZi, yXj] at ht
def xZ7 (T : String) (f : Pg EV) : Pg EV := .bind f fun v => look (zHc v) fun x => zKz ((tyName x).bind fun t => (kitB t T).map fun b => EV.d (.bool b))
theorem yYk {T : String} {f : Pg EV} {p1 p2 : Pos} {x t : Str} (h : Snd X B e f) (hg : Gl X x) (hm : X.mg x = none) (hv : bootBuiltins x = some (.builtin "isinstance")) (hg2 : Gl X t) (hm2 : X.mg t = none) (hv2 : bootBuiltins t = some (.type T))
    (hn : x ≠ "__name__" := by decide) (hdb : (x == ("__debug__" : Str)) = false := by decide) (hn2 : t ≠ "__name__" := by decide) (hdb2 : (t == ("__debug__" : Str)) = false := by decide)
    (he : starEach [e, .Name t p2] X.env = (false, eval e X.env) :: starEach [.Name t p2] X.env := by rfl) : Snd X B (.Call (.Name x p1) [e, .Name t p2] [] pos) (xZ7 T f) := by
  intro w Q r hw
  refine zUx (pe_callB call_isi hg hm hv (pa_cons zHk (pa_cons (pe_bltn hg2 hm2 hv2 (v := .ty T) rfl hn2 hdb2) pa_nil) he) hn hdb he rfl) ?_
  refine zQ0 h r hw fun v w1 y e1 f1 r1 re h1 => ?_
  obtain ⟨x, ex, h1⟩ := zJe h1
  have ro := (re.ro r1).rn r1 ex
  obtain ⟨z, ez, q⟩ := zXn h1
  cases et : tyName x with
  | none =>
    rw [et] at ez
    cases ez
  | some t0 =>
    rw [et] at ez
    have ez : (kitB t0 T).map (fun b => EV.d (.bool b)) = some z := ez
    cases ek : kitB t0 T with
    | none =>
      rw [ek] at ez
      cases ez
    | some b =>
      rw [ek] at ez
      cases ez
      exact ⟨y, .ty T, _, _, b, rfl, .ty T, wZh r1.sub ro et, kit_ty ek, q w1 (.bl b) rfl e1 f1 r1 (.bl b)⟩
end
end Ev

namespace Ev
open PySem PySem.Spec PyProof.Rows L2

abbrev Fn := List AV → Pg EV
def bare (w : Wd) : Wd := { F := w.F, ro := w.ro, m := ⟨[], w.m.cs⟩, sg := [], H := w.H, Z := fun a => w.H a ≠ none, T := w.T }
def yWg (K : PySem.W.Frag) (g : Fn) (B : XBt) (w0 : Wd) (args : List AV) (Q : VK) : Prop :=
  (g args w0.m).wp (fun v m' => ∀ (w' : Wd) (x : V), w'.m.sl = [] → w'.m.cs = m'.cs → w'.sg = [] → FolS w0 w' → Rep K w' → RE K w' v x → Q x w'.H) (fun x m' => ∀ w' : Wd, w'.m.sl = [] → w'.m.cs = m'.cs → w'.sg = [] → FolS w0 w' → Rep K w' → B x w')
def spG (K : PySem.W.Frag) (n : Nat) (g : Fn) : Sp := fun vs H Q E => ∃ (w0 : Wd) (args : List AV), w0.m.sl = [] ∧ w0.sg = [] ∧ w0.H = H ∧ (∀ a, H a ≠ none → w0.Z a) ∧ Rep K w0 ∧ Paired (RV K w0) args vs ∧ args.length = n ∧
  yWg K g (fun x w' => ∀ cls d, xWv K w' x cls d → E cls d w'.H) w0 args Q
structure FnG (P : Program) (w : World) (K : PySem.W.Frag) (mg : Str → Option Value) (base : Heap) (k : Nat) (f : Addr) (fd : FuncData) (ps : List Str) (sp : Sp) : Prop where
  len : ∀ vs H Q E, sp vs H Q E → vs.length = ps.length
  bnd : ∀ (A : Around) (outer : List Env) (s : Shared) (H : Hp) (args : Args) (Q : VK) (E : XK), A.guards = some [] → Room k A → Env0 P w K mg base A outer s H →
    StX.Bnd (L2.CX P w) P w K mg base fd args ps A outer s H E (fun vs H2 => sp vs H2 Q E) → codeAny (model P w) A (.call (.ref f) args) (CR (L2.CX P w) outer P w H s Q E) s
theorem FnG.go {P : Program} {w : World} {K : PySem.W.Frag} {mg : Str → Option Value} {base : Heap} {k : Nat} {f : Addr} {fd : FuncData} {ps : List Str} {sp : Sp} (F : FnG P w K mg base k f fd ps sp) (A : Around) (outer : List Env) (s : Shared) (H : Hp) (args : Args) (us : List Value) (vs : List V) (Q : VK) (E : XK)
    (hg : A.guards = some []) (hr : Room k A) (e0 : Env0 P w K mg base A outer s H) (hb : BindsTo s fd args (ps.zip us)) (r : Vals vs us) (h : sp vs H Q E) : codeAny (model P w) A (.call (.ref f) args) (CR (L2.CX P w) outer P w H s Q E) s :=
  F.bnd A outer s H args Q E hg hr e0 fun A' Ex Q' cont => hb _ _ _ _ (cont s H vs us e0 (Un.refl ..) rfl (fun _ _ z => z) r (F.len vs H Q E h) h)
theorem FnG.up {P : Program} {w : World} {K : PySem.W.Frag} {mg : Str → Option Value} {base : Heap} {j k : Nat} {f : Addr} {fd : FuncData} {ps : List Str} {sp : Sp} (F : FnG P w K mg base j f fd ps sp) (h : j ≤ k) : FnG P w K mg base k f fd ps sp :=
  ⟨F.len, fun A outer s H args Q E hg hr => F.bnd A outer s H args Q E hg (hr.mono h)⟩

theorem zZt {α β : Type} {R : α → β → Prop} : ∀ {xs : List α} {ys : List β}, Paired R xs ys → xs.length = ys.length
  | _, _, .nil => rfl
  | _, _, .cons _ t => congrArg (· + 1) (zZt t)
theorem xYb {K : PySem.W.Frag} {n : Nat} {g : Fn} {ps : List Str} (h : n = ps.length) : ∀ vs H Q E, spG K n g vs H Q E → vs.length = ps.length := by
  rintro vs H Q E ⟨w0, args, _, _, _, _, _, hv, hn, _⟩
  rw [← zZt hv, hn, h]

theorem yKi {K : PySem.W.Frag} {w : Wd} (r : Rep K w) : Rep K (bare w) :=
  ⟨r.sub, Nat.zero_le _, fun i v h => by simp [bare] at h, r.cs, r.ln, r.rf, r.rk, r.nd, fun i j xs ys x h => by simp [bare] at h, fun a h => h, r.oo, r.tb⟩
theorem yJ9 {K : PySem.W.Frag} {w : Wd} : ∀ {vs : List AV} {xs : List V}, Paired (RV K w) vs xs → Paired (RV K (bare w)) vs xs
  | _, _, .nil => .nil
  | .d _ :: _, _, .cons h t => .cons h (yJ9 t)
  | .cell _ :: _, _, .cons h t => .cons h (yJ9 t)
def back (w w' : Wd) : Wd := { F := w'.F, ro := w'.ro, m := ⟨w.m.sl, w'.m.cs⟩, sg := w.sg, H := w'.H, Z := w.Z, T := w.T }
theorem yXt {K : PySem.W.Frag} {w w' : Wd} (r : Rep K w) (f : FolS (bare w) w') (r' : Rep K w') : Rep K (back w w') ∧ FolE w (back w w') := by
  have zn : ∀ a, ¬ (bare w).Z a → w.H a = none := fun a h => Classical.byContradiction fun q => h q
  have kp : ∀ a o, w.H a = some o → a ∉ w.ro → (∀ ps, o ≠ .tbl ps) → w'.H a = some o := fun a o h n => f.frm a o h n (zHz h)
  have tT : w'.T = w.T := f.t
  have nf : ∀ a, w.H a ≠ none → w.F a = none → w'.F a = none := fun a h n => Classical.byContradiction fun q => (f.grow a q).elim (fun z => z n) fun z => z h
  have nr : ∀ a, w.H a ≠ none → a ∉ w.ro → a ∉ w'.ro := fun a h n q => (f.new a q).elim n fun z => z h
  refine ⟨⟨r'.sub, r.le, fun i v h => ?_, r'.cs, r'.ln, r'.rf, r'.rk, r'.nd, r.ow, fun a h => f.liv a (r.zl a h), r'.oo, by have q := r'.tb; unfold TB TK at q ⊢; rw [tT] at q; exact q⟩, ⟨rfl, rfl, f.ext, f.pre, kp, fun a h => (f.new a h).imp id (zn a), f.liv, fun a h => (f.grow a h).imp id fun z q => r.zl a q (zn a z), fun a h => h⟩⟩
  obtain ⟨x, h1, h2⟩ := r.sl i v h
  refine ⟨x, h1, ?_⟩
  cases v with
  | d y => exact R.mono f.ext h2
  | ob ys =>
    obtain ⟨a, e, q1, q3, q4, q5⟩ := h2
    obtain ⟨u, hu⟩ := q1.live
    exact ⟨a, e, q1.keep f.ext (fun u z => kp a u z q4 (q1.ntbl z)) (fun d z => kp d _ z (r.noOwnDict z).1 (by intro _ q; cases q)) (fun _ _ z => z), nf a (zHz hu) q3, nr a (zHz hu) q4, q5⟩
  | cell n =>
    obtain ⟨a, e, q⟩ := h2
    exact ⟨a, e, f.at q⟩
  | thk t => exact ⟨h2.1, xQu h2.2.1 f.ext f.pre, h2.2.2⟩
theorem yUx {K : PySem.W.Frag} {w w' : Wd} (r : Rep K w) (f : FolS (bare w) w') (hz : w'.m.sl = []) : ∀ {v : EV} {x : V}, RE K w' v x → RE K (back w w') v x
  | .d _, _, h => h
  | .cell _, _, h => h
  | .pk i o, _, ⟨h, _⟩ => by
    rw [hz] at h
    simp at h
  | .new o, _, ⟨a, e, h1, h3, h4, h5, _⟩ => by
    have h5 : ¬ (bare w).Z a := by
      rw [← f.z]
      exact h5
    have nn : w.H a = none := Classical.byContradiction fun q => h5 q
    refine ⟨a, e, h1.keep (Same.refl _) (fun _ z => z) (fun _ z => z) (fun d _ z => ?_), h3, h4, fun z => r.zl a z nn, fun ⟨i, ys, q1, q2⟩ => (r.ownAt (show Own w a from ⟨i, ys, q1, q2⟩)).1 nn⟩
    rw [f.z]
    exact r.zl d z

section
variable {X : Cx} {B : XBt} {e : Expr} {es : List Expr} {pos p : Pos}
def zJ1 (g : Fn) (args : List AV) : Pg EV := fun m => match g args ⟨[], m.cs⟩ with
  | .ok v m' => .ok v ⟨m.sl, m'.cs⟩
  | .thr x m' => .thr x ⟨m.sl, m'.cs⟩
  | .bad => .bad
def zQ9 (g : Fn) (fa : Pg (List AV)) : Pg EV := .bind fa fun args => zJ1 g args
theorem yKg {g : Fn} {w : Wd} {args : List AV} {P : EV → Mem → Prop} {E : Exn → Mem → Prop} (h : (zJ1 g args w.m).wp P E) : (g args (bare w).m).wp (fun v m' => P v ⟨w.m.sl, m'.cs⟩) (fun x m' => E x ⟨w.m.sl, m'.cs⟩) := by
  unfold zJ1 at h
  show (g args ⟨[], w.m.cs⟩).wp _ _
  cases q : g args ⟨[], w.m.cs⟩ with
  | ok v m' =>
    rw [q] at h
    exact h
  | thr x m' =>
    rw [q] at h
    exact h
  | bad =>
    rw [q] at h
    exact h
theorem xQn {g : Fn} {n : Nat} {w : Wd} {args : List AV} {xs : List V} {Q : VK} (r : Rep X.K w) (hn : args.length = n) (hv : Paired (RV X.K w) args xs) (h : (zJ1 g args w.m).wp (fun v m' => zYh X.K w Q v m') (XW X.K B w)) :
    spG X.K n g xs w.H Q fun cls d H' => WXB X.K B cls d w.sg H' := by
  refine ⟨bare w, args, rfl, rfl, rfl, fun a h => h, yKi r, yJ9 hv, hn, ?_⟩
  refine (yKg h).imp (fun v m' q w' x e1 e2 e3 f r' re => ?_) fun x m' q w' e1 e2 e3 f r' cls d ex => ?_
  · obtain ⟨r2, f2⟩ := yXt r f r'
    exact q (back w w') x (by show (⟨w.m.sl, w'.m.cs⟩ : Mem) = _; rw [e2]) rfl f2 r2 (yUx r f e1 re)
  · obtain ⟨r2, f2⟩ := yXt r f r'
    exact ⟨x, back w w', r2, rfl, rfl, ex, q (back w w') (by show (⟨w.m.sl, w'.m.cs⟩ : Mem) = _; rw [e2]) (f2.s r) r2⟩
variable {k : Nat} {f : Addr} {fd : FuncData} {ps : List Str} {ds : List Value} {x : Str}
theorem xZe {sg : L2.St} {H : Hp} {s s' : Shared} {pins : List (Addr × Obj)} {e : Value} (C : Ctx X B) (I : L2.Inv X pins sg H s) (h : L2.CX X.prog X.w X.stack H s (fun cls d H' => WXB X.K B cls d sg H') e s') : X.xe e s' :=
  C.tk _ _ (XE.of_call I (fun _ _ _ q => q) h)
theorem wK4 {sp : Sp} {pins : List (Addr × Obj)} {sg : L2.St} {H : Hp} {s : Shared} {Q : VK} {us : List Value} {vs : List V} (C : Ctx X B) (F : FnG X.prog X.w X.K X.mg X.base k f fd ps sp) (hr : Room k X.A) (hb : Binds X.K fd ps ds) {dvs : List V} (hd : Vals dvs ds)
    (I : L2.Inv X pins sg H s) (rv : Vals vs us) (h : sp (vs ++ dvs) H Q fun cls d H' => WXB X.K B cls d sg H') : wpAny (model X.prog X.w) X.A (call (.ref f) us) (EP X pins sg Q) X.xe s := by
  have ra : Vals (vs ++ dvs) (us ++ ds) := rv.append hd
  have ln : (us ++ ds).length = ps.length := by
    have := F.len _ _ _ _ h
    rw [← ra.length]
    exact this
  refine wpAny_call (codeAny_mono (F.go X.A X.stack s H ⟨us, []⟩ (us ++ ds) (vs ++ dvs) Q _ C.gd hr I.env0 (hb s us I.kIn ln) ra h) fun r s' hq => ?_)
  match r, hq with
  | .error _, hq => exact xZe C I hq
  | .ok (.ret u), hq => exact I.after hq
  | .ok .next, hq => exact (show False from hq).elim
  | .ok .brk, hq => exact (show False from hq).elim
  | .ok .cont, hq => exact (show False from hq).elim
def wZk (X : Cx) (B : XBt) (sp : Sp) (dvs : List V) (t : TA) : TE := fun sg H Q => t sg H fun vs H1 => sp (vs ++ dvs) H1 Q fun cls d H' => WXB X.K B cls d sg H'
theorem vKt {sp : Sp} {t : TA} (C : Ctx X B) (F : FnG X.prog X.w X.K X.mg X.base k f fd ps sp) (hr : Room k X.A) (hg : Gl X x) (hm : X.mg x = some (.ref f)) (hk : PySem.W.keepIn X.K (.ref f) = true) (hb : Binds X.K fd ps ds) {dvs : List V} (hd : Vals dvs ds) (ha : PA X (e :: es) t)
    (hdb : (x == ("__debug__" : Str)) = false := by decide) (he : starEach (e :: es) X.env = (false, eval e X.env) :: starEach es X.env := by rfl) (hpl : (backTo pos (starEach es X.env)).any (·.1) = false := by rfl) : PE X (.Call (.Name x p) (e :: es) [] pos) (wZk X B sp dvs t) :=
  ⟨fun pins s sg H Q I h => wpAny_Call_Name_kw (ld_glob I hg hm (PySem.W.callWith_K (h₀ := X.base) I.ok.mod.kin hk (thn (ha.run pos pins s sg H _ I h) fun us s1 ⟨vs, H1, I1, rv, q⟩ => ⟨I1.kIn, wK4 C F hr hb hd I1 rv q⟩) he hpl) hdb)⟩
theorem vQg {sp : Sp} (C : Ctx X B) (F : FnG X.prog X.w X.K X.mg X.base k f fd ps sp) (hr : Room k X.A) (hg : Gl X x) (hm : X.mg x = some (.ref f)) (hk : PySem.W.keepIn X.K (.ref f) = true) (hb : Binds X.K fd ps ds) {dvs : List V} (hd : Vals dvs ds)
    (hdb : (x == ("__debug__" : Str)) = false := by decide) : PE X (.Call (.Name x p) [] [] pos) (wZk X B sp dvs tNil) :=
  ⟨fun pins s sg H Q I h => wpAny_Call_Name_kw (ld_glob I hg hm (PySem.W.callWith_K0 I.kIn hk (wK4 (us := []) C F hr hb hd I .nil h)) hdb)⟩
structure Has (X : Cx) (k : Nat) (x : Str) (ps : List Str) (g : Fn) : Prop where
  ex : ∃ (f : Addr) (fd : FuncData), FnG X.prog X.w X.K X.mg X.base k f fd ps (spG X.K ps.length g) ∧ X.mg x = some (.ref f) ∧ PySem.W.keepIn X.K (.ref f) = true ∧ Binds X.K fd ps []
def zZy (n : Nat) (fa : Pg (List AV)) : Pg (List AV) := .bind fa fun vs => if vs.length = n then .ret vs else .stuck
theorem zQr {g : Fn} {n : Nat} {fa : Pg (List AV)} (C : Ctx X B) (h : Has X k x ps g) (hn : ps.length = n) (hr : Room k X.A) (hg : Gl X x) (ha : xKl X B (e :: es) fa)
    (hdb : (x == ("__debug__" : Str)) = false := by decide) (he : starEach (e :: es) X.env = (false, eval e X.env) :: starEach es X.env := by rfl) (hpl : (backTo pos (starEach es X.env)).any (·.1) = false := by rfl) : Snd X B (.Call (.Name x p) (e :: es) [] pos) (zQ9 g (zZy n fa)) := by
  subst hn
  obtain ⟨f, fd, F, hm, hk, hb⟩ := h.ex
  intro w Q r hw
  refine zUx (vKt C F hr hg hm hk hb .nil xY2 hdb he hpl) ?_
  have hw := wp_bind (wp_bind hw)
  refine ha w _ r (hw.imp (fun vs m' q w1 xs em e1 f1 r1 rv => ?_) fun _ _ q => q)
  subst em
  show spG X.K ps.length g (xs ++ []) w1.H Q _
  rw [List.append_nil]
  by_cases hl : vs.length = ps.length
  · rw [if_pos hl] at q
    have q2 : (zJ1 g vs w1.m).wp (zYh X.K w1 Q) (XW X.K B w1) := Res.wp.imp q (fun v m' z w2 y em es f2 r2 re => z w2 y em (es.trans e1) (f1.trans f2) r2 re) fun _ _ z => z.fol (f1.s r)
    have z := xQn r1 hl rv q2
    rw [e1] at z
    exact z
  · rw [if_neg hl] at q
    exact q.elim
end
end Ev

namespace Ev
open PySem PySem.Spec PyProof.Rows L2

def toS : AV → SV
  | .d x => .d x
  | .cell n => .cell n
def zZo (n : Nat) (args : List AV) : List (Option SV) := args.map (fun a => some (toS a)) ++ List.replicate (n - args.length) none
def xH5 : EV → EV
  | .d x => .d x
  | .new o => .new o
  | .pk _ o => .new o
  | .cell n => .cell n
def vJ4 : Res Fl → Res EV
  | .ok (.ret v) m => .ok (xH5 v) ⟨[], m.cs⟩
  | .ok .next m => .ok (.d .none) ⟨[], m.cs⟩
  | .thr x m => .thr x ⟨[], m.cs⟩
  | _ => .bad
def zQ2 (n : Nat) (fb : Pg Fl) : Fn := fun args m => vJ4 (fb ⟨zZo n args, m.cs⟩)
theorem xU7 {r : Res Fl} {P : EV → Mem → Prop} {E : Exn → Mem → Prop} (h : (vJ4 r).wp P E) : r.wp (fun fl m => match fl with
    | .ret v => P (xH5 v) ⟨[], m.cs⟩
    | .next => P (.d .none) ⟨[], m.cs⟩
    | _ => False) (fun x m => E x ⟨[], m.cs⟩) := by
  cases r with
  | bad => exact h
  | thr x m => exact h
  | ok fl m =>
    cases fl with
    | next => exact h
    | brk => exact h
    | cont => exact h
    | ret v => exact h
theorem wZm {K : PySem.W.Frag} {w : Wd} : ∀ {args : List AV} {vs : List V}, Paired (RV K w) args vs → ∀ (i : Nat) (v : SV), (args.map fun a => some (toS a))[i]? = some (some v) → ∃ x, (vs.map some)[i]? = some (some x) ∧ RS K w v x ∧ ∀ xs, v ≠ .ob xs
  | _, _, .nil, _, _, h => by simp at h
  | a :: _, x :: _, .cons h t, 0, v, e => by
    simp at e
    subst e
    refine ⟨x, by simp, ?_⟩
    cases a with
    | d y => exact ⟨h, fun _ z => by cases z⟩
    | cell n => exact ⟨h, fun _ z => by cases z⟩
  | _ :: _, _ :: _, .cons _ t, i + 1, v, e => by
    obtain ⟨x, h1, h2⟩ := wZm t i v (by simpa using e)
    exact ⟨x, by simpa using h1, h2⟩
theorem xKq {α : Type} {l : List (Option α)} {k i : Nat} {v : α} (h : (l ++ List.replicate k none)[i]? = some (some v)) : l[i]? = some (some v) := by
  by_cases q : i < l.length
  · rw [List.getElem?_append_left q] at h
    exact h
  · rw [List.getElem?_append_right (by omega), List.getElem?_replicate] at h
    split at h <;> cases h
def entry (N : List Str) (w0 : Wd) (args : List AV) (vs : List V) : Wd := { F := w0.F, ro := w0.ro, m := ⟨zZo N.length args, w0.m.cs⟩, sg := start N vs, H := w0.H, Z := w0.Z, T := w0.T }
theorem xXc {K : PySem.W.Frag} {N : List Str} {w0 : Wd} {args : List AV} {vs : List V} (r : Rep K w0) (hv : Paired (RV K w0) args vs) : Rep K (entry N w0 args vs) := by
  have ln := zZt hv
  have get : ∀ (i : Nat) (v : SV), (zZo N.length args)[i]? = some (some v) → ∃ x, (start N vs)[i]? = some (some x) ∧ RS K w0 v x ∧ ∀ xs, v ≠ .ob xs := fun i v h => by
    obtain ⟨x, h1, h2⟩ := wZm hv i v (xKq h)
    refine ⟨x, ?_, h2⟩
    show (vs.map some ++ List.replicate (N.length - vs.length) none)[i]? = some (some x)
    rw [List.getElem?_append_left (List.getElem?_eq_some_iff.mp h1).1]
    exact h1
  refine ⟨r.sub, ?_, fun i v h => ?_, r.cs, r.ln, r.rf, r.rk, r.nd, fun i j xs ys x h1 h2 _ _ => ?_, r.zl, r.oo, r.tb⟩
  · show (zZo N.length args).length ≤ (start N vs).length
    unfold zZo L2.start
    simp only [List.length_append, List.length_map, List.length_replicate, ln]
    exact Nat.le_refl _
  · obtain ⟨x, h1, h2, h3⟩ := get i v h
    refine ⟨x, h1, ?_⟩
    cases v with
    | d y => exact h2
    | ob xs => exact absurd rfl (h3 xs)
    | cell n => exact h2
    | thk t => exact h2
  · obtain ⟨x, _, _, h3⟩ := get i _ h1
    exact absurd rfl (h3 xs)
theorem wZx {K : PySem.W.Frag} {w : Wd} (r : Rep K w) {v : EV} {x : V} (h : RE K w v x) : RE K { w with m := ⟨[], w.m.cs⟩, sg := [] } (xH5 v) x := by
  cases v with
  | d y => exact h
  | cell n => exact h
  | new o =>
    obtain ⟨a, e, h1, h3, h4, h5, _⟩ := h
    exact ⟨a, e, h1, h3, h4, h5, fun ⟨i, ys, q, _⟩ => by simp at q⟩
  | pk i o =>
    obtain ⟨h1, h2⟩ := h
    obtain ⟨y, h3, a, e, q1, q3, q4, q5⟩ := r.sl i _ h1
    rw [h2] at h3
    cases h3
    exact ⟨a, e, q1, q3, q4, q5, fun ⟨i, ys, q, _⟩ => by simp at q⟩
theorem yKw {K : PySem.W.Frag} {w : Wd} (r : Rep K w) : Rep K { w with m := ⟨[], w.m.cs⟩, sg := [] } := ⟨r.sub, Nat.zero_le _, fun i v h => by simp at h, r.cs, r.ln, r.rf, r.rk, r.nd, fun i j xs ys x h => by simp at h, r.zl, r.oo, r.tb⟩
section
variable {P : Program} {w : World} {K : PySem.W.Frag} {mg : Str → Option Value} {base : Heap}
theorem vQz {x qual : Str} {st : Stmt} {f : Addr} {fd : FuncData} {N ps : List Str} {k : Nat} {fb : Pg Fl} (F : Fun K x qual st f fd) (S : FnScope N ps (defScope st)) (sm : SM base)
    (hbody : ∀ (cdv : Value) (A : Around) (outer : List Env) (s : Shared) (H : Hp) (E : XK) (B : XBt), Ctx (cxOf (L2.CX P w) P w K mg base N qual (defScope st) f cdv A outer s H E) B → PassesOwn (model P w) (cxOf (L2.CX P w) P w K mg base N qual (defScope st) f cdv A outer s H E).A (cxOf (L2.CX P w) P w K mg base N qual (defScope st) f cdv A outer s H E).env (cxOf (L2.CX P w) P w K mg base N qual (defScope st) f cdv A outer s H E).xe →
      Room k (cxOf (L2.CX P w) P w K mg base N qual (defScope st) f cdv A outer s H E).A →
      xGz (cxOf (L2.CX P w) P w K mg base N qual (defScope st) f cdv A outer s H E) B (defBody st) fb) : FnG P w K mg base (k + 1) f fd ps (spG K ps.length (zQ2 N.length fb)) := by
  obtain ⟨oc, od, kV, doc, pm, an, cdv, ct, osl, rfl, lk, hcd⟩ := F.ex
  refine ⟨xYb rfl, fun A outer s H args Q E hg hr e0 hb => ?_⟩
  refine StX.run_bnd (k := k) lk hcd S hr e0 hb fun s2 H2 vs hsp rm => ?_
  obtain ⟨w0, as, z1, z2, z3, zz, r0, rv, hn, hc⟩ := hsp
  subst z3
  let B : XBt := fun x w' => ∀ cls d, xWv K w' x cls d → E cls d w'.H
  have C : Ctx (cxOf (L2.CX P w) P w K mg base N qual (defScope st) f cdv A outer s2 w0.H E) B := ⟨rfl, hg, rm.mono (Nat.zero_le _), S.nd, sm, (takes_of rfl rfl rfl rfl).imp fun cls d sg H ⟨x, w', _, _, eH, ex, b⟩ => eH ▸ b cls d ex⟩
  have body := hbody cdv A outer s2 w0.H E B C (passes_of rfl) rm
  have re := xXc (N := N) r0 rv
  have hw : (fb (entry N w0 as vs).m).wp (yQw K (entry N w0 as vs) { nx := fun _ H' => Q .non H', rt := Q }) (XW K B (entry N w0 as vs)) := by
    refine (xU7 (r := fb ⟨zZo N.length as, w0.m.cs⟩) hc).imp (fun fl m' q w' em fol r' => ?_) fun x m' q w' em fol r' => ?_
    · subst em
      have fo : FolS w0 { w' with m := ⟨[], w'.m.cs⟩, sg := [] } := ⟨fol.z, fol.t, fol.ext, fol.pre, fol.frm, fol.new, fol.liv, fol.grow⟩
      cases fl with
      | next => exact q { w' with m := ⟨[], w'.m.cs⟩, sg := [] } .non rfl rfl rfl fo (yKw r') .non
      | brk => exact q.elim
      | cont => exact q.elim
      | ret v => exact fun x re => q { w' with m := ⟨[], w'.m.cs⟩, sg := [] } x rfl rfl rfl fo (yKw r') (wZx r' re)
    · subst em
      exact fun cls d ex => q { w' with m := ⟨[], w'.m.cs⟩, sg := [] } rfl rfl rfl ⟨fol.z, fol.t, fol.ext, fol.pre, fol.frm, fol.new, fol.liv, fol.grow⟩ (yKw r') cls d ex
  exact ⟨_, wKd, body (entry N w0 as vs) _ re hw⟩
end
end Ev

namespace Ev
open PySem PySem.Spec PyProof.Rows L2

def setM (m : Mem) (i : Nat) (v : SV) : Mem := { m with sl := m.sl.set i (some v) }
def yHh (w : Wd) (i : Nat) (v : SV) (x : V) : Wd := { w with m := setM w.m i v, sg := w.sg.set i (some x) }
theorem xJ9 {w : Wd} {i j : Nat} {v u : SV} {x : V} (h : (yHh w i v x).m.sl[j]? = some (some u)) : (j = i ∧ u = v ∧ i < w.m.sl.length) ∨ (j ≠ i ∧ w.m.sl[j]? = some (some u)) := by
  rcases yHg (show (w.m.sl.set i (some v))[j]? = some (some u) from h) with ⟨q1, q2⟩ | q
  · refine .inl ⟨q1, Option.some.inj q2, ?_⟩
    have := (List.getElem?_eq_some_iff.mp h).1
    rw [q1] at this
    simpa [yHh, setM] using this
  · exact .inr q
theorem yGl {K : PySem.W.Frag} {w : Wd} (r : Rep K w) {i : Nat} {v : SV} {x : V} (h : RS K w v x) (ho : ∀ xs a, v = .ob xs → x = .ref a → ¬ Own w a) : Rep K (yHh w i v x) ∧ FolS w (yHh w i v x) := by
  have sgi : i < w.m.sl.length → (w.sg.set i (some x))[i]? = some (some x) := fun q => List.getElem?_set_self (Nat.lt_of_lt_of_le q r.le)
  have sgj : ∀ j, j ≠ i → (w.sg.set i (some x))[j]? = w.sg[j]? := fun j q => List.getElem?_set_ne (Ne.symm q)
  refine ⟨⟨r.sub, ?_, fun j u hj => ?_, r.cs, r.ln, r.rf, r.rk, r.nd, fun j k xs ys y hj hk h1 h2 => ?_, r.zl, r.oo, r.tb⟩, ⟨rfl, rfl, Same.refl _, ⟨[], (List.append_nil _).symm⟩, fun _ _ h _ _ _ => h, fun _ h => .inl h, fun _ h => h, fun _ h => .inl h⟩⟩
  · show (w.m.sl.set i _).length ≤ (w.sg.set i _).length
    rw [List.length_set, List.length_set]
    exact r.le
  · rcases xJ9 hj with ⟨q1, q2, q3⟩ | ⟨q1, q2⟩
    · subst q1 q2
      exact ⟨x, sgi q3, h⟩
    · obtain ⟨y, h1, h2⟩ := r.sl j u q2
      exact ⟨y, (sgj j q1).trans h1, h2⟩
  · have atJ : ∀ {j : Nat} {xs : Ob}, (yHh w i v x).m.sl[j]? = some (some (.ob xs)) → (yHh w i v x).sg[j]? = some (some y) → (j = i ∧ v = .ob xs ∧ y = x) ∨ (j ≠ i ∧ w.m.sl[j]? = some (some (.ob xs)) ∧ w.sg[j]? = some (some y)) := fun {j xs} hj hy => by
      have hy : (w.sg.set i (some x))[j]? = some (some y) := hy
      rcases xJ9 hj with ⟨q1, q2, q3⟩ | ⟨q1, q2⟩
      · subst q1
        rw [sgi q3] at hy
        exact .inl ⟨rfl, q2.symm, (Option.some.inj (Option.some.inj hy)).symm⟩
      · rw [sgj j q1] at hy
        exact .inr ⟨q1, q2, hy⟩
    have clash : ∀ {j : Nat} {xs ys : Ob}, v = .ob ys → y = x → w.m.sl[j]? = some (some (.ob xs)) → w.sg[j]? = some (some y) → False := fun {j xs ys} e1 e2 e3 e4 => by
      subst e1 e2
      obtain ⟨a, e, _⟩ := h
      subst e
      exact ho _ a rfl rfl ⟨j, xs, e3, e4⟩
    rcases atJ hj h1 with ⟨a1, a2, a3⟩ | ⟨a1, a2, a3⟩
    · rcases atJ hk h2 with ⟨b1, b2, b3⟩ | ⟨b1, b2, b3⟩
      · exact a1.trans b1.symm
      · exact (clash a2 a3 b2 b3).elim
    · rcases atJ hk h2 with ⟨b1, b2, b3⟩ | ⟨b1, b2, b3⟩
      · exact (clash b2 b3 a2 a3).elim
      · exact r.ow j k xs ys y a2 b2 a3 b3
theorem wX9 {K : PySem.W.Frag} {w : Wd} (r : Rep K w) {i : Nat} {v : SV} {x : V} (h : RS K w v x) (ho : ∀ xs, v ≠ .ob xs) : Rep K (yHh w i v x) ∧ FolE w (yHh w i v x) := by
  refine ⟨(yGl r h fun xs a e _ => absurd e (ho xs)).1, ⟨rfl, rfl, Same.refl _, ⟨[], (List.append_nil _).symm⟩, fun _ _ h _ _ => h, fun _ h => .inl h, fun _ h => h, fun _ h => .inl h, fun a ⟨j, xs, h1, h2⟩ => ?_⟩⟩
  rcases xJ9 h1 with ⟨_, q, _⟩ | ⟨q1, q2⟩
  · exact absurd q.symm (ho xs)
  · have h2 : (w.sg.set i (some x))[j]? = some (some (.ref a)) := h2
    rw [List.getElem?_set_ne (Ne.symm q1)] at h2
    exact ⟨j, xs, q2, h2⟩
def wV0 (i : Nat) (v : EV) : Pg Unit := match v with
  | .new o => fun m => .ok () (setM m i (.ob o))
  | v => .bind (toA v) fun a => fun m => .ok () (setM m i (toS a))
theorem wXm {K : PySem.W.Frag} {B : XBt} {w : Wd} (r : Rep K w) {v : EV} {x : V} (h : RE K w v x) {i : Nat} {P : Unit → Mem → Prop} {E : Exn → Mem → Prop} (hw : (wV0 i v w.m).wp P E) : ∃ w' : Wd, w'.sg = w.sg.set i (some x) ∧ w'.H = w.H ∧ FolS w w' ∧ Rep K w' ∧ P () w'.m := by
  have gen : ∀ {P : Unit → Mem → Prop}, ((Pg.bind (toA v) fun a => fun m => Res.ok () (setM m i (toS a))) w.m).wp P E → ∃ w' : Wd, w'.sg = w.sg.set i (some x) ∧ w'.H = w.H ∧ FolS w w' ∧ Rep K w' ∧ P () w'.m := fun {P} hw => by
    obtain ⟨a, w1, ea, e1, e2, f1, r1, rv⟩ := zUy r h
    have hw := wp_bind hw
    rw [ea] at hw
    obtain ⟨r2, f2⟩ := yGl (i := i) (v := toS a) (x := x) r1 (by cases a <;> exact rv) (fun xs b e _ => by cases a <;> cases e)
    exact ⟨yHh w1 i (toS a) x, by show w1.sg.set i _ = _; rw [e1], e2, (f1.s r).trans f2, r2, hw⟩
  cases v with
  | new o =>
    obtain ⟨a, e, h1, h3, h4, h5, h6⟩ := h
    subst e
    obtain ⟨r2, f2⟩ := yGl (i := i) (v := .ob o) (x := .ref a) r ⟨a, rfl, h1, h3, h4, h5⟩ (fun ys b _ e => by cases e; exact h6)
    exact ⟨yHh w i (.ob o) (.ref a), rfl, rfl, f2, r2, hw⟩
  | d y => exact gen hw
  | pk j xs => exact gen hw
  | cell n => exact gen hw

section
variable {X : Cx} {B : XBt} {e c : Expr} {es : List Expr} {pos p : Pos} {f : Pg EV} {st : Stmt} {rest sa sb : List Stmt} {fs fb fa : Pg Fl} {tc : Pg Bool}
theorem post_of {K : PySem.W.Frag} {w w1 : Wd} {D : Ends} {fl : Fl} {m : Mem} (q : yQw K w D fl m) (f : FolS w w1) : yQw K w1 D fl m := fun w' em g r => q w' em (f.trans g) r
theorem wKq {K : PySem.W.Frag} {B : XBt} {w w1 : Wd} {D : Ends} {r : Res Fl} (q : r.wp (yQw K w D) (XW K B w)) (f : FolS w w1) : r.wp (yQw K w1 D) (XW K B w1) := q.imp (fun _ _ z => post_of z f) fun _ _ z => z.fol f

def zQz (f g : Pg Fl) : Pg Fl := .bind f fun fl => match fl with
  | .next => g
  | fl => .ret fl
theorem zQy : xGz X B [] (.ret .next) := fun w D r h => wXv pss_nil (h w rfl (FolS.refl w) r)
theorem zQi (h1 : xXi X B st fs) (h2 : xGz X B rest fb) : xGz X B (st :: rest) (zQz fs fb) := by
  intro w D r hw
  refine wXv (pss_cons vJf wKd) ?_
  refine h1 w { D with nx := WB X rest D } r ((wp_bind hw).imp (fun fl m' q w1 em f1 r1 => ?_) fun _ _ q => q)
  subst em
  cases fl with
  | next => exact h2 w1 D r1 (wKq q f1)
  | brk => exact q w1 rfl f1 r1
  | cont => exact q w1 rfl f1 r1
  | ret v => exact q w1 rfl f1 r1
theorem zQj (h1 : xXi X B st fs) : xGz X B [st] fs := fun w D r hw => wXv (pss_one vJf) (h1 w D r hw)

def evSet (i : Nat) (f : Pg EV) : Pg Fl := .bind f fun v => .bind (wV0 i v) fun _ => .ret .next
theorem zZa {x : Str} {pos' : Pos} (i : Nat) (C : Ctx X B) (hi : X.N[i]? = some x) (hx : Loc X.env.scope x) (he : Snd X B e f) (hs : swapsWith e (some (.Name x pos')) pos.line X.env = pure false := by rfl)
    (hf : X.fn x = true ∨ X.env.scope.names.lookup x = some .local := by first | exact .inl rfl | exact .inr rfl | assumption) : xXi X B (.Assign [.Name x pos'] e pos) (evSet i f) := by
  intro w D r hw
  refine yJz (ps_set C.nd hi hx zHk hs hf) ?_
  refine zQ0 he r hw fun v w1 y e1 f1 r1 re h1 => ?_
  obtain ⟨w2, s2, h2, f2, r2, q⟩ := wXm (B := B) r1 re (wp_bind h1)
  have q := q w2 rfl ((f1.s r).trans f2) r2
  rw [s2, h2, e1] at q
  exact q
def zZg (f : Pg EV) : Pg Fl := .bind f fun v => .ret (.ret v)
theorem zQn (he : Snd X B e f) : xXi X B (.Return (some e) pos) (zZg f) := by
  intro w D r hw
  refine yJz (ps_ret zHk) ?_
  refine zQ0 he r hw fun v w1 y e1 f1 r1 re h1 => ?_
  exact h1 w1 rfl (f1.s r) r1 y re
def zXe (t : Pg Bool) (a b : Pg Fl) : Pg Fl := .bind t fun k => if k then a else b
theorem zZn (hc : xKk X B c tc) (ha : xGz X B sa fa) (hb : xGz X B sb fb) : xXi X B (.If c sa sb pos) (zXe tc fa fb) := by
  intro w D r hw
  refine yJz (ps_if wZt wKd wKd) ?_
  refine yZy hc r hw fun k w1 e1 f1 r1 q => ?_
  have fo := f1.s r
  rw [← e1]
  cases k with
  | true => exact iteT (ha w1 D r1 (q.imp (fun _ _ z => post_of z fo) fun _ _ z => z))
  | false => exact iteF (hb w1 D r1 (q.imp (fun _ _ z => post_of z fo) fun _ _ z => z))
def yUr (f : Pg EV) : Pg Fl := .bind f fun _ => .ret .next
theorem yYc (he : Snd X B e f) (hs : swapsWith e none pos.line X.env = pure false := by rfl) : xXi X B (.Expr e pos) (yUr f) := by
  intro w D r hw
  refine yJz (ps_expr zHk hs) ?_
  refine zQ0 he r hw fun v w1 y e1 f1 r1 re h1 => ?_
  have q := h1 w1 rfl (f1.s r) r1
  rw [e1] at q
  exact q

theorem xJl {K : PySem.W.Frag} {w : Wd} (r : Rep K w) {i : Nat} {o o' : Ob} {a : Addr} {u : HO} (h1 : w.m.sl[i]? = some (some (.ob o))) (h2 : w.sg[i]? = some (some (.ref a))) (h4 : OH K w.F (upd w.H a u) w.Z a o') (hni : (∀ c fs, o ≠ .ins c fs) ∨ (∀ C d vs, w.H a = some (.ins C d vs) → ∃ C' vs', u = .ins C' d vs') := by exact .inl (by intro _ _ z; cases z)) :
    Rep K { w with m := setM w.m i (.ob o'), H := upd w.H a u } ∧ FolS w { w with m := setM w.m i (.ob o'), H := upd w.H a u } := by
  have oa : Own w a := ⟨i, o, h1, h2⟩
  obtain ⟨q0, q1, q2, q3⟩ := r.ownAt oa
  have oth : ∀ b o, b ≠ a → w.H b = some o → upd w.H a u b = some o := fun b o n e => by
    rw [upd_ne n]
    exact e
  have nod : ∀ {b d : Addr}, w.H d = some (.own b) → d ≠ a := fun {b d} e z => (r.noOwnDict e).2 (z ▸ oa)
  have liv : ∀ b, w.H b ≠ none → upd w.H a u b ≠ none := fun b h => by
    by_cases e : b = a
    · rw [e, upd_same]
      simp
    · rw [upd_ne e]
      exact h
  have tb' : (TK K w).P (upd w.H a u) ∧ (∀ b ps, w.F b ≠ some (.tbl ps)) ∧ ∀ b ps, upd w.H a u b = some (.tbl ps) → ∃ q, (b, q) ∈ xWw K := by
    obtain ⟨x, hx, a', ea', hO, _⟩ := r.sl i _ h1
    rw [h2] at hx
    cases hx
    cases ea'
    exact ⟨(TK _ w).us r.tb.1 hO.soft, r.tb.2.1, yKl r.tb.2.2 (h4.ntbl upd_same)⟩
  have sl' : ∀ (j : Nat) (v : SV), (setM w.m i (.ob o')).sl[j]? = some (some v) → (j = i ∧ v = .ob o') ∨ (j ≠ i ∧ w.m.sl[j]? = some (some v)) := fun j v h => by
    rcases yHg (show (w.m.sl.set i (some (.ob o')))[j]? = some (some v) from h) with ⟨q1, q2⟩ | q
    · exact .inl ⟨q1, Option.some.inj q2⟩
    · exact .inr q
  have xXl : ∀ (j : Nat) (zs : Ob), (setM w.m i (.ob o')).sl[j]? = some (some (.ob zs)) → ∃ us, w.m.sl[j]? = some (some (.ob us)) := fun j zs h => by
    rcases sl' j _ h with ⟨e, _⟩ | ⟨_, e⟩
    · subst e
      exact ⟨o, h1⟩
    · exact ⟨zs, e⟩
  refine ⟨⟨fun b o e hn => ?_, ?_, fun j v h => ?_, fun n zs h => ?_, r.ln, r.rf, r.rk, r.nd, fun j k us zs x p1 p2 p3 p4 => ?_, fun b h => liv b (r.zl b h), fun d b h => ?_, tb'⟩, ⟨rfl, rfl, Same.refl _, ⟨[], (List.append_nil _).symm⟩, fun b o e _ z _ => oth b o (fun q => q3 (q ▸ z)) e, fun _ h => .inl h, liv, fun _ h => .inl h⟩⟩
  · have n : b ≠ a := fun z => by
      have e : w.F b = some o := e
      rw [z, q1] at e
      cases e
    exact oth b o n (r.sub b o e hn)
  · show (w.m.sl.set i _).length ≤ _
    rw [List.length_set]
    exact r.le
  · rcases sl' j v h with ⟨e1, e2⟩ | ⟨e1, e2⟩
    · subst e1 e2
      exact ⟨.ref a, h2, a, rfl, h4, q1, q2, q3⟩
    · obtain ⟨x, p1, p2⟩ := r.sl j v e2
      refine ⟨x, p1, ?_⟩
      cases v with
      | d y => exact p2
      | cell n => exact p2
      | thk t => exact p2
      | ob zs =>
        obtain ⟨b, e, k1, k2⟩ := p2
        have nb : b ≠ a := fun z => e1 (r.ow j i _ _ _ e2 h1 p1 (by rw [e, z]; exact h2))
        exact ⟨b, e, k1.keep (Same.refl _) (fun u => oth b u nb) (fun d z => oth d _ (nod z) z) (fun _ _ z => z), k2⟩
  · obtain ⟨b, k1, k2⟩ := r.cs n zs h
    have nb : b ≠ a := fun z => q2 (z ▸ List.mem_of_getElem? k1)
    exact ⟨b, k1, k2.keep (Same.refl _) (fun u => oth b u nb) (fun d z => oth d _ (nod z) z) (fun _ _ z => z)⟩
  · obtain ⟨us', p1'⟩ := xXl j us p1
    obtain ⟨zs', p2'⟩ := xXl k zs p2
    exact r.ow j k us' zs' x p1' p2' p3 p4
  · have h : upd w.H a u d = some (.own b) := h
    by_cases q : d = a
    · rw [q] at h
      exact absurd h h4.noOwn
    · rw [upd_ne q] at h
      obtain ⟨C, vs, e⟩ := r.oo d b h
      by_cases z : b = a
      · subst z
        rcases hni with hni | hni
        · obtain ⟨x, hx, a', ea', hO, _⟩ := r.sl i _ h1
          rw [h2] at hx
          cases hx
          cases ea'
          cases o with
          | lst xs =>
            obtain ⟨ws, k1, _⟩ := hO
            rw [k1] at e
            cases e
          | dic es =>
            obtain ⟨ws, k1, _⟩ := hO
            rw [k1] at e
            cases e
          | ins c fs => exact absurd rfl (hni c fs)
        · obtain ⟨C', vs', eu⟩ := hni C d vs e
          exact ⟨C', vs', by rw [eu]; exact upd_same⟩
      · exact ⟨C, vs, oth b _ z e⟩
def vVd (i : Nat) (d : PyData) : Pg Fl := fun m => match m.sl[i]? with
  | some (some (.ob (.lst xs))) => if xs.length < 16777216 then .ok .next (setM m i (.own (xs ++ [d]))) else .bad
  | _ => .bad
def xZy (i : Nat) : Pg Unit := fun m => match m.sl[i]? with
  | some (some (.ob (.lst _))) => .ok () m
  | _ => .bad
theorem xVy {i : Nat} {m : Mem} {P : Unit → Mem → Prop} {E : Exn → Mem → Prop} (h : (xZy i m).wp P E) : ∃ xs, m.sl[i]? = some (some (.own xs)) ∧ P () m := by
  unfold xZy at h
  split at h
  · rename_i xs e
    exact ⟨xs, e, h⟩
  · exact h.elim
theorem yYg {a : AV} {m : Mem} {P : PyData → Mem → Prop} {E : Exn → Mem → Prop} (h : (yH0 a m).wp P E) : ∃ d, a = .d d ∧ P d m := by
  cases a with
  | d x => exact ⟨x, rfl, h⟩
  | cell n => exact h.elim
end
end Ev

namespace Ev
open PySem PySem.Spec PyProof.Rows L2

def WG (X : Cx) (tg : Expr) : TG := fun v sg H Q => Cl (∀ (pins : List (Addr × Obj)) (s : Shared) (u : Value), L2.Inv X pins sg H s → RelV v u → wpAny (model X.prog X.w) X.A (assign tg X.env u) (fun _ s' => ∃ sg' H', L2.Inv X pins sg' H' s' ∧ Q sg' H') X.xe s)
theorem vQd {X : Cx} {tg : Expr} : PG X tg (WG X tg) := ⟨fun pins s _ _ _ u _ I r h => h.go pins s u I r⟩
theorem wXu {X : Cx} {tg : Expr} {t : TG} (h : PG X tg t) {v : V} {sg : L2.St} {H : Hp} {Q : L2.St → Hp → Prop} (q : t v sg H Q) : WG X tg v sg H Q := ⟨fun pins s u I r => h.run pins s sg H v u Q I r q⟩
def WGs (X : Cx) (ts : List Expr) : TGs := fun vs sg H Q => Cl (∀ (pins : List (Addr × Obj)) (s : Shared) (us : List Value), L2.Inv X pins sg H s → Vals vs us → wpAny (model X.prog X.w) X.A (assignInOrder ((assignEach ts X.env).map (·.2)) us) (fun _ s' => ∃ sg' H', L2.Inv X pins sg' H' s' ∧ Q sg' H') X.xe s)
theorem wJq {X : Cx} {ts : List Expr} : PGs X ts (WGs X ts) := ⟨fun pins s _ _ _ us _ I r h => h.go pins s us I r⟩
theorem wZg {X : Cx} {ts : List Expr} {t : TGs} (h : PGs X ts t) {vs : List V} {sg : L2.St} {H : Hp} {Q : L2.St → Hp → Prop} (q : t vs sg H Q) : WGs X ts vs sg H Q := ⟨fun pins s us I r => h.run pins s sg H vs us Q I r q⟩
def SameBut (is : List Nat) (a b : L2.St) : Prop := b.length = a.length ∧ ∀ j, j ∉ is → b[j]? = a[j]?
theorem SameBut.refl (is : List Nat) (a : L2.St) : SameBut is a a := ⟨rfl, fun _ _ => rfl⟩
theorem SameBut.trans {is : List Nat} {a b c : L2.St} (h : SameBut is a b) (g : SameBut is b c) : SameBut is a c := ⟨g.1.trans h.1, fun j n => (g.2 j n).trans (h.2 j n)⟩
theorem SameBut.mono {is js : List Nat} {a b : L2.St} (h : SameBut is a b) (s : ∀ i, i ∈ is → i ∈ js) : SameBut js a b := ⟨h.1, fun j n => h.2 j fun q => n (s j q)⟩
theorem xXy {is : List Nat} {i : Nat} (h : i ∈ is) (a : L2.St) (x : Option V) : SameBut is a (a.set i x) := ⟨List.length_set, fun j n => List.getElem?_set_ne fun (e : i = j) => n (e ▸ h)⟩
def wZb (X : Cx) (is : List Nat) (tg : Expr) (g : PyData → Pg Unit) : Prop := ∀ (w : Wd) (d : PyData) (x : V) (Q : L2.St → Hp → Prop), Rep X.K w → R X.K w.F d x →
  (g d w.m).wp (fun _ m' => ∀ w' : Wd, w'.m = m' → w'.H = w.H → SameBut is w.sg w'.sg → FolE w w' → Rep X.K w' → Q w'.sg w'.H) (fun _ _ => False) → WG X tg x w.sg w.H Q
def wZa (X : Cx) (is : List Nat) (tgs : List Expr) (g : List PyData → Pg Unit) : Prop := ∀ (w : Wd) (ds : List PyData) (xs : List V) (Q : L2.St → Hp → Prop), Rep X.K w → RA X.K w.F ds xs →
  (g ds w.m).wp (fun _ m' => ∀ w' : Wd, w'.m = m' → w'.H = w.H → SameBut is w.sg w'.sg → FolE w w' → Rep X.K w' → Q w'.sg w'.H) (fun _ _ => False) → WGs X tgs xs w.sg w.H Q
def zXf (i : Nat) (d : PyData) : Pg Unit := fun m => .ok () (setM m i (.d d))
def yKk : List PyData → Pg Unit
  | [] => .ret ()
  | _ => .stuck
def zKh (g : PyData → Pg Unit) (h : List PyData → Pg Unit) : List PyData → Pg Unit
  | [] => .stuck
  | d :: ds => .bind (g d) fun _ => h ds
def yZt (n : Nat) (g : List PyData → Pg Unit) : PyData → Pg Unit
  | .tuple ds => if ds.length = n then g ds else .stuck
  | .list ds => if ds.length = n then g ds else .stuck
  | _ => .stuck
section
variable {X : Cx} {B : XBt} {is : List Nat} {pos : Pos} {tg : Expr} {tgs : List Expr}
theorem zZc {x : Str} (i : Nat) (C : Ctx X B) (hi : X.N[i]? = some x) (hx : Loc X.env.scope x) (hm : i ∈ is) (hf : X.fn x = true ∨ X.env.scope.names.lookup x = some .local := by first | exact .inl rfl | exact .inr rfl | assumption) : wZb X is (.Name x pos) (zXf i) := by
  intro w d x Q r h q
  obtain ⟨r2, f2⟩ := wX9 (i := i) (v := .d d) (x := x) r h fun xs e => by cases e
  exact wXu (pg_name C.nd hi hx hf) (q (yHh w i (.d d) x) rfl rfl (xXy hm _ _) f2 r2)
theorem yZ0 : wZa X is [] yKk := by
  intro w ds xs Q r h q
  cases h with
  | nil => exact wZg pgs_nil ⟨rfl, q w rfl rfl (SameBut.refl _ _) (FolE.refl w) r⟩
  | cons _ _ => exact q.elim
theorem zXr {g : PyData → Pg Unit} {h : List PyData → Pg Unit} (h1 : wZb X is tg g) (h2 : wZa X is tgs h) (hs : (assignEach (tg :: tgs) X.env).map (·.2) = assign tg X.env :: (assignEach tgs X.env).map (·.2) := by rfl) : wZa X is (tg :: tgs) (zKh g h) := by
  intro w ds xs Q r hr q
  cases hr with
  | nil => exact q.elim
  | @cons d ds x xs hd ht =>
    refine wZg (pgs_cons vQd wJq hs) ⟨x, xs, rfl, ?_⟩
    refine h1 w d x _ r hd ((wp_bind q).imp (fun _ m' q w1 em eh sb f1 r1 => ?_) fun _ _ z => z)
    subst em
    exact h2 w1 ds xs Q r1 (ht.mono f1.ext) (q.imp (fun _ m2 z w2 em2 eh2 sb2 f2 r2 => z w2 em2 (eh2.trans eh) (sb.trans sb2) (f1.trans f2) r2) fun _ _ z => z)
theorem yVf {g : List PyData → Pg Unit} {k : Nat} (n : Nat) (C : Ctx X B) (h : wZa X is tgs g) (hn : (assignEach tgs X.env).length = n := by rfl) (hst : (assignEach tgs X.env).findIdx? (·.1) = none := by rfl) : wZb X is (.Tuple tgs k pos) (yZt n g) := by
  intro w d x Q r hr q
  cases hr with
  | tup hq ha =>
    rename_i a vs ds
    by_cases hl : ds.length = n
    · rw [show yZt n g (.tuple ds) = g ds from if_pos hl] at q
      exact wXu (pg_tup C.calm wJq hn hst) ⟨a, vs, rfl, zZ7 r.sub hq, by rw [← ha.len]; exact hl, h w ds vs Q r ha q⟩
    · rw [show yZt n g (.tuple ds) = .stuck from if_neg hl] at q
      exact q.elim
  | lst hq ha =>
    rename_i a vs ds
    by_cases hl : ds.length = n
    · rw [show yZt n g (.list ds) = g ds from if_pos hl] at q
      exact wXu (pg_lst C.calm wJq hn hst) ⟨a, vs, rfl, (hq.mox r.sub).sq, by rw [← ha.len]; exact hl, h w ds vs Q r ha q⟩
    · rw [show yZt n g (.list ds) = .stuck from if_neg hl] at q
      exact q.elim
  | _ => exact q.elim
def xWj (g : PyData → Pg Unit) (f : Pg EV) : Pg Fl := .bind f fun v => .bind (toA v) fun a => .bind (yH0 a) fun d => .bind (g d) fun _ => .ret .next
theorem xXr {e : Expr} {f : Pg EV} {g : PyData → Pg Unit} (he : Snd X B e f) (hg : wZb X is tg g) (gt : ∀ d m x m', g d m ≠ .thr x m') (hs : swapsWithSole [tg] e pos.line X.env = pure false := by rfl) (hw : swappedStores [tg] e X.env = pure none := by rfl)
    (h1 : (assignEach [tg] X.env).map (·.2) = [assign tg X.env] := by rfl) : xXi X B (.Assign [tg] e pos) (xWj g f) := by
  intro w D r hww
  refine yJz (ps_asg zHk vQd hs hw h1) ?_
  refine zQ0 he r hww fun v w1 y e1 f1 r1 re h2 => ?_
  obtain ⟨a, w2, ea, e2, e3, f2, r2, rv⟩ := zUy r1 re
  have h2 := wp_bind h2
  rw [ea] at h2
  have h2' : (Pg.bind (yH0 a) (fun d => Pg.bind (g d) fun _ => Pg.ret Fl.next) w2.m).wp (yQw X.K w D) (XW X.K B w1) := h2
  obtain ⟨d, rfl, h3⟩ := yYg (wp_bind h2')
  rw [← e1, ← e2, ← e3]
  have h4 := wp_bind h3
  have fo := (f1.s r).trans (f2.s r1)
  refine hg w2 d y _ r2 rv ?_
  cases eg : g d w2.m with
  | bad =>
    rw [eg] at h4
    exact h4.elim
  | thr x m' => exact absurd eg (gt d w2.m x m')
  | ok u m' =>
    rw [eg] at h4
    exact fun w3 em eh sb f3 r3 => by
      subst em
      exact h4 w3 rfl (fo.trans (f3.s r2)) r3

def WI (X : Cx) (tg iter : Expr) : TI := fun sg H R => ∃ t, PI X tg iter t ∧ t sg H R
theorem vQc {tg iter : Expr} : PI X tg iter (WI X tg iter) := ⟨fun pins s sg H R I ⟨t, h, q⟩ => h.run pins s sg H R I q⟩
def xWu (K : PySem.W.Frag) (w : Wd) (J : It) (ds : List PyData) : Prop := ∀ w1 : Wd, FolS w w1 → Rep K w1 → ∀ i, (∀ d, ds[i]? = some d → J.go i w1.H ∧ ∀ x H', J.yld i w1.H x H' → ∃ w2 : Wd, w2.m = w1.m ∧ w2.sg = w1.sg ∧ w2.H = H' ∧ FolE w1 w2 ∧ Rep K w2 ∧ R K w2.F d x ∧ ∀ a, w2.F a ≠ none → w1.F a ≠ none ∨ w1.H a = none) ∧ (ds.length ≤ i → J.stop i w1.H)
def xXj (X : Cx) (B : XBt) (tg iter : Expr) (f : Pg (List PyData)) : Prop := ∀ (w : Wd) (Q : It → Hp → Prop), Rep X.K w →
  (f w.m).wp (fun ds m' => ∀ (w' : Wd) (J : It), w'.m = m' → w'.sg = w.sg → FolE w w' → Rep X.K w' → xWu X.K w' J ds → Q J w'.H) (XW X.K B w) → WI X tg iter w.sg w.H Q
theorem xWa {K : PySem.W.Frag} {w : Wd} {a : Addr} {vs : List V} {ds : List PyData} (h : LQ K w.F a vs) (ra : RA K w.F ds vs) : xWu K w (Itl K a) ds := by
  intro w1 f r i
  have hq : SqL K w1.H a vs := ((h.mono f.ext).mox r.sub).sq
  refine ⟨fun d hd => ?_, fun hl => ⟨vs, hq, by rw [← ra.len]; exact hl⟩⟩
  obtain ⟨v, hv, rv⟩ := ra.get hd
  refine ⟨⟨vs, v, hq, hv⟩, fun x H' y => ?_⟩
  obtain ⟨rfl, y⟩ := y
  have e := y vs hq
  rw [hv] at e
  cases e
  exact ⟨w1, rfl, rfl, rfl, FolE.refl w1, r, rv.mono f.ext, fun _ z => .inl z⟩
theorem xUo {K : PySem.W.Frag} {w : Wd} {a : Addr} {vs : List V} {ds : List PyData} (h : SqT K w.F a vs) (ra : RA K w.F ds vs) : xWu K w (Itt K a) ds := by
  intro w1 f r i
  have hq : SqT K w1.H a vs := zZ7 r.sub (yYb f.ext h)
  refine ⟨fun d hd => ?_, fun hl => ⟨vs, hq, by rw [← ra.len]; exact hl⟩⟩
  obtain ⟨v, hv, rv⟩ := ra.get hd
  refine ⟨⟨vs, v, hq, hv⟩, fun x H' y => ?_⟩
  obtain ⟨rfl, y⟩ := y
  have e := y vs hq
  rw [hv] at e
  cases e
  exact ⟨w1, rfl, rfl, rfl, FolE.refl w1, r, rv.mono f.ext, fun _ z => .inl z⟩
def yK8 (lo : Int) (n : Nat) : List PyData := (List.range n).map fun i => .int (lo + (i : Nat))
theorem ints_get {lo : Int} {n i : Nat} {d : PyData} (h : (yK8 lo n)[i]? = some d) : i < n ∧ d = .int (lo + (i : Nat)) := by
  unfold yK8 at h
  rw [List.getElem?_map] at h
  by_cases q : i < n
  · rw [List.getElem?_range q] at h
    exact ⟨q, (Option.some.inj h).symm⟩
  · rw [List.getElem?_eq_none (by simpa using q)] at h
    cases h
theorem xUp {K : PySem.W.Frag} {w : Wd} {lo : Int} {n : Nat} : xWu K w (Itr lo n) (yK8 lo n) := by
  intro w1 f r i
  refine ⟨fun d hd => ?_, fun hl => by
    unfold yK8 at hl
    have hl : n ≤ i := by simpa using hl
    exact hl⟩
  obtain ⟨hi, rfl⟩ := ints_get hd
  refine ⟨hi, fun x H' y => ?_⟩
  obtain ⟨rfl, rfl⟩ := y
  exact ⟨w1, rfl, rfl, rfl, FolE.refl w1, r, .int _, fun _ z => .inl z⟩
def zG7 : AV → Option (List PyData)
  | .d (.list xs) => some xs
  | .d (.tuple xs) => some xs
  | _ => none
def xQj (f : Pg EV) : Pg (List PyData) := .bind f fun v => .bind (toA v) fun a => zKz (zG7 a)
theorem zVa {e : Expr} {f : Pg EV} (he : Snd X B e f) : xXj X B tg e (xQj f) := by
  intro w Q r hw
  by_cases kt : ∃ xs m', f w.m = .ok (.d (.tuple xs)) m'
  · obtain ⟨xs, m0, ef⟩ := kt
    refine ⟨_, pi_tup zHk, ?_⟩
    refine he w _ r ?_
    rw [ef]
    have hw : ((xQj f) w.m).wp _ _ := hw
    unfold xQj Pg.bind at hw
    rw [ef] at hw
    intro w1 x em e1 f1 r1 re
    subst em
    cases re with
    | tup hq ra => exact ⟨_, rfl, ⟨_, zZ7 r1.sub hq⟩, hw w1 _ rfl e1 f1 r1 (xUo hq ra)⟩
  · refine ⟨_, pi_list zHk, ?_⟩
    have hw2 := wp_bind hw
    refine he w _ r ?_
    cases ef : f w.m with
    | bad =>
      rw [ef] at hw2
      exact hw2
    | thr x m' =>
      rw [ef] at hw2
      exact hw2
    | ok v m' =>
      rw [ef] at hw2
      intro w1 x em e1 f1 r1 re
      subst em
      obtain ⟨a, w2, ea, e2, e3, f2, r2, rv⟩ := zUy r1 re
      have h3 := wp_bind (show (Pg.bind (toA v) (fun a => zKz (zG7 a)) w1.m).wp _ _ from hw2)
      rw [ea] at h3
      obtain ⟨ds, eds, q⟩ := zXn (show (zKz (zG7 a) w2.m).wp _ _ from h3)
      have nt : ∀ xs, a ≠ .d (.tuple xs) := fun xs ex => by
        subst ex
        cases v with
        | d y =>
          injection ea with q _
          cases q
          exact kt ⟨xs, w1.m, ef⟩
        | new o =>
          injection ea with q _
          cases o <;> cases q
        | pk i o =>
          injection ea with q _
          cases o <;> cases q
        | cell n => injection ea with q _
      cases a with
      | cell n => cases eds
      | d y =>
        cases y <;> try (cases eds; done)
        · cases eds
          cases rv with
          | lst hq ra =>
            have q := q w2 _ rfl (e2.trans e1) (f1.trans f2) r2 (xWa hq ra)
            rw [e3] at q
            have hs := (hq.mox r2.sub).sq
            rw [e3] at hs
            exact ⟨_, rfl, ⟨_, hs⟩, q⟩
        · exact absurd rfl (nt _)
def xYo (j : Int) : Bool := decide (-(2 ^ 62) ≤ j) && decide (j < 2 ^ 62)
def wUc : List OV → Option (List PyData)
  | [.d (.int j)] => if xYo j then some (yK8 0 j.toNat) else none
  | _ => none
def yUp (f : Pg (List OV)) : Pg (List PyData) := .bind f fun os => zKz (wUc os)
theorem yVe {a : Expr} {p : Pos} {f : Pg (List OV)} (hg : Gl X "range") (hm : X.mg "range" = none) (ha : wXp X B [a] f) (hs : starEach [a] X.env = [(false, eval a X.env)] := by rfl) : xXj X B tg (.Call (.Name "range" p) [a] [] pos) (yUp f) := by
  intro w Q r hw
  refine ⟨_, pi_range1 hg hm xY2 hs, ?_⟩
  refine yYl ha r hw fun os w1 xs e1 f1 r1 ro h1 => ?_
  obtain ⟨ds, ed, q⟩ := zXn h1
  unfold wUc at ed
  split at ed
  · rename_i j
    split at ed
    · rename_i hj
      cases ed
      unfold xYo at hj
      simp only [Bool.and_eq_true, decide_eq_true_eq] at hj
      cases ro with
      | cons h t =>
        cases t
        rw [(h.rn r1 rfl).int]
        exact ⟨j, rfl, hj.1, hj.2, q w1 _ rfl e1 f1 r1 xUp⟩
    · cases ed
  · cases ed
def forL (g : PyData → Pg Unit) (b : Pg Fl) : List PyData → Pg Fl
  | [] => .ret .next
  | d :: ds => .bind (g d) fun _ => .bind b fun fl => match fl with
    | .next => forL g b ds
    | .cont => forL g b ds
    | .brk => .ret .next
    | .ret v => .ret (.ret v)
def yUq (f : Pg (List PyData)) (g : PyData → Pg Unit) (b : Pg Fl) : Pg Fl := .bind f fun ds => forL g b ds
theorem yZv {iter : Expr} {body : List Stmt} {f : Pg (List PyData)} {g : PyData → Pg Unit} {fb : Pg Fl} (C : Ctx X B) (hp : PassesOwn (model X.prog X.w) X.A X.env X.xe) (hi : xXj X B tg iter f) (hg : wZb X is tg g) (gt : ∀ d m x m', g d m ≠ .thr x m') (hb : xGz X B body fb)
    (hs : ∀ x, foldedSetIterable iter X.env x = pure x := by intro _; rfl) : xXi X B (.For tg iter body [] pos) (yUq f g fb) := by
  intro w D r hw
  refine yJz (ps_for hp C.calm vQc vQd wKd hs) ?_
  refine hi w _ r ((wp_bind hw).imp (fun ds m0 hw w1 J em e1 f1 r1 itr => ?_) fun _ _ z => z)
  subst em
  have fo1 := f1.s r
  refine ⟨fun i n sg H => ∃ w2 : Wd, w2.sg = sg ∧ w2.H = H ∧ FolS w1 w2 ∧ Rep X.K w2 ∧ n = ds.length - i ∧ i ≤ ds.length ∧ (forL g fb (ds.drop i) w2.m).wp (yQw X.K w D) (XW X.K B w), ⟨ds.length, w1, e1, rfl, FolS.refl w1, r1, by omega, Nat.zero_le _, hw⟩, ?_⟩
  rintro i n sg H ⟨w2, rfl, rfl, f2, r2, rfl, hle, q⟩
  obtain ⟨itg, its⟩ := itr w2 f2 r2 i
  by_cases hlt : i < ds.length
  · have hd : ds[i]? = some ds[i] := List.getElem?_eq_getElem hlt
    obtain ⟨go, yl⟩ := itg _ hd
    rw [List.drop_eq_getElem_cons hlt] at q
    refine .inr ⟨go, fun sg' H' => ∃ w5 : Wd, w5.sg = sg' ∧ w5.H = H' ∧ FolS w1 w5 ∧ Rep X.K w5 ∧ (forL g fb (ds.drop (i + 1)) w5.m).wp (yQw X.K w D) (XW X.K B w), fun sg' H' ⟨w5, a1, a2, a3, a4, a5⟩ => ⟨ds.length - (i + 1), by omega, w5, a1, a2, a3, a4, rfl, hlt, a5⟩, fun x H' y => ?_⟩
    obtain ⟨w3, b1, b2, b3, f3, r3, rx, _⟩ := yl x H' y
    subst b3
    rw [← b2]
    have f13 := f2.trans (f3.s r2)
    have q1 := wp_bind (show (Pg.bind (g ds[i]) (fun _ => Pg.bind fb fun fl => match fl with
      | .next => forL g fb (ds.drop (i + 1))
      | .cont => forL g fb (ds.drop (i + 1))
      | .brk => .ret .next
      | .ret v => .ret (.ret v)) w3.m).wp (yQw X.K w D) (XW X.K B w) from by rw [b1]; exact q)
    refine hg w3 ds[i] x _ r3 rx ?_
    cases eg : g ds[i] w3.m with
    | bad =>
      rw [eg] at q1
      exact q1.elim
    | thr e m' => exact absurd eg (gt _ _ e m')
    | ok u m' =>
      rw [eg] at q1
      intro w4 em eh sb f4 r4
      subst em
      have q2 := wp_bind (show (Pg.bind fb _ w4.m).wp (yQw X.K w D) (XW X.K B w) from q1)
      have f14 := f13.trans (f4.s r3)
      have fw4 := fo1.trans f14
      refine hb w4 _ r4 (q2.imp (fun fl m5 z w5 em f5 r5 => ?_) fun _ _ z => z.fol fw4)
      subst em
      have f15 := f14.trans f5
      cases fl with
      | next => exact ⟨w5, rfl, rfl, f15, r5, z⟩
      | cont => exact ⟨w5, rfl, rfl, f15, r5, z⟩
      | brk => exact z w5 rfl (fo1.trans f15) r5
      | ret v => exact z w5 rfl (fo1.trans f15) r5
  · have e0 : ds.drop i = [] := List.drop_eq_nil_of_le (by omega)
    rw [e0] at q
    exact .inl ⟨its (by omega), q w2 rfl (fo1.trans f2) r2⟩
end
end Ev

namespace Ev
open PySem PySem.Spec PyProof.Rows L2

def vXr (K : PySem.W.Frag) (w : Wd) (J : It) (ds : List PyData) : Prop := ∀ w1 : Wd, FolE w w1 → Rep K w1 → ∀ i, (∀ d, ds[i]? = some d → J.go i w1.H ∧ ∀ x H', J.yld i w1.H x H' → ∃ w2 : Wd, w2.m = w1.m ∧ w2.sg = w1.sg ∧ w2.H = H' ∧ FolE w1 w2 ∧ Rep K w2 ∧ R K w2.F d x ∧ ∀ a, w2.F a ≠ none → w1.F a ≠ none ∨ w1.H a = none) ∧ (ds.length ≤ i → J.stop i w1.H)
def xGy (X : Cx) (B : XBt) (tg iter : Expr) (f : Pg (List PyData)) : Prop := ∀ (w : Wd) (Q : It → Hp → Prop), Rep X.K w →
  (f w.m).wp (fun ds m' => ∀ (w' : Wd) (J : It), w'.m = m' → w'.sg = w.sg → FolE w w' → Rep X.K w' → vXr X.K w' J ds → Q J w'.H) (XW X.K B w) → WI X tg iter w.sg w.H Q
theorem xXj.e {X : Cx} {B : XBt} {tg iter : Expr} {f : Pg (List PyData)} (h : xXj X B tg iter f) : xGy X B tg iter f := fun w Q r hw =>
  h w Q r (hw.imp (fun ds m' q w' J em es fo rp it => q w' J em es fo rp fun w1 g rp1 => it w1 (g.s rp) rp1) fun _ _ z => z)
def zJ2 : List Nat → List (Option SV) → List (Option SV)
  | [], l => l
  | i :: is, l => (zJ2 is l).set i none
def xHj (is : List Nat) : Pg Unit := fun m => .ok () { m with sl := zJ2 is m.sl }
theorem xW3 (is : List Nat) (l : List (Option SV)) : (zJ2 is l).length = l.length := by
  induction is with
  | nil => rfl
  | cons i is ih => rw [zJ2, List.length_set, ih]
theorem zG3 {is : List Nat} {l : List (Option SV)} {j : Nat} {v : SV} (h : (zJ2 is l)[j]? = some (some v)) : l[j]? = some (some v) ∧ j ∉ is := by
  induction is with
  | nil => exact ⟨h, by simp⟩
  | cons i is ih =>
    rw [zJ2] at h
    by_cases e : i = j
    · subst e
      by_cases q : i < (zJ2 is l).length
      · rw [List.getElem?_set_self q] at h
        cases h
      · rw [List.getElem?_eq_none (by rw [List.length_set]; omega)] at h
        cases h
    · rw [List.getElem?_set_ne e] at h
      obtain ⟨h1, h2⟩ := ih h
      exact ⟨h1, by simp only [List.mem_cons, not_or]; exact ⟨fun q => e q.symm, h2⟩⟩
theorem yHn {K : PySem.W.Frag} {w : Wd} (r : Rep K w) {is : List Nat} {sg : L2.St} (h : SameBut is w.sg sg) : Rep K { w with m := { w.m with sl := zJ2 is w.m.sl }, sg := sg } ∧ FolE w { w with m := { w.m with sl := zJ2 is w.m.sl }, sg := sg } := by
  refine ⟨⟨r.sub, ?_, fun i v q => ?_, r.cs, r.ln, r.rf, r.rk, r.nd, fun i j xs ys x a b c d => ?_, r.zl, r.oo, r.tb⟩, ⟨rfl, rfl, Same.refl _, ⟨[], (List.append_nil _).symm⟩, fun _ _ h _ _ => h, fun _ h => .inl h, fun _ h => h, fun _ h => .inl h, fun a ⟨j, xs, q1, q2⟩ => ?_⟩⟩
  · show (zJ2 is w.m.sl).length ≤ sg.length
    rw [xW3, h.1]
    exact r.le
  · obtain ⟨q1, q2⟩ := zG3 q
    obtain ⟨x, h1, h2⟩ := r.sl i v q1
    exact ⟨x, (h.2 i q2).trans h1, h2⟩
  · obtain ⟨a1, a2⟩ := zG3 a
    obtain ⟨b1, b2⟩ := zG3 b
    exact r.ow i j xs ys x a1 b1 ((h.2 i a2).symm.trans c) ((h.2 j b2).symm.trans d)
  · obtain ⟨a1, a2⟩ := zG3 q1
    exact ⟨j, xs, a1, (h.2 j a2).symm.trans q2⟩
theorem wK8 {K : PySem.W.Frag} {w : Wd} (r : Rep K w) {is : List Nat} {sg : L2.St} (h : SameBut is w.sg sg) (hn : ∀ (j : Nat) (v : SV), j ∈ is → w.m.sl[j]? ≠ some (some v)) : Rep K { w with sg := sg } ∧ FolE w { w with sg := sg } := by
  have at_ : ∀ (j : Nat) (v : SV), w.m.sl[j]? = some (some v) → sg[j]? = w.sg[j]? := fun j v q => h.2 j fun z => hn j v z q
  refine ⟨⟨r.sub, by show w.m.sl.length ≤ sg.length; rw [h.1]; exact r.le, fun i v q => ?_, r.cs, r.ln, r.rf, r.rk, r.nd, fun i j xs ys x a b c d => r.ow i j xs ys x a b ((at_ i _ a).symm.trans c) ((at_ j _ b).symm.trans d), r.zl, r.oo, r.tb⟩, ⟨rfl, rfl, Same.refl _, ⟨[], (List.append_nil _).symm⟩, fun _ _ h _ _ => h, fun _ h => .inl h, fun _ h => h, fun _ h => .inl h, fun a ⟨j, xs, q1, q2⟩ => ⟨j, xs, q1, (at_ j _ q1).symm.trans q2⟩⟩⟩
  obtain ⟨x, h1, h2⟩ := r.sl i v q
  exact ⟨x, (at_ i v q).trans h1, h2⟩
theorem vKr {K : PySem.W.Frag} {w : Wd} (r : Rep K w) {p : Addr} {o : HO} (hf : w.F p = none) (hr : p ∉ w.ro) (ho : ¬ Own w p) (nd : ∀ {a d : Addr}, w.H d = some (.own a) → d ≠ p) (hni : ∀ C d vs, w.H p ≠ some (.ins C d vs)) (hh : ∃ u, w.H p = some u ∧ ¬ wY3 u) (hnt : ∀ ps, o ≠ .tbl ps := by intro _ z; cases z) (hno : ∀ a, o ≠ .own a := by intro _ z; cases z) : Rep K { w with H := upd w.H p o } := by
  have up : ∀ {a : Addr} {u : HO}, a ≠ p → w.H a = some u → upd w.H p o a = some u := fun {a u} n h => by
    rw [upd_ne n]
    exact h
  refine ⟨fun a u h hn => up (fun e => ?_) (r.sub a u h hn), r.le, fun i v h => ?_, fun n xs h => ?_, r.ln, r.rf, r.rk, r.nd, r.ow, fun a h => ?_, fun d a h => ?_, ⟨(TK _ w).us r.tb.1 hh, r.tb.2.1, yKl r.tb.2.2 hnt⟩⟩
  · have h : w.F a = some u := h
    rw [e, hf] at h
    cases h
  · obtain ⟨x, h1, h2⟩ := r.sl i v h
    refine ⟨x, h1, ?_⟩
    cases v with
    | d y => exact h2
    | cell n => exact h2
    | thk t => exact h2
    | ob ys =>
      obtain ⟨a, e, k1, k2⟩ := h2
      exact ⟨a, e, k1.keep (Same.refl _) (fun u => up fun z => ho ⟨i, ys, h, by rw [h1, e, z]⟩) (fun d z => up (nd z) z) (fun _ _ z => z), k2⟩
  · obtain ⟨a, h1, h2⟩ := r.cs n xs h
    exact ⟨a, h1, h2.keep (Same.refl _) (fun u => up fun z => hr (z ▸ List.mem_of_getElem? h1)) (fun d z => up (nd z) z) (fun _ _ z => z)⟩
  · by_cases e : a = p
    · show upd w.H p o a ≠ none
      rw [e, upd_same]
      simp
    · show upd w.H p o a ≠ none
      rw [upd_ne e]
      exact r.zl a h
  · have h : upd w.H p o d = some (.own a) := h
    by_cases q : d = p
    · rw [q, upd_same] at h
      exact absurd (Option.some.inj h) (hno a)
    · rw [upd_ne q] at h
      obtain ⟨C, vs, e⟩ := r.oo d a h
      exact ⟨C, vs, up (fun z => hni C d vs (z ▸ e)) e⟩
def reZ (w : Wd) (Z : Addr → Prop) : Wd := { w with Z := Z }
theorem xXz {K : PySem.W.Frag} {w : Wd} (r : Rep K w) {Z : Addr → Prop} (h : ∀ a, Z a → w.Z a) : Rep K (reZ w Z) := by
  refine ⟨r.sub, r.le, fun i v q => ?_, r.cs, r.ln, r.rf, r.rk, r.nd, r.ow, fun a q => r.zl a (h a q), r.oo, r.tb⟩
  obtain ⟨x, h1, h2⟩ := r.sl i v q
  refine ⟨x, h1, ?_⟩
  cases v with
  | d y => exact h2
  | cell n => exact h2
  | thk t => exact h2
  | ob ys =>
    obtain ⟨a, e, k1, k3, k4, k5⟩ := h2
    exact ⟨a, e, k1.keep (Same.refl _) (fun _ z => z) (fun _ z => z) (fun d _ z => h d z), k3, k4, fun z => k5 (h a z)⟩
theorem yHo {K : PySem.W.Frag} {w : Wd} (r : Rep K w) {Z : Addr → Prop} (h : ∀ a, Z a → w.H a ≠ none) (ho : ∀ a, Own w a → ¬ Z a) (hd : ∀ d a, w.H d = some (.own a) → Z d → w.Z d) : Rep K (reZ w Z) := by
  refine ⟨r.sub, r.le, fun i v q => ?_, r.cs, r.ln, r.rf, r.rk, r.nd, r.ow, h, r.oo, r.tb⟩
  obtain ⟨x, h1, h2⟩ := r.sl i v q
  refine ⟨x, h1, ?_⟩
  cases v with
  | d y => exact h2
  | cell n => exact h2
  | thk t => exact h2
  | ob ys =>
    obtain ⟨a, e, k1, k3, k4, k5⟩ := h2
    exact ⟨a, e, k1.keep (Same.refl _) (fun _ z => z) (fun _ z => z) (fun d => hd d a), k3, k4, ho a ⟨i, ys, q, by rw [h1, e]⟩⟩
theorem wJj {w w' : Wd} (f : FolE w w') {Z : Addr → Prop} (h : ∀ a, Z a → w.Z a) : FolE (reZ w Z) (reZ w' Z) := ⟨rfl, f.t, f.ext, f.pre, f.frm, f.new, f.liv, fun a q => (f.grow a q).imp id fun z k => z (h a k), f.own⟩
theorem yYa (sg : L2.St) : ∀ (is : List Nat) (j : Nat), j ∉ is → (wipe sg is)[j]? = sg[j]?
  | [], _, _ => rfl
  | i :: is, j, h => by
    rw [wipe, List.getElem?_set_ne (fun e : i = j => h (by simp [e]))]
    exact yYa sg is j fun q => h (List.mem_cons_of_mem _ q)
theorem xXo (sg : L2.St) : ∀ (is : List Nat) (j : Nat), j ∈ is → j < sg.length → (wipe sg is)[j]? = some none
  | i :: is, j, h, hl => by
    rw [wipe]
    by_cases e : i = j
    · subst e
      rw [List.getElem?_set_self (by rw [wipe_length]; exact hl)]
    · rw [List.getElem?_set_ne e]
      refine xXo sg is j ?_ hl
      rcases List.mem_cons.mp h with q | q
      · exact absurd q.symm e
      · exact q
theorem yWl (is : List Nat) (sg : L2.St) : SameBut is sg (wipe sg is) := ⟨wipe_length sg is, fun j h => yYa sg is j h⟩
theorem SameBut.symm {is : List Nat} {a b : L2.St} (h : SameBut is a b) : SameBut is b a := ⟨h.1.symm, fun j n => (h.2 j n).symm⟩
theorem wXr {is : List Nat} {a b : L2.St} (h : SameBut is a b) : wipe b is = wipe a is := by
  refine List.ext_getElem? fun j => ?_
  by_cases hj : j ∈ is
  · by_cases hl : j < a.length
    · rw [xXo a is j hj hl, xXo b is j hj (by rw [h.1]; exact hl)]
    · rw [List.getElem?_eq_none (by rw [wipe_length]; have := h.1; omega), List.getElem?_eq_none (by rw [wipe_length]; omega)]
  · rw [yYa a is j hj, yYa b is j hj, h.2 j hj]

section
variable {X : Cx} {B : XBt} {tg iter elt : Expr} {ifs : List Expr} {scope : Scope} {pos : Pos}
def WTs (X : Cx) (ifs : List Expr) : TT := fun sg H Q => Cl (∀ (pins : List (Addr × Obj)) (s : Shared), L2.Inv X pins sg H s →
  wpAny (model X.prog X.w) X.A (forIn ifs true fun c r => if r = true then do let ok ← isTrue c X.env (eval c X.env); pure (ForInStep.yield ok) else pure (ForInStep.yield r)) (TP X pins sg Q) X.xe s)
theorem wZe {t : TT} (h : PTs X ifs t) {sg : L2.St} {H : Hp} {Q : Bool → Hp → Prop} (q : t sg H Q) : WTs X ifs sg H Q := ⟨fun pins s I => h.run pins s sg H Q I q⟩
def xWp (X : Cx) (B : XBt) (ifs : List Expr) (t : Pg Bool) : Prop := ∀ (w : Wd) (Q : Bool → Hp → Prop), Rep X.K w → (t w.m).wp (wV6 X.K w Q) (XW X.K B w) → WTs X ifs w.sg w.H Q
theorem yQd : xWp X B [] (.ret true) := fun w Q r h => wZe pts_nil (h w rfl rfl (FolE.refl w) r)
theorem yZx {c : Expr} {t : Pg Bool} (h : xKk X B c t) : xWp X B [c] t := fun w Q r hw => wZe (pts_one wZt) (h w Q r hw)

def zKy (X : Cx) (scope : Scope) (φ : Cx → Prop) : Prop := ∀ (s : Shared) (H : Hp) (C : Addr) (cl : List (Str × Addr)) (fp : List Addr), φ (X.blk s H scope (compEnvC scope cl C X.env) fp)
theorem zXm {B : XBt} (C : Ctx X B) (s : Shared) (H : Hp) (Cc : Addr) (cl : List (Str × Addr)) (fp : List Addr) : Ctx (X.blk s H scope (compEnvC scope cl Cc X.env) fp) B0 := ⟨C.calm, C.gd, C.rm, C.nd, C.sm, xHm⟩
def yJl (is : List Nat) (g : PyData → Pg Unit) (t : Pg Bool) (e : Pg EV) : List PyData → List PyData → Pg EV
  | [], acc => .ret (.fresh acc)
  | d :: ds, acc => .bind (g d) fun _ => .bind (yW1 t) fun k => if k then .bind (yW1 e) fun v => .bind (toA v) fun a => .bind (yH0 a) fun y => if acc.length < 16777216 then .bind (xHj is) fun _ => yJl is g t e ds (acc ++ [y]) else .stuck
      else .bind (xHj is) fun _ => yJl is g t e ds acc
def zU5 (is : List Nat) (fi : Pg (List PyData)) (g : PyData → Pg Unit) (t : Pg Bool) (e : Pg EV) : Pg EV := .bind fi fun ds => .bind (xHj is) fun _ => yJl is g t e ds []

def wYc (X : Cx) (scope : Scope) (tg : Expr) : TG := fun v sg H Q => zKy X scope fun Y => WG Y tg v sg H Q
def wKy (X : Cx) (scope : Scope) (ifs : List Expr) : TT := fun sg H Q => zKy X scope fun Y => WTs Y ifs sg H Q
def wYj (X : Cx) (scope : Scope) (elt : Expr) : TE := fun sg H Q => zKy X scope fun Y => WE Y elt sg H Q
theorem wQh {own : List (Str × Nat)} {fi : Pg (List PyData)} {g : PyData → Pg Unit} {t : Pg Bool} {fe : Pg EV} (gt : ∀ d m x m', g d m ≠ .thr x m') (hi : xGy X B tg iter fi)
    (hg : zKy X scope fun Y => wZb Y (own.map (·.2)) tg g) (ht : zKy X scope fun Y => xWp Y B0 ifs t) (he : zKy X scope fun Y => Snd Y B0 elt fe) {w : Wd} {Q : VK} (r : Rep X.K w)
    (hw : (zU5 (own.map (·.2)) fi g t fe w.m).wp (yWj X.K w Q) (XW X.K B w)) : tLc (WI X tg iter) (wYc X scope tg) (wKy X scope ifs) (wYj X scope elt) (own.map (·.2)) w.sg w.H Q := by
  generalize own.map (·.2) = is at *
  refine hi w _ r ((wp_bind hw).imp (fun ds m0 hw w1 J em e1 f1 r1 itr => ?_) fun _ _ z => z)
  subst em
  intro D hD
  have hw1 : (yJl is g t fe ds [] { w1.m with sl := zJ2 is w1.m.sl }).wp (yWj X.K w Q) (XW X.K B w) := hw
  obtain ⟨r1w, f1w⟩ := yHn r1 (is := is) (sg := w.sg) (by rw [e1]; exact SameBut.refl _ _)
  obtain ⟨rl, fl⟩ := lay r1w (p := D) hD (.lst [])
  have fD : w1.F D = none := r1.noF hD
  -- the new list is guarded while the block runs
  generalize hZd : (fun a => w1.Z a ∨ a = D) = Zd
  have zSub : ∀ a, w1.Z a → Zd a := fun a h => by rw [← hZd]; exact .inl h
  have zD : Zd D := by rw [← hZd]; exact .inr rfl
  have zInv : ∀ a, Zd a → w1.Z a ∨ a = D := fun a h => by rw [← hZd] at h; exact h
  have wz : w1.Z = w.Z := f1.z
  generalize hw0 : ({ F := w1.F, ro := w1.ro, m := { w1.m with sl := zJ2 is w1.m.sl }, sg := w.sg, H := upd w1.H D (.lst []), Z := w1.Z, T := w1.T } : Wd) = w0 at rl fl
  have oD : ∀ {H : Hp} {vs : List V} {d a : Addr}, H D = some (.lst vs) → H d = some (.own a) → Zd d → w1.Z d := fun {H vs d a} hl hd z => by
    rcases zInv d z with q | q
    · exact q
    · rw [q, hl] at hd
      cases hd
  have r0 : Rep X.K (reZ w0 Zd) := yHo rl (fun a h => by
    rcases zInv a h with q | q
    · exact rl.zl a (by rw [← hw0]; exact q)
    · rw [q, ← hw0]
      show upd w1.H D (.lst []) D ≠ none
      rw [upd_same]
      simp) (fun a h z => by
    rcases zInv a z with q | q
    · exact (rl.ownAt h).2.2.2 (by rw [← hw0]; exact q)
    · have h : Own { w1 with m := { w1.m with sl := zJ2 is w1.m.sl }, sg := w.sg } D := by rw [← hw0, q] at h; exact h
      exact (r1w.ownAt h).1 hD) fun d a hd z => by
    rw [← hw0] at hd ⊢
    exact oD (show (upd w1.H D (.lst [])) D = some (.lst []) from upd_same) hd z
  refine ⟨fun i n H => ∃ (w2 : Wd) (acc : List PyData) (vs : List V), w2.sg = w.sg ∧ w2.H = H ∧ w2.Z = Zd ∧ FolE w1 (reZ w2 w1.Z) ∧ Rep X.K w2 ∧ H D = some (.lst vs) ∧ RA X.K w2.F acc vs ∧ w2.F D = none ∧ D ∉ w2.ro ∧ n = ds.length - i ∧ i ≤ ds.length ∧
    (yJl is g t fe (ds.drop i) acc w2.m).wp (yWj X.K w Q) (XW X.K B w) ∧ (∀ (j : Nat) (v : SV), j ∈ is → w2.m.sl[j]? ≠ some (some v)),
    ⟨ds.length, reZ w0 Zd, [], [], by rw [← hw0]; rfl, by rw [← hw0]; rfl, rfl, by rw [← hw0]; rw [← hw0] at fl; exact f1w.trans fl, r0, upd_same, .nil, by rw [← hw0]; exact fD, fun h => r1.roLive (by rw [← hw0] at h; exact h) hD, by omega, Nat.zero_le _, by rw [← hw0]; exact hw1, fun j v hj q => by rw [← hw0] at q; exact (zG3 q).2 hj⟩, ?_⟩
  rintro i n H ⟨w2, acc, vs, s2, rfl, z2, f2, r2, hl, ra, q1, q2, rfl, hle, q, hn⟩
  have z2s : ∀ a, w1.Z a → w2.Z a := fun a h => by rw [z2]; exact zSub a h
  have r2u : Rep X.K (reZ w2 w1.Z) := xXz r2 z2s
  obtain ⟨itg, its⟩ := itr (reZ w2 w1.Z) f2 r2u i
  by_cases hlt : i < ds.length
  · have hd : ds[i]? = some ds[i] := List.getElem?_eq_getElem hlt
    obtain ⟨go, yl⟩ := itg _ hd
    rw [List.drop_eq_getElem_cons hlt] at q
    refine .inr ⟨go, fun H' => ∃ n', n' < ds.length - i ∧ ∃ (w2 : Wd) (acc : List PyData) (vs : List V), w2.sg = w.sg ∧ w2.H = H' ∧ w2.Z = Zd ∧ FolE w1 (reZ w2 w1.Z) ∧ Rep X.K w2 ∧ H' D = some (.lst vs) ∧ RA X.K w2.F acc vs ∧ w2.F D = none ∧ D ∉ w2.ro ∧ n' = ds.length - (i + 1) ∧ i + 1 ≤ ds.length ∧
      (yJl is g t fe (ds.drop (i + 1)) acc w2.m).wp (yWj X.K w Q) (XW X.K B w) ∧ (∀ (j : Nat) (v : SV), j ∈ is → w2.m.sl[j]? ≠ some (some v)), fun H' h => h, fun x H' y => ?_⟩
    obtain ⟨w3u, b1, b2, b3, f3u, r3u, rx, gr⟩ := yl x H' y
    subst b3
    have r3 : Rep X.K (reZ w3u Zd) := yHo r3u (fun a h => f3u.liv a (r2.zl a (by rw [z2]; exact h))) (fun a h z => (r2.ownAt (show Own w2 a from f3u.own a h)).2.2.2 (by rw [z2]; exact z)) fun d a hd z => by
      rw [f3u.z]
      exact oD (f3u.frm D _ hl q2 (by intro _ z; cases z)) hd z
    have f3 : FolE w2 (reZ w3u Zd) := ⟨z2.symm, f3u.t, f3u.ext, f3u.pre, f3u.frm, f3u.new, f3u.liv, fun a h => (gr a h).imp id fun z k => r2.zl a k z, f3u.own⟩
    generalize hw3 : reZ w3u Zd = w3 at r3 f3
    have b1 : w3.m = w2.m := by rw [← hw3]; exact b1
    have b2 : w3.sg = w2.sg := by rw [← hw3]; exact b2
    have bH : w3u.H = w3.H := by rw [← hw3]; rfl
    have rx : R X.K w3.F ds[i] x := by rw [← hw3]; exact rx
    rw [bH]
    obtain ⟨r3w, f3w⟩ := wK8 r3 (is := is) (sg := wipe w.sg is) (by rw [b2, s2]; exact yWl _ _) (by rw [b1]; exact hn)
    intro s H0 Cc cl fp
    have q' := wp_bind (show (yJl is g t fe (ds[i] :: ds.drop (i + 1)) acc w3.m).wp (yWj X.K w Q) (XW X.K B w) from by rw [b1]; exact q)
    refine hg s H0 Cc cl fp { w3 with sg := wipe w.sg is } ds[i] x _ r3w rx ?_
    show (g ds[i] w3.m).wp _ _
    cases eg : g ds[i] w3.m with
    | bad =>
      rw [eg] at q'
      exact q'.elim
    | thr e m' => exact absurd eg (gt _ _ e m')
    | ok u m' =>
      rw [eg] at q'
      intro w4 em eh sb f4 r4
      subst em
      have sb4 : SameBut is w.sg w4.sg := (yWl is w.sg).trans sb
      refine ⟨(wXr sb4), ?_⟩
      have f24 : FolE w2 w4 := f3.trans (f3w.trans f4)
      have toW : ∀ {w' : Wd}, FolE w2 w' → FolE w1 (reZ w' w1.Z) := fun {w'} f => f2.trans (wJj f z2s)
      have kD : ∀ {w' : Wd}, FolE w2 w' → w'.H D = some (.lst vs) ∧ D ∉ w'.ro ∧ w'.F D = none ∧ w'.Z = Zd := fun {w'} f => ⟨f.frm D _ hl q2 (by intro _ z; cases z), fun z => (f.new D z).elim q2 (zHz hl), Classical.byContradiction fun z => (f.grow D z).elim (fun k => k q1) fun k => k (by rw [z2]; exact zD), f.z.trans z2⟩
      intro s H0 Cc cl fp
      have q5 := wp_bind (show (Pg.bind (yW1 t) _ w4.m).wp (yWj X.K w Q) (XW X.K B w) from q')
      refine ht s H0 Cc cl fp w4 _ r4 ((yVo q5).imp (fun k m5 z w5 em e5 f5 r5 => ?_) fun _ _ z => z.elim)
      subst em
      have f25 : FolE w2 w5 := f24.trans f5
      cases k with
      | false =>
        have z : (yJl is g t fe (ds.drop (i + 1)) acc { w5.m with sl := zJ2 is w5.m.sl }).wp (yWj X.K w Q) (XW X.K B w) := z
        refine iteF ?_
        obtain ⟨r6, f6⟩ := yHn r5 (is := is) (sg := w.sg) (by rw [e5]; exact sb4.symm)
        have f26 := f25.trans f6
        obtain ⟨d1, d2, d3, d4⟩ := kD f26
        exact ⟨ds.length - (i + 1), by omega, { w5 with m := { w5.m with sl := zJ2 is w5.m.sl }, sg := w.sg }, acc, vs, rfl, rfl, d4, toW f26, r6, d1, ra.mono f26.ext, d3, d2, rfl, hlt, z, fun j v hj q => (zG3 q).2 hj⟩
      | true =>
        refine iteT ?_
        rw [← e5]
        intro s H0 Cc cl fp
        have q6 := wp_bind (show (Pg.bind (yW1 fe) _ w5.m).wp (yWj X.K w Q) (XW X.K B w) from z)
        refine he s H0 Cc cl fp w5 _ r5 ((yVo q6).imp (fun v m6 z w6 y em e6 f6 r6 re => ?_) fun _ _ z => z.elim)
        subst em
        obtain ⟨a, w7, ea, e7, h7, f7, r7, rv⟩ := zUy r6 re
        have z := wp_bind z
        rw [ea] at z
        obtain ⟨d, ed, zz⟩ := yYg (wp_bind (show (Pg.bind (yH0 a) _ w7.m).wp (yWj X.K w Q) (XW X.K B w) from z))
        subst ed
        clear z
        have z := zz
        have f27 : FolE w2 w7 := f25.trans (f6.trans f7)
        have s7 : SameBut is w7.sg w.sg := by
          rw [e7, e6, e5]
          exact sb4.symm
        by_cases hz : acc.length < 16777216
        · rw [if_pos hz] at z
          have z : (yJl is g t fe (ds.drop (i + 1)) (acc ++ [d]) { w7.m with sl := zJ2 is w7.m.sl }).wp (yWj X.K w Q) (XW X.K B w) := z
          obtain ⟨r8, f8⟩ := yHn r7 (is := is) (sg := w.sg) s7
          have f28 := f27.trans f8
          generalize hw8 : ({ F := w7.F, ro := w7.ro, m := { w7.m with sl := zJ2 is w7.m.sl }, sg := w.sg, H := w7.H, Z := w7.Z, T := w7.T } : Wd) = w8 at r8 f28
          obtain ⟨d1, d2, d3, d4⟩ := kD f28
          have nO : ¬ Own w8 D := fun z => (r8.ownAt z).2.2.2 (by rw [d4]; exact zD)
          have r9 := vKr (o := .lst (vs ++ [y])) r8 d3 d2 nO (fun {a d} z e => by rw [e, d1] at z; cases z) (fun C d vs z => by rw [d1] at z; cases z) ⟨_, d1, fun z => z⟩
          have hH : w6.H = w8.H := by rw [← hw8]; exact h7.symm
          rw [hH]
          have f18 := toW f28
          have f19 : FolE w1 (reZ { w8 with H := upd w8.H D (.lst (vs ++ [y])) } w1.Z) := ⟨rfl, f18.t, f18.ext, f18.pre, fun a o h n k => by
            show upd w8.H D (.lst (vs ++ [y])) a = some o
            rw [upd_ne (fun e => by rw [e, hD] at h; cases h)]
            exact f18.frm a o h n k, f18.new, fun a h => by
            show upd w8.H D (.lst (vs ++ [y])) a ≠ none
            rw [upd_ne (fun e => h (by rw [e]; exact hD))]
            exact f18.liv a h, f18.grow, f18.own⟩
          have ra' : RA X.K w8.F (acc ++ [d]) (vs ++ [y]) := (ra.mono f28.ext).app (.one (by rw [← hw8]; exact rv))
          refine ⟨vs, d1, by rw [← (ra.mono f28.ext).len, sizeLine_eq]; exact hz, ds.length - (i + 1), by omega, { w8 with H := upd w8.H D (.lst (vs ++ [y])) }, acc ++ [d], vs ++ [y], by rw [← hw8], rfl, d4, f19, r9, upd_same, ra', d3, d2, rfl, hlt, ?_, fun j v hj q => ?_⟩
          · show (yJl is g t fe (ds.drop (i + 1)) (acc ++ [d]) w8.m).wp _ _
            rw [← hw8]
            exact z
          · have q : w8.m.sl[j]? = some (some v) := q
            rw [← hw8] at q
            exact (zG3 q).2 hj
        · rw [if_neg hz] at z
          exact z.elim
  · have e0 : ds.drop i = [] := List.drop_eq_nil_of_le (by omega)
    rw [e0] at q
    have f12 : FolE w (reZ w2 w1.Z) := f1.trans f2
    refine .inl ⟨its (by omega), q (reZ w2 w1.Z) (.ref D) rfl s2 f12 r2u ⟨D, rfl, ⟨vs, hl, ra⟩, q1, q2, fun z => r1.zl D z hD, fun z => (r2.ownAt (show Own w2 D from z)).2.2.2 (by rw [z2]; exact zD)⟩ fun b e => by cases e; exact Classical.byContradiction fun z => f1.liv D z hD⟩
theorem xUl {own : List (Str × Nat)} {fi : Pg (List PyData)} {g : PyData → Pg Unit} {t : Pg Bool} {fe : Pg EV} (gt : ∀ d m x m', g d m ≠ .thr x m') (hi : xGy X B tg iter fi)
    (hg : zKy X scope fun Y => wZb Y (own.map (·.2)) tg g) (ht : zKy X scope fun Y => xWp Y B0 ifs t) (he : zKy X scope fun Y => Snd Y B0 elt fe) {w : Wd} {Q : VK} (r : Rep X.K w)
    (hw : (zU5 (own.map (·.2)) fi g t fe w.m).wp (zYh X.K w Q) (XW X.K B w)) : tLc (WI X tg iter) (wYc X scope tg) (wKy X scope ifs) (wYj X scope elt) (own.map (·.2)) w.sg w.H Q :=
  wQh gt hi hg ht he r (hw.imp (fun _ _ q => q.f) fun _ _ z => z)
theorem yWk {own : List (Str × Nat)} {fi : Pg (List PyData)} {g : PyData → Pg Unit} {t : Pg Bool} {fe : Pg EV} (C : Ctx X B) (ok : BlkOk X.N X.env.scope scope own) (gt : ∀ d m x m', g d m ≠ .thr x m') (hi : xGy X B tg iter fi)
    (hg : zKy X scope fun Y => wZb Y (own.map (·.2)) tg g) (ht : zKy X scope fun Y => xWp Y B0 ifs t) (he : zKy X scope fun Y => Snd Y B0 elt fe) (hs : ∀ x, foldedSetIterable iter X.env x = pure x := by intro _; rfl) :
    Snd X B (.ListComp elt [⟨tg, iter, ifs, 0⟩] scope pos) (zU5 (own.map (·.2)) fi g t fe) := fun w Q r hw =>
  zUx (pe_lc C.calm C.nd vQc ok (fun s H Cc cl fp => ⟨fun pins s1 _ _ _ u _ I rv h => (h s H Cc cl fp).go pins s1 u I rv⟩) (fun s H Cc cl fp => ⟨fun pins s1 _ _ _ I h => (h s H Cc cl fp).go pins s1 I⟩) (fun s H Cc cl fp => ⟨fun pins s1 _ _ _ I h => (h s H Cc cl fp).go pins s1 I⟩) hs)
    (xUl gt hi hg ht he r hw)
theorem yYj {own : List (Str × Nat)} {fi : Pg (List PyData)} {g : PyData → Pg Unit} {t : Pg Bool} {fe : Pg EV} {y : Str} {py spos : Pos} (i : Nat) (C : Ctx X B) (hy : X.N[i]? = some y) (hyl : X.env.scope.names.lookup y = some .local)
    (hsw : swapsWith (.ListComp elt [⟨tg, iter, ifs, 0⟩] scope pos) (some (.Name y py)) spos.line X.env = pure true) (ok : BlkOk X.N X.env.scope scope own) (gt : ∀ d m x m', g d m ≠ .thr x m') (hi : xGy X B tg iter fi)
    (hg : zKy X scope fun Y => wZb Y (own.map (·.2)) tg g) (ht : zKy X scope fun Y => xWp Y B0 ifs t) (he : zKy X scope fun Y => Snd Y B0 elt fe) (hs : ∀ x, foldedSetIterable iter X.env x = pure x := by intro _; rfl) :
    xXi X B (.Assign [.Name y py] (.ListComp elt [⟨tg, iter, ifs, 0⟩] scope pos) spos) (evSet i (zU5 (own.map (·.2)) fi g t fe)) := by
  intro w D r hw
  refine yJz (ps_setLc C.calm C.nd hy hyl hsw vQc ok (fun s H Cc cl fp => ⟨fun pins s1 _ _ _ u _ I rv h => (h s H Cc cl fp).go pins s1 u I rv⟩) (fun s H Cc cl fp => ⟨fun pins s1 _ _ _ I h => (h s H Cc cl fp).go pins s1 I⟩) (fun s H Cc cl fp => ⟨fun pins s1 _ _ _ I h => (h s H Cc cl fp).go pins s1 I⟩) hs)
   (xUl (Q := fun x H1 => D.nx (w.sg.set i (some x)) H1) gt hi hg ht he r ((wp_bind hw).imp (fun v m' q w1 x em e1 f1 r1 re => ?_) fun _ _ z => z))
  subst em
  obtain ⟨w2, s2, h2, f2, r2, q⟩ := wXm (B := B) r1 re (wp_bind q)
  have q := q w2 rfl ((f1.s r).trans f2) r2
  rw [s2, h2, e1] at q
  exact q
end
end Ev

namespace Ev
open PySem PySem.Spec PyProof.Rows L2

theorem RA.atI {K : PySem.W.Frag} {F : Hp} {ds : List PyData} {vs : List V} {i : Int} {d : PyData} (a : RA K F ds vs) (h : atI ds i = some d) : ∃ v, atI vs i = some v ∧ R K F d v := by
  unfold L2.atI at h ⊢
  rw [← a.len]
  cases e : ixN ds.length i with
  | none =>
    rw [e] at h
    cases h
  | some j =>
    rw [e] at h
    exact a.get h
def chD (z : Str) (i : Int) : Option PyData := if z.length ≤ 16777216 then (atI z.cps.toList i).map fun c => .str ⟨#[c]⟩ else none
def ixS : PyData → PyData → Option PyData
  | .list xs, .int i => atI xs i
  | .tuple xs, .int i => atI xs i
  | .str z, .int i => chD z i
  | .dict es, k => if zZi es && yXj k then xKc es k else none
  | _, _ => none
def ixP (o i : OV) : Pg EV := look o fun x => look i fun y => zKz ((ixS x y).map .d)
theorem wZ7 {K : PySem.W.Frag} {w : Wd} {xs : List PyData} {vs : List V} {i : Int} {d : PyData} (a : RA K w.F xs vs) (h : atI xs i = some d) : ∃ v, atI vs i = some v ∧ RE K w (.d d) v := a.atI h
theorem vZq {X : Cx} : IxR X (fun x y H Q => ∃ r, IxR X r ∧ r x y H Q) := by
  intro value slice pins s sg H x y v u Q I rx ry ⟨r, hr, q⟩ hs
  exact hr value slice pins s sg H x y v u Q I rx ry q hs
def wH8 : R2 := fun x y H Q => ∃ a v, x = .ref a ∧ DGet H a y (some v) ∧ Q v H
theorem wVe {X : Cx} (hu : X.A.units + 1 < cLine) : IxR X wH8 := by
  intro value slice pins s sg H x y v u Q I rx ry ⟨a, v0, ex, g, q⟩ hs
  subst ex
  obtain rfl : v = Value.ref a := rx
  exact tail_any (dict_typeIs I g) PySem.F.slot_dict_getitem.lookup (d_getItem hu I g ry fun w' s3 I3 rw' => ⟨v0, H, I3, rw', q⟩) hs
section
variable {X : Cx} {B : XBt} {a b c e : Expr} {es : List Expr} {fa fb fc f : Pg EV} {pos p : Pos}
def zHr (fa fb : Pg EV) : Pg EV := .bind fa fun v => .bind fb fun u => ixP (zHc v) (zHc u)
theorem zZx (C : Ctx X B) (ha : Snd X B a fa) (hb : Snd X B b fb) (hs : PlainIx b := by intro _ _; rfl) : Snd X B (.Subscript a b pos) (zHr fa fb) := by
  intro w Q r h
  refine zUx (pe_ix vZq zHk zHk hs) ?_
  refine zQ0 ha r h fun v w1 x e1 f1 r1 re h1 => ?_
  rw [← e1]
  refine zQ0 hb r1 h1 fun u w2 y e2 f2 r2 re2 h2 => ?_
  obtain ⟨dx, q1, h2⟩ := zJe h2
  obtain ⟨dy, q2, h2⟩ := zJe h2
  have o1 := ((re.ro r1).fol r1 f2).rn r2 q1
  have o2 := (re2.ro r2).rn r2 q2
  have fo := f1.trans f2
  have es := e2.trans e1
  obtain ⟨z, ez, q⟩ := zXn h2
  cases ei : ixS dx dy with
  | none =>
    rw [ei] at ez
    cases ez
  | some d =>
    rw [ei] at ez
    cases ez
    have k := zYh.keep q es fo
    cases dx with
    | list xs =>
      cases dy with
      | int i =>
        obtain rfl := o2.int
        obtain ⟨p, vs, rfl, hq, ra⟩ := o1.lst r2.sub
        obtain ⟨z, hz, rz⟩ := wZ7 ra ei
        exact ⟨_, ix_list, p, vs, i, z, rfl, rfl, hq.sq, hz, k.here r2 rz⟩
      | _ => cases ei
    | tuple xs =>
      cases dy with
      | int i =>
        obtain rfl := o2.int
        obtain ⟨p, vs, rfl, hq, ra⟩ := o1.tup
        obtain ⟨z, hz, rz⟩ := wZ7 ra ei
        exact ⟨_, ix_tup, p, vs, i, z, rfl, rfl, zZ7 r2.sub hq, hz, k.here r2 rz⟩
      | _ => cases ei
    | str s =>
      cases dy with
      | int i =>
        obtain rfl := o2.int
        obtain rfl := o1.str
        have ei : chD s i = some d := ei
        unfold chD at ei
        split at ei
        · rename_i hl
          cases ec : atI s.cps.toList i with
          | none =>
            rw [ec] at ei
            cases ei
          | some c =>
            rw [ec] at ei
            cases ei
            exact ⟨_, ix_str, s, i, c, rfl, rfl, by rw [sizeLine_eq]; exact hl, ec, k.here r2 (.str _)⟩
        · cases ei
      | _ => cases ei
    | dict es0 =>
      have ei : (if zZi es0 && yXj dy then xKc es0 dy else none) = some d := by
        cases dy <;> exact ei
      split at ei
      · rename_i hp
        simp only [Bool.and_eq_true] at hp
        obtain ⟨kk, rfl⟩ := xQb hp.2
        obtain ⟨p, kvs, rfl, hH, rk⟩ := o1.dic r2.sub hp.1
        obtain ⟨v0, e0, rv0⟩ := (rk.val kk).1 d ei
        have ey := xQc o2
        subst ey
        have u1 : X.A.units + 1 < cLine := by have := C.rm.un; omega
        exact ⟨_, wVe u1, p, v0, rfl, by rw [← e0]; exact DGet.k hH, k.here r2 rv0⟩
      · cases ei
    | _ => cases dy <;> cases ei

def WO (X : Cx) (e : Option Expr) : TO := fun sg H Q => Cl (∀ (pins : List (Addr × Obj)) (s : Shared), L2.Inv X pins sg H s → wpAny (model X.prog X.w) X.A (evalPart e X.env) (fun u s' => ∃ o H', L2.Inv X pins sg H' s' ∧ IsPart u o ∧ Q o H') X.xe s)
theorem vJg {e : Option Expr} : PO X e (WO X e) := ⟨fun pins s _ _ _ I h => h.go pins s I⟩
theorem wKr {e : Option Expr} {t : TO} (h : PO X e t) {sg : L2.St} {H : Hp} {Q : Option Int → Hp → Prop} (q : t sg H Q) : WO X e sg H Q := ⟨fun pins s I => h.run pins s sg H Q I q⟩
def wY1 (X : Cx) (B : XBt) (e : Option Expr) (f : Pg (Option Int)) : Prop := ∀ (w : Wd) (Q : Option Int → Hp → Prop), Rep X.K w →
  (f w.m).wp (fun o m' => ∀ (w' : Wd), w'.m = m' → w'.sg = w.sg → FolE w w' → Rep X.K w' → Q o w'.H) (XW X.K B w) → WO X e w.sg w.H Q
def intD : PyData → Option (Option Int)
  | .int i => some (some i)
  | _ => none
def vQs (o : OV) : Pg (Option Int) := look o fun x => zKz (intD x)
def xV9 (f : Pg EV) : Pg (Option Int) := .bind f fun v => vQs (zHc v)
theorem xYg : wY1 X B none (.ret none) := fun w Q r h => wKr po_none (h w rfl rfl (FolE.refl w) r)
theorem xYf (h : Snd X B e f) : wY1 X B (some e) (xV9 f) := by
  intro w Q r hw
  refine wKr (po_some zHk) ?_
  refine zQ0 h r hw fun v w1 x e1 f1 r1 re h1 => ?_
  obtain ⟨d, q1, h1⟩ := zJe h1
  have o1 := (re.ro r1).rn r1 q1
  obtain ⟨z, ez, q⟩ := zXn h1
  cases d with
  | int i =>
    cases ez
    obtain rfl := o1.int
    exact ⟨i, rfl, q w1 rfl e1 f1 r1⟩
  | _ => cases ez
theorem xQy {eo : Option Expr} {f : Pg (Option Int)} {α : Type} {g : Option Int → Pg α} {P : α → Mem → Prop} {w : Wd} {Q : Option Int → Hp → Prop} (h : wY1 X B eo f) (r : Rep X.K w) (hw : (Pg.bind f g w.m).wp P (XW X.K B w))
    (next : ∀ (v : Option Int) (w' : Wd), w'.sg = w.sg → FolE w w' → Rep X.K w' → (g v w'.m).wp P (XW X.K B w') → Q v w'.H) : WO X eo w.sg w.H Q := by
  refine h w Q r ((wp_bind hw).imp (fun v m' q w' e1 e2 f r' => ?_) fun _ _ q => q)
  subst e1
  exact next v w' e2 f r' (q.imp (fun _ _ z => z) fun _ _ z => z.fol (f.s r))
def cutD (xs : List PyData) (lo hi : Option Int) : List PyData := (xs.drop (HT.sIx xs.length 0 lo)).take (HT.sIx xs.length xs.length hi - HT.sIx xs.length 0 lo)
def slS (x : PyData) (lo hi : Option Int) : Option EV :=
  match x with
  | .list xs => some (.fresh (cutD xs lo hi))
  | .tuple xs => some (.d (.tuple (cutD xs lo hi)))
  | .str z => if z.length ≤ 16777216 then some (.d (.str (Txt.slice z lo hi))) else none
  | _ => none
def slP (x : OV) (lo hi : Option Int) : Pg EV := look x fun x => zKz (slS x lo hi)
def wGr (fa : Pg EV) (fl fh : Pg (Option Int)) : Pg EV := .bind fa fun v => .bind fl fun l => .bind fh fun h => slP (zHc v) l h
theorem RA.cut {K : PySem.W.Frag} {F : Hp} {ds : List PyData} {vs : List V} (a : RA K F ds vs) (lo hi : Option Int) : RA K F (cutD ds lo hi) (cutV vs lo hi) := by
  unfold cutD cutV
  rw [← a.len]
  exact (a.drop _).take _
theorem vZp : SlR X (fun x lo hi H Q => ∃ r, SlR X r ∧ r x lo hi H Q) := by
  intro pins s sg H x v vl vu lo hi sl Q I rx hs pl pu ⟨r, hr, q⟩
  exact hr pins s sg H x v vl vu lo hi sl Q I rx hs pl pu q
theorem xGa {xs : List PyData} {lo hi : Option Int} (h : HT.sIx xs.length 0 lo = 0 ∧ HT.sIx xs.length xs.length hi = xs.length) : cutD xs lo hi = xs := by
  unfold cutD
  rw [h.1, h.2]
  simp
theorem wKz {lo hi : Option Expr} {fl fh : Pg (Option Int)} {p2 : Pos} (ha : Snd X B a fa) (hl : wY1 X B lo fl) (hh : wY1 X B hi fh) : Snd X B (.Subscript a (.Slice lo hi none p2) pos) (wGr fa fl fh) := by
  intro w Q r h
  refine zUx (pe_slice vZp zHk vJg vJg) ?_
  refine zQ0 ha r h fun v w1 x e1 f1 r1 re h1 => ?_
  rw [← e1]
  refine xQy hl r1 h1 fun l w2 e2 f2 r2 h2 => ?_
  rw [← e2]
  refine xQy hh r2 h2 fun h w3 e3 f3 r3 h3 => ?_
  obtain ⟨d, q1, h3⟩ := zJe h3
  have o1 := (((re.ro r1).fol r1 f2).fol r2 f3).rn r3 q1
  have fo := f1.trans (f2.trans f3)
  have es := e3.trans (e2.trans e1)
  obtain ⟨z, ez, q⟩ := zXn h3
  have k := zYh.keep q es fo
  cases d with
  | list xs =>
    cases ez
    obtain ⟨p, vs, rfl, hq, ra⟩ := o1.lst r3.sub
    exact ⟨_, sl_list, p, vs, rfl, hq.sq, fun b hb => k.lst r3 (ra.cut l h) hb⟩
  | tuple xs =>
    cases ez
    obtain ⟨p, vs, rfl, hq, ra⟩ := o1.tup
    refine ⟨_, sl_tupA, p, vs, rfl, zZ7 r3.sub hq, fun hw => ?_, fun _ b hb => k.tup r3 (ra.cut l h) hb⟩
    refine k.here r3 ?_
    rw [← ra.len] at hw
    rw [xGa hw]
    exact R.tup hq ra
  | str s =>
    have ez : (if s.length ≤ 16777216 then some (EV.d (.str (Txt.slice s l h))) else none) = some z := ez
    split at ez
    · rename_i hz
      cases ez
      obtain rfl := o1.str
      exact ⟨_, C8.sl_txt, s, rfl, by rw [sizeLine_eq]; exact hz, k.here r3 (.str _)⟩
    · cases ez
  | _ => cases ez

theorem xZq {α : Type} : ∀ {l : List α} {i j : Nat} {a : α}, l.Nodup → l[i]? = some a → l[j]? = some a → i = j
  | [], _, _, _, _, h, _ => by simp at h
  | b :: l, 0, 0, _, _, _, _ => rfl
  | b :: l, 0, j + 1, a, n, h1, h2 => by
    simp at h1 h2
    subst h1
    exact absurd (List.mem_of_getElem? h2) (List.nodup_cons.mp n).1
  | b :: l, i + 1, 0, a, n, h1, h2 => by
    simp at h1 h2
    subst h2
    exact absurd (List.mem_of_getElem? h1) (List.nodup_cons.mp n).1
  | b :: l, i + 1, j + 1, a, n, h1, h2 => by
    simp at h1 h2
    rw [xZq (List.nodup_cons.mp n).2 h1 h2]
theorem wVx {K : PySem.W.Frag} {w : Wd} (r : Rep K w) {n : Nat} {o o' : Ob} {a : Addr} {u : HO} (h1 : w.m.cs[n]? = some o) (h2 : w.ro[n]? = some a) (h4 : OH K w.F (upd w.H a u) (fun _ => False) a o') (hni : (∀ c fs, o ≠ .ins c fs) ∨ (∀ C d vs, w.H a = some (.ins C d vs) → ∃ C' vs', u = .ins C' d vs') := by exact .inl (by intro _ _ z; cases z)) :
    Rep K { w with m := { w.m with cs := w.m.cs.set n o' }, H := upd w.H a u } ∧ FolE w { w with m := { w.m with cs := w.m.cs.set n o' }, H := upd w.H a u } := by
  have ar : a ∈ w.ro := List.mem_of_getElem? h2
  have q1 := r.rf n a h2
  have oth : ∀ b o, b ≠ a → w.H b = some o → upd w.H a u b = some o := fun b o n e => by
    rw [upd_ne n]
    exact e
  have nod : ∀ {b d : Addr}, w.H d = some (.own b) → d ≠ a := fun {b d} e z => (r.noOwnDict e).1 (z ▸ ar)
  have liv : ∀ b, w.H b ≠ none → upd w.H a u b ≠ none := fun b h => by
    by_cases e : b = a
    · rw [e, upd_same]
      simp
    · rw [upd_ne e]
      exact h
  have tb' : (TK K w).P (upd w.H a u) ∧ (∀ b ps, w.F b ≠ some (.tbl ps)) ∧ ∀ b ps, upd w.H a u b = some (.tbl ps) → ∃ q, (b, q) ∈ xWw K := by
    obtain ⟨a', k1, k2⟩ := r.cs n _ h1
    rw [h2] at k1
    cases k1
    exact ⟨(TK _ w).us r.tb.1 k2.soft, r.tb.2.1, yKl r.tb.2.2 (h4.ntbl upd_same)⟩
  have nl : n < w.m.cs.length := (List.getElem?_eq_some_iff.mp h1).1
  have insO : (∃ c fs, o = .ins c fs) → ∃ c fs, o' = .ins c fs := by
    rintro ⟨c, fs, rfl⟩
    rcases hni with z | z
    · exact absurd rfl (z c fs)
    · obtain ⟨a', k1, k2⟩ := r.cs n _ h1
      rw [h2] at k1
      cases k1
      obtain ⟨C, dx, vs, e1, _⟩ := k2
      obtain ⟨C', vs', rfl⟩ := z C dx vs e1
      cases o' with
      | lst xs => obtain ⟨vs, z, _⟩ := h4; rw [upd_same] at z; cases z
      | dic xs => obtain ⟨vs, z, _⟩ := h4; rw [upd_same] at z; cases z
      | ins c' fs' => exact ⟨_, _, rfl⟩
  have rf' : ∀ k b, w.ro[k]? = some b → w.F b = some (mkC k) ∨ w.F b = none ∧ ∃ c fs, (w.m.cs.set n o')[k]? = some (.ins c fs) := fun k b hk => by
    rcases r.rf k b hk with q | ⟨q, c, fs, hc⟩
    · exact .inl q
    · refine .inr ⟨q, ?_⟩
      by_cases e : k = n
      · subst e
        rw [h1] at hc
        cases hc
        obtain ⟨c', fs', rfl⟩ := insO ⟨_, _, rfl⟩
        exact ⟨c', fs', List.getElem?_set_self nl⟩
      · exact ⟨c, fs, by rw [List.getElem?_set_ne (Ne.symm e)]; exact hc⟩
  refine ⟨⟨fun b o e hn => ?_, r.le, fun j v h => ?_, fun k zs h => ?_, ?_, rf', r.rk, r.nd, r.ow, fun b h => liv b (r.zl b h), fun d b h => ?_, tb'⟩, ⟨rfl, rfl, Same.refl _, ⟨[], (List.append_nil _).symm⟩, fun b o e z _ => oth b o (fun q => z (q ▸ ar)) e, fun _ h => .inl h, liv, fun _ h => .inl h, fun _ h => h⟩⟩
  · have n : b ≠ a := fun z => by
      have e : w.F b = some o := e
      rw [z] at e
      rcases q1 with q1 | ⟨q1, _⟩
      · rw [q1] at e
        cases e
        exact hn _ rfl
      · rw [q1] at e
        cases e
    exact oth b o n (r.sub b o e hn)
  · obtain ⟨x, p1, p2⟩ := r.sl j v h
    refine ⟨x, p1, ?_⟩
    cases v with
    | d y => exact p2
    | cell n => exact p2
    | thk t => exact p2
    | ob zs =>
      obtain ⟨b, e, k1, k3, k4, k5⟩ := p2
      exact ⟨b, e, k1.keep (Same.refl _) (fun u => oth b u fun z => k4 (z ▸ ar)) (fun d z => oth d _ (nod z) z) (fun _ _ z => z), k3, k4, k5⟩
  · rcases yHg (show (w.m.cs.set n o')[k]? = some zs from h) with ⟨e1, e2⟩ | ⟨e1, e2⟩
    · subst e1 e2
      exact ⟨a, h2, h4⟩
    · obtain ⟨b, k1, k2⟩ := r.cs k zs e2
      have nb : b ≠ a := fun z => e1 (by
        subst z
        exact xZq r.nd k1 h2)
      exact ⟨b, k1, k2.keep (Same.refl _) (fun u => oth b u nb) (fun d z => oth d _ (nod z) z) (fun _ _ z => z)⟩
  · show (w.m.cs.set n o').length = _
    rw [List.length_set]
    exact r.ln
  · have h : upd w.H a u d = some (.own b) := h
    by_cases q : d = a
    · rw [q] at h
      exact absurd h h4.noOwn
    · rw [upd_ne q] at h
      obtain ⟨C, vs, e⟩ := r.oo d b h
      by_cases z : b = a
      · subst z
        rcases hni with hni | hni
        · obtain ⟨a', ha', hO⟩ := r.cs n o h1
          rw [h2] at ha'
          cases ha'
          cases o with
          | lst xs =>
            obtain ⟨ws, k1, _⟩ := hO
            rw [k1] at e
            cases e
          | dic es =>
            obtain ⟨ws, k1, _⟩ := hO
            rw [k1] at e
            cases e
          | ins c fs => exact absurd rfl (hni c fs)
        · obtain ⟨C', vs', eu⟩ := hni C d vs e
          exact ⟨C', vs', by rw [eu]; exact upd_same⟩
      · exact ⟨C, vs, oth b _ z e⟩
def putS (o : Ob) (i d : PyData) : Option Ob := match o, i with
  | .lst xs, .int k => (ixN xs.length k).map fun j => .lst (xs.set j d)
  | .dic es, k => if yXj k && decide (es.length < 16777216) then some (.dic (wGv es k d)) else none
  | _, _ => none
def putAt (v : EV) (o' : Ob) : Pg Unit := match v with
  | .cell n => fun m => .ok () { m with cs := m.cs.set n o' }
  | .pk j _ => fun m => .ok () (setM m j (.ob o'))
  | _ => .stuck
def yUi (v : EV) : Pg Ob := fun m => match v with
  | .cell n => match m.cs[n]? with
    | some o => .ok o m
    | none => .bad
  | .pk j _ => match m.sl[j]? with
    | some (some (.ob o)) => .ok o m
    | _ => .bad
  | _ => .bad
theorem wYs {K : PySem.W.Frag} {w0 w : Wd} {v : EV} {x : V} {P : Ob → Mem → Prop} {E : Exn → Mem → Prop} (r0 : Rep K w0) (re : RE K w0 v x) (r : Rep K w) (hf : FolE w0 w) (hs : w.sg = w0.sg) (h : (yUi v w.m).wp P E) :
    ∃ a o, x = .ref a ∧ OH K w.F w.H (fun _ => False) a o ∧ P o w.m ∧ ∀ (o' : Ob) (u : HO) {R : Unit → Mem → Prop} {E' : Exn → Mem → Prop}, ((∀ c fs, o ≠ .ins c fs) ∨ (∀ C d vs, w.H a = some (.ins C d vs) → ∃ C' vs', u = .ins C' d vs')) → (∀ Z, OH K w.F w.H Z a o → OH K w.F (upd w.H a u) Z a o') → (putAt v o' w.m).wp R E' → ∃ w' : Wd, w'.H = upd w.H a u ∧ w'.sg = w.sg ∧ Rep K w' ∧ FolS w w' ∧ R () w'.m := by
  cases v with
  | d _ => exact h.elim
  | new _ => exact h.elim
  | cell n =>
    obtain ⟨p, rfl, hp⟩ := re
    have hp := hf.at hp
    unfold yUi at h
    dsimp only at h
    split at h
    · rename_i o ec
      obtain ⟨p', hp', hO⟩ := r.cs n o ec
      rw [hp] at hp'
      cases hp'
      refine ⟨p, o, rfl, hO, h, fun o' u R E' hni ho q => ?_⟩
      obtain ⟨r5, f5⟩ := wVx r ec hp (ho _ hO) hni
      exact ⟨{ w with m := { w.m with cs := w.m.cs.set n o' }, H := upd w.H p u }, rfl, rfl, r5, f5.s r, q⟩
    · exact h.elim
  | pk j o0 =>
    unfold yUi at h
    dsimp only at h
    split at h
    · rename_i o ec
      obtain ⟨_, g2⟩ := re
      obtain ⟨z, g3, b, g4, g5, _⟩ := r.sl j _ ec
      have g3' := g3
      rw [hs, g2] at g3
      cases g3
      subst g4
      refine ⟨b, o, rfl, g5.any, h, fun o' u R E' hni ho q => ?_⟩
      obtain ⟨r5, f5⟩ := xJl r ec g3' (ho _ g5) hni
      exact ⟨{ w with m := setM w.m j (.ob o'), H := upd w.H b u }, rfl, rfl, r5, f5, q⟩
    · exact h.elim
def xJ1 (v : EV) (i : OV) (d : PyData) : Pg Fl := .bind (yUi v) fun o => look i fun k => .bind (zKz (putS o k d)) fun o' => .bind (putAt v o') fun _ => .ret .next
def yWc (fe fo fi : Pg EV) : Pg Fl := .bind fe fun v => .bind (toA v) fun a => .bind (yH0 a) fun d => .bind fo fun o => .bind fi fun i => xJ1 o (zHc i) d
theorem wYt {X : Cx} : PSet X (fun o i v H Q => ∃ t, PSet X t ∧ t o i v H Q) := by
  intro pins s sg H o i v ov iv u Q I ro ri rv ⟨t, ht, q⟩
  exact ht pins s sg H o i v ov iv u Q I ro ri rv q
theorem yYi {o i : Expr} {fo fi : Pg EV} {p2 : Pos} (C : Ctx X B) (he : Snd X B e f) (ho : Snd X B o fo) (hi : Snd X B i fi) (hs : swapsWithSole [.Subscript o i p2] e pos.line X.env = pure false := by rfl) (hw : swappedStores [.Subscript o i p2] e X.env = pure none := by rfl)
    (h1 : (assignEach [.Subscript o i p2] X.env).map (·.2) = [assign (.Subscript o i p2) X.env] := by rfl)
    (ha : ∀ v, assign (.Subscript o i p2) X.env v = (do
      let ov ← holding [v] (eval o X.env)
      let iv ← holding [v, ov] (eval i X.env)
      standAt p2
      holding [v, ov, iv] (setItem ov iv v)
      release [v, ov, iv] []) := by intro _; rfl) : xXi X B (.Assign [.Subscript o i p2] e pos) (yWc f fo fi) := by
  intro w D r hh
  refine yJz (ps_asg zHk (pg_sub zHk zHk wYt ha) hs hw h1) ?_
  refine zQ0 he r hh fun v w1 y e1 f1 r1 re q1 => ?_
  obtain ⟨a, w2, ea, e2, e3, f2, r2, rv⟩ := zUy r1 re
  have q2 := wp_bind q1
  rw [ea] at q2
  obtain ⟨d, ed, q3⟩ := yYg (wp_bind (show (Pg.bind (yH0 a) _ w2.m).wp (yQw X.K w D) (XW X.K B w1) from q2))
  subst ed
  have s2 : w2.sg = w.sg := e2.trans e1
  have rv : R X.K w2.F d y := rv
  rw [← e3, ← s2]
  have q3 := q3.imp (fun _ _ z => z) fun _ _ z => z.fol (f2.s r1)
  refine zQ0 ho r2 q3 fun ov w3 ox e4 f3 r3 re3 q4 => ?_
  have s3 : w3.sg = w.sg := e4.trans s2
  rw [← e4]
  refine zQ0 hi r3 q4 fun iv w4 ix e5 f4 r4 re4 q5 => ?_
  have s4 : w4.sg = w.sg := e5.trans s3
  have fol : FolE w w4 := f1.trans (f2.trans (f3.trans f4))
  have rd : R X.K w4.F d y := (rv.mono f3.ext).mono f4.ext
  obtain ⟨p, o, rfl, hO, q6, next⟩ := wYs r3 re3 r4 f4 e5 (wp_bind q5)
  obtain ⟨k, ek, q7⟩ := zJe q6
  have oi := (re4.ro r4).rn r4 ek
  obtain ⟨o', eo, q8⟩ := zXn (wp_bind q7)
  have fin : ∀ {u : HO}, (∀ Z, OH X.K w4.F w4.H Z p o → OH X.K w4.F (upd w4.H p u) Z p o') → D.nx w3.sg (upd w4.H p u) := fun {u} h => by
    have hni : ∀ c fs, o ≠ .ins c fs := fun c fs z => by
      subst z
      cases k <;> cases eo
    obtain ⟨w5, eH, es, r5, f5, z⟩ := next o' u (.inl hni) h (wp_bind q8)
    have z := z w5 rfl ((fol.s r).trans f5) r5
    rw [eH, es, e5] at z
    exact z
  cases o with
  | lst xs =>
    cases k with
    | int k =>
      have eo : (ixN xs.length k).map (fun j => Ob.lst (xs.set j d)) = some o' := eo
      cases ej : ixN xs.length k with
      | none =>
        rw [ej] at eo
        cases eo
      | some j =>
        rw [ej] at eo
        cases eo
        obtain rfl := oi.int
        obtain ⟨vs, hH, ra⟩ := hO
        exact ⟨_, set_list, p, vs, k, j, rfl, rfl, hH, by rw [← ra.len]; exact ej, fin fun Z _ => ⟨_, upd_same, ra.set j rd⟩⟩
    | _ => cases eo
  | dic es0 =>
    have eo : (if yXj k && decide (es0.length < 16777216) then some (Ob.dic (wGv es0 k d)) else none) = some o' := by
      cases k <;> exact eo
    split at eo
    · rename_i hk
      simp only [Bool.and_eq_true, decide_eq_true_eq] at hk
      cases eo
      obtain ⟨kk, rfl⟩ := xQb hk.1
      obtain rfl := xQc oi
      obtain ⟨kvs, hH, rk⟩ := hO
      have u1 : X.A.units + 1 < cLine := by have := C.rm.un; omega
      exact ⟨_, set_dict u1, p, _, rfl, DPut.k hH (by rw [← rk.len, sizeLine_eq]; exact hk.2), fin fun Z _ => ⟨_, upd_same, rk.put rd kk⟩⟩
    · cases eo
  | ins c fs => cases k <;> cases eo

variable {k : Nat} {x : Str} {ps : List Str}
theorem xQw {g : Fn} (C : Ctx X B) (h : Has X k x [] g) (hr : Room k X.A) (hg : Gl X x) (hdb : (x == ("__debug__" : Str)) = false := by decide) : Snd X B (.Call (.Name x p) [] [] pos) (zQ9 g zQh) := by
  obtain ⟨f, fd, F, hm, hk, hb⟩ := h.ex
  intro w Q r hw
  refine zUx (vQg C F hr hg hm hk hb .nil hdb) ?_
  have hw := wp_bind hw
  exact xQn r rfl .nil (show (zJ1 g [] w.m).wp _ _ from hw)
def WK (X : Cx) (kws : List Keyword) : TA := fun sg H Q => Cl (∀ (pos : Pos) (pins : List (Addr × Obj)) (s : Shared), L2.Inv X pins sg H s → wpAny (model X.prog X.w) X.A (evalAll ((backToKw pos (keywordEach kws X.env)).map (·.2))) (AP X pins sg Q) X.xe s)
theorem vKs {kws : List Keyword} : PK X kws (WK X kws) := ⟨fun pos pins s _ _ _ I h => h.go pos pins s I⟩
theorem wKs {kws : List Keyword} {t : TA} (h : PK X kws t) {sg : L2.St} {H : Hp} {Q : List V → Hp → Prop} (q : t sg H Q) : WK X kws sg H Q := ⟨fun pos pins s I => h.run pos pins s sg H Q I q⟩
def wXq (X : Cx) (B : XBt) (kws : List Keyword) (f : Pg (List AV)) : Prop := ∀ (w : Wd) (Q : List V → Hp → Prop), Rep X.K w → (f w.m).wp (xG0 X.K w Q) (XW X.K B w) → WK X kws w.sg w.H Q
theorem zZj : wXq X B [] zQh := fun w Q r h => wKs pk_nil (h w [] rfl rfl (FolE.refl w) r .nil)
theorem yZz {kws : List Keyword} {f : Pg (List AV)} {α : Type} {g : List AV → Pg α} {P : α → Mem → Prop} {w : Wd} {Q : List V → Hp → Prop} (h : wXq X B kws f) (r : Rep X.K w) (hw : (Pg.bind f g w.m).wp P (XW X.K B w))
    (next : ∀ (v : List AV) (w' : Wd) (xs : List V), w'.sg = w.sg → FolE w w' → Rep X.K w' → Paired (RV X.K w') v xs → (g v w'.m).wp P (XW X.K B w') → Q xs w'.H) : WK X kws w.sg w.H Q := by
  refine h w Q r ((wp_bind hw).imp (fun v m' q w' x e1 e2 f r' re => ?_) fun _ _ q => q)
  subst e1
  exact next v w' x e2 f r' re (q.imp (fun _ _ z => z) fun _ _ z => z.fol (f.s r))
theorem zQx {nm : Option Str} {kpos : Pos} {kws : List Keyword} {g : Pg (List AV)} (h1 : Snd X B e f) (h2 : wXq X B kws g) : wXq X B (⟨nm, e, kpos⟩ :: kws) (zQb f g) := by
  intro w Q r h
  refine wKs (pk_cons zHk vKs) ?_
  refine zQ0 h1 r h fun v w1 x e1 f1 r1 re h' => ?_
  obtain ⟨a, w2, ea, e2, e3, f2, r2, rv⟩ := zUy r1 re
  have h'' := wp_bind h'
  rw [ea] at h''
  rw [← e1, ← e2, ← e3]
  have h3 : (Pg.bind g (fun r => Pg.ret (a :: r)) w2.m).wp (xG0 X.K w Q) (XW X.K B w2) := Res.wp.imp h'' (fun _ _ q => q) fun _ _ q => q.fol (f2.s r1)
  refine yZz h2 r2 h3 fun vs w3 xs e4 f3 r3 rvs q => ?_
  exact q w3 (x :: xs) rfl (e4.trans (e2.trans e1)) (f1.trans (f2.trans f3)) r3 (.cons (rv.fol f3) rvs)
theorem zZq {α β : Type} {P : α → β → Prop} : ∀ {as : List α} {xs : List β} {bs : List α} {ys : List β}, Paired P as xs → Paired P bs ys → Paired P (as ++ bs) (xs ++ ys)
  | _, _, _, _, .nil, h => h
  | _, _, _, _, .cons h t, g => .cons h (zZq t g)
theorem paired_get {α β : Type} {P : α → β → Prop} : ∀ {as : List α} {xs : List β} (i : Nat), Paired P as xs → (as[i]? = none ∧ xs[i]? = none) ∨ ∃ a x, as[i]? = some a ∧ xs[i]? = some x ∧ P a x
  | _, _, _, .nil => .inl ⟨rfl, rfl⟩
  | _, _, 0, .cons h _ => .inr ⟨_, _, rfl, rfl, h⟩
  | _, _, i + 1, .cons _ t => by
    rcases paired_get i t with h | ⟨a, x, h1, h2, h3⟩
    · exact .inl (by simpa using h)
    · exact .inr ⟨a, x, by simpa using h1, by simpa using h2, h3⟩
def pick {α : Type} (is : List Nat) (l : List α) : List α := is.filterMap fun i => l[i]?
theorem zVq {α β : Type} {P : α → β → Prop} {as : List α} {xs : List β} (h : Paired P as xs) : ∀ is : List Nat, Paired P (pick is as) (pick is xs)
  | [] => .nil
  | i :: is => by
    unfold pick
    rcases paired_get i h with ⟨h1, h2⟩ | ⟨a, x, h1, h2, h3⟩
    · rw [List.filterMap_cons_none h1, List.filterMap_cons_none h2]
      exact zVq h is
    · rw [List.filterMap_cons_some h1, List.filterMap_cons_some h2]
      exact .cons h3 (zVq h is)
theorem wK3 {f : Addr} {fd : FuncData} {sp : Sp} {pins : List (Addr × Obj)} {sg : L2.St} {H : Hp} {s : Shared} {Q : VK} {us : List Value} {args : Args} {vs : List V} (C : Ctx X B) (F : FnG X.prog X.w X.K X.mg X.base k f fd ps sp) (hr : Room k X.A) (hb : BindsTo s fd args (ps.zip us))
    (I : L2.Inv X pins sg H s) (rv : Vals vs us) (h : sp vs H Q fun cls d H' => WXB X.K B cls d sg H') : codeAny (model X.prog X.w) X.A (.call (.ref f) args) (wants (EP X pins sg Q) X.xe) s := by
  refine codeAny_mono (F.go X.A X.stack s H args us vs Q _ C.gd hr I.env0 hb rv h) fun r s' hq => ?_
  match r, hq with
  | .error _, hq => exact xZe C I hq
  | .ok (.ret u), hq => exact I.after hq
  | .ok .next, hq => exact (show False from hq).elim
  | .ok .brk, hq => exact (show False from hq).elim
  | .ok .cont, hq => exact (show False from hq).elim
theorem zZ9 : ∀ {vs : List V} {us : List Value}, Vals vs us → Paired RelV vs us
  | _, _, .nil => .nil
  | _, _, .cons h t => .cons h (zZ9 t)
theorem zHb : ∀ {vs : List V} {us : List Value}, Paired RelV vs us → Vals vs us
  | _, _, .nil => .nil
  | _, _, .cons h t => .cons h (zHb t)
end
end Ev

namespace Ev
open PySem PySem.Spec PyProof.Rows L2

section
variable {X : Cx} {B : XBt} {a b c e : Expr} {es : List Expr} {fa fb fc f : Pg EV} {pos p : Pos}
def strOk (i : Int) : Bool := decide (i.natAbs.log2 < 1920)
theorem zZw {i : Nat} : ∀ d m x m', zXf i d m ≠ .thr x m' := fun _ _ _ _ h => by cases h
theorem yY3 : ∀ d m x m', yKk d m ≠ .thr x m' := fun d m x m' h => by cases d <;> cases h
theorem zVz {g : PyData → Pg Unit} {h : List PyData → Pg Unit} (h1 : ∀ d m x m', g d m ≠ .thr x m') (h2 : ∀ d m x m', h d m ≠ .thr x m') : ∀ d m x m', zKh g h d m ≠ .thr x m' := fun d m x m' z => by
  cases d with
  | nil => cases z
  | cons d ds =>
    have z : Pg.bind (g d) (fun _ => h ds) m = .thr x m' := z
    unfold Pg.bind at z
    cases e : g d m with
    | ok u m1 =>
      rw [e] at z
      exact h2 _ _ _ _ z
    | thr x1 m1 => exact h1 _ _ _ _ e
    | bad =>
      rw [e] at z
      cases z
theorem xZp {n : Nat} {g : List PyData → Pg Unit} (h : ∀ d m x m', g d m ≠ .thr x m') : ∀ d m x m', yZt n g d m ≠ .thr x m' := fun d m x m' z => by
  cases d with
  | tuple ds =>
    have z : (if ds.length = n then g ds else .stuck) m = .thr x m' := z
    split at z
    · exact h _ _ _ _ z
    · cases z
  | list ds =>
    have z : (if ds.length = n then g ds else .stuck) m = .thr x m' := z
    split at z
    · exact h _ _ _ _ z
    · cases z
  | _ => cases z
end
end Ev

namespace Ev
open PySem PySem.Spec PyProof.Rows L2

def yJ6 (ns : List Int) : PyData := .list (ns.map PyData.int)
def vKb (K : PySem.W.Frag) (h : Heap) : Prop := ∀ x ∈ zGp, ∀ c P, PySem.W.tabIn K x = some (c, P) → PySem.W.CodeHd h c P ∧ h.get? P = some (PySem.W.tabObj #[]) ∧ K.lookup P = none
def xGq (K : PySem.W.Frag) : Bool := zGp.all fun x => match PySem.W.tabIn K x with
  | none => true
  | some p => zGp.all fun y => x == y || match PySem.W.tabIn K y with
    | none => true
    | some q => p.2 != q.2
structure TabG (K : PySem.W.Frag) (mg : Str → Option Value) (base : Heap) : Prop where
  b : ∀ x ∈ zGp, ∀ c P, PySem.W.tabIn K x = some (c, P) → LamX.TabB base mg c P
  ap : xGq K = true
def tabAt (K : PySem.W.Frag) (b : Addr) : Prop := b ∈ (xWw K).map Prod.fst
instance {K : PySem.W.Frag} {b : Addr} : Decidable (tabAt K b) := inferInstanceAs (Decidable (_ ∈ _))
theorem wXy {K : PySem.W.Frag} {p : Addr × Str} (h : p ∈ xWw K) : ∃ x, x ∈ zGp ∧ p.2 = vJs x ∧ ∃ c, PySem.W.tabIn K x = some (c, p.1) := by
  obtain ⟨x, hx, q⟩ := List.mem_filterMap.mp h
  cases e : PySem.W.tabIn K x with
  | none => rw [e] at q; cases q
  | some r =>
    rw [e] at q
    cases q
    exact ⟨x, hx, rfl, r.1, e⟩
theorem xJ0 {K : PySem.W.Frag} {b : Addr} (h : tabAt K b) : ∃ x, x ∈ zGp ∧ ∃ c, PySem.W.tabIn K x = some (c, b) := by
  obtain ⟨p, hp, e⟩ := List.mem_map.mp h
  obtain ⟨x, hx, _, c, ec⟩ := wXy hp
  exact ⟨x, hx, c, e ▸ ec⟩
def wY0 (K : PySem.W.Frag) (a : Addr) (H : Hp) : Prop := ∀ b, H b = none ∨ (tabAt K b ∧ H b = some (.tbl #[])) ∨ (b = a ∧ ∃ ob xs, H b = some (.frz ob (.lst xs)))
theorem xKp {K : PySem.W.Frag} {H : Hp} (h : ∀ b, tabAt K b → H b = some (.tbl #[])) : LamX.Tabs (xWw K) H := fun p hp => LamX.TabS.nil (h _ (List.mem_map.mpr ⟨p, hp, rfl⟩))
theorem xUm {P : Program} {w : World} {K : PySem.W.Frag} {mg mb : Str → Option Value} {k : Nat} {fa a : Addr} {fd : FuncData} {x : Str} {g : Fn} {s₁ : Shared} {vs : List Value} {ns : List Int}
    (KX : K.In s₁.heap) (hns : s₁.heap.Ns mainGlobals mg) (hb : s₁.heap.Ns builtinsNs mb) (hbb : ∀ x : Str, x ≠ "__name__" → mb x = bootBuiltins x) (hlim : s₁.heap.NoLimit) (hsm : ∃ mm, s₁.heap.Ns sysModules mm) (hg : s₁.gens = #[])
    (tf : vKb K s₁.heap) (hap : xGq K = true) (hbm : ∃ (bm : Addr) (ob : Obj), mg "__builtins__" = some (.ref bm) ∧ bm ≠ builtinsNs ∧ s₁.heap.get? bm = some ob ∧ ob.cls = .type "module" ∧ ob.dict = some builtinsNs ∧ ob.data = .plain)
    (ha : s₁.heap.get? a = some { cls := .type "list", data := .seq vs.toArray }) (hi : IntsAre vs ns) (hl : ns.length ≤ sizeLine) (hr : Room k callerA)
    (F : ∀ base : Heap, K.In base → base.Ns mainGlobals mg → SM base → TabG K mg base → FnG P w K mg base k fa fd [x] (spG K 1 g)) (hbind : ∀ (s : Shared) (u : Value), BindsTo s fd ⟨[u], []⟩ [(x, u)])
    (law : ∃ m, g [.d (yJ6 ns)] ⟨[], []⟩ = .ok (.d (.bool true)) m) :
    codeAny (model P w) callerA (.call (.ref fa) ⟨[.ref a], []⟩) (fun r s' => r = .ok (.ret (.bool true)) ∧ OldK s₁.heap s'.heap ∧ s'.os = s₁.os ∧ AllBare s'.gens) s₁ := by
  have rv := vals_ints hi
  have lenV := hi.length
  have isTab : ∀ b, tabAt K b → s₁.heap.get? b = some (PySem.W.tabObj #[]) ∧ K.lookup b = none := fun b h => by
    obtain ⟨x, hx, c, e⟩ := xJ0 h
    exact (tf x hx c b e).2
  have notA : ¬ tabAt K a := fun h => by
    have q := (isTab a h).1
    rw [ha] at q
    injection q with q
    injection q with _ _ q
    cases q
  have core : ∀ H : Hp, wY0 K a H → (∀ b, tabAt K b → H b = some (.tbl #[])) → LQ K H a (ns.map V.int) → HOk P w H s₁.heap → (H a ≠ none → K.lookup a = none) →
      codeAny (model P w) callerA (.call (.ref fa) ⟨[.ref a], []⟩) (fun r s' => r = .ok (.ret (.bool true)) ∧ OldK s₁.heap s'.heap ∧ s'.os = s₁.os ∧ AllBare s'.gens) s₁ := by
    intro H hO hT hS hok hK
    have hid : ∀ {b : Addr} {o : Obj}, s₁.heap.get? b = some o → H b = none → (hidT s₁.heap H).get? b = some o := fun e n => hidT_get e n
    -- neither a list nor an empty table: nothing is told of it
    have free : ∀ {b : Addr} {o : Obj}, s₁.heap.get? b = some o → (∀ ws n, o.data ≠ .seq ws n) → o.data ≠ .fields #[] → H b = none := fun {b o} e h1 h2 => by
      rcases hO b with q | ⟨q, _⟩ | ⟨q, _⟩
      · exact q
      · rw [(isTab b q).1] at e
        cases e
        exact absurd rfl h2
      · rw [q, ha] at e
        cases e
        exact absurd rfl (h1 _ _)
    have noD : ∀ {b : Addr} {o : Obj} {es : Array DictEntry} {ep : Nat}, s₁.heap.get? b = some o → o.data = .dict es ep → H b = none := fun {b o es ep} e d =>
      free e (fun ws n z => by rw [d] at z; cases z) fun z => by rw [d] at z; cases z
    have nsK : ∀ {b : Addr} {m : Str → Option Value}, s₁.heap.Ns b m → (hidT s₁.heap H).Ns b m := fun {b m} ⟨o, es, ep, e, d, r⟩ => ⟨o, es, ep, hid e (noD e d), d, r⟩
    have hKb : K.In (hidT s₁.heap H) := fun b o e => hid (KX b o e) (by
      rcases hO b with q | ⟨q, _⟩ | ⟨q, ob, xs, z⟩
      · exact q
      · rw [(isTab b q).2] at e
        cases e
      · rw [q] at e z
        rw [hK (by rw [z]; simp)] at e
        cases e)
    have hM : Mod K mg (hidT s₁.heap H) := ⟨hKb, nsK hns, ⟨mb, nsK hb, hbb⟩, let ⟨mc, h1, h2⟩ := hlim; ⟨mc, nsK h1, h2⟩⟩
    have hTG : TabG K mg (hidT s₁.heap H) := TabG.mk (fun x hx c Q e => by
      obtain ⟨cd, tq, _⟩ := tf x hx c Q e
      have gQ : mainGlobals ≠ Q := fun z => by
        obtain ⟨o, es, ep, e1, d, _⟩ := hns
        rw [z, tq] at e1
        cases e1
        cases d
      refine ⟨?_, ?_, gQ⟩
      · obtain ⟨o, us, fi, tfi, fl, tg, fr, tx, tt, e1, k1, k2, k3, rest⟩ := cd
        refine ⟨o, us, fi, tfi, fl, tg, fr, tx, tt, hid e1 (free e1 (fun ws n z => by rw [k2] at z; cases z) fun z => ?_), k1, k2, k3, rest⟩
        rw [k2] at z
        injection z with z
        rw [z] at k3
        simp at k3
      · obtain ⟨bm, ob, b1, b2, b3, b4, b5, b6⟩ := hbm
        refine ⟨bm, ob, b1, b2, fun z => ?_, fun z => ?_, hid b3 (free b3 (fun ws n z => by rw [b6] at z; cases z) fun z => by rw [b6] at z; cases z), b4, b5, b6⟩
        · obtain ⟨o, es, ep, e1, d, _⟩ := hns
          rw [z, e1] at b3
          cases b3
          rw [d] at b6
          cases b6
        · rw [z, tq] at b3
          cases b3
          cases b6) hap
    have e0 : Env0 P w K mg (hidT s₁.heap H) callerA [] s₁ H := ⟨rfl, hM, fun b o e => of_hidT e, Nat.le_of_eq (hidT_size _ _), trivial, fun b hb => absurd (show b ∈ ([] : List Addr) from hb) (by simp), hok, .of_eq hg⟩
    have sp : spG K 1 g [.ref a] H (fun v _ => v = .bl true) fun _ _ _ => False := by
      obtain ⟨m, e⟩ := law
      have frz0 : ∀ b u, H b = some u → (∃ ob xs, u = .frz ob xs) ∨ u = .tbl #[] := fun b u z => by
        rcases hO b with q | ⟨_, q⟩ | ⟨_, ob, xs, q⟩
        · rw [q] at z; cases z
        · rw [q] at z; cases z; exact .inr rfl
        · rw [q] at z; cases z; exact .inl ⟨_, _, rfl⟩
      -- what is frozen from the start: all but the table
      let F0 : Hp := fun b => if tabAt K b then none else H b
      have fs : Same F0 H := fun b u z => by
        have z : (if tabAt K b then none else H b) = some u := z
        split at z
        · cases z
        · exact z
      have hS0 : LQ K F0 a (ns.map V.int) := by
        have e : F0 a = H a := if_neg notA
        rcases hS with (z | z) | z
        · exact .inl (.inl (e.trans z))
        · obtain ⟨ob, z⟩ := z
          exact .inl (.inr ⟨ob, e.trans z⟩)
        · exact .inr z
      refine ⟨{ F := F0, ro := [], m := ⟨[], []⟩, sg := [], H := H, Z := fun b => H b ≠ none, T := T0 }, [.d (yJ6 ns)], rfl, rfl, rfl, fun _ h => h, ⟨xof fs, Nat.le_refl _, fun i v h => by simp at h, fun n xs h => by simp at h, rfl, fun n b h => by simp at h, fun n b z => ?_, List.nodup_nil, fun i j xs ys x h => by simp at h, fun _ h => h, fun d c z => ?_, ⟨⟨trivial, xKp hT⟩, fun b ps z => ?_, fun b ps z => ?_⟩⟩, .cons (R.lst hS0 (RA.ints ns)) .nil, rfl, ?_⟩
      · rcases frz0 b _ (fs _ _ z) with ⟨_, _, q⟩ | q <;> cases q
      · rcases frz0 d _ z with ⟨_, _, q⟩ | q <;> cases q
      · have z : (if tabAt K b then none else H b) = some (HO.tbl ps) := z
        split at z
        · cases z
        · rename_i nt
          rcases hO b with q | ⟨q, _⟩ | ⟨_, ob, xs, q⟩
          · rw [q] at z; cases z
          · exact nt q
          · rw [q] at z; cases z
      · rcases hO b with q | ⟨q, _⟩ | ⟨_, ob, xs, q⟩
        · have z : H b = some (HO.tbl ps) := z
          rw [q] at z; cases z
        · obtain ⟨p, hp, e⟩ := List.mem_map.mp q
          exact ⟨p.2, e ▸ hp⟩
        · have z : H b = some (HO.tbl ps) := z
          rw [q] at z; cases z
      show (g [.d (yJ6 ns)] ⟨[], []⟩).wp _ _
      rw [e]
      intro w' y _ _ _ _ _ re
      cases re
      rfl
    have hsb : SM (hidT s₁.heap H) := by
      obtain ⟨mm, q⟩ := hsm
      obtain ⟨o, es, ep, e1, e2, _⟩ := nsK q
      exact ⟨o, es, ep, e1, e2⟩
    refine codeAny_mono ((F _ hKb (nsK hns) hsb hTG).go callerA [] s₁ H ⟨[.ref a], []⟩ [.ref a] [.ref a] _ _ rfl hr e0 (hbind s₁ (.ref a)) (.cons rfl .nil) sp) fun r s' h => ?_
    match r, h with
    | .error e, h =>
      obtain ⟨_, _, _, _, _, _, _, _, _, _, _, _, z⟩ := h
      exact z.elim
    | .ok .next, h => exact (show False from h).elim
    | .ok .brk, h => exact (show False from h).elim
    | .ok .cont, h => exact (show False from h).elim
    | .ok (.ret u), h =>
      obtain ⟨v, H', os, bare, un, hok', r', q⟩ := h
      have q' : v = .bl true := q
      subst q'
      obtain rfl : u = Value.bool true := r'
      have kept : ∀ b o, ¬ tabAt K b → s₁.heap.get? b = some o → s'.heap.get? b = some o := fun b o nt e => by
        rcases hO b with q | ⟨q, _⟩ | ⟨_, ob, xs, z⟩
        · exact un.keep b o e q (by intro z; exact absurd (show b ∈ ([] : List Addr) from z) (by simp)) (by simp)
        · exact absurd q nt
        · have z2 := un.frzs b ob _ z
          obtain ⟨e1, _⟩ := hok b _ z
          obtain ⟨e2, _⟩ := hok' b _ z2
          rw [e] at e1; cases e1
          exact e2
      have more : ∀ b, tabAt K b → ∃ ps : Array Value, s'.heap.get? b = some (PySem.W.tabObj ps) := fun b h => by
        obtain ⟨ps, z⟩ := un.tbls b #[] (hT b h)
        exact ⟨_, hok' b _ z⟩
      refine ⟨rfl, ⟨fun b o e => ?_, fun b o e => ?_⟩, os, bare⟩
      · by_cases ht : tabAt K b
        · obtain ⟨ps, z⟩ := more b ht
          obtain ⟨x, hx, c, ec⟩ := xJ0 ht
          obtain ⟨cd, tq, _⟩ := tf x hx c b ec
          rw [tq] at e
          cases e
          exact .inr (.inl ⟨(cd.tab tq).isCodeTable, rfl, #[], ps, rfl, by rw [Array.empty_append]; exact z⟩)
        · exact .inl (kept b o ht e)
      · by_cases ht : tabAt K b
        · obtain ⟨ps, z⟩ := more b ht
          exact ⟨_, z⟩
        · exact ⟨o, kept b o ht e⟩
  cases hk : K.lookup a with
  | some o =>
    have e := KX a o hk
    rw [ha] at e
    cases e
    refine core (fun b => if tabAt K b then some (.tbl #[]) else none) (fun b => ?_) (fun b h => if_pos h) (.inr ⟨vs, _, hk, by rw [lenV]; exact hl, rv⟩) (fun b u z => ?_) fun z => absurd (if_neg notA) z
    · by_cases ht : tabAt K b
      · exact .inr (.inl ⟨ht, if_pos ht⟩)
      · exact .inl (if_neg ht)
    · by_cases ht : tabAt K b
      · have z' := (if_pos ht).symm.trans z
        cases z'
        exact (isTab b ht).1
      · have z' := (if_neg ht).symm.trans z
        cases z'
  | none =>
    refine core (fun b => if b = a then some (.frz { cls := .type "list", data := .seq vs.toArray } (.lst (ns.map V.int))) else if tabAt K b then some (.tbl #[]) else none) (fun b => ?_) (fun b h => (if_neg (fun z : b = a => notA (z ▸ h))).trans (if_pos h)) (.inl (.inr ⟨{ cls := .type "list", data := .seq vs.toArray }, if_pos rfl⟩)) (fun b u z => ?_) fun _ => hk
    · by_cases hb : b = a
      · exact .inr (.inr ⟨hb, _, _, if_pos hb⟩)
      · by_cases ht : tabAt K b
        · exact .inr (.inl ⟨ht, (if_neg hb).trans (if_pos ht)⟩)
        · exact .inl ((if_neg hb).trans (if_neg ht))
    · by_cases hb : b = a
      · have z' := (if_pos hb).symm.trans z
        cases z'
        subst hb
        exact ⟨ha, by rw [List.length_map]; exact hl, vs, _, rv, ha⟩
      · have z1 := (if_neg hb).symm.trans z
        by_cases ht : tabAt K b
        · have z' := (if_pos ht).symm.trans z1
          cases z'
          exact (isTab b ht).1
        · have z' := (if_neg ht).symm.trans z1
          cases z'
def vXq (n : Nat) (g : Fn) : Prop := ∀ ns : List Int, ns.length ≤ n → (∀ z ∈ ns, Builtin.Int.intBits z ≤ 1048576) → ∃ m, g [.d (yJ6 ns)] ⟨[], []⟩ = .ok (.d (.bool true)) m
def wZj (K : PySem.W.Frag) : Bool := xGq K && zGp.all fun x => match PySem.W.tabIn K x with
  | some p => (K.lookup p.2).isNone
  | none => true
def wWw (q : Program) (K : PySem.W.Frag) : Bool := zGp.all fun x => (PySem.W.tabIn K x).isNone || ((recsOf q).find? fun e : DefRec => e.name == x).isSome
theorem wKu {l : PySem.W.OpenLaw} {n k : Nat} {q : Program} {loose : List Str} {XP : (Str → Option Value) → Heap → Prop} {YP : World → Heap → Prop} {d : DefRec} {K : Params → PySem.W.Frag} {x : Str} {g : Fn}
    (hi : importsNone q = true) (hn : l.most = some n) (hn2 : n ≤ sizeLine) (hdf : d.params.defaults = []) (hr : Room k callerA)
    (hY : ∀ (w : World) (h : Heap), YP w h → (K w.params).In h)
    (hd' : ∀ w : World, wWw q (K w.params) = true) (hto : ∀ w : World, wZj (K w.params) = true)
    (F : ∀ (w : World) (mg : Str → Option Value) (fa : Addr) (h : Heap), (K w.params).In h → h.Ns mainGlobals mg → mg d.name = some (.ref fa) →
      ∃ fd : FuncData, (∀ (s : Shared) (u : Value), BindsTo s fd ⟨[u], []⟩ [(x, u)]) ∧
        ∀ base : Heap, (K w.params).In base → base.Ns mainGlobals mg → SM base → TabG (K w.params) mg base → FnG l.prog w (K w.params) mg base k fa fd [x] (spG (K w.params) 1 g))
    (law : vXq n g) : PySem.W.WalkO q loose XP YP l.row.toRowW d [] (fun f vs => PySem.call f vs) := by
  refine Att.attach_callB hn hdf fun w s₀ s₁ mg mb fa o pm cd doc a vs ns G Y ho hd hcd hmg hobj hints hlen hbits hg => ?_
  have KX := hY w _ Y
  obtain ⟨fd, hb, hF⟩ := F w mg fa _ KX G.T.g hmg
  have o := hto w
  unfold wZj at o
  obtain ⟨hap, o⟩ := Bool.and_eq_true_iff.mp o
  have tf : vKb (K w.params) s₁.heap := fun x hx c P e => by
    have hl := List.all_eq_true.mp (hd' w) x hx
    rw [e] at hl
    obtain ⟨d', ed⟩ := Option.isSome_iff_exists.mp (by simpa using hl : ((recsOf q).find? fun e : DefRec => e.name == x).isSome = true)
    obtain ⟨h1, h2⟩ := PySem.W.tab_of G.T KX ed e
    refine ⟨h1, h2, ?_⟩
    have o := List.all_eq_true.mp o x hx
    rw [e] at o
    exact Option.isNone_iff_eq_none.mp o
  exact xUm KX G.T.g G.T.b G.T.builtins G.T.nolimit (let ⟨mm, z, _⟩ := (G.T.seer hi).mods; ⟨mm, z⟩) hg tf hap G.T.bmain hobj hints (Nat.le_trans hlen hn2) hr hF hb (law ns hlen hbits)
end Ev

namespace Ev
open PySem PySem.Spec PyProof.Rows L2

def vVb (N : List Str) (sc scope : Scope) (own : List (Str × Nat)) : Bool :=
  decide (scope.kind = .function) && scope.names.all (fun y => decide (scope.names.lookup y.1 = some y.2)) && own.all (fun p => decide (N[p.2]? = some p.1)) &&
    scope.names.all (fun y => decide (y.2 ≠ .free) || decide (sc.names.lookup y.1 = some .cell) || decide (sc.names.lookup y.1 = some .free)) &&
    scope.names.all (fun y => !(decide (y.2 = .local) || decide (y.2 = .cell)) || decide (y.1 ∈ own.map (·.1)) || decide (y.1 ∉ N))
theorem yXs {N : List Str} {sc scope : Scope} {own : List (Str × Nat)} (h : vVb N sc scope own = true) : BlkOk N sc scope own := by
  unfold vVb at h
  simp only [Bool.and_eq_true, List.all_eq_true, decide_eq_true_eq, Bool.or_eq_true, Bool.not_eq_true', Bool.or_eq_false_iff, decide_eq_false_iff_not] at h
  obtain ⟨⟨⟨⟨h1, h2⟩, h3⟩, h4⟩, h5⟩ := h
  refine ⟨h1, h2, h3, fun y hy e => ?_, fun y hy e => ?_⟩
  · rcases h4 y hy with (q | q) | q
    · exact absurd e q
    · exact .inl q
    · exact .inr q
  · rcases h5 y hy with (q | q) | q
    · rcases e with e | e
      · exact absurd e q.1
      · exact absurd e q.2
    · exact .inl q
    · exact .inr q
def GM (K : PySem.W.Frag) (mg : Str → Option Value) (x : Str) (d : PyData) : Prop := ∃ (v : V) (u : Value), mg x = some u ∧ RelV v u ∧ ∀ F : Hp, R K F d v
def FM (K : PySem.W.Frag) (mg : Str → Option Value) (x : Str) (st : Stmt) (ps : List Str) : Prop := ∃ (f : Addr) (fd : FuncData), Fun K x x st f fd ∧ mg x = some (.ref f) ∧ Binds K fd ps []
def yVa (P : Program) (w : World) (K : PySem.W.Frag) (mg : Str → Option Value) (base : Heap) (k : Nat) (x : Str) (ps : List Str) (g : Fn) : Prop :=
  ∃ (f : Addr) (fd : FuncData), FnG P w K mg base k f fd ps (spG K ps.length g) ∧ mg x = some (.ref f) ∧ PySem.W.keepIn K (.ref f) = true ∧ Binds K fd ps []
section
variable {P : Program} {w : World} {K : PySem.W.Frag} {mg : Str → Option Value} {base : Heap}
theorem zXy {x : Str} {st : Stmt} {ps : List Str} {g : Fn} {j k : Nat} (h : FM K mg x st ps) (hk : j ≤ k) (ok : ∀ {f : Addr} {fd : FuncData}, Fun K x x st f fd → FnG P w K mg base j f fd ps (spG K ps.length g)) : yVa P w K mg base k x ps g := by
  obtain ⟨f, fd, F, hm, hb⟩ := h
  exact ⟨f, fd, (ok F).up hk, hm, F.kp, hb⟩
theorem xUv {x s : Str} {n : Nat} (h : mg x = some (.str s n)) : GM K mg x (.str s) := ⟨.str s, _, h, ⟨n, rfl⟩, fun _ => .str s⟩
theorem zK2 {x : Str} {st : Stmt} {ps : List Str} {f : Addr} {oc : Value} {od an : Option Addr} {osl : Array (Option Value)} {kV doc pm cdv ct : Value} (hm : mg x = some (.ref f))
    (l : K.lookup f = some ⟨oc, od, .func (PySem.W.fnOf x x (defArgs st) (defBody st) (defScope st) .none kV doc pm an cdv ct), osl⟩) (c : PySem.W.codeIn K cdv x = true) (k : PySem.W.keepIn K (.ref f) = true)
    (hb : ∀ (kV doc pm : Value) (an : Option Addr) (cdv ct : Value) (us : List Value), us.length = ps.length → bindArgs (PySem.W.fnOf x x (defArgs st) (defBody st) (defScope st) .none kV doc pm an cdv ct) ⟨us, []⟩ = pure (ps.zip us)) : FM K mg x st ps :=
  ⟨f, _, fun_mk l c k, hm, (fun_mk l c k).binds hb⟩
end
end Ev

namespace Ev
open PySem PySem.Spec PyProof.Rows L2

def wUi (i : Nat) : EV → Pg Unit
  | .new o => fun m => .ok () { sl := m.sl.set i (some (.cell m.cs.length)), cs := m.cs ++ [o] }
  | _ => .stuck
def shW (w : Wd) (a : Addr) (o : Ob) : Wd := { w with F := upd w.F a (mkC w.m.cs.length), ro := w.ro ++ [a], m := { w.m with cs := w.m.cs ++ [o] } }
theorem xHs {K : PySem.W.Frag} {w : Wd} (r : Rep K w) {a : Addr} {o : Ob} (h1 : OH K w.F w.H w.Z a o) (h3 : w.F a = none) (h4 : a ∉ w.ro) (h6 : ¬ Own w a) (h5 : ¬ w.Z a) :
    Rep K (shW w a o) ∧ FolS w (shW w a o) := by
  have ro_at : ∀ {n : Nat} {b : Addr}, w.ro[n]? = some b → (w.ro ++ [a])[n]? = some b := fun {n b} q => by
    rw [List.getElem?_append_left (List.getElem?_eq_some_iff.mp q).1]
    exact q
  have sm : Same w.F (upd w.F a (mkC w.m.cs.length)) := fun b u e => by
    rw [upd_ne (ne_of_none e h3)]
    exact e
  have kp : ∀ {b : Addr} {ob : Ob} {Z Z' : Addr → Prop}, OH K w.F w.H Z b ob → (∀ d, Z' d → Z d) → OH K (upd w.F a (mkC w.m.cs.length)) w.H Z' b ob := fun h z => h.keep sm (fun _ z => z) (fun _ z => z) fun d _ q => z d q
  refine ⟨⟨fun b u e hn => ?_, r.le, fun j v h => ?_, fun n ys h => ?_, ?_, fun n b hb => ?_, fun n b e => ?_, ?_, r.ow, r.zl, r.oo, ⟨r.tb.1, fun b ps e => ?_, r.tb.2.2⟩⟩, ⟨rfl, rfl, sm, ⟨[a], rfl⟩, fun b o e _ _ _ => e, fun b hb => ?_, fun b e => e, fun b e => ?_⟩⟩
  · have e : upd w.F a (mkC w.m.cs.length) b = some u := e
    by_cases q : b = a
    · subst q
      rw [upd_same] at e
      exact absurd (Option.some.inj e).symm (hn _)
    · rw [upd_ne q] at e
      exact r.sub b u e hn
  · obtain ⟨y, p1, p2⟩ := r.sl j v h
    refine ⟨y, p1, ?_⟩
    cases v with
    | d z => exact R.mono sm p2
    | ob zs =>
      obtain ⟨b, e, k1, k3, k4, k5⟩ := p2
      have nb : b ≠ a := fun q => by
        subst q
        exact h6 ⟨j, zs, h, by rw [p1, e]⟩
      refine ⟨b, e, kp k1 fun _ z => z, ?_, fun hb => ?_, k5⟩
      · show upd w.F a _ b = none
        rw [upd_ne nb]
        exact k3
      · rcases List.mem_append.mp hb with q | q
        · exact k4 q
        · exact nb (List.mem_singleton.mp q)
    | cell n =>
      obtain ⟨b, e, q⟩ := p2
      exact ⟨b, e, ro_at q⟩
    | thk t => exact ⟨p2.1, xQu p2.2.1 sm ⟨[a], rfl⟩, p2.2.2⟩
  · by_cases hn : n < w.m.cs.length
    · have h : w.m.cs[n]? = some ys := by
        rw [← h]
        exact (List.getElem?_append_left hn).symm
      obtain ⟨b, k1, k2⟩ := r.cs n ys h
      exact ⟨b, ro_at k1, kp k2 fun _ z => z⟩
    · have h : (w.m.cs ++ [o])[n]? = some ys := h
      rw [List.getElem?_append_right (by omega)] at h
      have hz : n - w.m.cs.length = 0 := by
        have := (List.getElem?_eq_some_iff.mp h).1
        simp only [List.length_singleton] at this
        omega
      rw [hz] at h
      cases h
      refine ⟨a, ?_, kp h1.any fun _ z => z⟩
      show (w.ro ++ [a])[n]? = some a
      rw [List.getElem?_append_right (by rw [← r.ln]; omega), ← r.ln, hz]
      rfl
  · show (w.m.cs ++ [o]).length = (w.ro ++ [a]).length
    rw [List.length_append, List.length_append, r.ln]
    rfl
  · have hb : (w.ro ++ [a])[n]? = some b := hb
    show upd w.F a _ b = _ ∨ upd w.F a _ b = none ∧ _
    by_cases hn : n < w.ro.length
    · rw [List.getElem?_append_left hn] at hb
      have nb : b ≠ a := fun z => h4 (z ▸ List.mem_of_getElem? hb)
      rw [upd_ne nb]
      rcases r.rf n b hb with q | ⟨q, c, fs, z⟩
      · exact .inl q
      · exact .inr ⟨q, c, fs, by
          show (w.m.cs ++ [o])[n]? = _
          rw [List.getElem?_append_left (by rw [r.ln]; exact hn)]
          exact z⟩
    · rw [List.getElem?_append_right (by omega)] at hb
      have hz : n - w.ro.length = 0 := by
        have := (List.getElem?_eq_some_iff.mp hb).1
        simp only [List.length_singleton] at this
        omega
      rw [hz] at hb
      cases hb
      rw [upd_same]
      have : n = w.m.cs.length := by rw [r.ln]; omega
      rw [this]
      exact .inl rfl
  · have e : upd w.F a (mkC w.m.cs.length) b = some (mkC n) := e
    show (w.ro ++ [a])[n]? = some b
    by_cases q : b = a
    · subst q
      rw [upd_same] at e
      have := wVa (Option.some.inj e)
      rw [← this, List.getElem?_append_right (by rw [r.ln]; exact Nat.le_refl _), r.ln, Nat.sub_self]
      rfl
    · rw [upd_ne q] at e
      exact ro_at (r.rk n b e)
  · show (w.ro ++ [a]).Nodup
    rw [List.nodup_append]
    refine ⟨r.nd, by simp, fun b hb c hc => ?_⟩
    rw [List.mem_singleton.mp hc]
    exact fun z => h4 (z ▸ hb)
  · have e : upd w.F a (mkC w.m.cs.length) b = some (.tbl ps) := e
    by_cases q : b = a
    · subst q
      rw [upd_same] at e
      cases e
    · rw [upd_ne q] at e
      exact r.tb.2.1 b ps e
  · rcases List.mem_append.mp hb with q | q
    · exact .inl q
    · rw [List.mem_singleton.mp q]
      exact .inr h5
  · have e : upd w.F a (mkC w.m.cs.length) b ≠ none := e
    by_cases q : b = a
    · rw [q]
      exact .inr h5
    · rw [upd_ne q] at e
      exact .inl e
theorem wJ1 {K : PySem.W.Frag} {w : Wd} (r : Rep K w) {v : EV} {x : V} (h : RE K w v x) {i : Nat} {P : Unit → Mem → Prop} {E : Exn → Mem → Prop} (hw : (wUi i v w.m).wp P E) : ∃ w' : Wd, w'.sg = w.sg.set i (some x) ∧ w'.H = w.H ∧ FolS w w' ∧ Rep K w' ∧ P () w'.m := by
  cases v with
  | d y => exact hw.elim
  | pk j xs => exact hw.elim
  | cell n => exact hw.elim
  | new o =>
    obtain ⟨a, e, h1, h3, h4, h5, h6⟩ := h
    subst e
    obtain ⟨r1, f1⟩ := xHs r h1 h3 h4 h6 h5
    obtain ⟨r2, f2⟩ := yGl (i := i) (v := .cell w.m.cs.length) (x := .ref a) r1 ⟨a, rfl, by
      show (w.ro ++ [a])[w.m.cs.length]? = some a
      rw [r.ln, List.getElem?_append_right (Nat.le_refl _), Nat.sub_self]
      rfl⟩ (fun ys b e => by cases e)
    exact ⟨yHh (shW w a o) i (.cell w.m.cs.length) (.ref a), rfl, rfl, f1.trans f2, r2, hw⟩
section
open HT
section
variable {prog : Program} {w : World} {A : Around} {E : Value → Shared → Prop} {s : Shared}
end
end
section
variable {X : Cx} {B : XBt} {e c : Expr} {es : List Expr} {pos p : Pos} {f fa : Pg EV}
def xV7 (i : Nat) (f : Pg EV) : Pg Fl := .bind f fun v => .bind (wUi i v) fun _ => .ret .next
theorem xHq {x : Str} {pos' : Pos} (i : Nat) (C : Ctx X B) (hi : X.N[i]? = some x) (hx : Loc X.env.scope x) (he : Snd X B e f) (hs : swapsWith e (some (.Name x pos')) pos.line X.env = pure false := by rfl)
    (hf : X.fn x = true ∨ X.env.scope.names.lookup x = some .local := by first | exact .inl rfl | exact .inr rfl | assumption) : xXi X B (.Assign [.Name x pos'] e pos) (xV7 i f) := by
  intro w D r hw
  refine yJz (ps_set C.nd hi hx zHk hs hf) ?_
  refine zQ0 he r hw fun v w1 y e1 f1 r1 re h1 => ?_
  obtain ⟨w2, s2, h2, f2, r2, q⟩ := wJ1 r1 re (wp_bind h1)
  have q := q w2 rfl ((f1.s r).trans f2) r2
  rw [s2, h2, e1] at q
  exact q
end
end Ev
namespace Ev
open PySem PySem.Spec PyProof.Rows L2
section
variable {P : Program} {w : World} {K : PySem.W.Frag} {mg : Str → Option Value} {base : Heap}
theorem zXk {x qual : Str} {st : Stmt} {f : Addr} {fd : FuncData} {N ps : List Str} {k n m : Nat} {fb : Pg Fl} (F : Fun K x qual st f fd) (S : FnScope N ps (defScope st)) (sm : SM base) (hn : N.length = n) (hm : ps.length = m)
    (hbody : ∀ (cdv : Value) (A : Around) (outer : List Env) (s : Shared) (H : Hp) (E : XK) (B : XBt), Ctx (cxOf (L2.CX P w) P w K mg base N qual (defScope st) f cdv A outer s H E) B → PassesOwn (model P w) (cxOf (L2.CX P w) P w K mg base N qual (defScope st) f cdv A outer s H E).A (cxOf (L2.CX P w) P w K mg base N qual (defScope st) f cdv A outer s H E).env (cxOf (L2.CX P w) P w K mg base N qual (defScope st) f cdv A outer s H E).xe →
      Room k (cxOf (L2.CX P w) P w K mg base N qual (defScope st) f cdv A outer s H E).A →
      xGz (cxOf (L2.CX P w) P w K mg base N qual (defScope st) f cdv A outer s H E) B (defBody st) fb) : FnG P w K mg base (k + 1) f fd ps (spG K m (zQ2 n fb)) := by
  subst hn hm
  exact vQz F S sm hbody
end
end Ev
namespace Ev
open PySem PySem.Spec PyProof.Rows L2
theorem zZh {c k p} : PlainIx (.Constant c k p) := fun _ _ => rfl
theorem xYs {x p} : PlainIx (.Name x p) := fun _ _ => rfl
theorem wWd {a o b p} : PlainIx (.BinOp a o b p) := fun _ _ => rfl
theorem yYu {f a k p} : PlainIx (.Call f a k p) := fun _ _ => rfl
end Ev

namespace Ev
open PySem PySem.Spec PyProof.Rows L2

structure W {α : Type} (p : Pg α) (m : Mem) (X : Exn → Mem → Prop) (Q : α → Mem → Prop) : Prop where
  go : (p m).wp Q X
abbrev noX : Exn → Mem → Prop := fun _ _ => False
theorem yQv {α : Type} {p : Pg α} {m : Mem} {X : Exn → Mem → Prop} {Q : α → Mem → Prop} : W p m X Q ↔ (p m).wp Q X := ⟨fun h => h.go, fun h => ⟨h⟩⟩
section
variable {α β : Type} {m : Mem} {X : Exn → Mem → Prop} {P Q : α → Mem → Prop} {R : β → Mem → Prop} {E : EV → Mem → Prop} {F : Fl → Mem → Prop} {T : Bool → Mem → Prop}
theorem W.mono {p : Pg α} (h : W p m X P) (i : ∀ a m, P a m → Q a m) : W p m X Q := ⟨Res.wp.imp h.go i fun _ _ z => z⟩
theorem W.no {p : Pg α} (h : W p m noX Q) : W p m X Q := ⟨Res.wp.imp h.go (fun _ _ z => z) fun _ _ z => z.elim⟩
theorem vXc {p : Pg α} {a : α} {m' : Mem} (e : p m = .ok a m') : W p m X Q ↔ Q a m' := by
  rw [yQv, e]
  exact Iff.rfl
theorem vY8 {p : Pg α} {a : α} {m' : Mem} (e : p m = .ok a m') (h : Q a m') : W p m X Q := (vXc e).mpr h
@[simp] theorem zQ8 {f : Pg α} {g : α → Pg β} : W (Pg.bind f g) m X R ↔ W f m X fun a m' => W (g a) m' X R := by
  rw [yQv, yQv]
  unfold Pg.bind
  cases f m with
  | ok a m' => exact (yQv (p := g a)).symm
  | thr x m' => exact Iff.rfl
  | bad => exact Iff.rfl
@[simp] theorem xQp {f : Pg α} : W (yW1 f) m X Q ↔ W f m noX Q := by
  rw [yQv, yQv]
  unfold yW1
  cases f m <;> exact Iff.rfl
@[simp] theorem yXu {a : α} : W (Pg.ret a) m X Q ↔ Q a m := ⟨fun h => h.go, fun h => ⟨h⟩⟩
@[simp] theorem xGt : W (Pg.stuck : Pg α) m X Q ↔ False := ⟨fun h => h.go, fun h => ⟨h⟩⟩
@[simp] theorem yUy {o : Option α} : W (zKz o) m X Q ↔ ∃ a, o = some a ∧ Q a m := by
  cases o with
  | none => exact ⟨fun h => h.go.elim, fun ⟨_, e, _⟩ => by cases e⟩
  | some a => exact ⟨fun h => ⟨a, rfl, h.go⟩, fun ⟨_, e, h⟩ => by cases e; exact ⟨h⟩⟩
@[simp high] theorem vVs {a : α} : W (zKz (some a)) m X Q ↔ Q a m := ⟨fun h => h.go, fun h => ⟨h⟩⟩
@[simp] theorem vJ2 {c : Prop} [Decidable c] {x : α} {P : α → Prop} : (∃ a, (if c then some x else none) = some a ∧ P a) ↔ c ∧ P x := by
  by_cases h : c
  · simp [h]
  · simp [h]
@[simp] theorem vJ3 {c : Prop} {x : α} {P : α → Prop} : (∃ a, (c ∧ x = a) ∧ P a) ↔ c ∧ P x :=
  ⟨fun ⟨_, ⟨h, e⟩, q⟩ => ⟨h, e ▸ q⟩, fun ⟨h, q⟩ => ⟨x, ⟨h, rfl⟩, q⟩⟩
@[simp] theorem wV3 {c : Prop} [Decidable c] {p q : Pg α} : W (if c then p else q) m X Q ↔ (c → W p m X Q) ∧ (¬c → W q m X Q) := by
  by_cases h : c
  · simp [h]
  · simp [h]
@[simp] theorem W_c {d : PyData} : W (evC d) m X E ↔ E (.d d) m := ⟨fun h => h.go, fun h => ⟨h⟩⟩
@[simp] theorem vYw {i : Nat} : W (zQg i) m X E ↔ ∃ v, xXs i m.sl[i]? = some v ∧ E v m := by
  have h := yUy (o := xXs i m.sl[i]?) (m := m) (X := X) (Q := E)
  rw [yQv] at h ⊢
  exact h
@[simp] theorem wH1 {i : Nat} {x : PyData} : xXs i (some (some (.d x))) = some (.d x) := rfl
@[simp] theorem wUa {i : Nat} {o : Ob} : xXs i (some (some (.ob o))) = some (.pk i o) := rfl
@[simp] theorem wKa {i n : Nat} : xXs i (some (some (.cell n))) = some (.cell n) := rfl
@[simp] theorem vJm {x : PyData} : zHc (.d x) = .d x := rfl
@[simp] theorem wUh {o : Ob} : zHc (.new o) = .d (dOf o) := rfl
@[simp] theorem wWj {n : Nat} : zHc (.cell n) = .cell n := rfl
@[simp] theorem vQi {i : Nat} {o : Ob} : zHc (.pk i o) = .d (dOf o) := rfl
@[simp] theorem vYg {xs : List PyData} : dOf (.lst xs) = .list xs := rfl
@[simp] theorem vYi {es : List (PyData × PyData)} : dOf (.dic es) = .dict es := rfl
@[simp] theorem vYh {c : Str} {fs : List (Str × PyData)} : dOf (.ins c fs) = yWq c fs := rfl
@[simp] theorem wHe {x : PyData} {k : PyData → Pg α} : W (look (.d x) k) m X Q ↔ W (k x) m X Q := ⟨fun h => ⟨h.go⟩, fun h => ⟨h.go⟩⟩
@[simp] theorem wHf {n : Nat} {k : PyData → Pg α} : W (look (.cell n) k) m X Q ↔ ∃ o, m.cs[n]? = some o ∧ W (k (dOf o)) m X Q := by
  have h : look (.cell n) k m = match m.cs[n]?.map dOf with
    | some x => k x m
    | none => .bad := rfl
  rw [yQv, h]
  cases e : m.cs[n]? with
  | none => simp [Res.wp]
  | some o => simp [yQv]
@[simp] theorem vUc {op : Operator} {fa fb : Pg EV} : W (zXl op fa fb) m X E ↔ W fa m X fun v m1 => W fb m1 X fun u m2 => W (two (fun x y => zKz (yW7 op x y)) (zHc v) (zHc u)) m2 X E := by
  unfold zXl
  simp only [zQ8]
@[simp] theorem vXv {g : PyData → PyData → Pg EV} {o1 o2 : OV} : two g o1 o2 = look o1 fun x => look o2 fun y => g x y := rfl
@[simp] theorem vZn {i j : Int} : yW7 .Add (.int i) (.int j) = some (.d (.int (i + j))) := rfl
@[simp] theorem wG7 {a b : Str} : yW7 .Add (.str a) (.str b) = if a.length + b.length ≤ 16777216 then some (.d (.str (a ++ b))) else none := rfl
@[simp] theorem wG6 {xs ys : List PyData} : yW7 .Add (.tuple xs) (.tuple ys) = if xs.length + ys.length ≤ 16777216 then some (.d (.tuple (xs ++ ys))) else none := rfl
@[simp] theorem wG8 {xs ys : List PyData} : yW7 .Add (.list xs) (.list ys) = if xs.length + ys.length ≤ 16777216 then some (.fresh (xs ++ ys)) else none := rfl
@[simp] theorem vZi {i j : Int} : yW7 .Sub (.int i) (.int j) = some (.d (.int (i - j))) := rfl
@[simp] theorem vZk {i j : Int} : yW7 .Mult (.int i) (.int j) = if xK9 i j then some (.d (.int (i * j))) else none := rfl
@[simp] theorem wG4 {xs : List PyData} {k : Int} : yW7 .Mult (.tuple xs) (.int k) = if yZs xs k then some (.d (.tuple (List.replicate k.toNat xs).flatten)) else none := rfl
@[simp] theorem wG5 {xs : List PyData} {k : Int} : yW7 .Mult (.list xs) (.int k) = if yZs xs k then some (.fresh (List.replicate k.toNat xs).flatten) else none := rfl
@[simp] theorem vZm {i j : Int} : yW7 .FloorDiv (.int i) (.int j) = if decide (0 < j) && decide (j < 1073741824) then some (.d (.int (i / j))) else none := rfl
@[simp] theorem vZl {i j : Int} : yW7 .Mod (.int i) (.int j) = if 0 < j then some (.d (.int (i % j))) else none := rfl
@[simp] theorem vZj {i j : Int} : yW7 .Pow (.int i) (.int j) = if xK1 i j then some (.d (.int (i ^ j.toNat))) else none := rfl
@[simp] theorem wWs {i j : Int} : xK9 i j = true ↔ (-18446744073709551616 < i ∧ i < 18446744073709551616) ∨ (-18446744073709551616 < j ∧ j < 18446744073709551616) := by
  unfold xK9
  simp
@[simp] theorem wWh {i j : Int} : xK1 i j = true ↔ 0 ≤ j ∧ j ≤ 1000000 ∧ i.natAbs < 18446744073709551616 := by
  unfold xK1
  simp [and_assoc]
@[simp] theorem wXx {xs : List PyData} {k : Int} : yZs xs k = true ↔ k ≤ 1000 ∧ -1000 ≤ k ∧ xs.length ≤ 1000 := by
  unfold yZs
  simp [and_assoc]
@[simp] theorem xUk {xs : List PyData} : yY9 xs = true ↔ xs.length ≤ 16777216 := by
  unfold yY9
  simp
@[simp] theorem vUa {op : CmpOp} {fa fb : Pg EV} : W (zQ3 op fa fb) m X T ↔ W fa m X fun v m1 => W fb m1 X fun u m2 => W (wY7 (zG1 op) (zHc v) (zHc u)) m2 X T := by
  unfold zQ3
  simp only [zQ8]
@[simp] theorem vVe {g : PyData → PyData → Option Bool} {o1 o2 : OV} : W (wY7 g o1 o2) m X T ↔ W (look o1 fun x => look o2 fun y => zKz (g x y)) m X T := Iff.rfl
@[simp] theorem vJ8 {i j : Int} : zG1 .Lt (.int i) (.int j) = some (decide (i < j)) := rfl
@[simp] theorem vJ9 {i j : Int} : zG1 .LtE (.int i) (.int j) = some (decide (i ≤ j)) := rfl
@[simp] theorem cmp_gt {i j : Int} : zG1 .Gt (.int i) (.int j) = some (decide (j < i)) := rfl
@[simp] theorem vVa {i j : Int} : zG1 .GtE (.int i) (.int j) = some (decide (j ≤ i)) := rfl
@[simp] theorem vZf {i j : Int} : zG1 .Eq (.int i) (.int j) = some (decide (i = j)) := by
  by_cases h : i = j <;> simp [zG1, eqQ, SeqAt.shaped, PyData.canLay0, PyData.depth, PyData.eqv, h]
@[simp] theorem vQ9 {i j : Int} : zG1 .NotEq (.int i) (.int j) = some (decide (i ≠ j)) := by
  by_cases h : i = j <;> simp [zG1, eqQ, SeqAt.shaped, PyData.canLay0, PyData.depth, PyData.eqv, h]
@[simp] theorem vZg {i j : Bool} : zG1 .Eq (.bool i) (.bool j) = some (decide (i = j)) := by
  cases i <;> cases j <;> decide +kernel
@[simp] theorem vZa {i j : Bool} : zG1 .NotEq (.bool i) (.bool j) = some (decide (i ≠ j)) := by
  cases i <;> cases j <;> decide +kernel
@[simp] theorem wG0 {xs : List PyData} : zG1 .Eq (.tuple xs) (.tuple []) = some xs.isEmpty := rfl
@[simp] theorem wGy {xs : List PyData} : zG1 .NotEq (.tuple xs) (.tuple []) = some (!xs.isEmpty) := rfl
@[simp] theorem wG1 {xs : List PyData} : zG1 .Eq (.list xs) (.list []) = some xs.isEmpty := by
  cases xs with
  | nil => decide +kernel
  | cons x xs => simp [zG1, eqQ]
@[simp] theorem wGz {xs : List PyData} : zG1 .NotEq (.list xs) (.list []) = some (!xs.isEmpty) := by
  cases xs with
  | nil => decide +kernel
  | cons x xs => simp [zG1, eqQ]
@[simp] theorem vZe {a b : Str} : zG1 .Eq (.str a) (.str b) = some (decide (a = b)) := rfl
@[simp] theorem vQ8 {a b : Str} : zG1 .NotEq (.str a) (.str b) = some (decide (a ≠ b)) := by
  by_cases h : a = b <;> simp [zG1, h]
@[simp] theorem vZc {x : PyData} : zG1 .Is x .none = some (zYb x) := rfl
@[simp] theorem wKk {x : PyData} : zG1 .IsNot x .none = some (!zYb x) := rfl
@[simp] theorem vZd {a b : Bool} : zG1 .Is (.bool a) (.bool b) = some (decide (a = b)) := rfl
@[simp] theorem wKl {a b : Bool} : zG1 .IsNot (.bool a) (.bool b) = some (decide (a ≠ b)) := by
  cases a <;> cases b <;> rfl
@[simp] theorem wU0 : zYb .none = true := rfl
@[simp] theorem wU2 {i : Int} : zYb (.int i) = false := rfl
@[simp] theorem wU4 {i : Bool} : zYb (.bool i) = false := rfl
@[simp] theorem wUz {i : Str} : zYb (.str i) = false := rfl
@[simp] theorem wUy {i : List PyData} : zYb (.tuple i) = false := rfl
@[simp] theorem wU1 {i : List PyData} : zYb (.list i) = false := rfl
@[simp] theorem wU3 {i : List (PyData × PyData)} : zYb (.dict i) = false := rfl
@[simp] theorem vUd {f : Pg Bool} : W (asV f) m X E ↔ W f m X fun k m1 => E (.d (.bool k)) m1 := by
  unfold asV
  simp only [zQ8, yXu]
@[simp] theorem vYy {f : Pg EV} : W (yQc f) m X T ↔ W f m X fun v m1 => W (wZi (zHc v)) m1 X T := by
  unfold yQc
  simp only [zQ8]
@[simp] theorem vVf {o : OV} : W (wZi o) m X T ↔ W (look o fun x => zKz (xG3 x)) m X T := Iff.rfl
@[simp] theorem vX1 {k : Bool} : xG3 (.bool k) = some k := rfl
@[simp] theorem vXy : xG3 .none = some false := rfl
@[simp] theorem vX0 {i : Int} : xG3 (.int i) = some (i != 0) := rfl
@[simp] theorem vXz {xs : List PyData} : xG3 (.list xs) = some (!xs.isEmpty) := rfl
@[simp] theorem vXw {xs : List PyData} : xG3 (.tuple xs) = some (!xs.isEmpty) := rfl
@[simp] theorem vXx {x : Str} : xG3 (.str x) = if x.length ≤ 16777216 then some ((x.length : Int) != 0) else none := rfl
@[simp] theorem vVt {t : Pg Bool} : W (zGb t) m X T ↔ W t m X fun k m1 => T (!k) m1 := by
  unfold zGb
  simp only [zQ8, yXu]
@[simp] theorem vKa {t u : Pg Bool} : W (yJy t u) m X T ↔ W t m X fun k m1 => (k = true → W u m1 X T) ∧ (¬ k = true → T false m1) := by
  unfold yJy
  simp only [zQ8, yXu, wV3]
@[simp] theorem vY1 {t u : Pg Bool} : W (yJk t u) m X T ↔ W t m X fun k m1 => (k = true → T true m1) ∧ (¬ k = true → W u m1 X T) := by
  unfold yJk
  simp only [zQ8, yXu, wV3]
@[simp] theorem vY2 {f : Pg EV} : W (wQs f) m X E ↔ W f m X fun v m1 => W (wZi (zHc v)) m1 X fun k m2 => E (.d (.bool (!k))) m2 := by
  unfold wQs
  simp only [zQ8, yXu]
@[simp] theorem vUe {f g : Pg EV} : W (xQl f g) m X E ↔ W f m X fun v m1 => W (wZi (zHc v)) m1 X fun k m2 => (k = true → W g m2 X E) ∧ (¬ k = true → E v m2) := by
  unfold xQl
  simp only [zQ8, yXu, wV3]
@[simp] theorem vV2 {t : Pg Bool} {f g : Pg EV} : W (xZ8 t f g) m X E ↔ W t m X fun k m1 => (k = true → W f m1 X E) ∧ (¬ k = true → W g m1 X E) := by
  unfold xZ8
  simp only [zQ8, wV3]
@[simp] theorem vYx {g : Pg (List AV)} : W (zQl g) m X E ↔ W g m X fun vs m1 => ∃ v, xUh vs = some v ∧ E v m1 := by
  unfold zQl
  simp only [zQ8, yUy]
@[simp] theorem vY4 {g : Pg (List AV)} : W (zVu g) m X E ↔ W g m X fun vs m1 => ∃ v, xJa vs = some v ∧ E v m1 := by
  unfold zVu
  simp only [zQ8, yUy]
@[simp] theorem vY3 {P : List α → Mem → Prop} : W (zQh : Pg (List α)) m X P ↔ P [] m := ⟨fun h => h.go, fun h => ⟨h⟩⟩
@[simp] theorem vXe {f : Pg EV} {g : Pg (List AV)} {P : List AV → Mem → Prop} : W (zQb f g) m X P ↔ W f m X fun v m1 => W (toA v) m1 X fun a m2 => W g m2 X fun r m3 => P (a :: r) m3 := by
  unfold zQb
  simp only [zQ8, yXu]
@[simp] theorem vXd {f : Pg EV} {g : Pg (List OV)} {P : List OV → Mem → Prop} : W (zXa f g) m X P ↔ W f m X fun v m1 => W g m1 X fun r m3 => P (zHc v :: r) m3 := by
  unfold zXa
  simp only [zQ8, yXu]
@[simp] theorem vVi {x : PyData} {P : AV → Mem → Prop} : W (toA (.d x)) m X P ↔ P (.d x) m := ⟨fun h => h.go, fun h => ⟨h⟩⟩
@[simp] theorem vVh {o : Ob} {P : AV → Mem → Prop} : W (toA (.new o)) m X P ↔ P (.d (dOf o)) m := ⟨fun h => h.go, fun h => ⟨h⟩⟩
@[simp] theorem vVg {i : Nat} {o : Ob} {P : AV → Mem → Prop} : W (toA (.pk i o)) m X P ↔ P (.d (dOf o)) (zHd m i (dOf o)) := ⟨fun h => h.go, fun h => ⟨h⟩⟩
@[simp] theorem vVj {n : Nat} {P : AV → Mem → Prop} : W (toA (.cell n)) m X P ↔ P (.cell n) m := ⟨fun h => h.go, fun h => ⟨h⟩⟩
@[simp] theorem wKh {i : Nat} {x : PyData} {sl : List (Option SV)} {cs : List Ob} : zHd ⟨sl, cs⟩ i x = ⟨sl.set i (some (.d x)), cs⟩ := rfl
@[simp] theorem wKi : dataOf [] = some [] := rfl
@[simp] theorem xJp {x : PyData} {r : List AV} : dataOf (.d x :: r) = (dataOf r).map (x :: ·) := by
  show (match dataOf r with
    | some xs => some (x :: xs)
    | none => none) = _
  cases dataOf r <;> rfl
@[simp] theorem wUn {vs : List AV} {xs : List PyData} (h : dataOf vs = some xs) : xUh vs = if yY9 xs then some (.d (.tuple xs)) else none := by
  unfold xUh
  rw [h]
@[simp] theorem wQe {vs : List AV} {xs : List PyData} (h : dataOf vs = some xs) : xJa vs = if yY9 xs then some (.fresh xs) else none := by
  unfold xJa
  rw [h]
@[simp] theorem wGu : xXd [] m = some [] := rfl
@[simp] theorem wYk {x : PyData} {r : List OV} : xXd (.d x :: r) m = (xXd r m).map (x :: ·) := by
  show (match some x, xXd r m with
    | some x, some xs => some (x :: xs)
    | _, _ => none) = _
  cases xXd r m <;> rfl
@[simp] theorem wYl {n : Nat} {r : List OV} : xXd (.cell n :: r) m = (m.cs[n]?).bind fun o => (xXd r m).map (dOf o :: ·) := by
  show (match (m.cs[n]?).map dOf, xXd r m with
    | some x, some xs => some (x :: xs)
    | _, _ => none) = _
  cases m.cs[n]? <;> cases xXd r m <;> rfl
@[simp] theorem vUb {g : List PyData → Option EV} {fo : Pg (List OV)} : W (zGt g fo) m X E ↔ W fo m X fun os m1 => ∃ ds, xXd os m1 = some ds ∧ ∃ v, g ds = some v ∧ E v m1 := by
  unfold zGt
  simp only [zQ8]
  constructor
  · intro h
    refine h.mono fun os m1 q => ?_
    rw [yQv] at q
    cases e : xXd os m1 with
    | none =>
      rw [e] at q
      exact q.elim
    | some ds =>
      rw [e] at q
      have q : W (zKz (g ds)) m1 X E := ⟨q⟩
      exact ⟨ds, rfl, yUy.mp q⟩
  · intro h
    refine h.mono fun os m1 ⟨ds, e, q⟩ => ?_
    rw [yQv, e]
    exact (yUy.mpr q).go
@[simp] theorem wW9 {xs : List PyData} : xG4 [.list xs] = some (.d (.int xs.length)) := rfl
@[simp] theorem wGf {xs : List PyData} : xG4 [.tuple xs] = some (.d (.int xs.length)) := rfl
@[simp] theorem wGg {s : Str} : xG4 [.str s] = if s.length ≤ 16777216 then some (.d (.int s.length)) else none := rfl
@[simp] theorem wGl {i : Int} : wGm [.int i] = some (.d (.int (if i < 0 then -i else i))) := rfl
@[simp] theorem wGh {i : Int} : wGi [.int i] = some (.d (.int i)) := rfl
@[simp] theorem wYa {b : Bool} : wGi [.bool b] = some (.d (.int (if b then 1 else 0))) := rfl
@[simp] theorem wGa {i j : Int} : vYd [.int i, .int j] = some (.d (.int (if j < i then j else i))) := rfl
@[simp] theorem wGb {i j : Int} : vQw [.int i, .int j] = some (.d (.int (if j > i then j else i))) := rfl
@[simp] theorem wU9 {xs : List PyData} : yV8 [.list xs] = some (.d (.tuple xs)) := rfl
@[simp] theorem wU8 {xs : List PyData} : yV8 [.tuple xs] = some (.d (.tuple xs)) := rfl
@[simp] theorem vQy {xs : List PyData} : wQn [.list xs] = some (.fresh xs) := rfl
@[simp] theorem vQx {xs : List PyData} : wQn [.tuple xs] = some (.fresh xs) := rfl
@[simp] theorem vY6 {t : String} {f : Pg EV} : W (xZ7 t f) m X E ↔ W f m X fun v m1 => W (look (zHc v) fun x => zKz ((tyName x).bind fun t0 => (kitB t0 t).map fun b => EV.d (.bool b))) m1 X E := by
  unfold xZ7
  simp only [zQ8]
@[simp] theorem vXh {g : Fn} {args : List AV} : W (zJ1 g args) m X E ↔ W (g args) ⟨[], m.cs⟩ (fun x m' => X x ⟨m.sl, m'.cs⟩) fun v m' => E v ⟨m.sl, m'.cs⟩ := by
  rw [yQv, yQv]
  unfold zJ1
  cases g args ⟨[], m.cs⟩ <;> exact Iff.rfl
@[simp] theorem vV5 {g : Fn} {fa : Pg (List AV)} : W (zQ9 g fa) m X E ↔ W fa m X fun args m1 => W (zJ1 g args) m1 X E := by
  unfold zQ9
  simp only [zQ8]
@[simp] theorem vXo {n : Nat} {fa : Pg (List AV)} {P : List AV → Mem → Prop} : W (zZy n fa) m X P ↔ W fa m X fun vs m1 => vs.length = n ∧ P vs m1 := by
  unfold zZy
  simp only [zQ8, wV3, yXu, xGt]
  constructor
  · intro h
    refine h.mono fun vs m1 ⟨q1, q2⟩ => ?_
    by_cases e : vs.length = n
    · exact ⟨e, q1 e⟩
    · exact (q2 e).elim
  · intro h
    exact h.mono fun vs m1 ⟨q1, q2⟩ => ⟨fun _ => q2, fun z => z q1⟩
theorem zVk {n : Nat} {fb : Pg Fl} {args : List AV} : W (zQ2 n fb args) m X E ↔ W fb ⟨zZo n args, m.cs⟩ (fun x m' => X x ⟨[], m'.cs⟩) fun fl m' => match fl with
    | .ret v => E (xH5 v) ⟨[], m'.cs⟩
    | .next => E (.d .none) ⟨[], m'.cs⟩
    | _ => False := by
  rw [yQv, yQv]
  unfold zQ2
  cases fb ⟨zZo n args, m.cs⟩ with
  | bad => exact Iff.rfl
  | thr x m' => exact Iff.rfl
  | ok fl m' => cases fl <;> exact Iff.rfl
@[simp] theorem vJj {x : PyData} : xH5 (.d x) = .d x := rfl
@[simp] theorem vJi {o : Ob} : xH5 (.new o) = .new o := rfl
@[simp] theorem vJh {i : Nat} {o : Ob} : xH5 (.pk i o) = .new o := rfl
@[simp] theorem vJk {n : Nat} : xH5 (.cell n) = .cell n := rfl
@[simp] theorem vKg {x : PyData} : toS (.d x) = .d x := rfl
@[simp] theorem vKh {n : Nat} : toS (.cell n) = .cell n := rfl
@[simp] theorem xGu {f g : Pg Fl} : W (zQz f g) m X F ↔ W f m X fun fl m' => match fl with
    | .next => W g m' X F
    | .brk => F .brk m'
    | .cont => F .cont m'
    | .ret v => F (.ret v) m' := by
  unfold zQz
  simp only [zQ8]
  constructor
  · intro h
    refine h.mono fun fl m' q => ?_
    cases fl
    · exact q
    · exact q.go
    · exact q.go
    · exact q.go
  · intro h
    refine h.mono fun fl m' q => ?_
    cases fl
    · exact q
    · exact ⟨q⟩
    · exact ⟨q⟩
    · exact ⟨q⟩
@[simp] theorem wV5 {i : Nat} {f : Pg EV} : W (evSet i f) m X F ↔ W f m X fun v m1 => W (wV0 i v) m1 X fun _ m2 => F .next m2 := by
  unfold evSet
  simp only [zQ8, yXu]
@[simp] theorem vXm {i : Nat} {x : PyData} {sl : List (Option SV)} {cs : List Ob} {P : Unit → Mem → Prop} : W (wV0 i (.d x)) ⟨sl, cs⟩ X P ↔ P () ⟨sl.set i (some (.d x)), cs⟩ := ⟨fun h => h.go, fun h => ⟨h⟩⟩
@[simp] theorem vXl {i : Nat} {x : Ob} {sl : List (Option SV)} {cs : List Ob} {P : Unit → Mem → Prop} : W (wV0 i (.new x)) ⟨sl, cs⟩ X P ↔ P () ⟨sl.set i (some (.ob x)), cs⟩ := ⟨fun h => h.go, fun h => ⟨h⟩⟩
@[simp] theorem vXn {i n : Nat} {sl : List (Option SV)} {cs : List Ob} {P : Unit → Mem → Prop} : W (wV0 i (.cell n)) ⟨sl, cs⟩ X P ↔ P () ⟨sl.set i (some (.cell n)), cs⟩ := ⟨fun h => h.go, fun h => ⟨h⟩⟩
@[simp] theorem vXk {i j : Nat} {x : Ob} {sl : List (Option SV)} {cs : List Ob} {P : Unit → Mem → Prop} : W (wV0 i (.pk j x)) ⟨sl, cs⟩ X P ↔ P () ⟨(sl.set j (some (.d (dOf x)))).set i (some (.d (dOf x))), cs⟩ := ⟨fun h => h.go, fun h => ⟨h⟩⟩
@[simp] theorem wHk {i : Nat} {f : Pg EV} : W (xV7 i f) m X F ↔ W f m X fun v m1 => W (wUi i v) m1 X fun _ m2 => F .next m2 := by
  unfold xV7
  simp only [zQ8, yXu]
@[simp] theorem vVu {i : Nat} {x : Ob} {sl : List (Option SV)} {cs : List Ob} {P : Unit → Mem → Prop} : W (wUi i (.new x)) ⟨sl, cs⟩ X P ↔ P () ⟨sl.set i (some (.cell cs.length)), cs ++ [x]⟩ := ⟨fun h => h.go, fun h => ⟨h⟩⟩
@[simp] theorem xGw {f : Pg EV} : W (zZg f) m X F ↔ W f m X fun v m1 => F (.ret v) m1 := by
  unfold zZg
  simp only [zQ8, yXu]
@[simp] theorem vZ8 {t : Pg Bool} {a b : Pg Fl} : W (zXe t a b) m X F ↔ W t m X fun k m1 => (k = true → W a m1 X F) ∧ (¬ k = true → W b m1 X F) := by
  unfold zXe
  simp only [zQ8, wV3]
@[simp] theorem wHl {f : Pg EV} : W (yUr f) m X F ↔ W f m X fun v m1 => F .next m1 := by
  unfold yUr
  simp only [zQ8, yXu]
@[simp] theorem xJr {a : AV} {P : PyData → Mem → Prop} : W (yH0 a) m X P ↔ ∃ d, a = .d d ∧ P d m := by
  cases a with
  | d x => exact ⟨fun h => ⟨x, rfl, h.go⟩, fun ⟨_, e, h⟩ => by cases e; exact ⟨h⟩⟩
  | cell n => exact ⟨fun h => h.go.elim, fun ⟨_, e, _⟩ => by cases e⟩
@[simp] theorem vZ0 {i : Nat} {P : Unit → Mem → Prop} : W (xZy i) m X P ↔ ∃ xs, m.sl[i]? = some (some (.own xs)) ∧ P () m := by
  rw [yQv]
  unfold xZy
  split
  · rename_i xs e
    exact ⟨fun h => ⟨xs, e, h⟩, fun ⟨_, _, h⟩ => h⟩
  · rename_i h
    exact ⟨fun h => h.elim, fun ⟨xs, e, _⟩ => h xs e⟩
@[simp] theorem vV9 {i : Nat} {d : PyData} {sl : List (Option SV)} {cs : List Ob} : W (vVd i d) ⟨sl, cs⟩ X F ↔ ∃ xs, sl[i]? = some (some (.own xs)) ∧ xs.length < 16777216 ∧ F .next ⟨sl.set i (some (.own (xs ++ [d]))), cs⟩ := by
  rw [yQv]
  unfold vVd
  split
  · rename_i xs e
    have e : sl[i]? = some (some (.own xs)) := e
    split
    · rename_i hl
      exact ⟨fun h => ⟨xs, e, hl, h⟩, fun ⟨ys, e2, _, h⟩ => by rw [e] at e2; cases e2; exact h⟩
    · rename_i hl
      exact ⟨fun h => h.elim, fun ⟨ys, e2, h2, _⟩ => by rw [e] at e2; cases e2; exact hl h2⟩
  · rename_i h
    exact ⟨fun h => h.elim, fun ⟨xs, e, _⟩ => h xs e⟩
@[simp] theorem vZt {fe fo fi : Pg EV} : W (yWc fe fo fi) m X F ↔ W fe m X fun v m1 => W (toA v) m1 X fun a m2 => ∃ d, a = .d d ∧ W fo m2 X fun o m3 => W fi m3 X fun i m4 => W (xJ1 o (zHc i) d) m4 X F := by
  unfold yWc
  simp only [zQ8, xJr]
@[simp] theorem wHb {v : EV} {i : OV} {d : PyData} : W (xJ1 v i d) m X F ↔ W (yUi v) m X fun o m1 => W (look i fun k => .bind (zKz (putS o k d)) fun o' => .bind (putAt v o') fun _ => .ret .next) m1 X F := by
  unfold xJ1
  simp only [zQ8]
@[simp] theorem vVy {n : Nat} {P : Ob → Mem → Prop} : W (yUi (.cell n)) m X P ↔ ∃ o, m.cs[n]? = some o ∧ P o m := by
  rw [yQv]
  unfold yUi
  cases e : m.cs[n]? <;> simp [Res.wp, e]
@[simp] theorem vVx {j : Nat} {o0 : Ob} {P : Ob → Mem → Prop} : W (yUi (.pk j o0)) m X P ↔ ∃ o, m.sl[j]? = some (some (.ob o)) ∧ P o m := by
  rw [yQv]
  unfold yUi
  dsimp only
  split
  · rename_i o e
    exact ⟨fun h => ⟨o, e, h⟩, fun ⟨_, e2, h⟩ => by rw [e] at e2; cases e2; exact h⟩
  · rename_i h
    exact ⟨fun h => h.elim, fun ⟨o, e, _⟩ => h o e⟩
@[simp] theorem vVp {n : Nat} {o : Ob} {sl : List (Option SV)} {cs : List Ob} {P : Unit → Mem → Prop} : W (putAt (.cell n) o) ⟨sl, cs⟩ X P ↔ P () ⟨sl, cs.set n o⟩ := ⟨fun h => h.go, fun h => ⟨h⟩⟩
@[simp] theorem vVo {j : Nat} {o o0 : Ob} {sl : List (Option SV)} {cs : List Ob} {P : Unit → Mem → Prop} : W (putAt (.pk j o0) o) ⟨sl, cs⟩ X P ↔ P () ⟨sl.set j (some (.ob o)), cs⟩ := ⟨fun h => h.go, fun h => ⟨h⟩⟩
@[simp] theorem vJe {xs : List PyData} {k : Int} {d : PyData} : putS (.lst xs) (.int k) d = (ixN xs.length k).map fun j => .lst (xs.set j d) := rfl
@[simp] theorem vXa {g : PyData → Pg Unit} {f : Pg EV} : W (xWj g f) m X F ↔ W f m X fun v m1 => W (toA v) m1 X fun a m2 => ∃ d, a = .d d ∧ W (g d) m2 X fun _ m3 => F .next m3 := by
  unfold xWj
  simp only [zQ8, xJr, yXu]
@[simp] theorem wQ8 {i : Nat} {d : PyData} {sl : List (Option SV)} {cs : List Ob} {P : Unit → Mem → Prop} : W (zXf i d) ⟨sl, cs⟩ X P ↔ P () ⟨sl.set i (some (.d d)), cs⟩ := ⟨fun h => h.go, fun h => ⟨h⟩⟩
@[simp] theorem wV2 {n : Nat} {g : List PyData → Pg Unit} {ds : List PyData} {P : Unit → Mem → Prop} : W (yZt n g (.tuple ds)) m X P ↔ ds.length = n ∧ W (g ds) m X P := by
  show W (if ds.length = n then g ds else .stuck) m X P ↔ _
  rw [wV3, xGt]
  exact ⟨fun ⟨h1, h2⟩ => (by
    by_cases e : ds.length = n
    · exact ⟨e, h1 e⟩
    · exact (h2 e).elim), fun ⟨h1, h2⟩ => ⟨fun _ => h2, fun z => z h1⟩⟩
@[simp] theorem wG9 {n : Nat} {g : List PyData → Pg Unit} {ds : List PyData} {P : Unit → Mem → Prop} : W (yZt n g (.list ds)) m X P ↔ ds.length = n ∧ W (g ds) m X P := wV2
@[simp] theorem vZs {P : Unit → Mem → Prop} : W (yKk []) m X P ↔ P () m := ⟨fun h => h.go, fun h => ⟨h⟩⟩
@[simp] theorem wHa {g : PyData → Pg Unit} {h : List PyData → Pg Unit} {d : PyData} {ds : List PyData} {P : Unit → Mem → Prop} : W (zKh g h (d :: ds)) m X P ↔ W (g d) m X fun _ m1 => W (h ds) m1 X P := zQ8
theorem wXl {α : Type} {xs : List α} {i : Int} (h : 0 ≤ i) : atI xs i = xs[i.toNat]? := by
  unfold atI ixN
  by_cases h2 : i < xs.length
  · rw [if_pos h, if_pos h2]
    rfl
  · rw [if_pos h, if_neg h2, List.getElem?_eq_none (by omega)]
    rfl
theorem wVz {α β : Type} {xs : List α} {i : Int} {f : α → β} : atI (xs.map f) i = (atI xs i).map f := by
  unfold atI
  rw [List.length_map]
  cases ixN xs.length i with
  | none => rfl
  | some j => simp
@[simp] theorem vYu {α : Type} {xs : List α} : atI xs 0 = xs[0]? := by
  unfold atI ixN
  by_cases h : (0 : Int) < xs.length
  · rw [if_pos (by omega), if_pos h]
    rfl
  · rw [if_pos (by omega), if_neg h, List.getElem?_eq_none (by omega)]
    rfl
@[simp] theorem vYt {α : Type} {xs : List α} : atI xs 1 = xs[1]? := by
  unfold atI ixN
  by_cases h : (1 : Int) < xs.length
  · rw [if_pos (by omega), if_pos h]
    rfl
  · rw [if_pos (by omega), if_neg h, List.getElem?_eq_none (by omega)]
    rfl
@[simp] theorem vYs {α : Type} {xs : List α} : atI xs 2 = xs[2]? := by
  unfold atI ixN
  by_cases h : (2 : Int) < xs.length
  · rw [if_pos (by omega), if_pos h]
    rfl
  · rw [if_pos (by omega), if_neg h, List.getElem?_eq_none (by omega)]
    rfl
@[simp] theorem vYr {α : Type} {xs : List α} : atI xs 3 = xs[3]? := by
  unfold atI ixN
  by_cases h : (3 : Int) < xs.length
  · rw [if_pos (by omega), if_pos h]
    rfl
  · rw [if_pos (by omega), if_neg h, List.getElem?_eq_none (by omega)]
    rfl
@[simp] theorem vYq {α : Type} {xs : List α} : atI xs 4 = xs[4]? := by
  unfold atI ixN
  by_cases h : (4 : Int) < xs.length
  · rw [if_pos (by omega), if_pos h]
    rfl
  · rw [if_pos (by omega), if_neg h, List.getElem?_eq_none (by omega)]
    rfl
@[simp] theorem vYp {α : Type} {xs : List α} : atI xs 5 = xs[5]? := by
  unfold atI ixN
  by_cases h : (5 : Int) < xs.length
  · rw [if_pos (by omega), if_pos h]
    rfl
  · rw [if_pos (by omega), if_neg h, List.getElem?_eq_none (by omega)]
    rfl
@[simp] theorem vYo {α : Type} {xs : List α} : atI xs 6 = xs[6]? := by
  unfold atI ixN
  by_cases h : (6 : Int) < xs.length
  · rw [if_pos (by omega), if_pos h]
    rfl
  · rw [if_pos (by omega), if_neg h, List.getElem?_eq_none (by omega)]
    rfl
@[simp] theorem vYn {α : Type} {xs : List α} : atI xs 7 = xs[7]? := by
  unfold atI ixN
  by_cases h : (7 : Int) < xs.length
  · rw [if_pos (by omega), if_pos h]
    rfl
  · rw [if_pos (by omega), if_neg h, List.getElem?_eq_none (by omega)]
    rfl
@[simp] theorem vYm {α : Type} {xs : List α} : atI xs 8 = xs[8]? := by
  unfold atI ixN
  by_cases h : (8 : Int) < xs.length
  · rw [if_pos (by omega), if_pos h]
    rfl
  · rw [if_pos (by omega), if_neg h, List.getElem?_eq_none (by omega)]
    rfl
@[simp] theorem vUm {fa fb : Pg EV} : W (zHr fa fb) m X E ↔ W fa m X fun v m1 => W fb m1 X fun u m2 => W (ixP (zHc v) (zHc u)) m2 X E := by
  unfold zHr
  simp only [zQ8]
@[simp] theorem vY5 {o i : OV} : W (ixP o i) m X E ↔ W (look o fun x => look i fun y => zKz ((ixS x y).map .d)) m X E := Iff.rfl
@[simp] theorem vYf {β γ : Type} {p : β → Prop} {f : β → γ} {P : γ → Prop} : (∃ a, (∃ b, p b ∧ f b = a) ∧ P a) ↔ ∃ b, p b ∧ P (f b) :=
  ⟨fun ⟨_, ⟨b, h, e⟩, q⟩ => ⟨b, h, e ▸ q⟩, fun ⟨b, h, q⟩ => ⟨_, ⟨b, h, rfl⟩, q⟩⟩
@[simp] theorem ex_map {β γ : Type} {o : Option β} {f : β → γ} {P : γ → Prop} : (∃ a, o.map f = some a ∧ P a) ↔ ∃ b, o = some b ∧ P (f b) := by
  cases o <;> simp
@[simp] theorem vK1 {xs : List PyData} {i : Int} : ixS (.list xs) (.int i) = atI xs i := rfl
@[simp] theorem vK0 {xs : List PyData} {i : Int} : ixS (.tuple xs) (.int i) = atI xs i := rfl
@[simp] theorem vVr {f : Pg EV} {P : Option Int → Mem → Prop} : W (xV9 f) m X P ↔ W f m X fun v m1 => W (vQs (zHc v)) m1 X P := by
  unfold xV9
  simp only [zQ8]
@[simp] theorem vVw {o : OV} {P : Option Int → Mem → Prop} : W (vQs o) m X P ↔ W (look o fun x => zKz (intD x)) m X P := Iff.rfl
@[simp] theorem vJy {i : Int} : intD (.int i) = some (some i) := rfl
@[simp] theorem vUl {fa : Pg EV} {fl fh : Pg (Option Int)} : W (wGr fa fl fh) m X E ↔ W fa m X fun v m1 => W fl m1 X fun l m2 => W fh m2 X fun h m3 => W (slP (zHc v) l h) m3 X E := by
  unfold wGr
  simp only [zQ8]
@[simp] theorem vYz {o : OV} {l h : Option Int} : W (slP o l h) m X E ↔ W (look o fun x => zKz (slS x l h)) m X E := Iff.rfl
@[simp] theorem vKo {xs : List PyData} {l h : Option Int} : slS (.list xs) l h = some (.fresh (cutD xs l h)) := rfl
@[simp] theorem vKn {xs : List PyData} {l h : Option Int} : slS (.tuple xs) l h = some (.d (.tuple (cutD xs l h))) := rfl
@[simp] theorem wHs {l : List (Option SV)} : zJ2 [] l = l := rfl
@[simp] theorem wHt {i : Nat} {is : List Nat} {l : List (Option SV)} : zJ2 (i :: is) l = (zJ2 is l).set i none := rfl
theorem yJ8 {α : Type} (f : α → Bool) : ∀ xs : List α, boolsOf (xs.map fun x => .bool (f x)) = some (xs.map f)
  | [] => rfl
  | x :: xs => by
    simp only [List.map_cons]
    unfold boolsOf
    rw [yJ8 f xs]
@[simp] theorem wGk {α : Type} {f : α → Bool} {xs : List α} : wYd [.list (xs.map fun x => .bool (f x))] = some (.d (.bool (xs.all f))) := by
  show (match boolsOf (xs.map fun x => PyData.bool (f x)) with
    | some bs => some (EV.d (.bool (bs.all id)))
    | none => none) = _
  rw [yJ8]
  simp [List.all_map]
@[simp] theorem wGj {α : Type} {f : α → Bool} {xs : List α} : wYb [.list (xs.map fun x => .bool (f x))] = some (.d (.bool (xs.any f))) := by
  show (match boolsOf (xs.map fun x => PyData.bool (f x)) with
    | some bs => some (EV.d (.bool (bs.any id)))
    | none => none) = _
  rw [yJ8]
  simp [List.any_map]
@[simp] theorem vZ7 {f : Pg (List PyData)} {g : PyData → Pg Unit} {b : Pg Fl} : W (yUq f g b) m X F ↔ W f m X fun ds m1 => W (forL g b ds) m1 X F := by
  unfold yUq
  simp only [zQ8]
theorem xXh {g : PyData → Pg Unit} {b : Pg Fl} (I : List PyData → Mem → Prop) : ∀ {ds : List PyData} {m : Mem}, I ds m →
    (∀ d ds m, I (d :: ds) m → W (g d) m X fun _ m1 => W b m1 X fun fl m2 => match fl with
      | .next => I ds m2
      | .cont => I ds m2
      | .brk => F .next m2
      | .ret v => F (.ret v) m2) → (∀ m, I [] m → F .next m) → W (forL g b ds) m X F
  | [], m, h0, _, h2 => ⟨h2 m h0⟩
  | d :: ds, m, h0, h1, h2 => by
    show W (Pg.bind (g d) _) m X F
    rw [zQ8]
    refine (h1 d ds m h0).mono fun _ m1 q => ?_
    rw [zQ8]
    refine q.mono fun fl m2 q => ?_
    cases fl with
    | next => exact xXh I q h1 h2
    | cont => exact xXh I q h1 h2
    | brk => exact ⟨q⟩
    | ret v => exact ⟨q⟩
@[simp] theorem vV1 {f : Pg EV} {P : List PyData → Mem → Prop} : W (xQj f) m X P ↔ W f m X fun v m1 => W (toA v) m1 X fun a m2 => ∃ ds, zG7 a = some ds ∧ P ds m2 := by
  unfold xQj
  simp only [zQ8, yUy]
@[simp] theorem wH4 {xs : List PyData} : zG7 (.d (.list xs)) = some xs := rfl
@[simp] theorem wH3 {xs : List PyData} : zG7 (.d (.tuple xs)) = some xs := rfl
@[simp] theorem vVm {f : Pg (List OV)} {P : List PyData → Mem → Prop} : W (yUp f) m X P ↔ W f m X fun os m1 => ∃ ds, wUc os = some ds ∧ P ds m1 := by
  unfold yUp
  simp only [zQ8, yUy]
theorem xGs {is : List Nat} {P : Unit → Mem → Prop} : W (xHj is) m X P ↔ P () ⟨zJ2 is m.sl, m.cs⟩ := ⟨fun h => h.go, fun h => ⟨h⟩⟩
@[simp] theorem vV3 {is : List Nat} {fi : Pg (List PyData)} {g : PyData → Pg Unit} {t : Pg Bool} {e : Pg EV} : W (zU5 is fi g t e) m X E ↔ W fi m X fun ds m1 => W (yJl is g t e ds []) ⟨zJ2 is m1.sl, m1.cs⟩ X E := by
  unfold zU5
  simp only [zQ8, xGs]
theorem yUz {is : List Nat} {g : PyData → Pg Unit} {t : Pg Bool} {e : Pg EV} (I : List PyData → List PyData → Mem → Prop) : ∀ {ds acc : List PyData} {m : Mem}, I ds acc m →
    (∀ d ds acc m, I (d :: ds) acc m → W (g d) m X fun _ m1 => W t m1 noX fun k m2 => if k = true then W e m2 noX fun v m3 => W (toA v) m3 X fun a m4 => ∃ x, a = .d x ∧ acc.length < 16777216 ∧ I ds (acc ++ [x]) ⟨zJ2 is m4.sl, m4.cs⟩ else I ds acc ⟨zJ2 is m2.sl, m2.cs⟩) →
    (∀ acc m, I [] acc m → E (.fresh acc) m) → W (yJl is g t e ds acc) m X E
  | [], acc, m, h0, _, h2 => ⟨h2 acc m h0⟩
  | d :: ds, acc, m, h0, h1, h2 => by
    have go := h1 d ds acc m h0
    unfold yJl
    rw [zQ8]
    refine go.mono fun _ m1 q => ?_
    rw [zQ8, xQp]
    refine q.mono fun k m2 q => ?_
    cases k with
    | false =>
      have q : I ds acc ⟨zJ2 is m2.sl, m2.cs⟩ := q
      have z := yUz I q h1 h2
      simp
      exact xGs.mpr z
    | true =>
      have q : W e m2 noX fun v m3 => W (toA v) m3 X fun a m4 => ∃ x, a = .d x ∧ acc.length < 16777216 ∧ I ds (acc ++ [x]) ⟨zJ2 is m4.sl, m4.cs⟩ := q
      simp
      refine q.mono fun v m3 q => q.mono fun a m4 ⟨x, ea, hl, q⟩ => ?_
      have z := yUz I q h1 h2
      refine ⟨x, ea, ?_⟩
      exact ⟨fun _ => xGs.mpr z, hl⟩
end
end Ev

namespace Ev
open PySem PySem.Spec PyProof.Rows L2

structure Fit (k B : Nat) (d : PyData) : Prop where
  pl : zJt d = true
  dep : d.depth ≤ k
  shw : d.showable = true
  len : d.shown.length ≤ B
theorem Fit.mono {k B k' B' : Nat} {d : PyData} (h : Fit k B d) (h1 : k ≤ k') (h2 : B ≤ B') : Fit k' B' d := ⟨h.pl, Nat.le_trans h.dep h1, h.shw, Nat.le_trans h.len h2⟩
theorem Fit.shaped {k B : Nat} {d : PyData} (h : Fit k B d) (hc : d.canLay0 = true) (hk : k ≤ 64) : SeqAt.shaped d = true := by
  unfold SeqAt.shaped
  simp only [hc, Bool.true_and, decide_eq_true_eq]
  exact Nat.le_trans h.dep hk
theorem Fit.repr {k B : Nat} {d : PyData} (h : Fit k B d) (hk : k ≤ 64) (hB : B ≤ 16777216) : xYp d = true := by
  unfold xYp
  simp only [h.shw, Bool.true_and, h.pl, Bool.and_true, Bool.and_eq_true, decide_eq_true_eq]
  exact ⟨Nat.le_trans h.dep hk, Nat.le_trans h.len hB⟩
theorem wQr {b : Bool} : Fit 0 5 (.bool b) := ⟨by simp [zJt], by simp [PyData.depth], by simp [PyData.showable], by cases b <;> simp only [PyData.shown] <;> decide⟩
def isI : PyData → Bool
  | .int _ => true
  | .bool _ => true
  | _ => false
def isB : PyData → Bool
  | .bool _ => true
  | _ => false
def isS : PyData → Bool
  | .str _ => true
  | _ => false
def isL : PyData → Bool
  | .list _ => true
  | _ => false
def isT : PyData → Bool
  | .tuple _ => true
  | _ => false
def isD : PyData → Bool
  | .dict _ => true
  | _ => false
def kindB (t : String) (x : PyData) : Option Bool := (tyName x).bind fun t0 => kitB t0 t
def zJu : PyData → Bool
  | .dict es => zZi es
  | _ => true
@[simp] theorem vQr {x : PyData} {t : String} : ((tyName x).bind fun t0 => (kitB t0 t).map fun b => EV.d (.bool b)) = (kindB t x).map fun b => EV.d (.bool b) := by
  unfold kindB
  cases tyName x <;> rfl
@[simp] theorem wUx {x : PyData} : kindB "int" x = if zJu x then some (isI x) else none := by
  cases x with
  | dict es =>
    show Option.bind (if zZi es = true then some "dict" else none) (fun t0 => kitB t0 "int") = if zZi es = true then some (isI (.dict es)) else none
    by_cases h : zZi es = true
    · rw [if_pos h, if_pos h]
      dsimp only [isI, isB, isS, isL, isT, isD]
      decide +kernel
    · rw [if_neg h, if_neg h]
      rfl
  | _ =>
    simp only [kindB, tyName, zJu, isI, isB, isS, isL, isT, isD, if_true]
    decide +kernel
@[simp] theorem wWz {x : PyData} : kindB "bool" x = if zJu x then some (isB x) else none := by
  cases x with
  | dict es =>
    show Option.bind (if zZi es = true then some "dict" else none) (fun t0 => kitB t0 "bool") = if zZi es = true then some (isB (.dict es)) else none
    by_cases h : zZi es = true
    · rw [if_pos h, if_pos h]
      dsimp only [isI, isB, isS, isL, isT, isD]
      decide +kernel
    · rw [if_neg h, if_neg h]
      rfl
  | _ =>
    simp only [kindB, tyName, zJu, isI, isB, isS, isL, isT, isD, if_true]
    decide +kernel
@[simp] theorem wUw {x : PyData} : kindB "str" x = if zJu x then some (isS x) else none := by
  cases x with
  | dict es =>
    show Option.bind (if zZi es = true then some "dict" else none) (fun t0 => kitB t0 "str") = if zZi es = true then some (isS (.dict es)) else none
    by_cases h : zZi es = true
    · rw [if_pos h, if_pos h]
      dsimp only [isI, isB, isS, isL, isT, isD]
      decide +kernel
    · rw [if_neg h, if_neg h]
      rfl
  | _ =>
    simp only [kindB, tyName, zJu, isI, isB, isS, isL, isT, isD, if_true]
    decide +kernel
@[simp] theorem wWx {x : PyData} : kindB "list" x = if zJu x then some (isL x) else none := by
  cases x with
  | dict es =>
    show Option.bind (if zZi es = true then some "dict" else none) (fun t0 => kitB t0 "list") = if zZi es = true then some (isL (.dict es)) else none
    by_cases h : zZi es = true
    · rw [if_pos h, if_pos h]
      dsimp only [isI, isB, isS, isL, isT, isD]
      decide +kernel
    · rw [if_neg h, if_neg h]
      rfl
  | _ =>
    simp only [kindB, tyName, zJu, isI, isB, isS, isL, isT, isD, if_true]
    decide +kernel
@[simp] theorem wKg {x : PyData} : kindB "tuple" x = if zJu x then some (isT x) else none := by
  cases x with
  | dict es =>
    show Option.bind (if zZi es = true then some "dict" else none) (fun t0 => kitB t0 "tuple") = if zZi es = true then some (isT (.dict es)) else none
    by_cases h : zZi es = true
    · rw [if_pos h, if_pos h]
      dsimp only [isI, isB, isS, isL, isT, isD]
      decide +kernel
    · rw [if_neg h, if_neg h]
      rfl
  | _ =>
    simp only [kindB, tyName, zJu, isI, isB, isS, isL, isT, isD, if_true]
    decide +kernel
@[simp] theorem wWy {x : PyData} : kindB "dict" x = if zJu x then some (isD x) else none := by
  cases x with
  | dict es =>
    show Option.bind (if zZi es = true then some "dict" else none) (fun t0 => kitB t0 "dict") = if zZi es = true then some (isD (.dict es)) else none
    by_cases h : zZi es = true
    · rw [if_pos h, if_pos h]
      dsimp only [isI, isB, isS, isL, isT, isD]
      decide +kernel
    · rw [if_neg h, if_neg h]
      rfl
  | _ =>
    simp only [kindB, tyName, zJu, isI, isB, isS, isL, isT, isD, if_true]
    decide +kernel
@[simp] theorem wUs : zJu .none = true := rfl
@[simp] theorem wUv {b : Bool} : zJu (.bool b) = true := rfl
@[simp] theorem wUu {b : Int} : zJu (.int b) = true := rfl
@[simp] theorem wUr {b : Str} : zJu (.str b) = true := rfl
@[simp] theorem wUt {b : List PyData} : zJu (.list b) = true := rfl
@[simp] theorem wUq {b : List PyData} : zJu (.tuple b) = true := rfl
@[simp] theorem xQa {b : List (PyData × PyData)} : zJu (.dict b) = zZi b := rfl
@[simp] theorem wKc : zZi [] = true := rfl
theorem Fit.zJu {k B : Nat} {d : PyData} (h : Fit k B d) : zJu d = true := by
  cases d with
  | dict es =>
    have := h.pl
    simp only [zJt] at this
    show zZi es = true
    clear h
    induction es with
    | nil => rfl
    | cons p es ih =>
      obtain ⟨a, b⟩ := p
      simp only [zVm, Bool.and_eq_true] at this
      unfold zZi
      rw [List.all_cons, Bool.and_eq_true]
      exact ⟨this.1, ih this.2.2⟩
  | _ => rfl
theorem xWc {lo : Int} : yK8 lo 0 = [] := rfl
theorem xWd {lo : Int} {n : Nat} : yK8 lo (n + 1) = .int lo :: yK8 (lo + 1) n := by
  unfold yK8
  rw [List.range_succ_eq_map, List.map_cons, List.map_map]
  congr 1
  · simp
  · refine List.map_congr_left fun i _ => ?_
    simp only [Function.comp]
    congr 1
    omega
section
variable {X : Exn → Mem → Prop} {F : Fl → Mem → Prop} {E : EV → Mem → Prop}
theorem xGv {g : PyData → Pg Unit} {b : Pg Fl} (I : Int → Mem → Prop) : ∀ (n : Nat) (lo : Int) {m : Mem}, I lo m →
    (∀ i m, lo ≤ i → i < lo + n → I i m → W (g (.int i)) m X fun _ m1 => W b m1 X fun fl m2 => match fl with
      | .next => I (i + 1) m2
      | .cont => I (i + 1) m2
      | .brk => F .next m2
      | .ret v => F (.ret v) m2) → (∀ m, I (lo + n) m → F .next m) → W (forL g b (yK8 lo n)) m X F
  | 0, lo, m, h0, _, h2 => by
    rw [xWc]
    exact ⟨h2 m (by simpa using h0)⟩
  | n + 1, lo, m, h0, h1, h2 => by
    rw [xWd]
    show W (Pg.bind (g (.int lo)) _) m X F
    rw [zQ8]
    have hI : ∀ m, I (lo + 1) m → W (forL g b (yK8 (lo + 1) n)) m X F := fun m h => xGv I n (lo + 1) h (fun i m a b => h1 i m (by omega) (by omega)) fun m h => h2 m (by rw [show lo + ((n + 1 : Nat) : Int) = lo + 1 + (n : Int) by omega]; exact h)
    refine (h1 lo m (Int.le_refl _) (by omega) h0).mono fun _ m1 q => ?_
    rw [zQ8]
    refine q.mono fun fl m2 q => ?_
    cases fl with
    | next => exact hI m2 q
    | cont => exact hI m2 q
    | brk => exact ⟨q⟩
    | ret v => exact ⟨q⟩
end
@[simp] theorem wK6 {j : Int} : xYo j = true ↔ -4611686018427387904 ≤ j ∧ j < 4611686018427387904 := by
  unfold xYo
  simp
@[simp] theorem wUb {j : Int} : wUc [.d (.int j)] = if xYo j then some (yK8 0 j.toNat) else none := rfl
theorem xGp {α : Type} {xs : List α} {i : Int} (h : 0 ≤ i) (h2 : i < xs.length) : ∃ d, atI xs i = some d ∧ d ∈ xs := by
  rw [wXl h]
  exact ⟨_, List.getElem?_eq_getElem (by omega), List.getElem_mem _⟩
theorem menu {α : Type} {xs : List α} {i : Int} {P : α → Prop} (h : 0 ≤ i) (h2 : i < xs.length) (g : ∀ d, d ∈ xs → P d) : ∃ d, atI xs i = some d ∧ P d := by
  obtain ⟨d, e, q⟩ := xGp h h2
  exact ⟨d, e, g d q⟩
theorem wZv : ∀ {xs : List PyData} {x : PyData}, yQ4 xs = true → x ∈ xs → zJt x = true
  | y :: ys, x, h, hx => by
    simp only [yQ4, Bool.and_eq_true] at h
    rcases List.mem_cons.mp hx with q | q
    · rw [q]
      exact h.1
    · exact wZv h.2 q
theorem xYh : ∀ {xs : List PyData} {x : PyData}, PyData.showableAll xs = true → x ∈ xs → x.showable = true
  | y :: ys, x, h, hx => by
    simp only [PyData.showableAll, Bool.and_eq_true] at h
    rcases List.mem_cons.mp hx with q | q
    · rw [q]
      exact h.1
    · exact xYh h.2 q
theorem xU8 : ∀ {xs : List PyData} {x : PyData}, x ∈ xs → x.depth ≤ PyData.depthAll xs
  | y :: ys, x, hx => by
    simp only [PyData.depthAll]
    rcases List.mem_cons.mp hx with q | q
    · rw [q]
      exact Nat.le_max_left _ _
    · exact Nat.le_trans (xU8 q) (Nat.le_max_right _ _)
theorem xZc : ∀ {xs : List PyData} {x : PyData}, x ∈ xs → x.shown.length ≤ piled (PyData.shownAll xs)
  | y :: ys, x, hx => by
    simp only [PyData.shownAll, piled_cons]
    rcases List.mem_cons.mp hx with q | q
    · rw [q]
      omega
    · have := xZc q
      omega
theorem Fit.tup_mem {k B : Nat} {xs : List PyData} {x : PyData} (h : Fit k B (.tuple xs)) (hx : x ∈ xs) : Fit k B x := by
  obtain ⟨h1, h2, h3, h4⟩ := h
  simp only [zJt] at h1
  simp only [PyData.depth] at h2
  simp only [PyData.showable] at h3
  simp only [PyData.shown] at h4
  have := xU8 hx
  exact ⟨wZv h1 hx, by omega, xYh h3 hx, Nat.le_trans (xZc hx) (Nat.le_trans (piled_le_tupleText _) h4)⟩
theorem wQi {n : Nat} {g : Fn} (h : ∀ ns : List Int, ns.length ≤ n → (∀ z ∈ ns, Builtin.Int.intBits z ≤ 1048576) → W (g [.d (yJ6 ns)]) ⟨[], []⟩ noX fun v _ => v = .d (.bool true)) : vXq n g := fun ns h1 h2 => by
  have z := h ns h1 h2
  have z := z.go
  cases e : g [.d (yJ6 ns)] ⟨[], []⟩ with
  | bad =>
    rw [e] at z
    exact z.elim
  | thr x m =>
    rw [e] at z
    exact z.elim
  | ok v m =>
    rw [e] at z
    have z : v = .d (.bool true) := z
    exact ⟨m, by rw [z]⟩
theorem wQy {ns : List Int} {k : Nat} : cutD (ns.map PyData.int) none (some (k : Int)) = (ns.take k).map PyData.int := by
  unfold cutD
  rw [HT.sIx_nat, HT.sIx_none, List.drop_zero, Nat.sub_zero, List.length_map, ← List.map_take]
  by_cases h : k ≤ ns.length
  · rw [Nat.min_eq_left h]
  · rw [Nat.min_eq_right (by omega), List.take_of_length_le (Nat.le_refl _), List.take_of_length_le (by omega)]
@[simp] theorem wUd {b : Bool} : xYp (.bool b) = true := wQr.repr (by decide) (by decide)
theorem yZr {X : Exn → Mem → Prop} {f g : Pg Fl} {m : Mem} {F : Fl → Mem → Prop} (I : Mem → Prop) (h1 : W f m X fun fl m' => match fl with
    | .next => I m'
    | .brk => F .brk m'
    | .cont => F .cont m'
    | .ret v => F (.ret v) m') (h2 : ∀ m', I m' → W g m' X F) : W (zQz f g) m X F :=
  xGu.mpr (h1.mono fun fl m' q => by
    cases fl with
    | next => exact h2 m' q
    | brk => exact q
    | cont => exact q
    | ret v => exact q)
end Ev

namespace Ev
open PySem PySem.Spec PyProof.Rows L2

section
variable {X : Cx} {B : XBt} {e c : Expr} {es : List Expr} {pos p : Pos} {f : Pg EV} {tc : Pg Bool} {fb : Pg Fl}
def vKz (i : Nat) : Pg PyData := fun m => match m.sl[i]? with
  | some (some (.ob (.lst xs))) => match xs[xs.length - 1]? with
    | some d => .ok d (setM m i (.ob (.lst xs.dropLast)))
    | none => .bad
  | _ => .bad
theorem RA.dropLast {K : PySem.W.Frag} {F : Hp} {ds : List PyData} {vs : List V} (a : RA K F ds vs) : RA K F ds.dropLast vs.dropLast := by
  rw [List.dropLast_eq_take, List.dropLast_eq_take, a.len]
  exact a.take _
def wGp (i : Nat) : EV → Pg Fl
  | .new (.lst ys) => fun m => match m.sl[i]? with
    | some (some (.ob (.lst xs))) => if xs.length + ys.length ≤ 16777216 then .ok .next (setM m i (.ob (.lst (xs ++ ys)))) else .bad
    | _ => .bad
  | _ => .stuck
def xJn (i : Nat) (f : Pg EV) : Pg Fl := .bind (xZy i) fun _ => .bind f fun v => wGp i v
theorem yHe {x : Str} {p1 p2 p3 : Pos} (i : Nat) (hi : X.N[i]? = some x) (hv : Vis X.env.scope x) (he : Snd X B e f)
    (hd : (x == ("__debug__" : Str)) = false := by decide) (hcd : (x == ("__classdict__" : Str)) = false := by decide)
    (hbase : attributeBase (.Name x p1) "extend" X.env (eval (.Name x p1) X.env) = eval (.Name x p1) X.env := by rfl)
    (hfew : ((backTo p3 (starEach [e] X.env)).all (fun x => !x.1) && (backToKw p3 (keywordEach [] X.env)).all (fun x => x.1.isSome) && decide ([e].length + ([] : List Keyword).length + (if ([] : List Keyword).isEmpty then 0 else 1) < 30)) = true := by rfl)
    (hline : (p2.endLine == p3.line) = true := by rfl) (hst : starEach [e] X.env = (false, eval e X.env) :: starEach [] X.env := by rfl) :
    xXi X B (.Expr (.Call (.Attribute (.Name x p1) "extend" p2) [e] [] p3) pos) (xJn i f) := by
  intro w D r hw
  refine yJz (ps_expr (pe_bm PySem.F.plainAttrs_list PySem.F.slot_list_extend PySem.F.type_list_extend mt_extend (pe_var hi hv hd hcd) (pa_cons zHk pa_nil hst) rfl hfew hline hst rfl) rfl) ?_
  obtain ⟨us, o1, hw⟩ := xVy (wp_bind hw)
  obtain ⟨u, hu, b0, e0, ⟨vs0, k0, _⟩, _⟩ := r.sl i _ o1
  refine ⟨u, hu, ?_, ?_⟩
  · subst e0
    exact .inl ⟨rfl, vs0, .inl (.inl k0)⟩
  refine zQ0 he r hw fun v w1 y e1 f1 r1 re h1 => ?_
  cases v with
  | d _ => exact h1.elim
  | pk _ _ => exact h1.elim
  | cell _ => exact h1.elim
  | new o =>
    cases o with
    | dic _ => exact h1.elim
    | ins _ _ => exact h1.elim
    | lst ys =>
      obtain ⟨a, ea, ⟨ws, hH, rw2⟩, hF, hro, hz, no⟩ := re
      subst ea
      have h1 : ((match w1.m.sl[i]? with
        | some (some (.ob (.lst xs))) => if xs.length + ys.length ≤ 16777216 then .ok .next (setM w1.m i (.ob (.lst (xs ++ ys)))) else .bad
        | _ => .bad) : Res Fl).wp (yQw X.K w D) (XW X.K B w1) := h1
      split at h1
      · rename_i xs g1
        split at h1
        · rename_i hl
          obtain ⟨z, g3, b, g4, ⟨vs, g5, g6⟩, _⟩ := r1.sl i _ g1
          rw [e1, hu] at g3
          cases g3
          subst g4
          obtain ⟨r3, f3⟩ := xJl (o' := .lst (xs ++ ys)) (u := .lst (vs ++ ws)) r1 g1 (by rw [e1]; exact hu) ⟨_, upd_same, g6.app rw2⟩
          refine ⟨b, a, vs, ws, rfl, rfl, g5, hH, by rw [← g6.len, ← rw2.len, sizeLine_eq]; exact hl, ?_⟩
          have q := h1 _ rfl ((f1.s r).trans f3) r3
          rw [← e1]
          exact q
        · exact h1.elim
      · exact h1.elim

def wW0 (ns : List Int) : List Int := ns.mergeSort fun a b => decide (a ≤ b)
def wVk : List PyData → Option EV
  | [.list xs] => (intsOf xs).map fun ns => .fresh ((wW0 ns).map .int)
  | _ => none
def xZ2 : List PyData → Option EV
  | [.dict es] => if zZi es then some (.fresh (es.map (·.1))) else none
  | ds => wQn ds
theorem RK.keys {K : PySem.W.Frag} {F : Hp} : ∀ {es : List (PyData × PyData)} {kvs : List (Key × V)}, RK K F es kvs → RA K F (es.map (·.1)) (kvs.map fun kv => kV kv.1)
  | _, _, .nil => .nil
  | _, _, .cons (k := k) _ t => .cons (by cases k; exact .int _; exact .str _) (RK.keys t)
theorem xH8 (C : Ctx X B) : BOk X (.type "list") xZ2 := by
  intro w ds xs v Q r h e k
  cases h with
  | nil => cases e
  | @cons d x ds xs h t =>
    cases t with
    | cons a b => exact xY9 w _ _ v Q r (.cons h (.cons a b)) (by cases d <;> exact e) k
    | nil =>
      cases d with
      | dict es =>
        have e : (if zZi es then some (EV.fresh (es.map (·.1))) else none) = some v := e
        split at e
        · rename_i hp
          cases e
          obtain ⟨a, kvs, rfl, h1, h2⟩ := h.dic r.sub hp
          exact ⟨_, call_listD C.calm, a, kvs, rfl, .inl h1, fun p hp => k.lst r h2.keys hp⟩
        · cases e
      | _ => exact xY9 w _ _ v Q r (.cons h .nil) e k
end
section
variable {m : Mem} {X : Exn → Mem → Prop} {F : Fl → Mem → Prop} {E : EV → Mem → Prop}
@[simp] theorem vZ9 {i : Nat} {f : Pg EV} : W (xJn i f) m X F ↔ W (xZy i) m X fun _ m0 => W f m0 X fun v m1 => W (wGp i v) m1 X F := by
  unfold xJn
  simp only [zQ8]
@[simp] theorem vV0 {i : Nat} {ys : List PyData} {sl : List (Option SV)} {cs : List Ob} : W (wGp i (.new (.lst ys))) ⟨sl, cs⟩ X F ↔ ∃ xs, sl[i]? = some (some (.ob (.lst xs))) ∧ xs.length + ys.length ≤ 16777216 ∧ F .next ⟨sl.set i (some (.ob (.lst (xs ++ ys)))), cs⟩ := by
  rw [yQv]
  unfold wGp
  dsimp only
  split
  · rename_i xs e
    split
    · rename_i hl
      exact ⟨fun h => ⟨xs, e, hl, h⟩, fun ⟨ys, e2, _, h⟩ => by rw [e] at e2; cases e2; exact h⟩
    · rename_i hl
      exact ⟨fun h => h.elim, fun ⟨ys, e2, h, _⟩ => by rw [e] at e2; cases e2; exact hl h⟩
  · rename_i h
    exact ⟨fun h => h.elim, fun ⟨xs, e, _⟩ => h xs e⟩
@[simp] theorem wW8 {xs : List PyData} : wVk [.list xs] = (intsOf xs).map fun ns => .fresh ((wW0 ns).map .int) := rfl
@[simp] theorem wGe {es : List (PyData × PyData)} : xZ2 [.dict es] = if zZi es then some (.fresh (es.map (·.1))) else none := rfl
@[simp] theorem wGd {xs : List PyData} : xZ2 [.list xs] = some (.fresh xs) := rfl
@[simp] theorem wGc {xs : List PyData} : xZ2 [.tuple xs] = some (.fresh xs) := rfl
end
end Ev

namespace Ev
open PySem PySem.Spec PyProof.Rows L2

theorem wXg {K : PySem.W.Frag} {x qual : Str} {params : Arguments} {body : List Stmt} {scope : Scope} {kws : List (Str × V)} {f : Addr} {fd : FuncData} {ps : List Str} (F : FunD K x qual params body scope [] kws f fd) (n : Nat) (ks : List Str) (ms : List (Str × V)) (is : List Nat) (hk : kws ≠ []) (hms : ∀ q ∈ ms, q ∈ kws)
    (h : ∀ (D : Addr) (doc pm : Value) (an : Option Addr) (cdv ct : Value) (us mv ws : List Value), us.length = n → mv.length = ms.length → ws.length = ks.length →
      KwChain D ((ms.map (·.1)).zip mv) (bindArgs (PySem.W.fnOf x qual params body scope .none (.ref D) doc pm an cdv ct) ⟨us, ks.zip ws⟩) (ps.zip (pick is (us ++ ws ++ mv)))) :
    ∃ mv : List Value, Vals (ms.map (·.2)) mv ∧ ∀ (s : Shared) (us ws : List Value), K.In s.heap → us.length = n → ws.length = ks.length → BindsTo s fd ⟨us, ks.zip ws⟩ (ps.zip (pick is (us ++ ws ++ mv))) := by
  obtain ⟨oc, od, dV, kV, doc, pm, an, cdv, ct, osl, rfl, lk, hcd, hD, hK⟩ := F.ex
  rcases hD with ⟨_, rfl⟩ | ⟨e, _⟩
  · rcases hK with e | ⟨D, rfl, hq⟩
    · exact absurd e hk
    · obtain ⟨mv, hl, rk, hks⟩ := kwd_vals (ms := ms) fun q hm => hq q (hms q hm)
      exact ⟨mv, rk, fun s us ws X l1 l2 => BindsTo.of_looks fun M => KwChain.looks X hks (h D doc pm an cdv ct us mv ws l1 hl l2)⟩
  · exact absurd rfl e
def Chain {α : Type} (D : Addr) : List (Str × Value) → Sem α → Sem α → Prop
  | [], t, r => t = r
  | q :: l, t, r => ∃ (β γ : Type) (k1 : Option Value → Sem β) (k2 : β → Sem γ) (k3 : γ → Sem α) (a : β), t = ((nsGet D q.1 >>= k1) >>= k2) >>= k3 ∧ k1 (some q.2) = pure a ∧ Chain D l (k2 a >>= k3) r
theorem Chain.go {α : Type} {K : PySem.W.Frag} {M : Model} {D : Addr} {A : Around} {Q : α → Shared → Prop} {E : Value → Shared → Prop} {s : Shared} (X : K.In s.heap) : ∀ {l : List (Str × Value)} {t r : Sem α}, (∀ q ∈ l, PySem.W.nsIn K D q.1 = some (some q.2)) → Chain D l t r → wpAny M A r Q E s → wpAny M A t Q E s
  | [], t, r, _, e, h => by
    have e : t = r := e
    rw [e]
    exact h
  | q :: l, t, r, hl, e, h => by
    obtain ⟨β, γ, k1, k2, k3, a, e1, e2, e3⟩ := e
    have l1 : PySem.W.Looks M s.heap (nsGet D q.1 >>= k1) a := (PySem.W.looks_nsIn X (hl q (List.mem_cons_self ..))).andThen (PySem.W.Looks.of_pure e2)
    rw [e1, bind_assoc]
    exact wpAny_bind (l1.here (Chain.go X (fun p hp => hl p (List.mem_cons_of_mem _ hp)) e3 h))
def wXo (s : Shared) (fd : FuncData) (args : Args) (b : List (Str × Value)) (pv : Str) (rest : List Value) : Prop := ∀ (M : Model) (A : Around) (Q : List (Str × Value) → Shared → Prop) (E : Value → Shared → Prop), wpAny M A (newTuple rest >>= fun t => pure (b ++ [(pv, t)])) Q E s → wpAny M A (bindArgs fd args) Q E s
theorem wK2 {full : Bool} {K : PySem.W.Frag} {x qual : Str} {params : Arguments} {body : List Stmt} {scope : Scope} {kws : List (Str × V)} {f : Addr} {fd : FuncData} {ps : List Str} {pv : Str} (F : FunD K x qual params body scope [] kws f fd) (n : Nat) (ks : List Str) (ms : List (Str × V)) (is : List Nat) (hk : kws ≠ []) (hms : ∀ q ∈ ms, q ∈ kws)
    (h : ∀ (D : Addr) (doc pm : Value) (an : Option Addr) (cdv ct : Value) (us mv ws rest : List Value), us.length = n → mv.length = ms.length → ws.length = ks.length → (full = true ∨ rest = []) →
      Chain D ((ms.map (·.1)).zip mv) (bindArgs (PySem.W.fnOf x qual params body scope .none (.ref D) doc pm an cdv ct) ⟨us ++ rest, ks.zip ws⟩) (newTuple rest >>= fun t => pure (ps.zip (pick is (us ++ ws ++ mv)) ++ [(pv, t)]))) :
    ∃ mv : List Value, Vals (ms.map (·.2)) mv ∧ ∀ (s : Shared) (us ws rest : List Value), K.In s.heap → us.length = n → ws.length = ks.length → (full = true ∨ rest = []) → wXo s fd ⟨us ++ rest, ks.zip ws⟩ (ps.zip (pick is (us ++ ws ++ mv))) pv rest := by
  obtain ⟨oc, od, dV, kV, doc, pm, an, cdv, ct, osl, rfl, lk, hcd, hD, hK⟩ := F.ex
  rcases hD with ⟨_, rfl⟩ | ⟨e, _⟩
  · rcases hK with e | ⟨D, rfl, hq⟩
    · exact absurd e hk
    · obtain ⟨mv, hl, rk, hks⟩ := kwd_vals (ms := ms) fun q hm => hq q (hms q hm)
      exact ⟨mv, rk, fun s us ws rest X l1 l2 l3 M A Q E hw => Chain.go X hks (h D doc pm an cdv ct us mv ws rest l1 hl l2 l3) hw⟩
  · exact absurd rfl e
theorem wVm {K : PySem.W.Frag} {x : Str} {st : Stmt} {kws : List (Str × V)} {f : Addr} {fd : FuncData} (F : FunD K x x (defArgs st) (defBody st) (defScope st) [] kws f fd) : Fun K x x st f fd := by
  obtain ⟨oc, od, dV, kV, doc, pm, an, cdv, ct, osl, e, lk, hcd, hD, hK⟩ := F.ex
  rcases hD with ⟨_, rfl⟩ | ⟨z, _⟩
  · exact ⟨⟨oc, od, kV, doc, pm, an, cdv, ct, osl, e, lk, hcd⟩, F.kp⟩
  · exact absurd rfl z
structure HasD (X : Cx) (k : Nat) (x : Str) (ps : List Str) (n : Nat) (ks : List Str) (is : List Nat) (ds : List PyData) (g : Fn) : Prop where
  ex : ∃ (f : Addr) (fd : FuncData) (dv : List Value) (dvs : List V), FnG X.prog X.w X.K X.mg X.base k f fd ps (spG X.K ps.length g) ∧ X.mg x = some (.ref f) ∧ PySem.W.keepIn X.K (.ref f) = true ∧ Vals dvs dv ∧ (∀ F : Hp, RA X.K F ds dvs) ∧
    ∀ (s : Shared) (us ws : List Value), X.K.In s.heap → us.length = n → ws.length = ks.length → BindsTo s fd ⟨us, ks.zip ws⟩ (ps.zip (pick is (us ++ ws ++ dv)))
def dAV (ds : List PyData) : List AV := ds.map .d
theorem xX1 {K : PySem.W.Frag} {w : Wd} : ∀ {ds : List PyData} {vs : List V}, RA K w.F ds vs → Paired (RV K w) (dAV ds) vs
  | _, _, .nil => .nil
  | _, _, .cons h t => .cons h (xX1 t)
section
variable {X : Cx} {B : XBt} {e : Expr} {es : List Expr} {pos p : Pos} {k : Nat} {ps : List Str} {x pv : Str}
def zVv (g : Fn) (n m q : Nat) (is : List Nat) (ds : List PyData) (fa fk : Pg (List AV)) : Pg EV := .bind fa fun vs => .bind fk fun zs => if vs.length = n ∧ zs.length = m ∧ (pick is (vs ++ zs ++ dAV ds)).length = q then zJ1 g (pick is (vs ++ zs ++ dAV ds)) else .stuck
def xHx (l : List AV) : Option (List PyData) := match dataOf l with
  | some xs => if yY9 xs then some xs else none
  | none => none
theorem xGi {g : Fn} {n : Nat} {is : List Nat} {ks : List Str} {ds : List PyData} {w w2 : Wd} {vs zs : List AV} {xs ys : List V} {Q : VK} {pins : List (Addr × Obj)} {s : Shared} {us ws : List Value} (C : Ctx X B) (h : HasD X k x ps n ks is ds g) (hr : Room k X.A) {f : Addr}
    (hm : X.mg x = some (.ref f)) (I : L2.Inv X pins w2.sg w2.H s) (ru : Vals xs us) (rw : Vals ys ws) (e2 : w2.sg = w.sg) (fo : FolE w w2) (r2 : Rep X.K w2) (rv : Paired (RV X.K w2) vs xs) (rz : Paired (RV X.K w2) zs ys)
    (hw : ((if vs.length = n ∧ zs.length = ks.length ∧ (pick is (vs ++ zs ++ dAV ds)).length = ps.length then zJ1 g (pick is (vs ++ zs ++ dAV ds)) else .stuck : Pg EV) w2.m).wp (zYh X.K w Q) (XW X.K B w2)) :
    wpAny (model X.prog X.w) X.A (call (.ref f) us (ks.zip ws)) (EP X pins w2.sg Q) X.xe s := by
  obtain ⟨f', fd, dv, dvs, F, hm', hk, hdv, hra, hb⟩ := h.ex
  rw [hm] at hm'
  cases hm'
  split at hw
  · rename_i hl
    obtain ⟨l1, l2, l3⟩ := hl
    have q2 : (zJ1 g (pick is (vs ++ zs ++ dAV ds)) w2.m).wp (zYh X.K w2 Q) (XW X.K B w2) := hw.imp (fun v m' z w3 y em es f2 r2 re => z w3 y em (es.trans e2) (fo.trans f2) r2 re) fun _ _ z => z
    have pv := zVq (zZq (zZq rv rz) (xX1 (hra w2.F))) is
    have pu := zHb (zVq (zZq (zZq (zZ9 ru) (zZ9 rw)) (zZ9 hdv)) is)
    have sp := xQn (n := ps.length) r2 l3 pv q2
    exact wpAny_call (wK3 C F hr (hb s us ws I.kIn ((zZt (zZ9 ru)).symm.trans ((zZt rv).symm.trans l1)) ((zZt (zZ9 rw)).symm.trans ((zZt rz).symm.trans l2))) I pu sp)
  · exact hw.elim
theorem yQ9 {α β : Type} {P : α → β → Prop} : ∀ {as : List α} {xs : List β} (n : Nat), Paired P as xs → Paired P (as.take n) (xs.take n)
  | _, _, 0, _ => by rw [List.take_zero, List.take_zero]; exact .nil
  | _, _, n + 1, .nil => by rw [List.take_nil, List.take_nil]; exact .nil
  | _, _, n + 1, .cons h a => .cons h (yQ9 n a)
theorem yZa {α β : Type} {P : α → β → Prop} : ∀ {as : List α} {xs : List β} (n : Nat), Paired P as xs → Paired P (as.drop n) (xs.drop n)
  | _, _, 0, a => a
  | _, _, n + 1, .nil => by rw [List.drop_nil, List.drop_nil]; exact .nil
  | _, _, n + 1, .cons h a => yZa n a
theorem zX1 {g : Fn} {n m q : Nat} {is : List Nat} {ks : List Str} {ds : List PyData} {fa fk : Pg (List AV)} {kws : List Keyword} (C : Ctx X B) (h : HasD X k x ps n ks is ds g) (hm : ks.length = m) (hq : ps.length = q) (hr : Room k X.A) (hg : Gl X x) (ha : xKl X B (e :: es) fa) (hkw : wXq X B kws fk)
    (hall : (backToKw pos (keywordEach kws X.env)).all (·.1.isSome) = true := by rfl) (hks : (backToKw pos (keywordEach kws X.env)).filterMap (·.1) = ks := by rfl) (hdb : (x == ("__debug__" : Str)) = false := by decide)
    (he : starEach (e :: es) X.env = (false, eval e X.env) :: starEach es X.env := by rfl) (hpl : ((backTo pos (starEach (e :: es) X.env)).any (·.1) || (backToKw pos (keywordEach kws X.env)).any (·.1.isNone)) = false := by rfl) :
    Snd X B (.Call (.Name x p) (e :: es) kws pos) (zVv g n m q is ds fa fk) := by
  subst hm hq
  obtain ⟨f, fd, dv, dvs, F, hm, hk, hdv, hra, hb⟩ := id h.ex
  intro w Q r hw
  refine ⟨fun pins s I => ?_⟩
  refine wpAny_Call_Name_kw (ld_glob I hg hm ?_ hdb)
  have wa : WA X (e :: es) w.sg w.H fun xs H1 => WK X kws w.sg H1 fun ys H2 => ∃ w2 : Wd, w2.H = H2 ∧ w2.sg = w.sg ∧ ∀ pins s us ws, L2.Inv X pins w2.sg w2.H s → Vals xs us → Vals ys ws → wpAny (model X.prog X.w) X.A (call (.ref f) us (ks.zip ws)) (EP X pins w2.sg Q) X.xe s := by
    refine zUz ha r hw fun vs w1 xs e1 f1 r1 rv q => ?_
    rw [← e1]
    refine yZz hkw r1 q fun zs w2 ys e2 f2 r2 rz q2 => ?_
    exact ⟨w2, rfl, e2, fun pins s us ws I ru rw => xGi C h hr hm I ru rw (e2.trans e1) (f1.trans f2) r2 (yKu f2 rv) rz q2⟩
  refine PySem.W.callWith_KW (h₀ := X.base) I.ok.mod.kin hk hall (thn (wa.go pos pins s I) fun us s1 ⟨vs, H1, I1, r1, q⟩ => ?_) hpl he
  refine thn (q.go pos pins s1 I1) fun ws s2 ⟨zs, H2, I2, rz, w2, eH, eS, q2⟩ => ⟨I2.kIn, ?_⟩
  rw [hks]
  have z := q2 pins s2 us ws (by rw [eS, eH]; exact I2) r1 rz
  rw [eS] at z
  exact z
def xKr : EV → Option (List AV)
  | .d (.list xs) => some (dAV xs)
  | .d (.tuple xs) => some (dAV xs)
  | .new (.lst xs) => some (dAV xs)
  | .pk _ (.lst xs) => some (dAV xs)
  | _ => none
def yKd (f : Pg EV) : Pg (List AV) := .bind f fun v => zKz (xKr v)
theorem yQe {f : Pg EV} {p' : Pos} (h : Snd X B e f) (hs : starEach [.Starred e p'] X.env = [(true, eval e X.env)] := by rfl) : xKl X B [.Starred e p'] (yKd f) := by
  intro w Q r hw
  refine xKm (StX.pa_star zHk pa_nil hs) ?_
  refine zQ0 h r hw fun v w1 y e1 f1 r1 re h1 => ?_
  obtain ⟨as, ea, q⟩ := zXn h1
  have fin : ∀ {a : Addr} {vs : List V} {ds : List PyData}, (SqT X.K w1.H a vs ∨ SqL X.K w1.H a vs) → RA X.K w1.F ds vs → as = dAV ds → ∃ a' xs, V.ref a = V.ref a' ∧ (SqT X.K w1.H a' xs ∨ SqL X.K w1.H a' xs) ∧ Q (xs ++ []) w1.H := fun {a vs ds} hq ra e => by
    subst e
    refine ⟨a, vs, rfl, hq, ?_⟩
    rw [List.append_nil]
    exact q w1 vs rfl e1 f1 r1 (xX1 ra)
  cases v with
  | cell n => cases ea
  | d d =>
    cases d <;> try (cases ea; done)
    · cases ea
      cases re with
      | lst hq ra => exact fin (.inr ((hq.mox r1.sub).sq)) ra rfl
    · cases ea
      cases re with
      | tup hq ra => exact fin (.inl (zZ7 r1.sub hq)) ra rfl
  | new o =>
    cases o <;> try (cases ea; done)
    cases ea
    obtain ⟨a, rfl, ⟨vs, h1, h2⟩, _⟩ := re
    exact fin (.inr (LQ.of h1).sq) h2 rfl
  | pk i o =>
    cases o <;> try (cases ea; done)
    cases ea
    obtain ⟨g1, g2⟩ := re
    obtain ⟨z, g3, a, e0, ⟨vs, h1, h2⟩, _⟩ := r1.sl i _ g1
    rw [g2] at g3
    cases g3
    subst e0
    exact fin (.inr (LQ.of h1).sq) h2 rfl
end

def FMD (K : PySem.W.Frag) (mg : Str → Option Value) (x : Str) (st : Stmt) (kws : List (Str × V)) : Prop := ∃ (f : Addr) (fd : FuncData), FunD K x x (defArgs st) (defBody st) (defScope st) [] kws f fd ∧ mg x = some (.ref f)
section
variable {P : Program} {w : World} {K : PySem.W.Frag} {mg : Str → Option Value} {base : Heap} {x pv : Str} {st : Stmt} {ps : List Str} {kws : List (Str × V)} {g : Fn} {j k q : Nat}
theorem yUe (h : FMD K mg x st kws) (hk : j ≤ k) (ok : ∀ {f : Addr} {fd : FuncData}, Fun K x x st f fd → FnG P w K mg base j f fd ps (spG K ps.length g)) (n : Nat) (ks : List Str) (ms : List (Str × V)) (is : List Nat) (ds : List PyData) (hne : kws ≠ []) (hms : ∀ q ∈ ms, q ∈ kws) (hds : ∀ F : Hp, RA K F ds (ms.map (·.2)))
    (hb : ∀ (D : Addr) (doc pm : Value) (an : Option Addr) (cdv ct : Value) (us mv ws : List Value), us.length = n → mv.length = ms.length → ws.length = ks.length →
      KwChain D ((ms.map (·.1)).zip mv) (bindArgs (PySem.W.fnOf x x (defArgs st) (defBody st) (defScope st) .none (.ref D) doc pm an cdv ct) ⟨us, ks.zip ws⟩) (ps.zip (pick is (us ++ ws ++ mv)))) :
    ∃ (f : Addr) (fd : FuncData) (dv : List Value) (dvs : List V), FnG P w K mg base k f fd ps (spG K ps.length g) ∧ mg x = some (.ref f) ∧ PySem.W.keepIn K (.ref f) = true ∧ Vals dvs dv ∧ (∀ F : Hp, RA K F ds dvs) ∧
      ∀ (s : Shared) (us ws : List Value), K.In s.heap → us.length = n → ws.length = ks.length → BindsTo s fd ⟨us, ks.zip ws⟩ (ps.zip (pick is (us ++ ws ++ dv))) := by
  obtain ⟨f, fd, F, hm⟩ := h
  obtain ⟨mv, rk, hb'⟩ := wXg F n ks ms is hne hms hb
  exact ⟨f, fd, mv, ms.map (·.2), (ok (wVm F)).up hk, hm, F.kp, rk, hds, hb'⟩
def FMS (K : PySem.W.Frag) (mg : Str → Option Value) (x : Str) (st : Stmt) : Prop := ∃ (f : Addr) (fd : FuncData), Fun K x x st f fd ∧ mg x = some (.ref f)
theorem xZ4 {f D : Addr} {oc : Value} {od an : Option Addr} {osl : Array (Option Value)} {doc pm cdv ct : Value} (hm : mg x = some (.ref f)) (l : K.lookup f = some ⟨oc, od, .func (PySem.W.fnOf x x (defArgs st) (defBody st) (defScope st) .none (.ref D) doc pm an cdv ct), osl⟩)
    (c : PySem.W.codeIn K cdv x = true) (k : PySem.W.keepIn K (.ref f) = true) (h : ∀ q ∈ kws, ∃ u, PySem.W.nsIn K D q.1 = some (some u) ∧ RelV q.2 u) : FMD K mg x st kws :=
  ⟨f, _, ⟨⟨oc, od, .none, .ref D, doc, pm, an, cdv, ct, osl, rfl, l, c, .inl ⟨rfl, rfl⟩, .inr ⟨D, rfl, h⟩⟩, k⟩, hm⟩
theorem wYg {f : Addr} {oc kV : Value} {od an : Option Addr} {osl : Array (Option Value)} {doc pm cdv ct : Value} (hm : mg x = some (.ref f)) (l : K.lookup f = some ⟨oc, od, .func (PySem.W.fnOf x x (defArgs st) (defBody st) (defScope st) .none kV doc pm an cdv ct), osl⟩)
    (c : PySem.W.codeIn K cdv x = true) (k : PySem.W.keepIn K (.ref f) = true) : FMS K mg x st := ⟨f, _, fun_mk l c k, hm⟩
theorem yJw {D : Addr} : ∀ q ∈ ([] : List (Str × V)), ∃ u, PySem.W.nsIn K D q.1 = some (some u) ∧ RelV q.2 u := fun q h => by cases h
theorem zJp {D : Addr} {y : Str} {v : V} {l : List (Str × V)} (h : ∃ u, PySem.W.nsIn K D y = some (some u) ∧ RelV v u) (t : ∀ q ∈ l, ∃ u, PySem.W.nsIn K D q.1 = some (some u) ∧ RelV q.2 u) : ∀ q ∈ (y, v) :: l, ∃ u, PySem.W.nsIn K D q.1 = some (some u) ∧ RelV q.2 u := fun q h' => by
  rcases List.mem_cons.mp h' with e | e
  · rw [e]
    exact h
  · exact t q e
end
end Ev

namespace Ev
open PySem PySem.Spec PyProof.Rows L2

abbrev wH2 (w : World) : Obj := ⟨.type "set", none, .set #[] 0 (.fresh 0 0 (!w.params.followText "set-order")), #[]⟩
end Ev

namespace Ev
open PySem PySem.Spec PyProof.Rows L2

def wV8 (x : Int) : List Int → List Int
  | [] => [x]
  | y :: ys => if x < y then x :: y :: ys else if x = y then y :: ys else y :: wV8 x ys
def yYh (ns : List Int) : List Int := ns.foldr wV8 []
theorem xVu {x k : Int} : ∀ {ys : List Int}, k ∈ wV8 x ys ↔ k = x ∨ k ∈ ys
  | [] => by simp [wV8]
  | y :: ys => by
    unfold wV8
    split
    · simp
    · split
      · rename_i e
        subst e
        simp
      · simp only [List.mem_cons, xVu (ys := ys)]
        constructor
        · rintro (h | h | h)
          · exact .inr (.inl h)
          · exact .inl h
          · exact .inr (.inr h)
        · rintro (h | h | h)
          · exact .inr (.inl h)
          · exact .inl h
          · exact .inr (.inr h)
@[simp] theorem xUi {k : Int} : ∀ {ns : List Int}, k ∈ yYh ns ↔ k ∈ ns
  | [] => by simp [yYh]
  | n :: ns => by
    show k ∈ wV8 n (yYh ns) ↔ _
    rw [xVu, xUi, List.mem_cons]
section
variable {X : Cx} {B : XBt} {e : Expr} {pos p p2 pos2 : Pos} {f : Pg EV}
def wJa : PyData → Option EV
  | .list xs => match intsOf xs with
    | some ns => if (yYh ns).length < 64 ∧ ns.length ≤ 4000 then some (.fresh ((yYh ns).map .int)) else none
    | none => none
  | .tuple xs => match intsOf xs with
    | some ns => if (yYh ns).length < 64 ∧ ns.length ≤ 4000 then some (.fresh ((yYh ns).map .int)) else none
    | none => none
  | _ => none
def xV6 (f : Pg EV) : Pg EV := .bind f fun v => look (zHc v) fun x => zKz (wJa x)
end
section
variable {m : Mem} {X : Exn → Mem → Prop} {E : EV → Mem → Prop} {P : List AV → Mem → Prop}
@[simp] theorem wHc {f : Pg EV} : W (xV6 f) m X E ↔ W f m X fun v m1 => W (look (zHc v) fun x => zKz (wJa x)) m1 X E := by
  unfold xV6
  simp only [zQ8]
@[simp] theorem vX6 {ns : List Int} : wJa (.list (ns.map .int)) = if (yYh ns).length < 64 ∧ ns.length ≤ 4000 then some (.fresh ((yYh ns).map .int)) else none := by
  simp only [wJa, yJd]
@[simp] theorem vX5 {ns : List Int} : wJa (.tuple (ns.map .int)) = if (yYh ns).length < 64 ∧ ns.length ≤ 4000 then some (.fresh ((yYh ns).map .int)) else none := by
  simp only [wJa, yJd]
@[simp] theorem vXi {g : Fn} {n k q : Nat} {is : List Nat} {ds : List PyData} {fa fk : Pg (List AV)} : W (zVv g n k q is ds fa fk) m X E ↔ W fa m X fun vs m1 => W fk m1 X fun zs m2 => W (if vs.length = n ∧ zs.length = k ∧ (pick is (vs ++ zs ++ dAV ds)).length = q then zJ1 g (pick is (vs ++ zs ++ dAV ds)) else .stuck) m2 X E := by
  unfold zVv
  simp only [zQ8]
@[simp] theorem vVk {f : Pg EV} : W (yKd f) m X P ↔ W f m X fun v m1 => ∃ a, xKr v = some a ∧ P a m1 := by
  unfold yKd
  simp only [zQ8, yUy]
@[simp] theorem wY9 {xs : List PyData} : xKr (.d (.list xs)) = some (dAV xs) := rfl
@[simp] theorem wY8 {xs : List PyData} : xKr (.d (.tuple xs)) = some (dAV xs) := rfl
@[simp] theorem wHy {xs : List PyData} : xKr (.new (.lst xs)) = some (dAV xs) := rfl
@[simp] theorem wHx {i : Nat} {xs : List PyData} : xKr (.pk i (.lst xs)) = some (dAV xs) := rfl
@[simp] theorem yWf : ∀ xs : List PyData, dataOf (dAV xs) = some xs
  | [] => rfl
  | x :: xs => by
    show dataOf (.d x :: dAV xs) = _
    rw [xJp, yWf xs]
    rfl
end
end Ev

namespace Ev
open PySem PySem.Spec PyProof.Rows L2

def rdL (f : Value → Option PyData) : List Value → Option (List PyData)
  | [] => some []
  | u :: us => (f u).bind fun d => (rdL f us).map (d :: ·)
def rdK (K : PySem.W.Frag) : Nat → Value → Option PyData
  | _, .none => some .none
  | _, .bool b => some (.bool b)
  | _, .int i _ => some (.int i)
  | _, .str s _ => some (.str s)
  | n + 1, .ref a => (K.lookup a).bind fun o => match o.data with
    | .seq its _ => if o.cls == .type "tuple" && decide (its.size ≤ 1000) then (rdL (rdK K n) its.toList).map .tuple else none
    | _ => none
  | _, _ => none
theorem wZr {K : PySem.W.Frag} {f : Value → Option PyData} (hf : ∀ u d, f u = some d → ∃ v, RelV v u ∧ ∀ F, R K F d v) : ∀ {us : List Value} {ds : List PyData}, rdL f us = some ds → ∃ vs, Vals vs us ∧ ∀ F, RA K F ds vs
  | [], ds, e => by
    cases e
    exact ⟨[], .nil, fun _ => .nil⟩
  | u :: us, ds, e => by
    unfold rdL at e
    cases e1 : f u with
    | none =>
      rw [e1] at e
      cases e
    | some d =>
      rw [e1] at e
      cases e2 : rdL f us with
      | none =>
        rw [e2] at e
        cases e
      | some es =>
        rw [e2] at e
        cases e
        obtain ⟨v, h1, h2⟩ := hf u d e1
        obtain ⟨vs, h3, h4⟩ := wZr hf e2
        exact ⟨v :: vs, .cons h1 h3, fun F => .cons (h2 F) (h4 F)⟩
def vUf (K : PySem.W.Frag) (a : Addr) (ds : List PyData) : Prop := ∃ (o : Obj) (its : Array Value) (n : Nat) (vs : List V), K.lookup a = some o ∧ o.cls = .type "tuple" ∧ o.data = .seq its n ∧ its.size ≤ 1000 ∧ Vals vs its.toList ∧ ∀ F, RA K F ds vs
theorem wJk {K : PySem.W.Frag} {n : Nat} {a : Addr} {d : PyData} (hf : ∀ u d, rdK K n u = some d → ∃ v, RelV v u ∧ ∀ F, R K F d v) (e : rdK K (n + 1) (.ref a) = some d) : ∃ ds, d = .tuple ds ∧ vUf K a ds := by
  have e : ((K.lookup a).bind fun o => match o.data with
    | .seq its _ => if o.cls == .type "tuple" && decide (its.size ≤ 1000) then (rdL (rdK K n) its.toList).map PyData.tuple else none
    | _ => none) = some d := e
  cases el : K.lookup a with
  | none =>
    rw [el] at e
    cases e
  | some o =>
    rw [el] at e
    have e : (match o.data with
      | .seq its _ => if o.cls == .type "tuple" && decide (its.size ≤ 1000) then (rdL (rdK K n) its.toList).map PyData.tuple else none
      | _ => none) = some d := e
    split at e
    · rename_i its m ed
      split at e
      · rename_i hc
        simp only [Bool.and_eq_true, decide_eq_true_eq] at hc
        cases e2 : rdL (rdK K n) its.toList with
        | none =>
          rw [e2] at e
          cases e
        | some ds =>
          rw [e2] at e
          cases e
          obtain ⟨vs, h3, h4⟩ := wZr hf e2
          exact ⟨ds, rfl, o, its, m, vs, el, beq_iff_eq.mp hc.1, ed, hc.2, h3, h4⟩
      · cases e
    · cases e
theorem xYq {K : PySem.W.Frag} : ∀ (n : Nat) (u : Value) (d : PyData), rdK K n u = some d → ∃ v, RelV v u ∧ ∀ F, R K F d v
  | n, .none, d, e => by
    cases n <;> (cases e; exact ⟨.non, rfl, fun _ => .non⟩)
  | n, .bool b, d, e => by
    cases n <;> (cases e; exact ⟨.bl b, rfl, fun _ => .bl b⟩)
  | n, .int i t, d, e => by
    cases n <;> (cases e; exact ⟨.int i, ⟨t, rfl⟩, fun _ => .int i⟩)
  | n, .str s t, d, e => by
    cases n <;> (cases e; exact ⟨.str s, ⟨t, rfl⟩, fun _ => .str s⟩)
  | 0, .ref a, d, e => by cases e
  | n + 1, .ref a, d, e => by
    obtain ⟨ds, rfl, o, its, m, vs, h1, h2, h3, h4, h5, h6⟩ := wJk (xYq n) e
    exact ⟨.ref a, rfl, fun F => .tup (.inr ⟨o, its, m, h1, h2, h3, by rw [sizeLine_eq]; omega, h5⟩) (h6 F)⟩
  | n, .float _ _, d, e => by cases n <;> cases e
  | n, .bytes _ _, d, e => by cases n <;> cases e
  | n, .type _, d, e => by cases n <;> cases e
  | n, .builtin _, d, e => by cases n <;> cases e
  | n, .ellipsis, d, e => by cases n <;> cases e
  | n, .notImplemented, d, e => by cases n <;> cases e
theorem zH9 {K : PySem.W.Frag} {mg : Str → Option Value} {x : Str} {u : Value} {n : Nat} {d : PyData} (h : mg x = some u) (e : rdK K n u = some d) : GM K mg x d := by
  obtain ⟨v, h1, h2⟩ := xYq n u d e
  exact ⟨v, u, h, h1, h2⟩
end Ev

namespace Ev
open PySem PySem.Spec PyProof.Rows L2
section
variable {X : Cx} {B : XBt} {e o : Expr} {es : List Expr} {pos p : Pos} {f fo fa : Pg EV}
end
section
variable {X : Cx} {B : XBt}
end
theorem xZf {K : PySem.W.Frag} {w1 : Wd} {T : Addr} {x y : V} {d e : PyData} (r : Rep K w1) (hT : w1.H T = none) (hx : R K w1.F d x) (hy : R K w1.F e y) :
    ∃ w2 : Wd, w2.m = w1.m ∧ w2.sg = w1.sg ∧ w2.H = upd w1.H T (.tup [x, y]) ∧ FolE w1 w2 ∧ Rep K w2 ∧ R K w2.F (.tuple [d, e]) (.ref T) ∧ ∀ a, w2.F a ≠ none → w1.F a ≠ none ∨ w1.H a = none := by
  obtain ⟨r2, f2⟩ := yGt r hT (.tup [x, y])
  refine ⟨{ w1 with F := upd w1.F T (.tup [x, y]), H := upd w1.H T (.tup [x, y]) }, rfl, rfl, rfl, f2, r2, .tup (.inl (.inl upd_same)) (.cons (hx.mono f2.ext) (.cons (hy.mono f2.ext) .nil)), fun a h => ?_⟩
  by_cases q : a = T
  · rw [q]
    exact .inr hT
  · exact .inl (by
      have h : upd w1.F T (.tup [x, y]) a ≠ none := h
      rw [upd_ne q] at h
      exact h)
section
variable {X : Cx} {B : XBt} {e e2 : Expr} {p pos tpos : Pos} {elts : List Expr} {kk : Nat} {fa : Pg (List AV)}
def yW5 (xs : List PyData) : List PyData := xs.mapIdx fun i x => .tuple [.int (i : Nat), x]
theorem xWb {K : PySem.W.Frag} {w : Wd} {a : Addr} {xs : List V} {ds : List PyData} (ha : LQ K w.F a xs) (ra : RA K w.F ds xs) : xWu K w (Ite K a) (yW5 ds) := by
  intro w1 f r i
  have qa : SqL K w1.H a xs := ((ha.mono f.ext).mox r.sub).sq
  refine ⟨fun d hd => ?_, fun hl => ⟨xs, qa, ?_⟩⟩
  · unfold yW5 at hd
    rw [List.getElem?_mapIdx] at hd
    cases e1 : ds[i]? with
    | none =>
      rw [e1] at hd
      cases hd
    | some d1 =>
      rw [e1] at hd
      cases hd
      obtain ⟨x, hx, rx⟩ := ra.get e1
      refine ⟨⟨xs, x, qa, hx⟩, fun v H' yl => ?_⟩
      obtain ⟨T, x', rfl, hT, rfl, g1⟩ := yl
      have e1 := (g1 xs qa).symm.trans hx
      cases e1
      exact xZf r hT (.int _) (rx.mono f.ext)
  · rw [← ra.len]
    unfold yW5 at hl
    rw [List.length_mapIdx] at hl
    exact hl
end
end Ev

namespace Ev
open PySem PySem.Spec PyProof.Rows L2
section
variable {X : Cx} {B : XBt} {e o c : Expr} {es : List Expr} {pos p : Pos} {f fo fa fc : Pg EV}
end
end Ev

namespace Ev
open PySem PySem.Spec PyProof.Rows L2
section
variable {α β : Type} {m : Mem} {X : Exn → Mem → Prop} {P Q : α → Mem → Prop} {R : β → Mem → Prop} {E : EV → Mem → Prop} {F : Fl → Mem → Prop} {T : Bool → Mem → Prop} {D : List (PyData × PyData) → Mem → Prop} {L : List PyData → Mem → Prop}
@[simp] theorem vJt {s : Str} : yXj (.str s) = true := rfl
@[simp] theorem vJu {s : Int} : yXj (.int s) = true := rfl
@[simp] theorem vZb {ns ms : List Int} : zG1 .Lt (.tuple (ns.map .int)) (.tuple (ms.map .int)) = some (ltL ns ms) := by
  simp only [zG1, yJd]
theorem yWi {is : List Nat} {g : PyData → Pg Unit} {t : Pg Bool} {e : Pg EV} {ds : List PyData} (b : PyData → Bool) (φ : PyData → PyData) (hl : ds.length < 16777216)
    (h : ∀ d, d ∈ ds → W (g d) m X fun _ m1 => W t m1 noX fun k m2 => k = b d ∧ if k = true then W e m2 noX fun v m3 => W (toA v) m3 X fun a m4 => a = .d (φ d) ∧ (⟨zJ2 is m4.sl, m4.cs⟩ : Mem) = m else (⟨zJ2 is m2.sl, m2.cs⟩ : Mem) = m)
    (hE : E (.fresh ((ds.filter b).map φ)) m) : W (yJl is g t e ds []) m X E := by
  refine yUz (fun ds' acc m' => ∃ pre, ds = pre ++ ds' ∧ acc = (pre.filter b).map φ ∧ m' = m) ⟨[], rfl, rfl, rfl⟩ ?_ ?_
  · rintro d ds' acc m' ⟨pre, e1, rfl, rfl⟩
    have hd : d ∈ ds := by rw [e1]; simp
    have la : ((pre.filter b).map φ).length < 16777216 := by
      rw [List.length_map]
      have h1 := List.length_filter_le b pre
      have h2 : pre.length ≤ ds.length := by rw [e1, List.length_append]; omega
      omega
    have e2 : ds = (pre ++ [d]) ++ ds' := by rw [e1]; simp
    refine (h d hd).mono fun _ m1 q => q.mono fun k m2 q => ?_
    obtain ⟨hk, q⟩ := q
    cases k with
    | true =>
      rw [if_pos rfl] at q ⊢
      refine q.mono fun v m3 q => q.mono fun a m4 q => ?_
      exact ⟨φ d, q.1, la, pre ++ [d], e2, by rw [List.filter_append, List.map_append, List.filter_cons, ← hk]; simp, q.2⟩
    | false =>
      rw [if_neg (by simp)] at q ⊢
      exact ⟨pre ++ [d], e2, by rw [List.filter_append, List.map_append, List.filter_cons, ← hk]; simp, q⟩
  · rintro acc m' ⟨pre, e1, rfl, rfl⟩
    rw [List.append_nil] at e1
    rw [← e1]
    exact hE
structure Kin (t : PyData) : Prop where
  k : zJu t = true
  i : ∀ xs x, t = .tuple xs → x ∈ xs → zJu x = true
theorem Fit.kin {k B : Nat} {d : PyData} (h : Fit k B d) : Kin d := ⟨h.zJu, fun xs x e hx => by
  subst e
  exact (h.tup_mem hx).zJu⟩
@[simp] theorem vWp  : isI .none = false := rfl
@[simp] theorem vWt {b : Bool} : isI (.bool b) = true := rfl
@[simp] theorem vWr {i : Int} : isI (.int i) = true := rfl
@[simp] theorem vWo {z : Str} : isI (.str z) = false := rfl
@[simp] theorem vWq {xs : List PyData} : isI (.list xs) = false := rfl
@[simp] theorem vWn {xs : List PyData} : isI (.tuple xs) = false := rfl
@[simp] theorem vWs {es : List (PyData × PyData)} : isI (.dict es) = false := rfl
@[simp] theorem vW3  : isB .none = false := rfl
@[simp] theorem vW7 {b : Bool} : isB (.bool b) = true := rfl
@[simp] theorem vW5 {i : Int} : isB (.int i) = false := rfl
@[simp] theorem vW2 {z : Str} : isB (.str z) = false := rfl
@[simp] theorem vW4 {xs : List PyData} : isB (.list xs) = false := rfl
@[simp] theorem vW1 {xs : List PyData} : isB (.tuple xs) = false := rfl
@[simp] theorem vW6 {es : List (PyData × PyData)} : isB (.dict es) = false := rfl
@[simp] theorem vWb  : isS .none = false := rfl
@[simp] theorem vWf {b : Bool} : isS (.bool b) = false := rfl
@[simp] theorem vWd {i : Int} : isS (.int i) = false := rfl
@[simp] theorem vWa {z : Str} : isS (.str z) = true := rfl
@[simp] theorem vWc {xs : List PyData} : isS (.list xs) = false := rfl
@[simp] theorem vK9 {xs : List PyData} : isS (.tuple xs) = false := rfl
@[simp] theorem vWe {es : List (PyData × PyData)} : isS (.dict es) = false := rfl
@[simp] theorem vWi  : isL .none = false := rfl
@[simp] theorem vWm {b : Bool} : isL (.bool b) = false := rfl
@[simp] theorem vWk {i : Int} : isL (.int i) = false := rfl
@[simp] theorem vWh {z : Str} : isL (.str z) = false := rfl
@[simp] theorem vWj {xs : List PyData} : isL (.list xs) = true := rfl
@[simp] theorem vWg {xs : List PyData} : isL (.tuple xs) = false := rfl
@[simp] theorem vWl {es : List (PyData × PyData)} : isL (.dict es) = false := rfl
@[simp] theorem vK4  : isT .none = false := rfl
@[simp] theorem vK8 {b : Bool} : isT (.bool b) = false := rfl
@[simp] theorem vK6 {i : Int} : isT (.int i) = false := rfl
@[simp] theorem vK3 {z : Str} : isT (.str z) = false := rfl
@[simp] theorem vK5 {xs : List PyData} : isT (.list xs) = false := rfl
@[simp] theorem vK2 {xs : List PyData} : isT (.tuple xs) = true := rfl
@[simp] theorem vK7 {es : List (PyData × PyData)} : isT (.dict es) = false := rfl
@[simp] theorem vWw  : isD .none = false := rfl
@[simp] theorem vW0 {b : Bool} : isD (.bool b) = false := rfl
@[simp] theorem vWy {i : Int} : isD (.int i) = false := rfl
@[simp] theorem vWv {z : Str} : isD (.str z) = false := rfl
@[simp] theorem vWx {xs : List PyData} : isD (.list xs) = false := rfl
@[simp] theorem vWu {xs : List PyData} : isD (.tuple xs) = false := rfl
@[simp] theorem vWz {es : List (PyData × PyData)} : isD (.dict es) = true := rfl
end
end Ev

namespace Ev
open PySem PySem.Spec PyProof.Rows L2
section
variable {X : Cx} {B : XBt} {e o c : Expr} {es : List Expr} {st : Stmt} {pos p : Pos} {f fo fa fc : Pg EV}
end
section
variable {m : Mem} {X : Exn → Mem → Prop} {E : EV → Mem → Prop}
end
end Ev

namespace PySem.W
open PySem PySem.Spec PySem.Calls PyProof.Rows
section
variable {M : Model} {K : Frag}
end
end PySem.W
namespace Ev
open PySem PySem.Spec PyProof.Rows L2
section
variable {X : Cx} {n : Str} {ty : Expr} {km : Value → Option Bool} {i : Nat} {body suite : List Stmt} {b₀ : Stmt} {np pos pos' : Pos} {tb : WX → TS} {ts : Addr → Value → Option Addr → TS} {Wout : WX}
end
end Ev

namespace Ev
open PySem PySem.Spec PyProof.Rows L2
structure OexG (K : PySem.W.Frag) (C : Addr) : Prop where
  bs : ∃ (N nI iI : String) (tl : List Value), ExcBaseFacts N nI iI tl ∧ StoreFacts N tl "object.__setattr__" "object" ∧ PySem.W.excInitIn K C tl nI = true ∧ PySem.W.excOver K C tl = true
  hd : PySem.W.hasDictIn K C = true
  sa : PySem.W.findIn K (.ref C) "__setattr__" = some (some (.builtin "object.__setattr__"))
  ex : PySem.W.subIn K (.ref C) (.type "BaseException") = some true
  ty : PySem.W.typeIn K (.ref C) = some (.type "type")
  kp : PySem.W.keepIn K (.ref C) = true
theorem xUb {K : PySem.W.Frag} {C : Addr} {f : Str} (h : PySem.W.findIn K (.ref C) f = some none) : PySem.W.takerIn K C f = some none := by
  unfold PySem.W.takerIn
  rw [h] <;> rfl
section
variable {X : Cx} {pins : List (Addr × Obj)} {sg : L2.St} {H : Hp} {s : Shared} {a C dx : Addr} {f : Str} {y : V} {u : Value} {fs : List (Str × V)} {Q : Unit → Shared → Prop} {E : Value → Shared → Prop} {A : Around}
theorem wX0 (T : OexG X.K C) (I : L2.Inv X pins sg H s) (e : H a = some (exo a C none)) (hno : PySem.W.findIn X.K (.ref C) f = some none) (ry : RelV y u)
    (h : ∀ dx s', H dx = none → dx ≠ a → L2.Inv X pins sg (upd (upd H dx (exd dx [(f, y)])) a (exo a C (some dx))) s' → Q () s') : wpAny (model X.prog X.w) A (setAttr (.ref a) f u) Q E s := by
  obtain ⟨N, nI, iI, tl, _, SF, _, hov⟩ := T.bs
  obtain ⟨t1, ho⟩ := exo_at I.hok e
  obtain ⟨hp, g, d, t, os⟩ := s
  have at0 : PySem.W.InstAt hp a { cls := .ref C, dict := none, data := .fields #[.ref t1, .none, .none, .none, .bool false, .none] } C none := ⟨ho, rfl, rfl, trivial⟩
  refine PySem.W.set_plain I.kIn at0 T.sa (PySem.W.osa_openX (s := ⟨hp, g, d, t + 1, os⟩) SF I.kIn at0 hov (xUb hno) fun b => ?_)
  obtain ⟨cd, hc, hd'⟩ := PySem.W.any_some T.hd
  have Lc : PySem.W.Looks (model X.prog X.w) hp (classData C) cd := PySem.W.looks_clsIn I.kIn hc
  have lt : a < hp.objs.size := Heap.lt_size ho
  have nas : a ≠ hp.objs.size := Nat.ne_of_lt lt
  refine wpAny_bind (wpAny_pure (wpAny_bind ?_))
  refine PySem.W.instanceDict_exc (s := ⟨hp, g, d, t + 1, os⟩) (t := t1) (c2 := .none) ho Lc hd' ?_
  show wpAny _ _ (Builtin.ObjectAttr.storeInDict hp.objs.size (.str f t) f u) _ _ _
  refine PySem.HandSPX.store_in_new ?_ fun h' tk' hn' hs => ?_
  · exact ⟨_, #[], _, (Heap.get?_update_ne _ _ _ _ nas.symm).trans (Heap.get?_push_at rfl rfl), rfl, fun e he => absurd he (by simp), fun _ => rfl⟩
  have hnd : H hp.objs.size = none := I.hok.fresh (Nat.le_refl _)
  have na : ∀ {b : Addr}, H b = none → b ≠ a := fun {b} n z => by
    rw [z, e] at n
    cases n
  have ls : ∀ {b : Addr} {o : Obj}, hp.get? b = some o → b ≠ hp.objs.size := fun {b o} q => Nat.ne_of_lt (Heap.lt_size q)
  have keep : ∀ b o, b ≠ a → hp.get? b = some o → h'.get? b = some o := fun b o hb q => by
    rw [hs.2 b (ls q), Heap.get?_update_ne _ _ _ _ hb]
    exact Heap.get?_push_of_some _ q
  have hx : h'.get? a = some ({ cls := .ref C, dict := some hp.objs.size, data := .fields #[.ref t1, .none, .none, .none, .bool false, .none] } : Obj) := by
    rw [hs.2 a nas]
    exact Heap.get?_update_self _ (Heap.get?_push_of_some _ ho) rfl
  have U : Un X.fs [] H (upd (upd H hp.objs.size (exd hp.objs.size [(f, y)])) a (exo a C (some hp.objs.size))) hp h' := {
    keep := fun b o q n _ _ => keep b o (na n) q
    slot := fun b o q n _ _ => ⟨o.slots, keep b o (na n) q⟩
    free := fun b o q n _ => by
      rw [upd_ne (na n), upd_ne (ls q)]
      exact n
    there := fun b o q _ => by
      by_cases hb : b = a
      · subst hb
        exact ⟨_, hx⟩
      · exact ⟨o, keep b o hb q⟩
    tups := fun b xs q => by
      rw [upd_ne (at_ne e q exo_tup), upd_ne (ne_of_none q hnd)]
      exact q
    frzs := fun b o v q => by
      rw [upd_ne (at_ne e q exo_frz), upd_ne (ne_of_none q hnd)]
      exact q
    tbls := fun b ps q => ⟨#[], by
      rw [upd_ne (at_ne e q exo_tbl), upd_ne (ne_of_none q hnd), q]
      simp⟩ }
  refine h hp.objs.size _ hnd nas.symm (I.un (t' := tk') U fun b o q => ?_)
  by_cases hb : b = a
  · subst hb
    rw [upd_same] at q
    cases q
    exact exo_ok hx
  · rw [upd_ne hb] at q
    by_cases hd : b = hp.objs.size
    · subst hd
      rw [upd_same] at q
      cases q
      exact exd_ok hn' (relO_put (fs := []) ry fun g => True.intro)
    · rw [upd_ne hd] at q
      refine (I.hok b o q).stay (fun c v hc z => keep c v ?_ z) (fun c hc => ?_) fun c xs hc => ?_
      · rcases hc with hc | hc
        · rw [hc]
          exact hb
        · exact at_ne e hc exo_own
      · rw [upd_ne (at_ne e hc exo_own), upd_ne (ne_of_none hc hnd)]
        exact hc
      · rw [upd_ne (at_ne e hc exo_tup), upd_ne (ne_of_none hc hnd)]
        exact hc
theorem wXz (T : OexG X.K C) (I : L2.Inv X pins sg H s) (e : H a = some (exo a C (some dx))) (ed : H dx = some (exd dx fs)) (hl : fs.length ≤ 900) (hno : PySem.W.findIn X.K (.ref C) f = some none) (ry : RelV y u)
    (h : ∀ s', L2.Inv X pins sg (upd H dx (exd dx ((f, y) :: fs))) s' → Q () s') : wpAny (model X.prog X.w) A (setAttr (.ref a) f u) Q E s := by
  obtain ⟨N, nI, iI, tl, _, SF, _, hov⟩ := T.bs
  obtain ⟨t1, ho⟩ := exo_at I.hok e
  obtain ⟨mA, hns, rel⟩ := exd_at I.hok ed
  have hw := within_of rel
  obtain ⟨hp, g, d, t, os⟩ := s
  obtain ⟨oD, _, _, hoD, _, _⟩ := hns.count hw
  have at0 : PySem.W.InstAt hp a { cls := .ref C, dict := some dx, data := .fields #[.ref t1, .none, .none, .none, .bool false, .none] } C (some oD) := ⟨ho, rfl, rfl, hoD⟩
  refine PySem.W.set_plain I.kIn at0 T.sa (PySem.W.osa_openX (s := ⟨hp, g, d, t + 1, os⟩) SF I.kIn at0 hov (xUb hno) fun b => ?_)
  obtain ⟨cd, hc, hd'⟩ := PySem.W.any_some T.hd
  have Lc : PySem.W.Looks (model X.prog X.w) hp (classData C) cd := PySem.W.looks_clsIn I.kIn hc
  refine wpAny_bind (wpAny_pure (wpAny_bind (wpAny_bind (wpAny_loadPart ho (wpAny_bind (Lc.here ?_))))))
  rw [hd']
  refine wpAny_pure (a := some dx) ?_
  show wpAny _ _ (Builtin.ObjectAttr.storeInDict dx (.str f t) f u) _ _ _
  refine PySem.OEX.store_in_old hns hw (by rw [List.length_map]; omega) fun h' tk' hn hs => ?_
  have hd : ∃ o, h'.get? dx = some o := by
    obtain ⟨o, _, _, e', _⟩ := hn
    exact ⟨o, e'⟩
  exact h _ (I.write (t' := tk') (x := dx) (e := dx) (o := exd dx ((f, y) :: fs)) (by rw [ed]; exact True.intro) (.inl rfl) (fun b o hb q => (hs.2 b hb).trans q) hd (exd_ok hn (relO_put ry rel)))
end
def vKj (K : PySem.W.Frag) (f : Str) (to te : TE) : TS := fun D sg H => te sg H fun y H1 => to sg H1 fun x H2 => ∃ a C : Addr, x = .ref a ∧ OexG K C ∧ PySem.W.findIn K (.ref C) f = some none ∧
  ((H2 a = some (exo a C none) ∧ ∀ dx, H2 dx = none → dx ≠ a → D.nx sg (upd (upd H2 dx (exd dx [(f, y)])) a (exo a C (some dx)))) ∨
    ∃ (dx : Addr) (fs : List (Str × V)), H2 a = some (exo a C (some dx)) ∧ H2 dx = some (exd dx fs) ∧ fs.length ≤ 900 ∧ D.nx sg (upd H2 dx (exd dx ((f, y) :: fs))))
def vKk (C : Addr) (sp : Sp) (dvs : List V) (ta : TA) : L2.St → Hp → XK → Prop := fun sg H Q => ta sg H fun vs H1 => vs.length ≤ 1000 ∧ ∀ a, H1 a = none → sp (.ref a :: (vs ++ dvs)) (upd H1 a (exo a C none))
  (fun v H2 => v = .non ∧ ∃ (d : Addr) (fs : List (Str × V)), H2 a = some (exo a C (some d)) ∧ H2 d = some (exd d fs) ∧ H1 d = none ∧ Q (.ref C) (some d) (upd (del H2 a) d (.xd fs))) (fun _ _ _ => False)
section
variable {X : Cx} {o e : Expr} {es : List Expr} {to te : TE} {ta : TA} {f : Str} {p p' p1 p2 pos : Pos}
theorem wWf (ho : PE X o to) (he : PE X e te) (hs : swapsWith e (some (.Attribute o f p')) pos.line X.env = pure false := by rfl) : PS X (.Assign [.Attribute o f p'] e pos) (vKj X.K f to te) := by
  refine ⟨fun pins s sg H D I h => ?_⟩
  refine plainObj_wpAny_Assign_Attribute (thn (he.run pins s sg H _ I h) fun v s1 ⟨y, H1, I1, r1, q1⟩ => ?_) hs
  refine thn (ho.run pins s1 sg H1 _ I1 q1) fun u s2 ⟨x, H2, I2, r2, a, C, ex, T, hno, q⟩ => ?_
  subst ex
  obtain rfl : u = Value.ref a := r2
  rcases q with ⟨ea, q⟩ | ⟨dx, fs, ea, ed, hl, q⟩
  · exact wX0 T I2 ea hno r1 fun dx s' n ne J => ⟨sg, _, J, q dx n ne⟩
  · exact wXz T I2 ea ed hl hno r1 fun s' J => ⟨sg, _, J, q⟩
theorem vQa {CX : CXT} {x : Str} {C fI : Addr} {k : Nat} {fd : FuncData} {ps : List Str} {sp : Sp} {ds : List Value} {dvs : List V} (T : OexG X.K C) (iC : PySem.W.findIn X.K (.ref C) "__init__" = some (some (.ref fI))) (tI : PySem.W.typeIn X.K (.ref fI) = some (.type "function"))
    (F1 : FnOk X.prog X.w X.K X.mg X.base CX k fI fd ps sp) (hr : Room (k + 1) X.A) (hb : Binds X.K fd ps ds) (hd : Vals dvs ds) (hx : Passes CX X (fun _ _ _ => False)) (hg : Gl X x) (hm : X.mg x = some (.ref C)) (ha : PA X (e :: es) ta)
    (hdb : (x == ("__debug__" : Str)) = false := by decide) (he : starEach (e :: es) X.env = (false, eval e X.env) :: starEach es X.env := by rfl) (hpl : (backTo pos (starEach es X.env)).any (·.1) = false := by rfl) :
    PMk X (.Call (.Name x p) (e :: es) [] pos) (vKk C sp dvs ta) := by
  intro pins s sg H Q I h
  obtain ⟨N, nI, iI, tl, FB, _, hi, _⟩ := T.bs
  refine wpAny_Call_Name_kw (ld_glob I hg hm ?_ hdb)
  refine PySem.W.callWith_K (h₀ := X.base) I.ok.mod.kin T.kp (thn (ha.run pos pins s sg H _ I h) fun us s1 ⟨vs, H1, I1, r1, hz, q1⟩ => ⟨I1.kIn, ?_⟩) he hpl
  show wpAny _ _ (call (.ref C) us) _ _ _
  obtain ⟨hp, g, dr, tk, os⟩ := s1
  obtain ⟨nm, N', qn, bs, bm, hdct, sn, sub, ab, col, dd, k0, k1, k2, k3, k5, hC, hT⟩ := PySem.W.excInit_of I1.kIn hi
  have hsz : hp.objs.size ≤ hp.objs.size + 1 := Nat.le_succ _
  have hn : H1 (hp.objs.size + 1) = none := I1.hok.fresh hsz
  have hq := q1 (hp.objs.size + 1) hn
  have kk : ∀ b o, hp.get? b = some o → ((hp.push (PySem.W.kdv_tup us)).push (PySem.HandSPX.excO C hp.objs.size)).get? b = some o := fun b o z => Heap.get?_push_of_some _ (Heap.get?_push_of_some _ z)
  have hget : ((hp.push (PySem.W.kdv_tup us)).push (PySem.HandSPX.excO C hp.objs.size)).get? (hp.objs.size + 1) = some (PySem.HandSPX.excO C hp.objs.size) := by heap_get
  have I2 : L2.Inv X pins sg (upd H1 (hp.objs.size + 1) (exo (hp.objs.size + 1) C none)) ⟨(hp.push (PySem.W.kdv_tup us)).push (PySem.HandSPX.excO C hp.objs.size), g, dr, tk, os⟩ :=
    I1.laid (t' := tk) (a := hp.objs.size + 1) (o := exo (hp.objs.size + 1) C none) (h' := (hp.push (PySem.W.kdv_tup us)).push (PySem.HandSPX.excO C hp.objs.size)) kk hsz (exo_ok hget)
  have rv : Vals (V.ref (hp.objs.size + 1) :: (vs ++ dvs)) (Value.ref (hp.objs.size + 1) :: (us ++ ds)) := .cons rfl (r1.append hd)
  have hl : (Value.ref (hp.objs.size + 1) :: us ++ ds).length = ps.length := by
    have z := rv.length
    rw [F1.len _ _ _ _ hq] at z
    exact z.symm
  have hus : us.length ≤ sizeLine := by
    rw [← Paired.length r1, sizeLine_eq]
    omega
  refine wpAny_call (PySem.HandSPX.call_own FB hT hC (PySem.W.looks_findIn I1.kIn iC) (fun self => PySem.W.bind_fn I1.kIn self tI) hus ?_)
  have run := F1.run _ X.stack _ _ ⟨Value.ref (hp.objs.size + 1) :: us, []⟩ (Value.ref (hp.objs.size + 1) :: (us ++ ds)) _ _ (fun _ _ _ => False) (hr.make C us []) (I2.env0.make C us []) (hb _ (Value.ref (hp.objs.size + 1) :: us) I2.kIn hl) rv hq
  refine codeAny_mono run fun r s' hq' => ?_
  match r, hq' with
  | .error er, hq' => exact hx pins sg _ _ er s' I2 hq'
  | .ok (.ret u), hq' =>
    obtain ⟨v, H2, os2, bare2, un2, hok2, rv2, ev, d, fs, ea, ed, hd1, q2⟩ := hq'
    subst ev
    obtain ⟨h2, g2, d2, t2, os'⟩ := s'
    exact ⟨rv2, mk_end (raises_own T.ex T.ty) I1 hsz kk un2 hok2 os2 bare2 ea ed hd1 q2⟩
  | .ok .next, hq' => exact False.elim hq'
  | .ok .brk, hq' => exact False.elim hq'
  | .ok .cont, hq' => exact False.elim hq'
end
end Ev

namespace Ev
open PySem PySem.Spec PyProof.Rows L2
def xI (H : Hp) (a C d : Addr) (fs : List (Str × V)) : Hp := upd (upd H d (exd d fs)) a (exo a C (some d))
def spI (K : PySem.W.Frag) (C : Addr) (fs : List Str) : Sp := fun vs H Q _ => ∃ (a : Addr) (ws : List V), vs = .ref a :: ws ∧ ws.length = fs.length ∧ OexG K C ∧ (∀ f, f ∈ fs → PySem.W.findIn K (.ref C) f = some none) ∧ H a = some (exo a C none) ∧
  ∀ d, H d = none → d ≠ a → Q .non (xI H a C d (fs.zip ws).reverse)
theorem wX1 {K : PySem.W.Frag} {C : Addr} {fs : List Str} : ∀ vs H Q E, spI K C fs vs H Q E → vs.length = ("self" :: fs : List Str).length := by
  rintro vs H Q E ⟨a, ws, rfl, h, _⟩
  simp [h]
section
variable {P : Program} {w : World} {K : PySem.W.Frag} {mg : Str → Option Value} {base : Heap} {C : Addr}
theorem vQt {f qual : Str} {st : Stmt} {fI : Addr} {fd : FuncData} {k : Nat} {p1 p2 p3 p4 : Pos} (F : Fun K "__init__" qual st fI fd) (S : FnScope ["self", f] ["self", f] (defScope st)) (hb : defBody st = [.Assign [.Attribute (.Name "self" p1) f p2] (.Name f p3) p4])
    (hs : (defScope st).names.lookup ("self" : Str) = some .local) (hf : (defScope st).names.lookup f = some .local) (hd : (f == ("__debug__" : Str)) = false) (hcd : (f == ("__classdict__" : Str)) = false) : FnOk P w K mg base (L2.CX P w) (k + 1) fI fd ["self", f] (spI K C [f]) := by
  refine F.okX S wX1 fun cdv A outer s H vs Q E hr hsp => ?_
  obtain ⟨a, ws, rfl, hl, T, hno, ea, q⟩ := hsp
  rw [hb]
  match ws, hl with
  | [y], _ =>
    refine ⟨_, pss_one (wWf (pe_var (i := 0) rfl (.inl hs)) (pe_var (i := 1) rfl (.inl hf) hd hcd) (by rfl)), y, rfl, .ref a, rfl, a, C, rfl, T, hno f (by simp), .inl ⟨ea, fun dx n ne => ?_⟩⟩
    exact q dx n ne
end
def ExX (P : Program) (w : World) (K : PySem.W.Frag) (mg : Str → Option Value) (base : Heap) (k : Nat) (x : Str) (fs : List Str) : Prop :=
  ∃ (C fI : Addr) (fd : FuncData), mg x = some (.ref C) ∧ yQx K x C ∧ OexG K C ∧ PySem.W.findIn K (.ref C) "__init__" = some (some (.ref fI)) ∧ PySem.W.typeIn K (.ref fI) = some (.type "function") ∧ (∀ f, f ∈ fs → PySem.W.findIn K (.ref C) f = some none) ∧
    FnOk P w K mg base (L2.CX P w) k fI fd ("self" :: fs) (spI K C fs) ∧ Binds K fd ("self" :: fs) []
def yJ7 (x : Str) (fs : List Str) (fa : Pg (List AV)) : Pg Fl := .bind fa fun as => match dataOf as with
  | some ds => if ds.length = fs.length then (fun m => .thr ⟨x, (fs.zip ds).reverse⟩ m) else .stuck
  | none => .stuck
theorem wZq {K : PySem.W.Frag} {F : Hp} : ∀ {fs gs : List (PyData × PyData)} {vs ws : List (Str × V)}, RF K F fs vs → RF K F gs ws → RF K F (fs ++ gs) (vs ++ ws)
  | _, _, _, _, .nil, h => h
  | _, _, _, _, .cons h t, g => .cons h (wZq t g)
theorem wZo {K : PySem.W.Frag} {F : Hp} : ∀ {fs : List Str} {ds : List PyData} {vs : List V}, RA K F ds vs → RF K F (zZr (fs.zip ds).reverse) (fs.zip vs).reverse
  | [], _, _, _ => .nil
  | f :: fs, _, _, .nil => .nil
  | f :: fs, d :: ds, v :: vs, .cons h t => by
    rw [List.zip_cons_cons, List.zip_cons_cons, List.reverse_cons, List.reverse_cons]
    unfold zZr
    rw [List.map_append]
    exact wZq (wZo t) (.cons h .nil)
section
variable {X : Cx} {B : XBt} {e : Expr} {es : List Expr} {fa : Pg (List AV)} {p pos pos' : Pos} {x : Str} {fs : List Str} {k : Nat}
theorem yVd (C : Ctx X B) (h : ExX X.prog X.w X.K X.mg X.base k x fs) (hr : Room (k + 1) X.A) (hz : fs.length ≤ 900) (hg : Gl X x) (ha : xKl X B (e :: es) fa)
    (hdb : (x == ("__debug__" : Str)) = false := by decide) (he : starEach (e :: es) X.env = (false, eval e X.env) :: starEach es X.env := by rfl) (hpl : (backTo pos (starEach es X.env)).any (·.1) = false := by rfl) :
    xXi X B (.Raise (some (.Call (.Name x p) (e :: es) [] pos)) none pos') (yJ7 x fs fa) := by
  obtain ⟨D, fI, fd, hm, hc, T, iC, tI, hno, F, hb⟩ := h
  intro w En r hw
  refine yJz (ps_raise C.calm C.tk (vQa T iC tI F hr hb .nil (fun _ _ _ _ _ _ _ z => by
    obtain ⟨_, _, _, _, _, _, _, _, _, _, _, _, z⟩ := z
    exact z.elim) hg hm xY2 hdb he hpl)) ?_
  refine zUz ha r hw fun vs w1 xs e1 f1 r1 rv q => ?_
  cases ed : dataOf vs with
  | none =>
    rw [ed] at q
    exact q.elim
  | some ds =>
    rw [ed] at q
    dsimp only at q
    split at q
    · rename_i hl
      have ra := yXr rv ed
      have lx : xs.length = fs.length := by rw [← ra.len, hl]
      refine ⟨by omega, fun a hn => ⟨a, xs, by rw [List.append_nil], lx, T, hno, upd_same, fun d hd hda => ⟨rfl, d, (fs.zip xs).reverse, upd_same, ?_, ?_, ?_⟩⟩⟩
      · unfold xI
        rw [upd_ne hda, upd_same]
      · rw [upd_ne hda] at hd
        exact hd
      · rw [upd_ne hda] at hd
        have eH : upd (del (xI (upd w1.H a (exo a D none)) a D d (fs.zip xs).reverse) a) d (.xd (fs.zip xs).reverse) = upd w1.H d (.xd (fs.zip xs).reverse) := by
          funext b
          by_cases h1 : b = d
          · subst h1
            rw [upd_same, upd_same]
          · rw [upd_ne h1, upd_ne h1]
            by_cases h2 : b = a
            · subst h2
              rw [del_same, hn]
            · rw [del_ne h2]
              unfold xI
              rw [upd_ne h2, upd_ne h1, upd_ne h2]
        rw [eH]
        obtain ⟨r2, f2⟩ := yGt r1 hd (.xd (fs.zip xs).reverse)
        refine ⟨⟨x, (fs.zip ds).reverse⟩, _, r2, e1, rfl, ⟨D, hc, rfl, .inr ⟨d, _, rfl, upd_same, (wZo ra).mono f2.ext⟩⟩, q _ rfl (f2.s r1) r2⟩
    · exact q.elim
end

section
variable {X : Cx} {B : XBt} {n : Str} {ty : Expr} {km : Value → Option Bool} {i : Nat} {body suite : List Stmt} {b₀ : Stmt} {pos pos' : Pos} {fb : Pg Fl} {fx : Exn → Pg Fl} {tb : List (Str × Bool)}
theorem xWv.fol {K : PySem.W.Frag} {w w' : Wd} {x : Exn} {cls : Value} {d : Option Addr} (h : xWv K w x cls d) (f : Same w.F w'.F) : xWv K w' x cls d := by
  obtain ⟨C, h1, h2, h | ⟨dd, vs, h3, h4, h5⟩⟩ := h
  · exact ⟨C, h1, h2, .inl h⟩
  · exact ⟨C, h1, h2, .inr ⟨dd, vs, h3, f _ _ h4, h5.mono f⟩⟩
end
section
variable {m : Mem} {X : Exn → Mem → Prop} {F : Fl → Mem → Prop}
@[simp] theorem vZy {x : Str} {fs : List Str} {fa : Pg (List AV)} : W (yJ7 x fs fa) m X F ↔ W fa m X fun vs m1 => ∃ ds, dataOf vs = some ds ∧ ds.length = fs.length ∧ X ⟨x, (fs.zip ds).reverse⟩ m1 := by
  unfold yJ7
  rw [zQ8]
  refine iff_of_eq (congrArg _ (funext fun vs => funext fun m1 => propext ?_))
  cases e : dataOf vs with
  | none => exact ⟨fun h => h.go.elim, fun ⟨_, z, _⟩ => by cases z⟩
  | some ds =>
    dsimp only
    by_cases h : ds.length = fs.length
    · rw [if_pos h]
      exact ⟨fun q => ⟨ds, rfl, h, q.go⟩, fun ⟨_, z, _, q⟩ => by cases z; exact ⟨q⟩⟩
    · rw [if_neg h]
      exact ⟨fun q => q.go.elim, fun ⟨_, z, q, _⟩ => by cases z; exact absurd q h⟩
end
end Ev

namespace Ev
open PySem PySem.Spec PyProof.Rows L2
structure ExcF (K : PySem.W.Frag) (D : Addr) : Prop where
  cl : (PySem.W.clsIn K D).isSome = true
  hg : PySem.W.findIn K (.ref D) "__getattribute__" = some (some (.builtin "BaseException.__getattribute__"))
  hk : PySem.W.findIn K (.ref D) "__getattr__" = some none
  hs : PySem.W.subIn K (.ref D) (.type "BaseException") = some true
  ha : PySem.W.findIn K (.ref D) "__class__" = some (some (.builtin "object.__class__"))
  hn : PySem.W.specialIn K (.builtin "object.__class__") "__get__" = some (some (.builtin "getset_descriptor.__get__"))
  ht : PySem.W.takesIn K (.builtin "object.__class__") = some true
  hm : PySem.W.mroIn K D (.type "object") = some true
  hd : PySem.W.hasDictIn K D = true
def vUi : PyData → Option (Str × List (PyData × PyData))
  | .dict ((.none, .int i) :: (.none, .str c) :: fs) => if i = 0 then some (c, fs) else none
  | _ => none
section
variable {X : Cx} {pins : List (Addr × Obj)} {σ : L2.St} {H : Hp} {s : Shared}
end
inductive ClsL (X : Cx) : List Expr → List V → List Value → Prop
  | nil : ClsL X [] [] []
  | cons {e : Expr} {es : List Expr} {c : V} {cs : List V} {u : Value} {us : List Value} : PE X e (tC c) → ClsV c u → starEach (e :: es) X.env = (false, eval e X.env) :: starEach es X.env → ClsL X es cs us → ClsL X (e :: es) (c :: cs) (u :: us)
theorem ClsL.vs {X : Cx} : ∀ {es : List Expr} {cs : List V} {us : List Value}, ClsL X es cs us → Paired ClsV cs us
  | _, _, _, .nil => .nil
  | _, _, _, .cons _ k _ t => .cons k t.vs
section
variable {X : Cx} {B : XBt} {e c : Expr} {es : List Expr} {f : Pg EV} {p1 p2 pos : Pos} {x : Str} {us : List Value} {t1 : List (String × Bool)} {t2 : List (Str × Bool)}
def yKc (n : Str) : List (PyData × PyData) → Option PyData
  | (.str k, d) :: r => if n = k then some d else yKc n r
  | _ => none
theorem xU3 {K : PySem.W.Frag} {F : Hp} {n : Str} : ∀ {fs : List (PyData × PyData)} {vs : List (Str × V)} {d : PyData}, RF K F fs vs → yKc n fs = some d → ∃ v, vs.lookup n = some v ∧ R K F d v
  | _, _, _, .nil, h => by cases h
  | _, _, d, .cons (k := k) h t, e => by
    unfold yKc at e
    by_cases q : n = k
    · subst q
      rw [if_pos rfl] at e
      cases e
      exact ⟨_, by simp [List.lookup], h⟩
    · rw [if_neg q] at e
      obtain ⟨v, h1, h2⟩ := xU3 t e
      exact ⟨v, by rw [List.lookup_cons, show (n == k) = false from beq_eq_false_iff_ne.mpr q]; exact h1, h2⟩
end
end Ev

namespace PySem
open Sem (wp)
section
theorem yJh {v : Value} {o : Obj} {H : Heap → Prop} (B : Begins v o H) :
    Meets (Builtin.«enumerate.__new__» ⟨[.type "enumerate", v], []⟩) (fun _ R s => H s.heap ∧
      R (.ok (.ret (.ref (s.heap.push o).objs.size))) { s with heap := (s.heap.push o).push { cls := .type "enumerate", data := .fields #[.none, .bool false, .ref s.heap.objs.size, rawInt 0, .none, .none] } }) :=
  .of_wp fun prog w A R s h => by
    obtain ⟨hp, g, d, tk, os⟩ := s; obtain ⟨h1, h⟩ := h
    have hsub := sub_enumerate
    have q1 : ∀ {A' : Around} {E : Value → Shared → Prop} {Q : Value → Shared → Prop}, Q (.ref hp.objs.size) ⟨hp.push o, g, d, tk, os⟩ → wpAny (model prog w) A' (pyIter v) Q E ⟨hp, g, d, tk, os⟩ :=
      fun q => B.iter prog w _ _ ⟨hp, g, d, tk, os⟩ _ h1 q
    wp_walk using q1
    refine wpAny_stack_any fun st => wpAny_pure ?_
    split
    · rename_i c _ _ _ _ _
      cases (c == Value.type "enumerate")
      · wp_walk using q1
        exact ⟨_, rfl, h⟩
      · wp_walk using q1
        exact ⟨_, rfl, h⟩
    · wp_walk using q1
      exact ⟨_, rfl, h⟩
variable {prog : Program} {w : World} {A : Around} {E : Value → Shared → Prop} {s : Shared}
theorem xU5 {e it t : Addr} {i : Nat} {j : Int} {items : Array Value} {old : Value} {Q : Option Value → Shared → Prop} (hh : A.handled = none) (he : IsEnum s.heap e it j old) (hit : s.heap.IsTupleIter it t i) (ht : s.heap.IsTuple t items) (hx : items[i]? = none)
    (hQ : ∀ h', Heap.ExtBut it s.heap h' → Q none { s with heap := h' }) : wpAny (model prog w) A (pyNext (.ref e)) Q E s := by
  have hT : s.TypeIs (.ref e) "enumerate" := ⟨_, he, rfl⟩
  unfold pyNext
  refine wpAny_bind (wpAny_attempt (wpAny_callSpecial?_slot (name := Str.ofString "__next__") hT F.slot_enumerate_next
    (wpAny_call_entry F.slot_enumerate_next hT F.entry_enumerate_next ?_ (F.args_enumerate_next_1 _))))
  show wpAny _ _ (field (.ref e) 2 >>= _) _ _ _
  refine wpAny_bind (wpAny_field he rfl (x := .ref it) rfl ?_)
  refine wpAny_bind (wpAny_nextOf_tuple_end hh hit ht hx fun h' x he' hx' => ?_)
  obtain ⟨o, ho, hc⟩ := hx'
  refine wpAny_bind (wpAny_isInstance (T := "StopIteration") (b := true) ⟨o, ho, hc⟩ isSubtype_stop ?_)
  exact wpAny_pure (hQ _ he')
theorem xXa {v : Value} {o : Obj} {H : Heap → Prop} {Q : Value → Shared → Prop} (B : Begins v o H) (h1 : H s.heap)
    (h : ∀ h', IsEnum h' (s.heap.objs.size + 1) s.heap.objs.size 0 .none → h'.get? s.heap.objs.size = some o → h'.objs.size = s.heap.objs.size + 2 →
      (∀ b o, s.heap.get? b = some o → h'.get? b = some o) → Q (.ref (s.heap.objs.size + 1)) { s with heap := h' }) :
    wpAny (model prog w) A (call (.type "enumerate") [v]) Q E s := by
  refine callType_new F.called_enumerate (by decide) (F.typeCall_enumerate_1 _) (F.newCall_enumerate_1 _) (fun obj => F.args_object_init_2 obj _) F.entry_enumerate_new
    (yJh B) ⟨h1, ?_⟩
  have hz : (s.heap.push o).objs.size = s.heap.objs.size + 1 := Heap.size_push ..
  show _ ∧ _
  rw [hz]
  have he : IsEnum ((s.heap.push o).push { cls := .type "enumerate", data := .fields #[.none, .bool false, .ref s.heap.objs.size, rawInt 0, .none, .none] }) (s.heap.objs.size + 1) s.heap.objs.size 0 .none := by
    have := Heap.get?_push_size (s.heap.push o) (o := { cls := .type "enumerate", data := .fields #[.none, .bool false, .ref s.heap.objs.size, rawInt 0, .none, .none] }) rfl
    rw [hz] at this; exact this
  refine ⟨⟨_, he, rfl⟩, h _ he (Heap.get?_push_of_some _ (Heap.get?_push_size _ B.free)) (by rw [Heap.size_push, hz]) fun b o x => Heap.get?_push_of_some _ (Heap.get?_push_of_some _ x)⟩
end
end PySem
namespace Ev
open PySem PySem.Spec PyProof.Rows L2
def vXs (K : PySem.W.Frag) (a : Addr) : It :=
  ⟨fun i H => ∃ (xs : List V) (x : V), SqT K H a xs ∧ xs[i]? = some x, fun i H v H' => ∃ T x, v = .ref T ∧ H T = none ∧ H' = upd H T (.tup [.int (i : Nat), x]) ∧ ∀ xs, SqT K H a xs → xs[i]? = some x, fun i H => ∃ xs : List V, SqT K H a xs ∧ xs.length ≤ i⟩
theorem xKo {P : Program} {w : World} {K : PySem.W.Frag} {elts : List Expr} {kk : Nat} {tpos : Pos} (a e it : Addr) :
    Turn P w K (.Tuple elts kk tpos) (vXs K a) [e, it] e (fun i h => (∃ old, IsEnum h e it ((i : Nat) : Int) old) ∧ h.IsTupleIter it a i ∧ e ≠ it) where
  mem := by simp
  obj := fun i h st b hb => by
    obtain ⟨⟨old, he⟩, ⟨o, ho, hc, hd⟩, _⟩ := st
    have e' : b = e ∨ b = it := by simpa using hb
    rcases e' with z | z
    · rw [z]; exact ⟨_, he, fun v q => nomatch q⟩
    · rw [z]; exact ⟨o, ho, fun v q => by rw [hd] at q; cases q⟩
  keep := fun i h h' st k => let ⟨⟨old, he⟩, hi, hne⟩ := st; ⟨⟨old, k e (by simp) _ he⟩, hi.at fun o q => k it (by simp) o q, hne⟩
  item := by
    intro X hP hw hK hc i pins s σ H E I hf st hg
    subst hP hw hK
    obtain ⟨⟨old, he⟩, hit, hne⟩ := st
    obtain ⟨xs, x, hq, hx⟩ := hg
    obtain ⟨its, rv, p, hz⟩ := I.tuple hq
    obtain ⟨u, hu, ru⟩ := rv.get hx
    have hel : e < s.heap.objs.size := Heap.lt_size he
    have hil : it < s.heap.objs.size := by obtain ⟨_, q, _⟩ := hit; exact Heap.lt_size q
    have hp : s.heap.IsTuple a its.toArray := p
    have hai : a ≠ it := fun z => by
      obtain ⟨o1, e1, _, n, d1⟩ := hp
      obtain ⟨o2, e2, _, d2⟩ := hit
      rw [z, e2] at e1
      cases e1
      rw [d1] at d2
      cases d2
    have hea : e ≠ a := fun z => by
      obtain ⟨o1, e1, c1, _⟩ := hp
      have he' : s.heap.get? e = _ := he
      rw [z, e1] at he'
      cases he'
      exact absurd c1 (by simp)
    have hil2 : i < its.toArray.size := by
      have := (List.getElem?_eq_some_iff.mp hu).1
      simpa using this
    refine wpAny_pyNext_enum_itemD (Draws.tuple (show X.A.in1.handled = none from I.ok.hd hc) it a hai its.toArray) he ⟨hit, hp⟩ hil2 hne (by simp [hne, hea]) fun x' h' tk hP ho hst' hT hsz hk => ?_
    have hx' : x' = u := by
      have h1 : its.toArray[i]? = some x' := hP
      have h2 : its.toArray[i]? = some u := by simpa using hu
      rw [h1] at h2
      exact Option.some.inj h2
    subst hx'
    obtain ⟨hit', _⟩ := hst'
    refine ⟨_, rfl, wpAny_letOwnedTupleGo_enum (s := { s with heap := h', toks := tk + 1 }) ho fun h'' he' sb => ?_⟩
    have hT2 : h''.get? s.heap.objs.size = some { cls := .type "tuple", data := .seq #[.int i tk, x'] } := (sb.2 _ (Nat.ne_of_gt hel)).trans hT
    have new : ObjOk X.prog X.w (upd H s.heap.objs.size (.tup [.int (i : Nat), x])) h'' s.heap.objs.size (.tup [.int (i : Nat), x]) :=
      ⟨by show 2 ≤ sizeLine; decide, [.int i tk, x'], .cons ⟨_, rfl⟩ (.cons ru .nil), ⟨_, hT2, rfl, _, rfl⟩⟩
    have I1 : L2.Inv X pins σ (upd H s.heap.objs.size (.tup [.int (i : Nat), x])) { s with heap := h'', toks := tk + 1 } :=
      I.turnedNew (ch := [e, it]) (fun b ob hb q => (sb.2 b (fun z => hb (by simp [z]))).trans (hk b ob (fun z => hb (by simp [z])) (fun z => hb (by simp [z])) q)) hf (Nat.le_refl _) new
    refine ⟨.ref s.heap.objs.size, _, I1, rfl, ⟨_, x, rfl, I.hok.fresh (Nat.le_refl _), rfl, fun ys hy => by rw [I.tuple_inj hy hq]; exact hx⟩, ⟨⟨x', ?_⟩, hit'.at fun o q => (sb.2 it (Ne.symm hne)).trans q, hne⟩, fun b hb => ?_⟩
    · have e1 : ((i + 1 : Nat) : Int) = (i : Int) + 1 := by omega
      rw [e1]; exact he'
    · have hb' : b < s.heap.objs.size := by
        have e' : b = e ∨ b = it := by simpa using hb
        rcases e' with z | z
        · rw [z]; exact hel
        · rw [z]; exact hil
      rw [upd_ne (Nat.ne_of_lt hb')]
      exact (hf b hb).1
  done := by
    intro X hP hw hK hc i pins s σ H E I hf st hg
    subst hP hw hK
    obtain ⟨⟨old, he⟩, hit, hne⟩ := st
    obtain ⟨xs, hq, hx⟩ := hg
    obtain ⟨its, rv, p, hz⟩ := I.tuple hq
    obtain ⟨f0, f1, f2, f3, f4, f5⟩ := hf it (by simp)
    have hp : s.heap.IsTuple a its.toArray := p
    have hai : a ≠ it := fun z => by
      obtain ⟨o1, e1, _, n, d1⟩ := hp
      obtain ⟨o2, e2, _, d2⟩ := hit
      rw [z, e2] at e1
      cases e1
      rw [d1] at d2
      cases d2
    have hl := rv.length
    exact xU5 (I.ok.hd hc) he hit hp (by simp; omega) fun h' eb => ⟨rfl, I.turned (t' := s.toks) (fun b o hb q => eb b o hb q) f0 f1 f3 f4 f5⟩
  self := fun A i s Q E st h => let ⟨⟨_, he⟩, _⟩ := st; wpAny_pyIter_enum he h
def wW5 (K : PySem.W.Frag) (ta : TA) : TI := fun σ H R => ta σ H fun vs H1 => ∃ a xs, vs = [.ref a] ∧ ((SqT K H1 a xs ∧ R (vXs K a) H1) ∨ (SqL K H1 a xs ∧ R (Ite K a) H1))
theorem xH4 {X : Cx} {e : Expr} {ta : TA} {p pos tpos : Pos} {elts : List Expr} {kk : Nat} (hg : Gl X "enumerate") (hm : X.mg "enumerate" = none) (ha : PA X [e] ta) (hs : starEach [e] X.env = [(false, eval e X.env)] := by rfl) :
    PI X (.Tuple elts kk tpos) (.Call (.Name "enumerate" p) [e] [] pos) (wW5 X.K ta) := by
  refine ⟨fun pins s σ H R I h => ?_⟩
  refine Call_ (ld_blt I hg hm boot_enumerate (PyProof.Rows.callWith_type1 (thn (ha.run pos pins s σ H _ I h) fun us s1 ⟨vs, H1, I1, r1, q1⟩ => ?_) hs rfl))
  obtain ⟨a, xs, ex, q1⟩ := q1
  subst ex
  cases r1 with
  | cons r rr =>
    cases rr
    cases r
    have fp : ∀ b, b ∈ [s1.heap.objs.size + 1, s1.heap.objs.size] → s1.heap.objs.size ≤ b := fun b hb => by
      have e' : b = s1.heap.objs.size + 1 ∨ b = s1.heap.objs.size := by simpa using hb
      rcases e' with z | z
      · rw [z]; exact Nat.le_add_right _ _
      · rw [z]; exact Nat.le_refl _
    rcases q1 with ⟨hq, q⟩ | ⟨hq, q⟩
    · obtain ⟨its, rv, p', hz⟩ := I1.tuple hq
      refine xXa (begins_tuple a its.toArray) (show s1.heap.IsTuple a its.toArray from p') fun h' he hit hsz hk => wpAny_pyIter_enum he ?_
      have I2 : L2.Inv X pins σ H1 { s1 with heap := h' } := I1.kept (t' := s1.toks) hk
      have hit' : h'.IsTupleIter s1.heap.objs.size a 0 := ⟨_, hit, rfl, rfl⟩
      exact ⟨s1.heap.objs.size + 1, [s1.heap.objs.size + 1, s1.heap.objs.size], _, _, H1, rfl, I2, xKo a (s1.heap.objs.size + 1) s1.heap.objs.size, ⟨⟨.none, he⟩, hit', Nat.succ_ne_self _⟩, fun b hb => I1.fpOk (fp b hb) (I1.hok.fresh (fp b hb)), q⟩
    · obtain ⟨its, rv, p', hz⟩ := I1.list hq
      refine call_enumerate_list p'.isList fun h' he hit hsz hk => wpAny_pyIter_enum he ?_
      have I2 : L2.Inv X pins σ H1 { s1 with heap := h' } := I1.kept (t' := s1.toks) hk
      exact ⟨s1.heap.objs.size + 1, [s1.heap.objs.size + 1, s1.heap.objs.size], _, _, H1, rfl, I2, turn_enum a (s1.heap.objs.size + 1) s1.heap.objs.size, ⟨⟨.none, he⟩, hit, Nat.succ_ne_self _⟩, fun b hb => I1.fpOk (fp b hb) (I1.hok.fresh (fp b hb)), q⟩
theorem xJd {K : PySem.W.Frag} {w : Wd} {a : Addr} {xs : List V} {ds : List PyData} (ha : SqT K w.F a xs) (ra : RA K w.F ds xs) : xWu K w (vXs K a) (yW5 ds) := by
  intro w1 f r i
  have qa : SqT K w1.H a xs := zZ7 r.sub (yYb f.ext ha)
  refine ⟨fun d hd => ?_, fun hl => ⟨xs, qa, ?_⟩⟩
  · unfold yW5 at hd
    rw [List.getElem?_mapIdx] at hd
    cases e1 : ds[i]? with
    | none =>
      rw [e1] at hd
      cases hd
    | some d1 =>
      rw [e1] at hd
      cases hd
      obtain ⟨x, hx, rx⟩ := ra.get e1
      refine ⟨⟨xs, x, qa, hx⟩, fun v H' yl => ?_⟩
      obtain ⟨T, x', rfl, hT, rfl, g1⟩ := yl
      have e1 := (g1 xs qa).symm.trans hx
      cases e1
      exact xZf r hT (.int _) (rx.mono f.ext)
  · rw [← ra.len]
    unfold yW5 at hl
    rw [List.length_mapIdx] at hl
    exact hl
def xXb : List AV → Option (List PyData)
  | [.d (.list xs)] => some (yW5 xs)
  | [.d (.tuple xs)] => some (yW5 xs)
  | _ => none
def xQk (fa : Pg (List AV)) : Pg (List PyData) := .bind fa fun vs => zKz (xXb vs)
section
variable {X : Cx} {B : XBt} {e : Expr} {fa : Pg (List AV)} {p pos tpos : Pos} {elts : List Expr} {kk : Nat}
theorem xKt (hg : Gl X "enumerate") (hm : X.mg "enumerate" = none) (ha : xKl X B [e] fa) (hs : starEach [e] X.env = [(false, eval e X.env)] := by rfl) :
    xXj X B (.Tuple elts kk tpos) (.Call (.Name "enumerate" p) [e] [] pos) (xQk fa) := by
  intro w Q r hw
  refine ⟨_, xH4 hg hm xY2 hs, ?_⟩
  refine zUz ha r hw fun vs w1 xs e1 f1 r1 rv h1 => ?_
  obtain ⟨ds, ed, q⟩ := zXn h1
  unfold xXb at ed
  split at ed
  · cases ed
    cases rv with
    | cons h t =>
      cases t
      cases h with
      | lst ha ra => exact ⟨_, _, rfl, .inr ⟨(ha.mox r1.sub).sq, q w1 _ rfl e1 f1 r1 (xWb ha ra)⟩⟩
  · cases ed
    cases rv with
    | cons h t =>
      cases t
      cases h with
      | tup ha ra => exact ⟨_, _, rfl, .inl ⟨zZ7 r1.sub ha, q w1 _ rfl e1 f1 r1 (xJd ha ra)⟩⟩
  · cases ed
end
section
variable {m : Mem} {X : Exn → Mem → Prop}
@[simp] theorem vXb {fa : Pg (List AV)} {P : List PyData → Mem → Prop} : W (xQk fa) m X P ↔ W fa m X fun vs m1 => ∃ ds, xXb vs = some ds ∧ P ds m1 := by
  unfold xQk
  simp
@[simp] theorem wGt {xs : List PyData} : xXb [.d (.list xs)] = some (yW5 xs) := rfl
@[simp] theorem wGs {xs : List PyData} : xXb [.d (.tuple xs)] = some (yW5 xs) := rfl
variable {E : EV → Mem → Prop}
@[simp] theorem wYh {n k : Str} {d : PyData} {r : List (Str × PyData)} : yKc n (zZr ((k, d) :: r)) = if n = k then some d else yKc n (zZr r) := rfl
end
def xQi (x : Str) : Pg Fl := fun m => .thr ⟨x, []⟩ m
def vXt (K : PySem.W.Frag) (mg : Str → Option Value) (x : Str) : Prop :=
  ∃ C : Addr, mg x = some (.ref C) ∧ yQx K x C ∧ PySem.W.keepIn K (.ref C) = true ∧ PySem.W.excIn K C [.type "ValueError", .type "Exception", .type "BaseException", .type "object"] "ValueError.__new__" = true ∧
    PySem.W.subIn K (.ref C) (.type "BaseException") = some true ∧ PySem.W.typeIn K (.ref C) = some (.type "type")
section
variable {X : Cx} {B : XBt} {x : Str} {p pos pos' : Pos}
theorem xH3 {C : Addr} {bmB : List Value} {B newId initId : String} (F : ExcBaseFacts B newId initId bmB) (q : PySem.W.excIn X.K C bmB newId = true) (gC : X.mg x = some (.ref C)) (kC : PySem.W.keepIn X.K (.ref C) = true) (r : Raises X (.ref C)) (hg : Gl X x)
    (hdb : (x == ("__debug__" : Str)) = false := by decide) : PMk X (.Call (.Name x p) [] [] pos) (fun _ H Q => Q (.ref C) none H) := by
  intro pins s σ H Q I h
  refine wpAny_Call_Name_kw (ld_glob I hg gC ?_ hdb)
  refine PySem.W.callWith_K0 I.kIn kC ?_
  obtain ⟨bm, N, nm, qn, bs, hdct, sn, sub, ab, col, dd, k0, k1, k2, k3, k5, mN, hC, hN, hni, T⟩ := exc_obj I.kIn q
  refine wpAny_call_exc_subT F T hC hN hni (fun h' e hm => ?_) (by show 0 ≤ sizeLine; rw [sizeLine_eq]; omega)
  exact mk_of I hm r h (I.hok.gone hm.new)
theorem xKs (C : Ctx X B) (h : vXt X.K X.mg x) (hg : Gl X x) (hdb : (x == ("__debug__" : Str)) = false := by decide) :
    xXi X B (.Raise (some (.Call (.Name x p) [] [] pos)) none pos') (xQi x) := by
  obtain ⟨D, hm, hc, kC, q, h1, h2⟩ := h
  intro w En r hw
  refine yJz (ps_raise C.calm C.tk (xH3 PySem.F.excBase_ValueError q hm kC (raises_own h1 h2) hg hdb)) ?_
  exact ⟨⟨x, []⟩, w, r, rfl, rfl, ⟨D, hc, rfl, .inl ⟨rfl, rfl⟩⟩, hw w rfl (FolS.refl w) r⟩
end
section
variable {m : Mem} {X : Exn → Mem → Prop} {F : Fl → Mem → Prop}
@[simp] theorem wHd {x : Str} : W (xQi x) m X F ↔ X ⟨x, []⟩ m := ⟨fun h => h.go, fun h => ⟨h⟩⟩
end
section
variable {X : Cx} {B : XBt} {e c : Expr} {es : List Expr} {f : Pg EV} {p1 p2 pos : Pos} {x : Str} {ns : List Str} {t1 : List (String × Bool)} {t2 : List (Str × Bool)}
end
def ExN (K : PySem.W.Frag) (x : Str) (fs : List Str) : Prop := ∃ D, yQx K x D ∧ ExcF K D ∧ ∀ f, f ∈ fs → PySem.W.findIn K (.ref D) f = some none
end Ev

namespace Ev
open PySem PySem.Spec PyProof.Rows L2
def zXz (s : Stmt) (j : Nat) : Stmt := match s with
  | .ClassDef _ _ _ b _ _ _ _ _ _ _ => b.getD j (.Pass ⟨0, 0, 0, 0⟩)
  | _ => .Pass ⟨0, 0, 0, 0⟩
def wKf (K : PySem.W.Frag) (C : Addr) (nI : String) (tl : List Value) : Bool := PySem.W.excInitIn K C tl nI && PySem.W.excOver K C tl
def wJ0 (K : PySem.W.Frag) (C : Addr) : Bool := (wKf K C "ValueError.__new__" [.type "ValueError", .type "Exception", .type "BaseException", .type "object"] || wKf K C "IndexError.__new__" [.type "IndexError", .type "LookupError", .type "Exception", .type "BaseException", .type "object"] ||
  wKf K C "LookupError.__new__" [.type "LookupError", .type "Exception", .type "BaseException", .type "object"] || wKf K C "OverflowError.__new__" [.type "OverflowError", .type "ArithmeticError", .type "Exception", .type "BaseException", .type "object"]) &&
  PySem.W.hasDictIn K C && decide (PySem.W.findIn K (.ref C) "__setattr__" = some (some (.builtin "object.__setattr__"))) && decide (PySem.W.subIn K (.ref C) (.type "BaseException") = some true) && decide (PySem.W.typeIn K (.ref C) = some (.type "type")) && PySem.W.keepIn K (.ref C)
theorem yHz {K : PySem.W.Frag} {C : Addr} {N nI iI : String} {tl : List Value} (FB : ExcBaseFacts N nI iI tl) (SF : StoreFacts N tl "object.__setattr__" "object") (h : wKf K C nI tl = true) : ∃ (N nI iI : String) (tl : List Value), ExcBaseFacts N nI iI tl ∧ StoreFacts N tl "object.__setattr__" "object" ∧ PySem.W.excInitIn K C tl nI = true ∧ PySem.W.excOver K C tl = true := by
  unfold wKf at h
  simp only [Bool.and_eq_true] at h
  exact ⟨_, _, _, _, FB, SF, h.1, h.2⟩
theorem wJz {K : PySem.W.Frag} {C : Addr} (h : wJ0 K C = true) : OexG K C := by
  unfold wJ0 at h
  simp only [Bool.and_eq_true, Bool.or_eq_true, decide_eq_true_eq] at h
  obtain ⟨⟨⟨⟨⟨h, h0⟩, h1⟩, h2⟩, h3⟩, h4⟩ := h
  refine ⟨?_, h0, h1, h2, h3, h4⟩
  rcases h with ((h | h) | h) | h
  · exact yHz F.excBase_ValueError F.store_ValueError h
  · exact yHz F.excBase_IndexError F.store_IndexError h
  · exact yHz F.excBase_LookupError F.store_LookupError h
  · exact yHz F.excBase_OverflowError F.store_OverflowError h
def xWe (K : PySem.W.Frag) (C fI : Addr) (fs : List Str) : Bool := decide (PySem.W.typeIn K (.ref fI) = some (.type "function")) && fs.all fun f => decide (PySem.W.findIn K (.ref C) f = some none)
def vQ2 (K : PySem.W.Frag) (C : Addr) : Bool := PySem.W.keepIn K (.ref C) && PySem.W.excIn K C [.type "ValueError", .type "Exception", .type "BaseException", .type "object"] "ValueError.__new__" && decide (PySem.W.subIn K (.ref C) (.type "BaseException") = some true) && decide (PySem.W.typeIn K (.ref C) = some (.type "type"))
def wVp (K : PySem.W.Frag) (D : Addr) (fs : List Str) : Bool := (PySem.W.clsIn K D).isSome && decide (PySem.W.findIn K (.ref D) "__getattribute__" = some (some (.builtin "BaseException.__getattribute__"))) && decide (PySem.W.findIn K (.ref D) "__getattr__" = some none) && decide (PySem.W.subIn K (.ref D) (.type "BaseException") = some true) &&
  decide (PySem.W.findIn K (.ref D) "__class__" = some (some (.builtin "object.__class__"))) && decide (PySem.W.specialIn K (.builtin "object.__class__") "__get__" = some (some (.builtin "getset_descriptor.__get__"))) && decide (PySem.W.takesIn K (.builtin "object.__class__") = some true) &&
  decide (PySem.W.mroIn K D (.type "object") = some true) && PySem.W.hasDictIn K D && fs.all fun f => decide (PySem.W.findIn K (.ref D) f = some none)
theorem xZ6 {K : PySem.W.Frag} {x : Str} {D : Addr} {fs : List Str} (hx : yQx K x D) (h : wVp K D fs = true) : ExN K x fs := by
  unfold wVp at h
  simp only [Bool.and_eq_true, decide_eq_true_eq, List.all_eq_true] at h
  obtain ⟨⟨⟨⟨⟨⟨⟨⟨⟨h1, h2⟩, h3⟩, h4⟩, h5⟩, h6⟩, h7⟩, h8⟩, h9⟩, h10⟩ := h
  exact ⟨D, hx, ⟨h1, h2, h3, h4, h5, h6, h7, h8, h9⟩, h10⟩
def XI (K : PySem.W.Frag) (mg : Str → Option Value) (x qual : Str) (st : Stmt) (fs : List Str) : Prop :=
  ∃ (C fI : Addr) (fd : FuncData), mg x = some (.ref C) ∧ yQx K x C ∧ OexG K C ∧ PySem.W.findIn K (.ref C) "__init__" = some (some (.ref fI)) ∧ PySem.W.typeIn K (.ref fI) = some (.type "function") ∧ (∀ f, f ∈ fs → PySem.W.findIn K (.ref C) f = some none) ∧
    Fun K "__init__" qual st fI fd ∧ Binds K fd ("self" :: fs) []
theorem xHg {K : PySem.W.Frag} {mg : Str → Option Value} {x qual : Str} {st : Stmt} {fs : List Str} {C fI : Addr} {oc : Value} {od an : Option Addr} {osl : Array (Option Value)} {kV doc pm cdv ct : Value} (hm : mg x = some (.ref C)) (hx : yQx K x C) (ho : wJ0 K C = true) (hi : PySem.W.findIn K (.ref C) "__init__" = some (some (.ref fI))) (hb : xWe K C fI fs = true)
    (l : K.lookup fI = some ⟨oc, od, .func (PySem.W.fnOf "__init__" qual (defArgs st) (defBody st) (defScope st) .none kV doc pm an cdv ct), osl⟩) (c : PySem.W.codeIn K cdv qual = true) (k : PySem.W.keepIn K (.ref fI) = true)
    (hbn : ∀ (kV doc pm : Value) (an : Option Addr) (cdv ct : Value) (us : List Value), us.length = ("self" :: fs : List Str).length → bindArgs (PySem.W.fnOf "__init__" qual (defArgs st) (defBody st) (defScope st) .none kV doc pm an cdv ct) ⟨us, []⟩ = pure (("self" :: fs : List Str).zip us)) : XI K mg x qual st fs := by
  unfold xWe at hb
  simp only [Bool.and_eq_true, decide_eq_true_eq, List.all_eq_true] at hb
  exact ⟨C, fI, _, hm, hx, wJz ho, hi, hb.1, hb.2, fun_mk l c k, (fun_mk l c k).binds hbn⟩
theorem wHq {K : PySem.W.Frag} {mg : Str → Option Value} {x : Str} {C : Addr} (hm : mg x = some (.ref C)) (hx : yQx K x C) (h : vQ2 K C = true) : vXt K mg x := by
  unfold vQ2 at h
  simp only [Bool.and_eq_true, decide_eq_true_eq] at h
  exact ⟨C, hm, hx, h.1.1.1, h.1.1.2, h.1.2, h.2⟩
section
variable {P : Program} {w : World} {K : PySem.W.Frag} {mg : Str → Option Value} {base : Heap} {x qual f g : Str} {st : Stmt} {k : Nat} {p1 p2 p3 p4 r1 r2 r3 r4 : Pos}
theorem wGq (h : XI K mg x qual st [f]) (hk : 1 ≤ k) (S : FnScope ["self", f] ["self", f] (defScope st)) (hb : defBody st = [.Assign [.Attribute (.Name "self" p1) f p2] (.Name f p3) p4])
    (hs : (defScope st).names.lookup ("self" : Str) = some .local) (hf : (defScope st).names.lookup f = some .local) (hd : (f == ("__debug__" : Str)) = false) (hcd : (f == ("__classdict__" : Str)) = false) : ExX P w K mg base k x [f] := by
  obtain ⟨C, fI, fd, h1, h2, h3, h4, h5, h6, h7, h8⟩ := h
  exact ⟨C, fI, fd, h1, h2, h3, h4, h5, h6, (vQt h7 S hb hs hf hd hcd (k := 0)).mono hk, h8⟩
end
section
variable {X : Cx} {B : XBt} {x n v : Str} {i j : Nat} {body : List Stmt} {np p1 p2 p3 pos pos' : Pos} {fb : Pg Fl} {tb : List (Str × Bool)}
end
section
variable {X : Cx} {B : XBt} {n v : Str} {i j k : Nat} {es : List Expr} {ns : List Str} {body : List Stmt} {tpos p1 p2 p3 pos pos' : Pos} {fb : Pg Fl} {tb : List (Str × Bool)}
end
end Ev

namespace Ev
open PySem PySem.Spec PyProof.Rows L2
section
variable {X : Cx} {B : XBt} {x : Str} {body suite : List Stmt} {b₀ : Stmt} {np pos pos' : Pos} {fb fg : Pg Fl} {tb : List (Str × Bool)}
end
end Ev

namespace Ev
open PySem PySem.Spec PyProof.Rows L2
def zHj (P : Program) (w : World) (K : PySem.W.Frag) (mg : Str → Option Value) (base : Heap) (k : Nat) (f : Addr) (ks : List Str) (h : Fn) : Prop :=
  ∀ (A : Around) (outer : List Env) (s : Shared) (w0 : Wd) (us ws : List Value) (args : List AV) (xs ys : List V) (Q : VK) (E : XK), A.guards = some [] → Room k A → Env0 P w K mg base A outer s w0.H → w0.m.sl = [] → w0.sg = [] → (∀ a, w0.H a ≠ none → w0.Z a) → Rep K w0 →
    Paired (RV K w0) args (xs ++ ys) → Vals xs us → Vals ys ws → ys.length = ks.length → yWg K h (fun x w' => ∀ cls d, xWv K w' x cls d → E cls d w'.H) w0 args Q →
    codeAny (model P w) A (.call (.ref f) ⟨us, ks.zip ws⟩) (CR (L2.CX P w) outer P w w0.H s Q E) s
theorem zHj.up {P : Program} {w : World} {K : PySem.W.Frag} {mg : Str → Option Value} {base : Heap} {j k : Nat} {f : Addr} {ks : List Str} {h : Fn} (F : zHj P w K mg base j f ks h) (e : j ≤ k) : zHj P w K mg base k f ks h :=
  fun A outer s w0 us ws args xs ys Q E hg hr => F A outer s w0 us ws args xs ys Q E hg (hr.mono e)
def xG2 (X : Cx) (B : XBt) (u : Value) (ks : List Str) (h : Fn) : Prop :=
  ∀ (w : Wd) (pins : List (Addr × Obj)) (s : Shared) (us ws : List Value) (args : List AV) (xs ys : List V) (Q : VK), L2.Inv X pins w.sg w.H s → Rep X.K w → Paired (RV X.K w) args (xs ++ ys) → Vals xs us → Vals ys ws → ys.length = ks.length →
    (zJ1 h args w.m).wp (zYh X.K w Q) (XW X.K B w) → wpAny (model X.prog X.w) X.A (call u us (ks.zip ws)) (EP X pins w.sg Q) X.xe s
section
variable {X : Cx} {B : XBt} {k : Nat} {f : Addr} {ks : List Str} {h : Fn}
theorem xKg {w : Wd} {args : List AV} {Q : VK} (r : Rep X.K w) (hw : (zJ1 h args w.m).wp (fun v m' => zYh X.K w Q v m') (XW X.K B w)) :
    yWg X.K h (fun x w' => ∀ cls d, xWv X.K w' x cls d → WXB X.K B cls d w.sg w'.H) (bare w) args Q := by
  refine (yKg hw).imp (fun v m' q w' x e1 e2 e3 f r' re => ?_) fun x m' q w' e1 e2 e3 f r' cls d ex => ?_
  · obtain ⟨r2, f2⟩ := yXt r f r'
    exact q (back w w') x (by show (⟨w.m.sl, w'.m.cs⟩ : Mem) = _; rw [e2]) rfl f2 r2 (yUx r f e1 re)
  · obtain ⟨r2, f2⟩ := yXt r f r'
    exact ⟨x, back w w', r2, rfl, rfl, ex, q (back w w') (by show (⟨w.m.sl, w'.m.cs⟩ : Mem) = _; rw [e2]) (f2.s r) r2⟩
theorem xQo (C : Ctx X B) (F : zHj X.prog X.w X.K X.mg X.base k f ks h) (hr : Room k X.A) : xG2 X B (.ref f) ks h := by
  intro w pins s us ws args xs ys Q I r hv ru rw hl hw
  refine wpAny_call (codeAny_mono (F X.A X.stack s (bare w) us ws args xs ys Q (fun cls d H' => WXB X.K B cls d w.sg H') C.gd hr I.env0 rfl rfl (fun _ h => h) (yKi r) (yJ9 hv) ru rw hl (xKg r hw)) fun r s' hq => ?_)
  match r, hq with
  | .error _, hq => exact xZe C I hq
  | .ok (.ret u), hq => exact I.after hq
  | .ok .next, hq => exact (show False from hq).elim
  | .ok .brk, hq => exact (show False from hq).elim
  | .ok .cont, hq => exact (show False from hq).elim
end
def pD (n m q : Nat) (is : List Nat) (ds : List PyData) (g : Fn) : Fn := fun args => if args.length = n + m ∧ (pick is (args ++ dAV ds)).length = q then g (pick is (args ++ dAV ds)) else .stuck
section
variable {P : Program} {w : World} {K : PySem.W.Frag} {mg : Str → Option Value} {base : Heap} {k : Nat} {f : Addr} {ks ps : List Str} {fd : FuncData}
theorem xGd {n q : Nat} {is : List Nat} {ds : List PyData} {dv : List Value} {dvs : List V} {g : Fn} (F : FnG P w K mg base k f fd ps (spG K ps.length g)) (hq : ps.length = q) (hd : Vals dvs dv) (hra : ∀ F : Hp, RA K F ds dvs)
    (hb : ∀ (s : Shared) (us ws : List Value), K.In s.heap → us.length = n → ws.length = ks.length → BindsTo s fd ⟨us, ks.zip ws⟩ (ps.zip (pick is (us ++ ws ++ dv)))) : zHj P w K mg base k f ks (pD n ks.length q is ds g) := by
  subst hq
  intro A outer s w0 us ws args xs ys Q E hg hr e0 z1 z2 hz r hv ru rw hl hc
  unfold yWg pD at hc
  split at hc
  · rename_i hlen
    obtain ⟨l1, l2⟩ := hlen
    have lx : xs.length + ys.length = args.length := by
      rw [← List.length_append]
      exact (zZt hv).symm
    have pv := zVq (zZq hv (xX1 (hra w0.F))) is
    have pu := zHb (zVq (zZq (zZq (zZ9 ru) (zZ9 rw)) (zZ9 hd)) is)
    exact F.go A outer s w0.H ⟨us, ks.zip ws⟩ _ _ Q E hg hr e0 (hb s us ws (e0.mod.kin.keeps fun b o e => (e0.bs b o e).1) (by rw [← ru.length]; omega) (by rw [← rw.length]; exact hl)) pu ⟨w0, _, z1, z2, rfl, hz, r, pv, l2, hc⟩
  · exact hc.elim
theorem wWa {w' : Wd} {Z : Addr → Prop} (hs : ∀ a, Z a → w'.Z a) : ∀ {v : EV} {x : V}, RE K w' v x → RE K (reZ w' Z) v x
  | .d _, _, h => h
  | .cell _, _, h => h
  | .pk _ _, _, h => h
  | .new o, _, ⟨a, e, h1, h3, h4, h5, h6⟩ => ⟨a, e, h1.keep (Same.refl _) (fun _ z => z) (fun _ z => z) (fun d _ z => hs d z), h3, h4, fun z => h5 (hs a z), h6⟩
theorem xWm {g : Fn} {B : XBt} {w0 w3 : Wd} {args : List AV} {Q : VK} (r : Rep K w0) (em : w3.m = w0.m) (ero : w3.ro = w0.ro) (eF : Same w0.F w3.F) (eH : ∀ a o, w0.H a = some o → w3.H a = some o) (eG : ∀ a, w3.F a ≠ none → w0.F a ≠ none ∨ w0.H a = none) (hZ : ∀ a, w3.Z a ↔ w3.H a ≠ none) (eT : w3.T = w0.T)
    (hB : ∀ x w', B x (reZ w' w0.Z) → B x w') (hc : yWg K g B w0 args Q) : yWg K g B w3 args Q := by
  have hs : ∀ {a}, w0.Z a → w3.Z a := fun {a} z => (hZ a).mpr (by
    cases e : w0.H a with
    | none => exact absurd e (r.zl a z)
    | some u => rw [eH a u e]; simp)
  have nz : ∀ {a}, ¬ w3.Z a → ¬ w0.Z a := fun h z => h (hs z)
  have fo : ∀ {w' : Wd}, FolS w3 w' → FolS w0 (reZ w' w0.Z) := fun {w'} f => ⟨rfl, f.t.trans eT, eF.trans f.ext, by rw [← ero]; exact f.pre, fun a o h n z k => f.frm a o (eH a o h) (by rw [ero]; exact n) (hs z) k, fun a h => by
      rcases f.new a h with q | q
      · rw [ero] at q
        exact .inl q
      · exact .inr (nz q), fun a h => f.liv a (by
        cases e : w0.H a with
        | none => exact absurd e h
        | some u => rw [eH a u e]; simp), fun a h => by
      rcases f.grow a h with q | q
      · exact (eG a q).imp id fun e z => r.zl a z e
      · exact .inr (nz q)⟩
  unfold yWg at hc ⊢
  rw [em]
  refine hc.imp (fun v m' q w' x e1 e2 e3 f r' re => ?_) fun x m' q w' e1 e2 e3 f r' => ?_
  · have sub : ∀ a, w0.Z a → w'.Z a := fun a z => by rw [f.z]; exact hs z
    exact q (reZ w' w0.Z) x e1 e2 e3 (fo f) (xXz r' sub) (wWa sub re)
  · have sub : ∀ a, w0.Z a → w'.Z a := fun a z => by rw [f.z]; exact hs z
    exact hB x w' (q (reZ w' w0.Z) e1 e2 e3 (fo f) (xXz r' sub))
def pS (full : Bool) (n m q : Nat) (is : List Nat) (ds : List PyData) (g : Fn) : Fn := fun args =>
  if m ≤ args.length ∧ (full = true ∨ args.length - m = n) ∧ n ≤ args.length - m ∧ (pick is ((args.take (args.length - m)).take n ++ args.drop (args.length - m) ++ dAV ds)).length + 1 = q then
    .bind (zKz (xHx ((args.take (args.length - m)).drop n))) fun xs => g (pick is ((args.take (args.length - m)).take n ++ args.drop (args.length - m) ++ dAV ds) ++ [.d (.tuple xs)]) else .stuck
theorem xGc {full : Bool} {n q : Nat} {is : List Nat} {ds : List PyData} {dv : List Value} {dvs : List V} {g : Fn} {pv : Str} (F : FnG P w K mg base k f fd (ps ++ [pv]) (spG K (ps.length + 1) g)) (hq : ps.length + 1 = q) (hd : Vals dvs dv) (hra : ∀ F : Hp, RA K F ds dvs)
    (hb : ∀ (s : Shared) (us ws rest : List Value), K.In s.heap → us.length = n → ws.length = ks.length → (full = true ∨ rest = []) → wXo s fd ⟨us ++ rest, ks.zip ws⟩ (ps.zip (pick is (us ++ ws ++ dv))) pv rest) : zHj P w K mg base k f ks (pS full n ks.length q is ds g) := by
  subst hq
  intro A outer s w0 us ws args xs ys Q E hg hr e0 z1 z2 hz r hv ru rw hl hc
  unfold yWg pS at hc
  split at hc
  · rename_i hlen
    obtain ⟨l0, lf, l1, l2⟩ := hlen
    have lx : xs.length + ys.length = args.length := by
      rw [← List.length_append]
      exact (zZt hv).symm
    have la : args.length - ks.length = xs.length := by omega
    rw [la] at hc lf l1 l2
    obtain ⟨ds', ed, hc⟩ := zXn (wp_bind hc)
    have hvx : Paired (RV K w0) (args.take xs.length) xs := by
      have := yQ9 xs.length hv
      rwa [List.take_left'] at this
      rfl
    have hvy : Paired (RV K w0) (args.drop xs.length) ys := by
      have := yZa xs.length hv
      rwa [List.drop_left'] at this
      rfl
    generalize hvs : args.take xs.length = vs at hc l2 ed hvx
    generalize hzs : args.drop xs.length = zs at hc l2 hvy
    unfold xHx at ed
    cases eo : dataOf (vs.drop n) with
    | none =>
      rw [eo] at ed
      cases ed
    | some zs' =>
      rw [eo] at ed
      have ed : (if yY9 zs' then some zs' else none) = some ds' := ed
      split at ed
      · rename_i hlen
        cases ed
        have ra := yXr (yZa n hvx) eo
        have ru' := zZ9 ru
        have rest_rel := zHb (yZa n ru')
        have lu : us.length = xs.length := (zZt ru').symm
        have hzr : (us.drop n).length ≤ sizeLine := by
          have := yH8 hlen ra
          have := rest_rel.length
          omega
        have hn : w0.H s.heap.objs.size = none := e0.hok.fresh (Nat.le_refl _)
        obtain ⟨r3, f3⟩ := yGt r hn (.tup (xs.drop n))
        have l3' : (pick is (vs.take n ++ zs ++ dAV ds)).length = ps.length := by omega
        have pv0 := zVq (zZq (zZq (yQ9 n hvx) hvy) (xX1 (hra w0.F))) is
        have pu := zHb (zVq (zZq (zZq (yQ9 n ru') (zZ9 rw)) (zZ9 hd)) is)
        let w3u : Wd := { w0 with F := upd w0.F s.heap.objs.size (.tup (xs.drop n)), H := upd w0.H s.heap.objs.size (.tup (xs.drop n)) }
        let w3 : Wd := reZ w3u (fun a => w3u.H a ≠ none)
        have noOwn : ∀ a, ¬ Own w3u a := fun a ⟨i, o, h1, _⟩ => by
          have h1 : w0.m.sl[i]? = some (some (.ob o)) := h1
          rw [z1] at h1
          simp at h1
        have r3z : Rep K w3 := yHo r3 (fun a h => h) (fun a h => absurd h (noOwn a)) (fun d a h z => hz d (by
          have h : upd w0.H s.heap.objs.size (.tup (xs.drop n)) d = some (.own a) := h
          by_cases q : d = s.heap.objs.size
          · rw [q, upd_same] at h
            cases h
          · rw [upd_ne q] at h
            rw [h]
            simp))
        have pv3 : Paired (RV K w3) (pick is (vs.take n ++ zs ++ dAV ds) ++ [.d (.tuple ds')]) (pick is (xs.take n ++ ys ++ dvs) ++ [V.ref s.heap.objs.size]) := zZq (yKu (w' := w3u) f3 pv0) (.cons (yK7 r hn ra) .nil)
        have hc3 : yWg K g (fun x w' => ∀ cls d, xWv K w' x cls d → E cls d w'.H) w3 (pick is (vs.take n ++ zs ++ dAV ds) ++ [.d (.tuple ds')]) Q := xWm (w0 := w0) r rfl rfl f3.ext (fun a o h => by
            show upd w0.H s.heap.objs.size (.tup (xs.drop n)) a = some o
            rw [upd_ne (ne_of_none h hn)]
            exact h) (fun a h => by
            have h : upd w0.F s.heap.objs.size (.tup (xs.drop n)) a ≠ none := h
            by_cases q : a = s.heap.objs.size
            · rw [q]
              exact .inr hn
            · rw [upd_ne q] at h
              exact .inl h) (fun a => Iff.rfl) rfl (fun _ _ z => z) hc
        have sp : spG K (ps.length + 1) g (pick is (xs.take n ++ ys ++ dvs) ++ [V.ref s.heap.objs.size]) w3.H Q E := ⟨w3, _, z1, z2, rfl, fun a h => h, r3z, pv3, by rw [List.length_append, l3'] <;> rfl, hc3⟩
        refine F.bnd A outer s w0.H ⟨us, ks.zip ws⟩ Q E hg hr e0 fun A' Ex Q' cont => ?_
        have hs := hb s (us.take n) ws (us.drop n) (e0.mod.kin.keeps fun b o e => (e0.bs b o e).1) (by rw [List.length_take]; omega) (by rw [← rw.length]; exact hl) (lf.imp id fun e => List.drop_eq_nil_of_le (by omega))
        rw [List.take_append_drop] at hs
        refine hs _ _ _ _ (wpAny_bind (wpAny_newTuple (wpAny_pure ?_) hzr))
        have hzx : (xs.drop n).length ≤ sizeLine := by
          rw [rest_rel.length]
          exact hzr
        have new : ObjOk P w (upd w0.H s.heap.objs.size (.tup (xs.drop n))) (s.heap.push ({ cls := .type "tuple", data := .seq (us.drop n).toArray } : Obj)) s.heap.objs.size (.tup (xs.drop n)) := ⟨hzx, us.drop n, rest_rel, ⟨_, Heap.get?_push_size _ rfl, rfl, _, rfl⟩⟩
        have un := StX.un_laid (fs := frs outer) (s := s) (o := ({ cls := .type "tuple", data := .seq (us.drop n).toArray } : Obj)) (u := .tup (xs.drop n)) hn
        have z := cont { s with heap := s.heap.push ({ cls := .type "tuple", data := .seq (us.drop n).toArray } : Obj) } w3.H (pick is (xs.take n ++ ys ++ dvs) ++ [V.ref s.heap.objs.size]) (pick is (us.take n ++ ws ++ dv) ++ [Value.ref s.heap.objs.size]) (StX.env0_laid e0 new) un rfl
          (fun e s' => StX.cxUp outer s w0.H _ _ _ e s' un (fun b o q => Heap.get?_push_of_some _ q) rfl) (pu.append (.cons rfl .nil)) (by rw [← zZt pv3, List.length_append, List.length_append, l3'] <;> rfl) sp
        have lz : ps.length = (pick is (us.take n ++ ws ++ dv)).length := by
          rw [← l3', zZt pv0]
          exact zZt (zZ9 pu)
        rw [List.zip_append lz] at z
        exact z
      · cases ed
  · exact hc.elim
end
def mkF (c : Str) (h : Fn) : Fn := fun args m => match h (.cell m.cs.length :: args) ⟨[], m.cs ++ [.ins c []]⟩ with
  | .ok (.d .none) m' => if m'.cs.length = m.cs.length + 1 then (match m'.cs[m.cs.length]? with
    | some o => .ok (.new o) ⟨[], m'.cs.take m.cs.length⟩
    | none => .bad) else .bad
  | .thr x m' => if m'.cs.length = m.cs.length + 1 then .thr x ⟨[], m'.cs.take m.cs.length⟩ else .bad
  | _ => .bad
def yV6 (w : Wd) (Cc a dx : Addr) (c : Str) : Wd := { F := w.F, ro := w.ro ++ [a], m := ⟨[], w.m.cs ++ [.ins c []]⟩, sg := [], H := upd (upd w.H dx (.own a)) a (.ins Cc dx []), Z := fun b => upd (upd w.H dx (.own a)) a (.ins Cc dx []) b ≠ none, T := w.T }
section
variable {K : PySem.W.Frag} {w : Wd} {Cc a dx : Addr} {c : Str}
theorem yV5 (ha : w.H a = none) (hd : w.H dx = none) {b : Addr} {o : HO} (h : w.H b = some o) : (yV6 w Cc a dx c).H b = some o := by
  show upd (upd w.H dx (.own a)) a (.ins Cc dx []) b = some o
  rw [upd_ne (ne_of_none h ha), upd_ne (ne_of_none h hd)]
  exact h
theorem xUs : (yV6 w Cc a dx c).H a = some (.ins Cc dx []) := upd_same
theorem xUr (ne : dx ≠ a) : (yV6 w Cc a dx c).H dx = some (.own a) := by
  show upd (upd w.H dx (.own a)) a (.ins Cc dx []) dx = _
  rw [upd_ne ne, upd_same]
theorem wQk (r : Rep K w) (ha : w.H a = none) (hd : w.H dx = none) (ne : dx ≠ a) (hc : yQx K c Cc) : Rep K (yV6 w Cc a dx c) := by
  have up : ∀ {b : Addr} {o : HO}, w.H b = some o → (yV6 w Cc a dx c).H b = some o := yV5 ha hd
  have ro_at : ∀ {n : Nat} {b : Addr}, w.ro[n]? = some b → (w.ro ++ [a])[n]? = some b := fun {n b} q => by
    rw [List.getElem?_append_left (List.getElem?_eq_some_iff.mp q).1]
    exact q
  have na : a ∉ w.ro := fun h => r.roLive h ha
  refine ⟨fun b o e hn => up (r.sub b o e hn), Nat.zero_le _, fun i v h => by simp [yV6] at h, fun n o h => ?_, ?_, fun n b hb => ?_, fun n b e => ro_at (r.rk n b e), ?_, fun i j xs ys x h => by simp [yV6] at h, fun b h => h, fun d b h => ?_, ⟨(TK _ w).go r.tb.1 fun _ _ e => up e, r.tb.2.1, yKl (yKl r.tb.2.2 (by intro _ z; cases z)) (by intro _ z; cases z)⟩⟩
  · have h : (w.m.cs ++ [Ob.ins c []])[n]? = some o := h
    by_cases hn : n < w.m.cs.length
    · rw [List.getElem?_append_left hn] at h
      obtain ⟨b, k1, k2⟩ := r.cs n o h
      exact ⟨b, ro_at k1, k2.keep (Same.refl _) (fun _ z => up z) (fun _ z => up z) (fun _ _ z => z)⟩
    · rw [List.getElem?_append_right (by omega)] at h
      have hz : n - w.m.cs.length = 0 := by
        have := (List.getElem?_eq_some_iff.mp h).1
        simp only [List.length_singleton] at this
        omega
      rw [hz] at h
      cases h
      refine ⟨a, ?_, Cc, dx, [], xUs, xUr ne, fun z => z, hc, .nil⟩
      show (w.ro ++ [a])[n]? = some a
      rw [List.getElem?_append_right (by rw [← r.ln]; omega), ← r.ln, hz]
      rfl
  · show (w.m.cs ++ [Ob.ins c []]).length = (w.ro ++ [a]).length
    rw [List.length_append, List.length_append, r.ln] <;> rfl
  · have hb : (w.ro ++ [a])[n]? = some b := hb
    show w.F b = _ ∨ w.F b = none ∧ ∃ c' fs, (w.m.cs ++ [Ob.ins c []])[n]? = some (.ins c' fs)
    by_cases hn : n < w.ro.length
    · rw [List.getElem?_append_left hn] at hb
      rw [List.getElem?_append_left (by rw [r.ln]; exact hn)]
      exact r.rf n b hb
    · rw [List.getElem?_append_right (by omega)] at hb
      have hz : n - w.ro.length = 0 := by
        have := (List.getElem?_eq_some_iff.mp hb).1
        simp only [List.length_singleton] at this
        omega
      rw [hz] at hb
      cases hb
      refine .inr ⟨r.noF ha, c, [], ?_⟩
      rw [List.getElem?_append_right (by rw [r.ln]; omega), r.ln, hz]
      rfl
  · exact List.nodup_append.mpr ⟨r.nd, by simp, fun b hb b' hb' e => by
      rw [List.mem_singleton.mp hb'] at e
      exact na (e ▸ hb)⟩
  · have h : upd (upd w.H dx (.own a)) a (.ins Cc dx []) d = some (.own b) := h
    by_cases q : d = a
    · rw [q, upd_same] at h
      cases h
    · rw [upd_ne q] at h
      by_cases q2 : d = dx
      · rw [q2, upd_same] at h
        cases h
        rw [q2]
        exact ⟨Cc, [], xUs⟩
      · rw [upd_ne q2] at h
        obtain ⟨C', vs, e⟩ := r.oo d b h
        exact ⟨C', vs, up e⟩
theorem xJe {ha : w.H a = none} : ∀ {args : List AV} {xs : List V}, Paired (RV K w) args xs → Paired (RV K (yV6 w Cc a dx c)) args xs
  | _, _, .nil => .nil
  | .d _ :: _, _, .cons h t => .cons h (xJe (ha := ha) t)
  | .cell n :: _, _, .cons h t => .cons (by
      obtain ⟨b, e, q⟩ := h
      exact ⟨b, e, by
        show (w.ro ++ [a])[n]? = some b
        rw [List.getElem?_append_left (List.getElem?_eq_some_iff.mp q).1]
        exact q⟩) (xJe (ha := ha) t)
def xH2 (w w' : Wd) : Wd := { F := w'.F, ro := w'.ro.take w.m.cs.length, m := ⟨[], w'.m.cs.take w.m.cs.length⟩, sg := [], H := w'.H, Z := fun b => w.H b ≠ none, T := w.T }
theorem wZu (r : Rep K w) (ha : w.H a = none) (hd : w.H dx = none) (ne : dx ≠ a) {w' : Wd} (f : FolS (yV6 w Cc a dx c) w') (r' : Rep K w') (e1 : w'.m.sl = []) (hl : w'.m.cs.length = w.m.cs.length + 1) :
    Rep K (xH2 w w') ∧ FolS (bare w) (xH2 w w') ∧ ∀ o, w'.m.cs[w.m.cs.length]? = some o → RE K (xH2 w w') (.new o) (.ref a) := by
  obtain ⟨t, et⟩ := f.pre
  have et : w'.ro = (w.ro ++ [a]) ++ t := et
  have tn : t = [] := by
    have h := r'.ln
    rw [et, List.length_append, List.length_append, ← r.ln, hl] at h
    cases t with
    | nil => rfl
    | cons x t => simp at h
  subst tn
  rw [List.append_nil] at et
  have ro' : w'.ro.take w.m.cs.length = w.ro := by
    rw [et, r.ln, List.take_left']
    rfl
  have na : a ∉ w.ro := fun h => r.roLive h ha
  have kp : ∀ b o, w.H b = some o → b ∉ w.ro → (∀ ps, o ≠ .tbl ps) → w'.H b = some o := fun b o h n k => f.frm b o (yV5 ha hd h) (fun q => by
    rcases List.mem_append.mp q with q | q
    · exact n q
    · rw [List.mem_singleton.mp q, ha] at h
      cases h) (zHz (yV5 (c := c) (Cc := Cc) ha hd h)) k
  have lv : ∀ b, w.H b ≠ none → w'.H b ≠ none := fun b h => f.liv b (by
    cases e : w.H b with
    | none => exact absurd e h
    | some u => exact zHz (yV5 (c := c) (Cc := Cc) ha hd e))
  have hdx : w'.H dx = some (.own a) := f.frm dx _ (xUr ne) (fun q => by
    rcases List.mem_append.mp q with q | q
    · exact r.roLive q hd
    · exact ne (List.mem_singleton.mp q)) (zHz (xUr (c := c) (Cc := Cc) ne)) (by intro _ z; cases z)
  have fa : w'.F a = none := by
    refine Classical.byContradiction fun z => ?_
    rcases f.grow a z with q | q
    · exact q (r.noF ha)
    · exact q (by
        show (yV6 w Cc a dx c).H a ≠ none
        rw [xUs]
        simp)
  refine ⟨⟨r'.sub, Nat.zero_le _, fun i v h => by simp [xH2] at h, fun n o h => ?_, ?_, fun n b hb => ?_, fun n b e => ?_, ?_, fun i j xs ys x h => by simp [xH2] at h, fun b h => lv b h, r'.oo, by have q := r'.tb; unfold TB TK at q ⊢; rw [show w'.T = w.T from f.t] at q; exact q⟩, ⟨rfl, rfl, f.ext, ⟨[], by show w'.ro.take w.m.cs.length = w.ro ++ []; rw [ro', List.append_nil]⟩, fun b o h n _ => kp b o h n, fun b h => ?_, lv, fun b h => ?_⟩, fun o ho => ?_⟩
  · have h : (w'.m.cs.take w.m.cs.length)[n]? = some o := h
    have hn : n < w.m.cs.length := by
      have := (List.getElem?_eq_some_iff.mp h).1
      rw [List.length_take] at this
      omega
    rw [List.getElem?_take_of_lt hn] at h
    obtain ⟨b, k1, k2⟩ := r'.cs n o h
    exact ⟨b, by show (w'.ro.take w.m.cs.length)[n]? = some b; rw [List.getElem?_take_of_lt hn]; exact k1, k2⟩
  · show (w'.m.cs.take w.m.cs.length).length = (w'.ro.take w.m.cs.length).length
    rw [List.length_take, List.length_take, r'.ln]
  · have hb : (w'.ro.take w.m.cs.length)[n]? = some b := hb
    have hn : n < w.m.cs.length := by
      have := (List.getElem?_eq_some_iff.mp hb).1
      rw [List.length_take] at this
      omega
    rw [List.getElem?_take_of_lt hn] at hb
    show w'.F b = _ ∨ w'.F b = none ∧ ∃ c' fs, (w'.m.cs.take w.m.cs.length)[n]? = some (.ins c' fs)
    rw [List.getElem?_take_of_lt hn]
    exact r'.rf n b hb
  · have q := r'.rk n b e
    show (w'.ro.take w.m.cs.length)[n]? = some b
    have hn : n < w.m.cs.length := by
      have h1 := (List.getElem?_eq_some_iff.mp q).1
      rw [← r'.ln, hl] at h1
      refine Nat.lt_of_le_of_ne (by omega) fun z => ?_
      subst z
      rw [et, r.ln, List.getElem?_append_right (Nat.le_refl _), Nat.sub_self] at q
      cases q
      have e : w'.F a = some (mkC _) := e
      rw [fa] at e
      cases e
    rw [List.getElem?_take_of_lt hn]
    exact q
  · exact List.Nodup.sublist (List.take_sublist _ _) r'.nd
  · have h : b ∈ w'.ro.take w.m.cs.length := h
    rw [ro'] at h
    exact .inl h
  · rcases f.grow b h with q | q
    · exact .inl q
    · exact .inr fun z => q (by
        show (yV6 w Cc a dx c).H b ≠ none
        cases e : w.H b with
        | none => exact absurd e z
        | some u => exact zHz (yV5 ha hd e))
  · obtain ⟨b, k1, k2⟩ := r'.cs _ o ho
    have eb : b = a := by
      rw [et, r.ln, List.getElem?_append_right (Nat.le_refl _), Nat.sub_self] at k1
      cases k1
      rfl
    subst eb
    refine ⟨b, rfl, ?_, fa, by show b ∉ w'.ro.take w.m.cs.length; rw [ro']; exact na, fun z => z ha, fun ⟨i, o, h1, _⟩ => by simp [xH2] at h1⟩
    cases o with
    | lst xs => exact k2
    | dic es => exact k2
    | ins c' fs =>
      obtain ⟨C', dx', vs, h1, h2, _, h4, h5⟩ := k2
      obtain ⟨C2, vs2, e2⟩ := r'.oo dx b hdx
      rw [h1] at e2
      cases e2
      exact ⟨_, _, _, h1, h2, fun z => z hd, h4, h5⟩
end
section
variable {X : Cx} {B : XBt} {k : Nat} {Cc fI : Addr} {c : Str} {ks : List Str} {h : Fn}
theorem xGk (C : Ctx X B) (M : Mk X.K Cc fI) (hc : yQx X.K c Cc) (F : zHj X.prog X.w X.K X.mg X.base k fI ks h) (hr : Room (k + 1) X.A) : xG2 X B (.ref Cc) ks (mkF c h) := by
  intro w pins s us ws args xs ys Q I r hv ru rw' hl hw
  have I2 := Inv.made (C := Cc) I
  have ha : w.H (s.heap.objs.size + 1) = none := I.hok.fresh (Nat.le_succ _)
  have hd : w.H s.heap.objs.size = none := I.hok.fresh (Nat.le_refl _)
  have ne : s.heap.objs.size ≠ s.heap.objs.size + 1 := Nat.ne_of_lt (Nat.lt_succ_self _)
  have r1 := wQk (c := c) r ha hd ne hc
  have hv1 : Paired (RV X.K (yV6 w Cc (s.heap.objs.size + 1) s.heap.objs.size c)) (.cell w.m.cs.length :: args) ((V.ref (s.heap.objs.size + 1) :: xs) ++ ys) := .cons ⟨_, rfl, by
    show (w.ro ++ [s.heap.objs.size + 1])[w.m.cs.length]? = _
    rw [r.ln, List.getElem?_append_right (Nat.le_refl _), Nat.sub_self]
    rfl⟩ (xJe (ha := ha) hv)
  have hcw : yWg X.K h (fun x w' => ∀ cls d, xWv X.K w' x cls d → WXB X.K B cls d w.sg w'.H) (yV6 w Cc (s.heap.objs.size + 1) s.heap.objs.size c) (.cell w.m.cs.length :: args) (fun v H3 => v = .non ∧ Q (.ref (s.heap.objs.size + 1)) H3) := by
    unfold yWg
    have hw := yKg hw
    have em : (bare w).m = ⟨[], w.m.cs⟩ := rfl
    rw [em] at hw
    unfold mkF at hw
    dsimp only at hw
    show (h (.cell w.m.cs.length :: args) ⟨[], w.m.cs ++ [.ins c []]⟩).wp _ _
    cases e : h (.cell w.m.cs.length :: args) ⟨[], w.m.cs ++ [.ins c []]⟩ with
    | bad =>
      rw [e] at hw
      exact hw.elim
    | ok v m' =>
      rw [e] at hw
      show ∀ (w' : Wd) (x : V), w'.m.sl = [] → w'.m.cs = m'.cs → w'.sg = [] → _
      intro w' x e1 e2 e3 f r' re
      cases v with
      | new o => exact hw.elim
      | pk i o => exact hw.elim
      | cell n => exact hw.elim
      | d y =>
        cases y with
        | none =>
          dsimp only at hw
          split at hw
          · rename_i hlen
            split at hw
            · rename_i o ho
              obtain ⟨rp, fp, rn⟩ := wZu r ha hd ne f r' e1 (by rw [e2]; exact hlen)
              have rn := rn o (by rw [e2]; exact ho)
              obtain ⟨r2, f2⟩ := yXt r fp rp
              cases re
              refine ⟨rfl, ?_⟩
              have q : zYh X.K w Q (.new o) ⟨w.m.sl, m'.cs.take w.m.cs.length⟩ := hw
              exact q (back w (xH2 w w')) (.ref (s.heap.objs.size + 1)) (by show (⟨w.m.sl, w'.m.cs.take w.m.cs.length⟩ : Mem) = _; rw [e2]) rfl f2 r2 (yUx r fp rfl rn)
            · exact hw.elim
          · exact hw.elim
        | _ => exact hw.elim
    | thr x m' =>
      rw [e] at hw
      show ∀ w' : Wd, w'.m.sl = [] → w'.m.cs = m'.cs → w'.sg = [] → _
      intro w' e1 e2 e3 f r' cls d ex
      dsimp only at hw
      split at hw
      · rename_i hlen
        obtain ⟨rp, fp, _⟩ := wZu r ha hd ne f r' e1 (by rw [e2]; exact hlen)
        obtain ⟨r2, f2⟩ := yXt r fp rp
        have q : XW X.K B w x ⟨w.m.sl, m'.cs.take w.m.cs.length⟩ := hw
        exact ⟨x, back w (xH2 w w'), r2, rfl, rfl, ex, q (back w (xH2 w w')) (by show (⟨w.m.sl, w'.m.cs.take w.m.cs.length⟩ : Mem) = _; rw [e2]) (f2.s r) r2⟩
      · exact hw.elim
  refine wpAny_call (make_map (f := fI) I.kIn M.makes M.init (beq_iff_eq.mp M.fn) (codeAny_mono (F _ X.stack _ (yV6 w Cc (s.heap.objs.size + 1) s.heap.objs.size c) (.ref (s.heap.objs.size + 1) :: us) ws _ _ ys _ (fun cls d H' => WXB X.K B cls d w.sg H') C.gd (hr.make Cc us (ks.zip ws)) (I2.env0.make Cc us (ks.zip ws)) rfl rfl (fun _ h => h) r1 hv1 (.cons rfl ru) rw' hl hcw) fun r s' hq => ?_))
  cases r with
  | error e => exact xZe C I2 hq
  | ok fl =>
    cases fl with
    | ret u =>
      obtain ⟨v, H', I3, rv, ev, q3⟩ := I2.after hq
      subst ev
      exact ⟨rv, ⟨V.ref (s.heap.objs.size + 1), H', I3, rfl, q3⟩⟩
    | next => exact False.elim hq
    | brk => exact False.elim hq
    | cont => exact False.elim hq
end
end Ev

namespace Ev
open PySem PySem.Spec PyProof.Rows L2
def yJi : PyData → Option (Str × List (PyData × PyData))
  | .dict ((.none, .str c) :: fs) => some (c, fs)
  | _ => none
@[simp] theorem wU6 {c : Str} {fs : List (Str × PyData)} : yJi (yWq c fs) = some (c, zZr fs) := rfl
@[simp] theorem wU7 {c : Str} {fs : List (Str × PyData)} : yJi (dOf (.ins c fs)) = some (c, zZr fs) := rfl
theorem zH8 {K : PySem.W.Frag} {w : Wd} {d : PyData} {v : V} {c : Str} {fs : List (PyData × PyData)} (s : yZn w.F w.H) (h : RN K w d v) (e : yJi d = some (c, fs)) :
    ∃ (a C dx : Addr) (vs : List (Str × V)), v = .ref a ∧ yQx K c C ∧ w.H a = some (.ins C dx vs) ∧ RF K w.F fs vs := by
  rcases h with h | ⟨a, o, e2, rfl, h⟩
  · cases h with
    | non => cases e
    | bl b => cases e
    | int i => cases e
    | str x => cases e
    | lst _ _ => cases e
    | tup _ _ => cases e
    | dic _ h =>
      cases h with
      | nil => cases e
      | @cons k _ _ _ _ _ _ => cases k <;> cases e
    | ins h1 h2 h3 h4 =>
      cases e
      exact ⟨_, _, _, _, rfl, h1, s _ _ h2 xX9, h4⟩
    | cls _ => cases e
    | exn0 _ _ => cases e
    | exn _ _ _ _ => cases e
    | cell _ => cases e
  · subst e2
    cases o with
    | lst xs => cases e
    | dic es =>
      obtain ⟨kvs, _, rk⟩ := h
      cases rk with
      | nil => cases e
      | @cons k _ _ _ _ _ _ => cases k <;> cases e
    | ins c' fs' =>
      cases e
      obtain ⟨C, dx, vs, h1, _, _, h4, h5⟩ := h
      exact ⟨a, C, dx, vs, rfl, h4, h1, h5⟩
def FlL (K : PySem.W.Frag) (cl : List Str) (n : Str) : Prop := ∀ c, c ∈ cl → ∀ D, yQx K c D → L2.Cls K D ∧ L2.NoAttr K D n
theorem zJs {K : PySem.W.Frag} {n : Str} : FlL K [] n := fun c h => by cases h
theorem wQq {K : PySem.W.Frag} {c n : Str} {cl : List Str} {D : Addr} (hc : yQx K c D) (h1 : L2.Cls K D) (h2 : L2.NoAttr K D n) (t : FlL K cl n) : FlL K (c :: cl) n := fun c' h D' hD => by
  rcases List.mem_cons.mp h with rfl | h
  · rw [hD.one hc]
    exact ⟨h1, h2⟩
  · exact t c' h D' hD
def yQq (cl : List Str) (n : Str) (f : Pg EV) : Pg EV := .bind f fun v => look (zHc v) fun x => zKz ((yJi x).bind fun p => if p.1 ∈ cl then (yKc n p.2).map .d else none)
section
variable {X : Cx} {B : XBt} {e o : Expr} {f fo fe : Pg EV} {pos p1 : Pos} {n : Str} {cl : List Str}
theorem zVl (h : Snd X B e f) (hl : FlL X.K cl n) (hb : attributeBase e n X.env (eval e X.env) = eval e X.env := by rfl) : Snd X B (.Attribute e n pos) (yQq cl n f) := by
  intro w Q r hw
  refine zUx (pe_fld zHk hb) ?_
  refine zQ0 h r hw fun v w1 y e1 f1 r1 re h1 => ?_
  obtain ⟨d, ed, h1⟩ := zJe h1
  obtain ⟨z, ez, q⟩ := zXn h1
  cases ex : yJi d with
  | none =>
    rw [ex] at ez
    cases ez
  | some p =>
    obtain ⟨c, fs⟩ := p
    rw [ex] at ez
    have ez : (if c ∈ cl then (yKc n fs).map EV.d else none) = some z := ez
    split at ez
    · rename_i hc
      cases eg : yKc n fs with
      | none =>
        rw [eg] at ez
        cases ez
      | some d1 =>
        rw [eg] at ez
        cases ez
        obtain ⟨a, C, dx, vs, rfl, hcn, ha, rf⟩ := zH8 r1.sub ((re.ro r1).rn r1 ed) ex
        obtain ⟨k1, k2⟩ := hl c hc C hcn
        obtain ⟨v1, l, rv⟩ := xU3 rf eg
        exact ⟨a, C, dx, vs, v1, rfl, ha, k1, k2, l, q w1 v1 rfl e1 f1 r1 rv⟩
    · cases ez
def putD (f : Str) (v : PyData) : List (Str × PyData) → List (Str × PyData)
  | [] => [(f, v)]
  | (g, x) :: r => if g = f then (g, v) :: r else (g, x) :: putD f v r
theorem wZp {K : PySem.W.Frag} {F : Hp} {g : Str} {d : PyData} {y : V} (h : R K F d y) : ∀ {fs : List (Str × PyData)} {vs : List (Str × V)}, RF K F (zZr fs) vs → RF K F (zZr (putD g d fs)) (putF g y vs)
  | [], _, .nil => .cons h .nil
  | (k, x) :: fs, (_, z) :: vs, .cons h1 t => by
    unfold putD putF
    by_cases q : k = g
    · rw [if_pos q, if_pos q]
      exact .cons h t
    · rw [if_neg q, if_neg q]
      exact .cons h1 (wZp h (fs := fs) t)
def wGo (cl : List Str) (n : Str) (d : PyData) : Ob → Option Ob
  | .ins c fs => if c ∈ cl ∧ fs.length < 900 then some (.ins c (putD n d fs)) else none
  | _ => none
def yGz (cl : List Str) (n : Str) (fe fo : Pg EV) : Pg Fl := .bind fe fun v => .bind (toA v) fun a => .bind (yH0 a) fun d => .bind fo fun ov => .bind (yUi ov) fun ob => .bind (zKz (wGo cl n d ob)) fun ob' => .bind (putAt ov ob') fun _ => .ret .next
theorem yHd (he : Snd X B e fe) (ho : Snd X B o fo) (hl : FlL X.K cl n) (hs : swapsWith e (some (.Attribute o n p1)) pos.line X.env = pure false := by rfl) : xXi X B (.Assign [.Attribute o n p1] e pos) (yGz cl n fe fo) := by
  intro w D r hw
  refine yJz (ps_fld zHk zHk hs) ?_
  refine zQ0 he r hw fun v w1 y e1 f1 r1 re q1 => ?_
  obtain ⟨a, w2, ea, s2, h2, f2, r2, rv⟩ := zUy r1 re
  have q2 := wp_bind q1
  rw [ea] at q2
  obtain ⟨d, ed, q3⟩ := yYg (wp_bind q2)
  subst ed
  rw [← e1, ← s2, ← h2]
  have q3 : (Pg.bind fo _ w2.m).wp (yQw X.K w D) (XW X.K B w2) := q3.imp (fun _ _ z => z) fun _ _ z => z.fol (f2.s r1)
  refine zQ0 ho r2 q3 fun ov w3 x e3 f3 r3 re3 q4 => ?_
  have rd : R X.K w3.F d y := rv.mono f3.ext
  obtain ⟨p, ob, rfl, hO, q5, next⟩ := wYs r3 re3 r3 (FolE.refl w3) rfl (wp_bind q4)
  obtain ⟨ob', eo, q6⟩ := zXn (wp_bind q5)
  cases ob with
  | lst xs => cases eo
  | dic es => cases eo
  | ins c fs =>
    have eo : (if c ∈ cl ∧ fs.length < 900 then some (Ob.ins c (putD n d fs)) else none) = some ob' := eo
    split at eo
    · rename_i hc
      obtain ⟨hc, hz⟩ := hc
      cases eo
      obtain ⟨C, dx, vs, k1, k2, _, k4, k5⟩ := id hO
      obtain ⟨c1, c2⟩ := hl c hc C k4
      have lz : vs.length < 1000 := by
        rw [← k5.len]
        unfold zZr
        rw [List.length_map]
        omega
      refine ⟨p, C, dx, vs, rfl, k1, c1, c2, lz, ?_⟩
      have pd : dx ≠ p := fun z => by
        rw [z, k1] at k2
        cases k2
      obtain ⟨w4, eH, eS, r4, f4, q7⟩ := next (.ins c (putD n d fs)) (.ins C dx (putF n y vs)) (.inr fun C' d' vs' z => by
        rw [k1] at z
        cases z
        exact ⟨C, _, rfl⟩) (fun Z hZ => by
        obtain ⟨C', dx', vs', j1, j2, j3, j4, j5⟩ := hZ
        rw [k1] at j1
        cases j1
        exact ⟨C, dx, _, upd_same, by rw [upd_ne pd]; exact j2, j3, j4, wZp rd j5⟩) (wp_bind q6)
      have q := q7 w4 rfl (((f1.trans f2).trans f3).s r |>.trans f4) r4
      rw [eH, eS, e3, s2] at q
      rw [s2]
      exact q
    · cases eo
end
section
variable {m : Mem} {X : Exn → Mem → Prop} {E : EV → Mem → Prop} {F : Fl → Mem → Prop}
@[simp] theorem vY7 {cl : List Str} {n : Str} {f : Pg EV} : W (yQq cl n f) m X E ↔ W f m X fun v m1 => W (look (zHc v) fun x => zKz ((yJi x).bind fun p => if p.1 ∈ cl then (yKc n p.2).map .d else none)) m1 X E := by
  unfold yQq
  rw [zQ8]
@[simp] theorem vVz {cl : List Str} {n : Str} {fe fo : Pg EV} : W (yGz cl n fe fo) m X F ↔ W fe m X fun v m1 => W (toA v) m1 X fun a m2 => ∃ d, a = .d d ∧ W fo m2 X fun ov m3 => W (yUi ov) m3 X fun ob m4 => ∃ ob', wGo cl n d ob = some ob' ∧ W (putAt ov ob') m4 X fun _ m5 => F .next m5 := by
  unfold yGz
  simp only [zQ8, yUy, yXu, xJr]
@[simp] theorem wGn {cl : List Str} {n c : Str} {d : PyData} {fs : List (Str × PyData)} : wGo cl n d (.ins c fs) = if c ∈ cl ∧ fs.length < 900 then some (.ins c (putD n d fs)) else none := rfl
@[simp] theorem wUe {n : Str} {d : PyData} : putD n d [] = [(n, d)] := rfl
@[simp] theorem wWe {n g : Str} {d x : PyData} {r : List (Str × PyData)} : putD n d ((g, x) :: r) = if g = n then (g, d) :: r else (g, x) :: putD n d r := rfl
end
end Ev

namespace PySem.W
open PySem PySem.Spec PySem.Calls PyProof.Rows
section
variable {M : Model} {A : Around} {E : Value → Shared → Prop} {s : Shared}
theorem wQj {f : Value} {x : Sem Value} {pos : Pos} {keywords : List (Option Str × Sem Value)} {Q : Args → Shared → Prop} (hall : keywords.all (·.1.isSome) = true)
    (h : wpAny M A x (fun v s₁ => wpAny M A (evalAll (keywords.map (·.2))) (fun ks s₂ => StarOf M A E v (fun vs s₃ => Q ⟨vs, (keywords.filterMap (·.1)).zip ks⟩ s₃) s₂) E s₁) E s) :
    wpAny M A (evalArgs f true [(true, (do let v ← x; standAt pos; pure v))] keywords) Q E s := by
  unfold evalArgs
  first
    | refine wpAny_bind (wpAny_bind (wpAny_mono h (fun v s₁ h₁ => wpAny_bind (wpAny_standAt (wpAny_pure ?_))) fun _ _ x => x))
    | refine wpAny_bind (wpAny_bind (wpAny_bind (wpAny_mono h (fun v s₁ h₁ => wpAny_bind (wpAny_standAt (wpAny_pure (wpAny_pure ?_)))) fun _ _ x => x)))
  refine wpAny_holding ?_
  dsimp only
  rw [if_pos hall]
  refine wpAny_bind (wpAny_mono h₁ (fun ks s₂ h₂ => ?_) fun _ _ x => x)
  unfold StarOf at h₂
  refine wpAny_bind (wpAny_bind (wpAny_mono h₂ (fun b s₃ h₃ => ?_) fun _ _ x => x))
  obtain ⟨rfl, h₃⟩ := h₃
  have z := wpAny_holding (vs := ((keywords.filterMap (·.1)).zip ks).map (·.2)) (wpAny_mono h₃ (fun vs s₄ h₄ => (wpAny_pure h₄ : wpAny M A (pure (⟨vs, (keywords.filterMap (·.1)).zip ks⟩ : Args)) Q E s₄)) fun _ _ x => x)
  try simp only [Bool.false_eq_true, if_false]
  first
    | exact z
    | exact wpAny_bind (wpAny_pure z)
theorem yH9 {f : Value} {first : List Value} {pos : Pos} {Q : Value → Shared → Prop} {P : Heap → Prop} {args : List (Bool × Sem Value)} {keywords : List (Option Str × Sem Value)} (hst : args.any (·.1) = true)
    (hk : ∀ h, P h → ∃ k, (k = Keeper.frame ∨ k = Keeper.machine ∨ k = Keeper.boundFrame) ∧ Looks M h (keeperOf f) k)
    (h : wpAny M A (evalArgs f true args keywords) (fun a s₁ => P s₁.heap ∧ wpAny M A (call f (first ++ a.pos) a.kw) Q E s₁) E s) : wpAny M A (callWith pos f first args keywords) Q E s := by
  unfold callWith
  refine wpAny_bind (wpAny_holding (wpAny_mono h (fun a s₁ h₁ => wpAny_bind (wpAny_standAt ?_)) fun _ _ x => x))
  obtain ⟨k, hk', L⟩ := hk _ h₁.1
  simp only [hst, Bool.true_or]
  refine wpAny_bind (L.here ?_)
  have tail : ∀ {t : Sem Value}, wpAny M A t Q E s₁ → wpAny M A (t >>= fun r => holding [r] point >>= fun _ => pure r) Q E s₁ :=
    fun ht => wpAny_bind (wpAny_mono ht (fun r s₂ hr => wpAny_bind (wpAny_holding (wpAny_point (wpAny_pure hr)))) fun _ _ x => x)
  have marked (mk : Value) : wpAny M A (callMarked mk f (first ++ a.pos) a.kw) Q E s₁ := by unfold callMarked; exact Calls.wpAny_keep h₁.2
  rcases hk' with rfl | rfl | rfl <;> dsimp only <;> first | exact tail (marked _) | exact tail (wpAny_operating h₁.2)
end
end PySem.W
namespace Ev
open PySem PySem.Spec PyProof.Rows L2
def wQ9 (X : Cx) (es : List Expr) (kws : List Keyword) (ks : List Str) (σ : L2.St) (H : Hp) (G : List V → List V → Hp → Prop) : Prop :=
  Cl (∀ (f : Value) (pos : Pos) (pins : List (Addr × Obj)) (s : Shared), L2.Inv X pins σ H s → ∀ (Q : Args → Shared → Prop), (∀ us ws xs ys H2 s2, L2.Inv X pins σ H2 s2 → Vals xs us → Vals ys ws → G xs ys H2 → Q ⟨us, ks.zip ws⟩ s2) →
    wpAny (model X.prog X.w) X.A (evalArgs f true (backTo pos (starEach es X.env)) (backToKw pos (keywordEach kws X.env))) Q X.xe s)
structure SndAK (X : Cx) (B : XBt) (es : List Expr) (kws : List Keyword) (ks : List Str) (fa fk : Pg (List AV)) : Prop where
  go : ∀ {α : Type} {cont : List AV → List AV → Pg α} {P : α → Mem → Prop} {w : Wd} {G : List V → List V → Hp → Prop}, Rep X.K w → ((Pg.bind fa fun vs => Pg.bind fk fun zs => cont vs zs) w.m).wp P (XW X.K B w) →
    (∀ (vs zs : List AV) (w2 : Wd) (xs ys : List V), w2.sg = w.sg → FolE w w2 → Rep X.K w2 → Paired (RV X.K w2) vs xs → Paired (RV X.K w2) zs ys → (cont vs zs w2.m).wp P (XW X.K B w2) → G xs ys w2.H) → wQ9 X es kws ks w.sg w.H G
section
variable {X : Cx} {B : XBt} {e o : Expr} {es : List Expr} {kws : List Keyword} {ks : List Str} {fa fk : Pg (List AV)} {f fo : Pg EV} {p p' apos pos : Pos} {x mn : Str}
theorem zYx (ha : xKl X B (e :: es) fa) (hk : wXq X B kws fk) (hall : ∀ pos, (backToKw pos (keywordEach kws X.env)).all (·.1.isSome) = true := by intro _; rfl) (hks : ∀ pos, (backToKw pos (keywordEach kws X.env)).filterMap (·.1) = ks := by intro _; rfl)
    (he : starEach (e :: es) X.env = (false, eval e X.env) :: starEach es X.env := by rfl) : SndAK X B (e :: es) kws ks fa fk := by
  refine ⟨fun {α cont P w G} r hw next => ⟨fun f pos pins s I Q hQ => ?_⟩⟩
  have wa : WA X (e :: es) w.sg w.H fun xs H1 => WK X kws w.sg H1 fun ys H2 => G xs ys H2 := zUz ha r hw fun vs w1 xs e1 f1 r1 rv q => by
    rw [← e1]
    exact yZz hk r1 q fun zs w2 ys e2 f2 r2 rz q2 => next vs zs w2 xs ys (e2.trans e1) (f1.trans f2) r2 (yKu f2 rv) rz q2
  refine PyProof.Rows.evalArgs_kw2 (hall pos) (thn (wa.go pos pins s I) fun us s1 ⟨xs, H1, I1, r1, q⟩ => thn (q.go pos pins s1 I1) fun ws s2 ⟨ys, H2, I2, rz, g⟩ => ?_) he
  rw [hks pos]
  exact hQ us ws xs ys H2 s2 I2 r1 rz g
theorem yYm (hk : wXq X B kws fk) (hall : ∀ pos, (backToKw pos (keywordEach kws X.env)).all (·.1.isSome) = true := by intro _; rfl) (hks : ∀ pos, (backToKw pos (keywordEach kws X.env)).filterMap (·.1) = ks := by intro _; rfl) : SndAK X B [] kws ks zQh fk := by
  refine ⟨fun {α cont P w G} r hw next => ⟨fun f pos pins s I Q hQ => ?_⟩⟩
  have wa : WK X kws w.sg w.H fun ys H2 => G [] ys H2 := yZz hk r (show (Pg.bind fk (fun zs => cont [] zs) w.m).wp P (XW X.K B w) from wp_bind hw) fun zs w2 ys e2 f2 r2 rz q2 => next [] zs w2 [] ys e2 f2 r2 .nil rz q2
  refine PyProof.Rows.evalArgs_kw2_nil (hall pos) (thn (wa.go pos pins s I) fun ws s2 ⟨ys, H2, I2, rz, g⟩ => ?_)
  rw [hks pos]
  exact hQ [] ws [] ys H2 s2 I2 .nil rz g
def yWd (f : Pg EV) : Pg (List AV) := .bind f fun v => .bind (toA v) fun a => zKz ((zG7 a).map dAV)
theorem yKo (h : Snd X B e f) (hk : wXq X B kws fk) (hall : ∀ pos, (backToKw pos (keywordEach kws X.env)).all (·.1.isSome) = true := by intro _; rfl) (hks : ∀ pos, (backToKw pos (keywordEach kws X.env)).filterMap (·.1) = ks := by intro _; rfl)
    (hs : starEach [.Starred e p'] X.env = [(true, eval e X.env)] := by rfl) : SndAK X B [.Starred e p'] kws ks (yWd f) fk := by
  refine ⟨fun {α cont P w G} r hw next => ⟨fun f' pos pins s I Q hQ => ?_⟩⟩
  have wa : WE X e w.sg w.H fun y H1 => ∃ a vs, y = .ref a ∧ WK X kws w.sg H1 fun ys H2 => (SqT X.K H2 a vs ∨ SqL X.K H2 a vs) ∧ G vs ys H2 := by
    refine zQ0 h r (wp_bind hw : (Pg.bind f _ w.m).wp _ _) fun v w1 y e1 f1 r1 re q => ?_
    obtain ⟨av, w1', ea, s1, h1, f1', r1', rv⟩ := zUy r1 re
    have q := wp_bind q
    rw [ea] at q
    obtain ⟨as, es, q⟩ := zXn q
    have fin : ∀ {a : Addr} {vs : List V} {ds : List PyData}, (SqT X.K w1'.F a vs ∨ LQ X.K w1'.F a vs) → RA X.K w1'.F ds vs → as = dAV ds → y = V.ref a → ∃ a' vs', y = V.ref a' ∧ WK X kws w.sg w1.H fun ys H2 => (SqT X.K H2 a' vs' ∨ SqL X.K H2 a' vs') ∧ G vs' ys H2 := fun {a vs ds} hq ra ed ey => by
      subst ed
      refine ⟨a, vs, ey, ?_⟩
      rw [← e1, ← s1, ← h1]
      have q : (Pg.bind fk (fun zs => cont (dAV ds) zs) w1'.m).wp P (XW X.K B w1') := q.imp (fun _ _ z => z) fun _ _ z => z.fol ((f1.trans f1').s r)
      refine yZz hk r1' q fun zs w2 ys e2 f2 r2 rz q2 => ⟨?_, next (dAV ds) zs w2 vs ys (e2.trans (s1.trans e1)) (f1.trans (f1'.trans f2)) r2 (yKu f2 (xX1 ra)) rz q2⟩
      rcases hq with hq | hq
      · exact .inl (zZ7 r2.sub (yYb f2.ext hq))
      · exact .inr ((hq.mono f2.ext).mox r2.sub).sq
    cases av with
    | cell n => cases es
    | d d =>
      cases d with
      | list xs =>
        cases es
        cases rv with
        | lst ha ra => exact fin (.inr ha) ra rfl rfl
      | tuple xs =>
        cases es
        cases rv with
        | tup ha ra => exact fin (.inl ha) ra rfl rfl
      | _ => cases es
  rw [hs]
  refine PySem.W.wQj (hall pos) (thn (wa.go pins s I) fun u s1 ⟨y, H1, I1, ry, a, vs, ey, q⟩ => ?_)
  subst ey
  obtain rfl : u = Value.ref a := ry
  refine thn (q.go pos pins s1 I1) fun ws s2 ⟨ys, H2, I2, rz, hq, g⟩ => ?_
  refine StX.star_any I2 hq fun us s3 I3 ru => ?_
  rw [hks pos]
  exact hQ us ws vs ys H2 s3 I3 ru rz g
def yKf (h : Fn) (m : Nat) (fa fk : Pg (List AV)) : Pg EV := .bind fa fun vs => .bind fk fun zs => if zs.length = m then zJ1 h (vs ++ zs) else .stuck
theorem xKh {h : Fn} {u : Value} {m : Nat} {w w2 : Wd} {vs zs : List AV} {xs ys : List V} {Q : VK} (cal : xG2 X B u ks h) (hm : ks.length = m) (e2 : w2.sg = w.sg) (f2 : FolE w w2) (r2 : Rep X.K w2) (rv : Paired (RV X.K w2) vs xs) (rz : Paired (RV X.K w2) zs ys)
    (q : ((if zs.length = m then zJ1 h (vs ++ zs) else .stuck : Pg EV) w2.m).wp (zYh X.K w Q) (XW X.K B w2)) : ∀ (pins : List (Addr × Obj)) (s : Shared) (us ws : List Value), L2.Inv X pins w.sg w2.H s → Vals xs us → Vals ys ws → wpAny (model X.prog X.w) X.A (call u us (ks.zip ws)) (EP X pins w.sg Q) X.xe s := by
  intro pins s us ws I ru rw'
  split at q
  · rename_i hl
    rw [← e2] at I ⊢
    exact cal w2 pins s us ws _ xs ys Q I r2 (zZq rv rz) ru rw' (by rw [← zZt rz, hl, hm]) (q.imp (fun v m' z w3 y em es f3 r3 re => z w3 y em (es.trans e2) (f2.trans f3) r3 re) fun _ _ z => z)
  · exact q.elim
theorem xJ7 {h : Fn} {a : Addr} {m : Nat} (cal : xG2 X B (.ref a) ks h) (hg : Gl X x) (hx : X.mg x = some (.ref a)) (hk : PySem.W.keepIn X.K (.ref a) = true) (A : SndAK X B es kws ks fa fk) (hm : ks.length = m) (hdb : (x == ("__debug__" : Str)) = false := by decide)
    (hpl : ((backTo pos (starEach es X.env)).any (·.1) || (backToKw pos (keywordEach kws X.env)).any (·.1.isNone)) = false := by rfl) : Snd X B (.Call (.Name x p) es kws pos) (yKf h m fa fk) := by
  intro w Q r hw
  refine ⟨fun pins s I => ?_⟩
  refine wpAny_Call_Name_kw (ld_glob I hg hx ?_ hdb)
  have wa := A.go (G := fun xs ys H2 => ∀ (pins : List (Addr × Obj)) (s : Shared) (us ws : List Value), L2.Inv X pins w.sg H2 s → Vals xs us → Vals ys ws → wpAny (model X.prog X.w) X.A (call (.ref a) us (ks.zip ws)) (EP X pins w.sg Q) X.xe s) r hw fun vs zs w2 xs ys e2 f2 r2 rv rz q => xKh cal hm e2 f2 r2 rv rz q
  exact PySem.W.callWith_of (P := fun h => X.K.In h) hpl (PySem.W.keeps_K hk) (wa.go _ pos pins s I _ fun us ws xs ys H2 s2 I2 ru rw' g => ⟨I2.kIn, g pins s2 us ws I2 ru rw'⟩)
theorem xQx {h : Fn} {a : Addr} {m : Nat} (cal : xG2 X B (.ref a) ks h) (hg : Gl X x) (hx : X.mg x = some (.ref a)) (hk : PySem.W.keepIn X.K (.ref a) = true) (A : SndAK X B es kws ks fa fk) (hm : ks.length = m) (hdb : (x == ("__debug__" : Str)) = false := by decide)
    (hst : (backTo pos (starEach es X.env)).any (·.1) = true := by rfl) : Snd X B (.Call (.Name x p) es kws pos) (yKf h m fa fk) := by
  intro w Q r hw
  refine ⟨fun pins s I => ?_⟩
  refine wpAny_Call_Name_kw (ld_glob I hg hx ?_ hdb)
  have wa := A.go (G := fun xs ys H2 => ∀ (pins : List (Addr × Obj)) (s : Shared) (us ws : List Value), L2.Inv X pins w.sg H2 s → Vals xs us → Vals ys ws → wpAny (model X.prog X.w) X.A (call (.ref a) us (ks.zip ws)) (EP X pins w.sg Q) X.xe s) r hw fun vs zs w2 xs ys e2 f2 r2 rv rz q => xKh cal hm e2 f2 r2 rv rz q
  exact PySem.W.yH9 (P := fun h => X.K.In h) hst (PySem.W.keeps_K hk) (wa.go _ pos pins s I _ fun us ws xs ys H2 s2 I2 ru rw' g => ⟨I2.kIn, g pins s2 us ws I2 ru rw'⟩)
end
end Ev

namespace Ev
open PySem PySem.Spec PyProof.Rows L2
theorem yUn {K : PySem.W.Frag} {F : Hp} {n : Str} : ∀ {fs : List (PyData × PyData)} {vs : List (Str × V)}, RF K F fs vs → yKc n fs = none → vs.lookup n = none
  | _, _, .nil, _ => rfl
  | _, _, .cons (k := k) h t, e => by
    unfold yKc at e
    by_cases q : n = k
    · rw [if_pos q] at e
      cases e
    · rw [if_neg q] at e
      rw [List.lookup_cons, show (n == k) = false from beq_eq_false_iff_ne.mpr q]
      exact yUn t e
def ovA : AV → OV
  | .d x => .d x
  | .cell n => .cell n
theorem xYm {K : PySem.W.Frag} {w : Wd} : ∀ {a : AV} {v : V}, RV K w a v → RO K w (ovA a) v
  | .d _, _, h => .inl h
  | .cell _, _, h => h
def recv (n : Str) (tb : List (Str × Fn)) (a : AV) : Pg Fn := look (ovA a) fun x => zKz ((yJi x).bind fun p => if (yKc n p.2).isNone then tb.lookup p.1 else none)
def wKp (X : Cx) (B : XBt) (n : Str) (ks : List Str) (tb : List (Str × Fn)) : Prop := ∀ c h, tb.lookup c = some h → ∀ D, yQx X.K c D → L2.Cls X.K D ∧ ∃ g, L2.Meth X.K D n g ∧ xG2 X B (.ref g) ks h
theorem zGk {X : Cx} {B : XBt} {n : Str} {ks : List Str} : wKp X B n ks [] := fun c h e => by cases e
theorem xUg {X : Cx} {B : XBt} {n c : Str} {ks : List Str} {tb : List (Str × Fn)} {h : Fn} {D g : Addr} (hc : yQx X.K c D) (h1 : L2.Cls X.K D) (h2 : L2.Meth X.K D n g) (h3 : xG2 X B (.ref g) ks h) (t : wKp X B n ks tb) : wKp X B n ks ((c, h) :: tb) := fun c' h' e D' hD => by
  rw [List.lookup_cons] at e
  cases q : c' == c with
  | true =>
    rw [q] at e
    cases e
    have q := eq_of_beq q
    subst q
    rw [hD.one hc]
    exact ⟨h1, g, h2, h3⟩
  | false =>
    rw [q] at e
    exact t c' h' e D' hD
def yZq (n : Str) (tb : List (Str × Fn)) (m : Nat) (fo : Pg EV) (fa fk : Pg (List AV)) : Pg EV := .bind fo fun v => .bind (toA v) fun a => .bind (recv n tb a) fun h => .bind fa fun vs => .bind fk fun zs => if zs.length = m then zJ1 h (a :: (vs ++ zs)) else .stuck
section
variable {X : Cx} {B : XBt} {o : Expr} {es : List Expr} {kws : List Keyword} {ks : List Str} {fa fk : Pg (List AV)} {fo : Pg EV} {apos pos : Pos} {n : Str} {tb : List (Str × Fn)} {m : Nat}
theorem zGe {pl : Sem Bool} (ho : Snd X B o fo) (T : wKp X B n ks tb) (A : SndAK X B es kws ks fa fk) (hm : ks.length = m)
    (ht : eval (.Call (.Attribute o n apos) es kws pos) X.env = (do
      let ov ← eval o X.env
      standAt apos.atName
      let (f, first) ← holding [ov] (getMethod ov n pl)
      callWith pos f first (backTo pos (starEach es X.env)) (backToKw pos (keywordEach kws X.env))) := by rfl)
    (hpl : ((backTo pos (starEach es X.env)).any (·.1) || (backToKw pos (keywordEach kws X.env)).any (·.1.isNone)) = false ∨ (backTo pos (starEach es X.env)).any (·.1) = true := by first | exact .inl rfl | exact .inr rfl) : Snd X B (.Call (.Attribute o n apos) es kws pos) (yZq n tb m fo fa fk) := by
  intro w Q r hw
  refine ⟨fun pins s I => ?_⟩
  have wa : WE X o w.sg w.H fun y H1 => ∃ a C dx fs g, y = .ref a ∧ H1 a = some (.ins C dx fs) ∧ L2.Cls X.K C ∧ L2.Meth X.K C n g ∧ fs.lookup n = none ∧
      wQ9 X es kws ks w.sg H1 fun xs ys H2 => ∀ (pins : List (Addr × Obj)) (s : Shared) (us ws : List Value), L2.Inv X pins w.sg H2 s → Vals xs us → Vals ys ws → wpAny (model X.prog X.w) X.A (call (.ref g) (.ref a :: us) (ks.zip ws)) (EP X pins w.sg Q) X.xe s := by
    refine zQ0 ho r hw fun v w1 y e1 f1 r1 re q => ?_
    obtain ⟨av, w2, ea, s2, h2, f2, r2, rv⟩ := zUy r1 re
    have q := wp_bind q
    rw [ea] at q
    obtain ⟨x, ex, q⟩ := zJe (wp_bind q)
    obtain ⟨h, eh, q⟩ := zXn q
    cases ei : yJi x with
    | none =>
      rw [ei] at eh
      cases eh
    | some p =>
      obtain ⟨c, fs⟩ := p
      rw [ei] at eh
      have eh : (if (yKc n fs).isNone then tb.lookup c else none) = some h := eh
      split at eh
      · rename_i hn
        obtain ⟨a, C, dx, vs, rfl, hcn, ha, rf⟩ := zH8 r2.sub ((xYm rv).rn r2 ex) ei
        obtain ⟨k1, g, k2, cal⟩ := T c h eh C hcn
        rw [← e1, ← s2, ← h2]
        refine ⟨a, C, dx, vs, g, rfl, ha, k1, k2, yUn rf (Option.isNone_iff_eq_none.mp hn), ?_⟩
        have q : (Pg.bind fa (fun vs => .bind fk fun zs => if zs.length = m then zJ1 h (av :: (vs ++ zs)) else .stuck) w2.m).wp (zYh X.K w Q) (XW X.K B w2) := q.imp (fun _ _ z => z) fun _ _ z => z.fol (f2.s r1)
        refine A.go r2 q fun vs' zs w3 xs ys e3 f3 r3 rv3 rz q3 => ?_
        intro pins s us ws I ru rw'
        split at q3
        · rename_i hl
          rw [← e3] at I ⊢
          exact cal w3 pins s (.ref a :: us) ws (av :: (vs' ++ zs)) (.ref a :: xs) ys Q I r3 (.cons (rv.fol f3) (zZq rv3 rz)) (.cons rfl ru) rw' (by rw [← zZt rz, hl, hm]) (q3.imp (fun v m' z w4 y em es f4 r4 re => z w4 y em (es.trans (e3.trans (s2.trans e1))) (f1.trans (f2.trans (f3.trans f4))) r4 re) fun _ _ z => z)
        · exact q3.elim
      · cases eh
  refine PySem.W.methodCall_KW (pl := pl) (thn (wa.go pins s I) fun u s1 ⟨y, H1, I1, ry, a, C, dx, fs, g, ey, ha, k1, k2, hl, q⟩ => ?_) ht
  subst ey
  obtain rfl : u = Value.ref a := ry
  refine getmeth_ok I1 ha k1 k2 hl ?_
  have run := q.go (.ref g) pos pins s1 I1 (fun b s2 => X.K.In s2.heap ∧ wpAny (model X.prog X.w) X.A (call (.ref g) (.ref a :: b.pos) b.kw) (EP X pins w.sg Q) X.xe s2) fun us ws xs ys H2 s2 I2 ru rw' g => ⟨I2.kIn, g pins s2 us ws I2 ru rw'⟩
  rcases hpl with hpl | hst
  · exact PySem.W.callWith_of (P := fun h => X.K.In h) (first := [.ref a]) hpl (PySem.W.keeps_K k2.kp) run
  · exact PySem.W.yH9 (P := fun h => X.K.In h) (first := [.ref a]) hst (PySem.W.keeps_K k2.kp) run
end
end Ev

namespace Ev
open PySem PySem.Spec PyProof.Rows L2
def wJi (tb : List (Str × Fn)) (a : AV) : Pg Fn := look (ovA a) fun x => zKz ((yJi x).bind fun p => tb.lookup p.1)
def wKo (X : Cx) (k : Nat) (n : Str) (tb : List (Str × Fn)) : Prop := ∀ c h, tb.lookup c = some h → ∀ D, yQx X.K c D → L2.Cls X.K D ∧ ∃ p g, L2.PropOf X.K D n p g ∧ zHj X.prog X.w X.K X.mg X.base k g [] h
theorem zY4 {X : Cx} {k : Nat} {n : Str} : wKo X k n [] := fun c h e => by cases e
theorem xYv {X : Cx} {k : Nat} {n c : Str} {tb : List (Str × Fn)} {h : Fn} {D p g : Addr} (hc : yQx X.K c D) (h1 : L2.Cls X.K D) (h2 : L2.PropOf X.K D n p g) (h3 : zHj X.prog X.w X.K X.mg X.base k g [] h) (t : wKo X k n tb) : wKo X k n ((c, h) :: tb) := fun c' h' e D' hD => by
  rw [List.lookup_cons] at e
  cases q : c' == c with
  | true =>
    rw [q] at e
    cases e
    have q := eq_of_beq q
    subst q
    rw [hD.one hc]
    exact ⟨h1, p, g, h2, h3⟩
  | false =>
    rw [q] at e
    exact t c' h' e D' hD
def yQp (tb : List (Str × Fn)) (f : Pg EV) : Pg EV := .bind f fun v => .bind (toA v) fun a => .bind (wJi tb a) fun h => yW1 (zJ1 h [a])
section
variable {X : Cx} {B : XBt} {e : Expr} {f : Pg EV} {pos : Pos} {n : Str} {tb : List (Str × Fn)} {k : Nat}
theorem zYw (C : Ctx X B) (h : Snd X B e f) (T : wKo X k n tb) (hr : Room (k + 1) X.A) (hb : attributeBase e n X.env (eval e X.env) = eval e X.env := by rfl) : Snd X B (.Attribute e n pos) (yQp tb f) := by
  intro w Q r hw
  refine ⟨fun pins s I => ?_⟩
  have wa : WE X e w.sg w.H fun y H1 => ∃ (a Cc dx p g : Addr) (fs : List (Str × V)) (h : Fn) (av : AV) (w2 : Wd), y = .ref a ∧ H1 a = some (.ins Cc dx fs) ∧ L2.Cls X.K Cc ∧ L2.PropOf X.K Cc n p g ∧ zHj X.prog X.w X.K X.mg X.base k g [] h ∧ w2.sg = w.sg ∧ w2.H = H1 ∧ Rep X.K w2 ∧ RV X.K w2 av (.ref a) ∧
      (zJ1 h [av] w2.m).wp (zYh X.K w2 Q) (fun _ _ => False) := by
    refine zQ0 h r hw fun v w1 y e1 f1 r1 re q => ?_
    obtain ⟨av, w2, ea, s2, h2, f2, r2, rv⟩ := zUy r1 re
    have q := wp_bind q
    rw [ea] at q
    obtain ⟨x, ex, q⟩ := zJe (wp_bind q)
    obtain ⟨h, eh, q⟩ := zXn q
    have q := yVo q
    cases ei : yJi x with
    | none =>
      rw [ei] at eh
      cases eh
    | some p =>
      obtain ⟨c, fs⟩ := p
      rw [ei] at eh
      have eh : tb.lookup c = some h := eh
      obtain ⟨a, D, dx, vs, rfl, hcn, ha, rf⟩ := zH8 r2.sub ((xYm rv).rn r2 ex) ei
      obtain ⟨k1, p, g, k2, F⟩ := T c h eh D hcn
      exact ⟨a, D, dx, p, g, vs, h, av, w2, rfl, by rw [← h2]; exact ha, k1, k2, F, s2.trans e1, h2, r2, rv, q.imp (fun v m' z w3 y em es f3 r3 re => z w3 y em (es.trans (s2.trans e1)) (f1.trans (f2.trans f3)) r3 re) fun _ _ z => z⟩
  refine attr_of hb (thn (wa.go pins s I) fun u s1 ⟨y, H1, I1, ry, a, Cc, dx, p, g, fs, h, av, w2, ey, ea, c, hp, F, es, eH, r2, rv, q⟩ => ?_)
  subst ey eH
  obtain rfl : u = Value.ref a := ry
  rw [← es] at I1 ⊢
  obtain ⟨mA, O, _, _, _, _⟩ := ins_get I1.hok ea
  obtain ⟨od, J, _⟩ := O.look
  obtain ⟨rest, hrec⟩ := hp.rec_
  have I2 := I1.tok (s1.toks + 1)
  have hc : (PySem.W.clsIn X.K Cc).isSome = true := by
    obtain ⟨cd, hc, _⟩ := PySem.W.any_some c.hd
    rw [hc]
    rfl
  refine PySem.W.get_bind I1.kIn J (PySem.W.plainGet_of (c.get n)).1 (PySem.W.findObj_data hc hp.at_ hp.get hp.tak) (PySem.W.plainGet_of (c.get n)).2 (wpAny_call (PySem.W.prop_get (s := { s1 with toks := s1.toks + 1 }) I1.kIn hrec ?_))
  have cw : yWg X.K h (fun x w' => ∀ cls d, xWv X.K w' x cls d → (fun (_ : Value) (_ : Option Addr) (_ : Hp) => False) cls d w'.H) (bare w2) [av] Q := by
    refine (yKg q).imp (fun v m' q w' x e1 e2 e3 f r' re => ?_) fun x m' q => q.elim
    obtain ⟨r3, f3⟩ := yXt r2 f r'
    exact q (back w2 w') x (by show (⟨w2.m.sl, w'.m.cs⟩ : Mem) = _; rw [e2]) rfl f3 r3 (yUx r2 f e1 re)
  refine codeAny_mono (F X.A.in1 X.stack { s1 with toks := s1.toks + 1 } (bare w2) [.ref a] [] [av] [.ref a] [] Q (fun _ _ _ => False) C.gd hr.in1 I2.env0.in1 rfl rfl (fun _ h => h) (yKi r2) (yJ9 (.cons rv .nil)) (.cons rfl .nil) .nil rfl cw) fun r s' hq => ?_
  cases r with
  | error er =>
    obtain ⟨_, _, _, _, _, _, _, _, _, _, _, _, z⟩ := (show L2.CX X.prog X.w X.stack w2.H { s1 with toks := s1.toks + 1 } (fun _ _ _ => False) er s' from hq)
    exact z.elim
  | ok fl =>
    cases fl with
    | ret u =>
      obtain ⟨v, H', I3, rv, q3⟩ := I2.after hq
      show wpAny _ _ (handedOut u) _ _ _
      rw [PySem.W.handedOut_of (handed_of rv)]
      exact wpAny_pure ⟨v, H', I3, rv, q3⟩
    | next => exact False.elim hq
    | brk => exact False.elim hq
    | cont => exact False.elim hq
end
section
variable {m : Mem} {X : Exn → Mem → Prop} {E : EV → Mem → Prop} {P : List AV → Mem → Prop}
@[simp] theorem vVn {n : Str} {tb : List (Str × Fn)} {a : AV} {P : Fn → Mem → Prop} : W (recv n tb a) m X P ↔ W (look (ovA a) fun x => zKz ((yJi x).bind fun p => if (yKc n p.2).isNone then tb.lookup p.1 else none)) m X P := Iff.rfl
@[simp] theorem vZw {tb : List (Str × Fn)} {a : AV} {P : Fn → Mem → Prop} : W (wJi tb a) m X P ↔ W (look (ovA a) fun x => zKz ((yJi x).bind fun p => tb.lookup p.1)) m X P := Iff.rfl
@[simp] theorem vKu {x : PyData} : ovA (.d x) = .d x := rfl
@[simp] theorem vKv {n : Nat} : ovA (.cell n) = .cell n := rfl
@[simp] theorem vVv {n : Str} {tb : List (Str × Fn)} {q : Nat} {fo : Pg EV} {fa fk : Pg (List AV)} : W (yZq n tb q fo fa fk) m X E ↔ W fo m X fun v m1 => W (toA v) m1 X fun a m2 => W (recv n tb a) m2 X fun h m3 => W fa m3 X fun vs m4 => W fk m4 X fun zs m5 => W (if zs.length = q then zJ1 h (a :: (vs ++ zs)) else .stuck) m5 X E := by
  unfold yZq
  simp only [zQ8]
@[simp] theorem vVq {tb : List (Str × Fn)} {f : Pg EV} : W (yQp tb f) m X E ↔ W f m X fun v m1 => W (toA v) m1 X fun a m2 => W (wJi tb a) m2 X fun h m3 => W (zJ1 h [a]) m3 noX E := by
  unfold yQp
  simp only [zQ8, xQp]
@[simp] theorem vV6 {h : Fn} {q : Nat} {fa fk : Pg (List AV)} : W (yKf h q fa fk) m X E ↔ W fa m X fun vs m1 => W fk m1 X fun zs m2 => W (if zs.length = q then zJ1 h (vs ++ zs) else .stuck) m2 X E := by
  unfold yKf
  simp only [zQ8]
@[simp] theorem vZv {f : Pg EV} : W (yWd f) m X P ↔ W f m X fun v m1 => W (toA v) m1 X fun a m2 => ∃ as, (zG7 a).map dAV = some as ∧ P as m2 := by
  unfold yWd
  simp only [zQ8, yUy]
end
end Ev

namespace Ev
open PySem PySem.Spec PyProof.Rows L2
def wYq : PyData → Option Str
  | .dict [(.none, .bool b), (.none, .str c)] => if b = true then some c else none
  | _ => none
@[simp] theorem wG2 {c : Str} : wYq (wQ1 c) = some c := rfl
theorem wVw {K : PySem.W.Frag} {w : Wd} {d : PyData} {v : V} {c : Str} (h : RN K w d v) (e : wYq d = some c) : ∃ C, v = .ref C ∧ yQx K c C := by
  rcases h with h | ⟨a, o, e2, rfl, h⟩
  · cases h with
    | non => cases e
    | bl b => cases e
    | int i => cases e
    | str x => cases e
    | lst _ _ => cases e
    | tup _ _ => cases e
    | dic _ h =>
      cases h with
      | nil => cases e
      | @cons k d es _ _ _ h2 =>
        cases h2 with
        | nil => cases k <;> cases d <;> cases e
        | @cons k2 d2 es2 _ _ _ h3 => cases k <;> cases e
    | ins h1 h2 h3 h4 => cases e
    | cls h1 =>
      cases e
      exact ⟨_, rfl, h1⟩
    | exn0 _ _ => cases e
    | exn _ _ _ _ => cases e
    | cell _ => cases e
  · subst e2
    cases o with
    | lst xs => cases e
    | dic es =>
      obtain ⟨kvs, _, rk⟩ := h
      cases rk with
      | nil => cases e
      | @cons k _ _ _ _ _ _ => cases k <;> cases e
    | ins c' fs' => cases e
theorem wW7 {K : PySem.W.Frag} {mg : Str → Option Value} {x : Str} {C : Addr} (h : mg x = some (.ref C)) (hc : yQx K x C) : GM K mg x (wQ1 x) := ⟨.ref C, _, h, rfl, fun _ => .cls hc⟩
def wHp (X : Cx) (B : XBt) (u : Value) (ks : List Str) (h : Fn) : Prop :=
  ∀ (w : Wd) (pins : List (Addr × Obj)) (s : Shared) (us ws : List Value) (args : List AV) (xs ys : List V) (Q : VK), L2.Inv X pins w.sg w.H s → Rep X.K w → Paired (RV X.K w) args (xs ++ ys) → Vals xs us → Vals ys ws → ys.length = ks.length →
    (zJ1 h args w.m).wp (zYh X.K w Q) (XW X.K B w) → codeAny (model X.prog X.w) X.A (.call u ⟨us, ks.zip ws⟩) (wants (EP X pins w.sg Q) X.xe) s
theorem wHp.v {X : Cx} {B : XBt} {u : Value} {ks : List Str} {h : Fn} (c : wHp X B u ks h) : xG2 X B u ks h := fun w pins s us ws args xs ys Q I r hv ru rw hl hw => wpAny_call (c w pins s us ws args xs ys Q I r hv ru rw hl hw)
theorem wQ4 {X : Cx} {B : XBt} {k : Nat} {f : Addr} {ks : List Str} {h : Fn} (C : Ctx X B) (F : zHj X.prog X.w X.K X.mg X.base k f ks h) (hr : Room k X.A) : wHp X B (.ref f) ks h := by
  intro w pins s us ws args xs ys Q I r hv ru rw hl hw
  refine codeAny_mono (F X.A X.stack s (bare w) us ws args xs ys Q (fun cls d H' => WXB X.K B cls d w.sg H') C.gd hr I.env0 rfl rfl (fun _ h => h) (yKi r) (yJ9 hv) ru rw hl (xKg r hw)) fun r s' hq => ?_
  match r, hq with
  | .error _, hq => exact xZe C I hq
  | .ok (.ret u), hq => exact I.after hq
  | .ok .next, hq => exact (show False from hq).elim
  | .ok .brk, hq => exact (show False from hq).elim
  | .ok .cont, hq => exact (show False from hq).elim
def wZd (X : Cx) (B : XBt) (n : Str) (ks : List Str) (tb : List (Str × Fn)) : Prop := ∀ c h, tb.lookup c = some h → ∀ D, yQx X.K c D → ∃ mc p g, ClX.CRead X.K D mc ∧ ClX.CMet X.K D mc n p g ∧ wHp X B (.ref g) ks h
def xKz (tb : List (Str × Fn)) (a : AV) : Pg Fn := look (ovA a) fun x => zKz ((wYq x).bind fun c => tb.lookup c)
def yUs (tb : List (Str × Fn)) (m : Nat) (fo : Pg EV) (fa fk : Pg (List AV)) : Pg EV := .bind fo fun v => .bind (toA v) fun a => .bind (xKz tb a) fun h => .bind fa fun vs => .bind fk fun zs => if zs.length = m then zJ1 h (a :: (vs ++ zs)) else .stuck
def wHo (X : Cx) (B : XBt) (ks : List Str) (tb : List (Str × Fn)) : Prop := ∀ c h, tb.lookup c = some h → ∀ D, yQx X.K c D → PySem.W.keepIn X.K (.ref D) = true ∧ xG2 X B (.ref D) ks h
def xZ9 (tb : List (Str × Fn)) (m : Nat) (fo : Pg EV) (fa fk : Pg (List AV)) : Pg EV := .bind fo fun v => .bind (toA v) fun a => .bind (xKz tb a) fun h => .bind fa fun vs => .bind fk fun zs => if zs.length = m then zJ1 h (vs ++ zs) else .stuck
section
variable {X : Cx} {B : XBt} {o : Expr} {es : List Expr} {kws : List Keyword} {ks : List Str} {fa fk : Pg (List AV)} {fo : Pg EV} {p apos pos : Pos} {n x : Str} {tb : List (Str × Fn)} {m : Nat}
theorem xVd {w : Wd} {a : AV} {v : V} {P : Fn → Mem → Prop} {E : Exn → Mem → Prop} (r : Rep X.K w) (rv : RV X.K w a v) (h : (xKz tb a w.m).wp P E) : ∃ c f C, tb.lookup c = some f ∧ v = .ref C ∧ yQx X.K c C ∧ P f w.m := by
  obtain ⟨x, ex, q⟩ := zJe h
  obtain ⟨f, ef, q⟩ := zXn q
  cases ec : wYq x with
  | none =>
    rw [ec] at ef
    cases ef
  | some c =>
    rw [ec] at ef
    obtain ⟨C, ev, hc⟩ := wVw ((xYm rv).rn r ex) ec
    exact ⟨c, f, C, ef, ev, hc, q⟩
theorem xQv {pl : Sem Bool} (ho : Snd X B o fo) (T : wZd X B n ks tb) (A : SndAK X B es kws ks fa fk) (hm : ks.length = m)
    (ht : eval (.Call (.Attribute o n apos) es kws pos) X.env = (do
      let ov ← eval o X.env
      standAt apos.atName
      let (f, first) ← holding [ov] (getMethod ov n pl)
      callWith pos f first (backTo pos (starEach es X.env)) (backToKw pos (keywordEach kws X.env))) := by rfl)
    (hpl : ((backTo pos (starEach es X.env)).any (·.1) || (backToKw pos (keywordEach kws X.env)).any (·.1.isNone)) = false := by rfl) : Snd X B (.Call (.Attribute o n apos) es kws pos) (yUs tb m fo fa fk) := by
  intro w Q r hw
  refine ⟨fun pins s I => ?_⟩
  have wa : WE X o w.sg w.H fun y H1 => ∃ C mc p g, y = .ref C ∧ ClX.CRead X.K C mc ∧ ClX.CMet X.K C mc n p g ∧
      wQ9 X es kws ks w.sg H1 fun xs ys H2 => ∀ (pins : List (Addr × Obj)) (s : Shared) (us ws : List Value), L2.Inv X pins w.sg H2 s → Vals xs us → Vals ys ws → codeAny (model X.prog X.w) X.A (.call (.ref g) ⟨.ref C :: us, ks.zip ws⟩) (wants (EP X pins w.sg Q) X.xe) s := by
    refine zQ0 ho r hw fun v w1 y e1 f1 r1 re q => ?_
    obtain ⟨av, w2, ea, s2, h2, f2, r2, rv⟩ := zUy r1 re
    have q := wp_bind q
    rw [ea] at q
    obtain ⟨c, h, C, eh, ey, hc, q⟩ := xVd r2 rv (wp_bind q)
    subst ey
    obtain ⟨mc, p, g, k1, k2, cal⟩ := T c h eh C hc
    rw [← e1, ← s2, ← h2]
    refine ⟨C, mc, p, g, rfl, k1, k2, ?_⟩
    have q : (Pg.bind fa (fun vs => .bind fk fun zs => if zs.length = m then zJ1 h (av :: (vs ++ zs)) else .stuck) w2.m).wp (zYh X.K w Q) (XW X.K B w2) := q.imp (fun _ _ z => z) fun _ _ z => z.fol (f2.s r1)
    refine A.go r2 q fun vs' zs w3 xs ys e3 f3 r3 rv3 rz q3 => ?_
    intro pins s us ws I ru rw'
    split at q3
    · rename_i hl
      rw [← e3] at I ⊢
      exact cal w3 pins s (.ref C :: us) ws (av :: (vs' ++ zs)) (.ref C :: xs) ys Q I r3 (.cons (rv.fol f3) (zZq rv3 rz)) (.cons rfl ru) rw' (by rw [← zZt rz, hl, hm]) (q3.imp (fun v m' z w4 y em es f4 r4 re => z w4 y em (es.trans (e3.trans (s2.trans e1))) (f1.trans (f2.trans (f3.trans f4))) r4 re) fun _ _ z => z)
    · exact q3.elim
  refine PySem.W.methodCall_KW (pl := pl) (thn (wa.go pins s I) fun u s1 ⟨y, H1, I1, ry, C, mc, p, g, ey, k1, k2, q⟩ => ?_) ht
  subst ey
  obtain rfl : u = Value.ref C := ry
  refine ClX.getmethcm_ok I1 k1 k2 fun s2 I2 => ?_
  refine PySem.W.callWith_of (P := PySem.W.MethP X.K s1.heap.objs.size g (.ref C)) (first := []) hpl (PySem.W.keeps_M k2.fi) (q.go _ pos _ s2 I2 _ fun us ws xs ys H2 s3 I3 ru rw' gg => ⟨⟨ClX.pin_at I3, I3.kIn⟩, ?_⟩)
  have z := wpAny_call (PySem.W.method_call (ClX.pin_at I3) (gg _ s3 us ws I3 ru rw'))
  exact thn z fun _ _ y => ClX.unpinE y
theorem xJ8 (ho : Snd X B (.Name x p) fo) (T : wHo X B ks tb) (A : SndAK X B es kws ks fa fk) (hm : ks.length = m)
    (hpl : ((backTo pos (starEach es X.env)).any (·.1) || (backToKw pos (keywordEach kws X.env)).any (·.1.isNone)) = false ∨ (backTo pos (starEach es X.env)).any (·.1) = true := by first | exact .inl rfl | exact .inr rfl) : Snd X B (.Call (.Name x p) es kws pos) (xZ9 tb m fo fa fk) := by
  intro w Q r hw
  refine ⟨fun pins s I => ?_⟩
  have wa : WE X (.Name x p) w.sg w.H fun y H1 => ∃ C, y = .ref C ∧ PySem.W.keepIn X.K (.ref C) = true ∧
      wQ9 X es kws ks w.sg H1 fun xs ys H2 => ∀ (pins : List (Addr × Obj)) (s : Shared) (us ws : List Value), L2.Inv X pins w.sg H2 s → Vals xs us → Vals ys ws → wpAny (model X.prog X.w) X.A (call (.ref C) us (ks.zip ws)) (EP X pins w.sg Q) X.xe s := by
    refine zQ0 ho r hw fun v w1 y e1 f1 r1 re q => ?_
    obtain ⟨av, w2, ea, s2, h2, f2, r2, rv⟩ := zUy r1 re
    have q := wp_bind q
    rw [ea] at q
    obtain ⟨c, h, C, eh, ey, hc, q⟩ := xVd r2 rv (wp_bind q)
    subst ey
    obtain ⟨k1, cal⟩ := T c h eh C hc
    rw [← e1, ← s2, ← h2]
    refine ⟨C, rfl, k1, ?_⟩
    have q : (Pg.bind fa (fun vs => .bind fk fun zs => if zs.length = m then zJ1 h (vs ++ zs) else .stuck) w2.m).wp (zYh X.K w Q) (XW X.K B w2) := q.imp (fun _ _ z => z) fun _ _ z => z.fol (f2.s r1)
    refine A.go r2 q fun vs' zs w3 xs ys e3 f3 r3 rv3 rz q3 => ?_
    intro pins s us ws I ru rw'
    split at q3
    · rename_i hl
      rw [← e3] at I ⊢
      exact cal w3 pins s us ws (vs' ++ zs) xs ys Q I r3 (zZq rv3 rz) ru rw' (by rw [← zZt rz, hl, hm]) (q3.imp (fun v m' z w4 y em es f4 r4 re => z w4 y em (es.trans (e3.trans (s2.trans e1))) (f1.trans (f2.trans (f3.trans f4))) r4 re) fun _ _ z => z)
    · exact q3.elim
  refine wpAny_Call_Name_kw (thn (wa.go pins s I) fun u s1 ⟨y, H1, I1, ry, C, ey, k1, q⟩ => ?_)
  subst ey
  obtain rfl : u = Value.ref C := ry
  rcases hpl with hpl | hst
  · exact PySem.W.callWith_of (P := fun h => X.K.In h) hpl (PySem.W.keeps_K k1) (q.go _ pos pins s1 I1 _ fun us ws xs ys H2 s2 I2 ru rw' g => ⟨I2.kIn, g pins s2 us ws I2 ru rw'⟩)
  · exact PySem.W.yH9 (P := fun h => X.K.In h) hst (PySem.W.keeps_K k1) (q.go _ pos pins s1 I1 _ fun us ws xs ys H2 s2 I2 ru rw' g => ⟨I2.kIn, g pins s2 us ws I2 ru rw'⟩)
end
end Ev

namespace Ev
open PySem PySem.Spec PyProof.Rows L2
def OpT (X : Cx) (B : XBt) (op : Operator) (tb : List (Str × Fn)) : Prop := ∀ c h, tb.lookup c = some h → ∀ D, yQx X.K c D → PySem.W.selfFirst X.K D = true ∧ ∃ g, PySem.W.findIn X.K (.ref D) (PySem.dunder op.info.2) = some (some (.ref g)) ∧ PySem.W.isFn X.K (.ref g) = true ∧ xG2 X B (.ref g) [] h
theorem xX4 {X : Cx} {B : XBt} {op : Operator} : OpT X B op [] := fun c h e => by cases e
theorem xH7 {X : Cx} {B : XBt} {op : Operator} {c : Str} {tb : List (Str × Fn)} {h : Fn} {D g : Addr} (hc : yQx X.K c D) (h1 : PySem.W.selfFirst X.K D = true) (h2 : PySem.W.findIn X.K (.ref D) (PySem.dunder op.info.2) = some (some (.ref g))) (h3 : PySem.W.isFn X.K (.ref g) = true) (h4 : xG2 X B (.ref g) [] h) (t : OpT X B op tb) : OpT X B op ((c, h) :: tb) := fun c' h' e D' hD => by
  rw [List.lookup_cons] at e
  cases q : c' == c with
  | true =>
    rw [q] at e
    cases e
    have q := eq_of_beq q
    subst q
    rw [hD.one hc]
    exact ⟨h1, g, h2, h3, h4⟩
  | false =>
    rw [q] at e
    exact t c' h' e D' hD
def wKe (tb : List (Str × Fn)) (x y : PyData) : Option Fn := match yJi x, yJi y with
  | some p, some q => if p.1 = q.1 then tb.lookup p.1 else none
  | _, _ => none
def yG0 (op : Operator) (tb : List (Str × Fn)) (fa fb : Pg EV) : Pg EV := .bind fa fun v => .bind (toA v) fun a => .bind fb fun u => .bind (toA u) fun b => look (ovA a) fun x => look (ovA b) fun y =>
  if (yJi x).isSome then .bind (zKz (wKe tb x y)) fun h => zJ1 h [a, b] else zKz (yW7 op x y)
section
variable {X : Cx} {B : XBt} {ea eb : Expr} {fa fb : Pg EV} {pos : Pos} {op : Operator} {tb : List (Str × Fn)}
theorem yHf (ha : Snd X B ea fa) (hb : Snd X B eb fb) (T : OpT X B op tb) : Snd X B (.BinOp ea op eb pos) (yG0 op tb fa fb) := by
  intro w Q r hw
  refine ⟨fun pins s I => ?_⟩
  have wa : WE X ea w.sg w.H fun x H1 => WE X eb w.sg H1 fun y H2 => ∀ (pins : List (Addr × Obj)) (s : Shared) (u v : Value), L2.Inv X pins w.sg H2 s → RelV x u → RelV y v → wpAny (model X.prog X.w) X.A (binaryOp op u v) (EP X pins w.sg Q) X.xe s := by
    refine zQ0 ha r hw fun v w1 x e1 f1 r1 re q => ?_
    obtain ⟨a, w2, ea', s2, h2, f2, r2, rv⟩ := zUy r1 re
    have q := wp_bind q
    rw [ea'] at q
    rw [← e1, ← s2, ← h2]
    have q : (Pg.bind fb _ w2.m).wp (zYh X.K w Q) (XW X.K B w2) := Res.wp.imp q (fun _ _ z => z) fun _ _ z => z.fol (f2.s r1)
    refine zQ0 hb r2 q fun u w3 y e3 f3 r3 re3 q => ?_
    obtain ⟨b, w4, eb', s4, h4, f4, r4, rv4⟩ := zUy r3 re3
    have q := wp_bind q
    rw [eb'] at q
    intro pins s u' v' I ru rv'
    have ra4 : RV X.K w4 a x := (rv.fol f3).fol f4
    have q : (look (ovA a) _ w4.m).wp (zYh X.K w Q) (XW X.K B w4) := Res.wp.imp q (fun _ _ z => z) fun _ _ z => z.fol (f4.s r3)
    obtain ⟨dx, ex, q⟩ := zJe q
    obtain ⟨dy, ey, q⟩ := zJe q
    have sg4 : w4.sg = w.sg := s4.trans (e3.trans (s2.trans e1))
    have fol : FolE w w4 := f1.trans (f2.trans (f3.trans f4))
    have I : L2.Inv X pins w4.sg w4.H s := by rw [h4, s4, e3]; exact I
    have rx := (xYm ra4).rn r4 ex
    have ry := (xYm rv4).rn r4 ey
    have eS : w2.sg = w4.sg := (s4.trans e3).symm
    rw [eS]
    split at q
    · obtain ⟨h, eh, q⟩ := zXn (wp_bind q)
      unfold wKe at eh
      split at eh
      · rename_i p1 p2 i1 i2
        split at eh
        · rename_i hcc
          obtain ⟨c, fs⟩ := p1
          obtain ⟨c', fs'⟩ := p2
          have hcc : c = c' := hcc
          subst hcc
          obtain ⟨a1, C, d1, vs, rfl, hc1, ha1, _⟩ := zH8 r4.sub rx i1
          obtain ⟨a2, C2, d2, vs2, rfl, hc2, ha2, _⟩ := zH8 r4.sub ry i2
          have eC := hc2.one hc1
          subst eC
          obtain ⟨k1, g, k2, k3, cal⟩ := T c h eh C2 hc1
          obtain rfl : u' = Value.ref a1 := ru
          obtain rfl : v' = Value.ref a2 := rv'
          obtain ⟨mA, O, _⟩ := ins_get I.hok ha1
          obtain ⟨od, J, _⟩ := O.look
          obtain ⟨mA2, O2, _⟩ := ins_get I.hok ha2
          obtain ⟨od2, J2, _⟩ := O2.look
          obtain ⟨m, hF⟩ := I.fr
          refine PySem.W.binop_K hF I.ok.mod.kin J J2.type k1 k2 k3 ?_
          have z := cal w4 pins s [.ref a1, .ref a2] [] [a, b] [.ref a1, .ref a2] [] Q I r4 (.cons ra4 (.cons rv4 .nil)) (.cons rfl (.cons rfl .nil)) .nil rfl (q.imp (fun v m' z w5 y em es f5 r5 re => z w5 y em (es.trans sg4) (fol.trans f5) r5 re) fun _ _ z => z)
          exact wpAny_mono z (fun v' s' ⟨z', H', I', rz, qz⟩ => SlX.cmpback rz ⟨z', H', I', rz, qz⟩) fun _ _ x => x
        · cases eh
      · cases eh
    · obtain ⟨z, ez, q⟩ := zXn q
      exact yGs pins s w4.sg w4.H x y u' v' Q I ru rv' (wXk r4 rx ry ez (zYh.keep q sg4 fol))
  exact wpAny_BinOp (thn (wa.go pins s I) fun u s1 ⟨x, H1, I1, rx, q⟩ => thn (q.go pins s1 I1) fun v s2 ⟨y, H2, I2, ry, g⟩ => g pins s2 u v I2 rx ry)
def wHn (X : Cx) (n : Str) (tb : List (Str × PyData)) : Prop := ∀ c d, tb.lookup c = some d → ∀ D, yQx X.K c D → L2.Cls X.K D ∧ ∃ v u, L2.Con X.K D n v u ∧ ∀ F, R X.K F d v
def wQt (n : Str) (tb : List (Str × PyData)) (f : Pg EV) : Pg EV := .bind f fun v => look (zHc v) fun x => zKz ((yJi x).bind fun p => if (yKc n p.2).isNone then (tb.lookup p.1).map .d else none)
theorem wX5 {f : Pg EV} {n : Str} {tb : List (Str × PyData)} (h : Snd X B ea f) (T : wHn X n tb) (hb : attributeBase ea n X.env (eval ea X.env) = eval ea X.env := by rfl) : Snd X B (.Attribute ea n pos) (wQt n tb f) := by
  intro w Q r hw
  refine zUx (pe_con zHk hb) ?_
  refine zQ0 h r hw fun v w1 y e1 f1 r1 re h1 => ?_
  obtain ⟨d, ed, h1⟩ := zJe h1
  obtain ⟨z, ez, q⟩ := zXn h1
  cases ex : yJi d with
  | none =>
    rw [ex] at ez
    cases ez
  | some p =>
    obtain ⟨c, fs⟩ := p
    rw [ex] at ez
    have ez : (if (yKc n fs).isNone then (tb.lookup c).map EV.d else none) = some z := ez
    split at ez
    · rename_i hn
      cases eg : tb.lookup c with
      | none =>
        rw [eg] at ez
        cases ez
      | some d1 =>
        rw [eg] at ez
        cases ez
        obtain ⟨a, C, dx, vs, rfl, hcn, ha, rf⟩ := zH8 r1.sub ((re.ro r1).rn r1 ed) ex
        obtain ⟨k1, v1, u1, k2, k3⟩ := T c d1 eg C hcn
        exact ⟨a, C, dx, vs, v1, u1, rfl, ha, k1, k2, yUn rf (Option.isNone_iff_eq_none.mp hn), q w1 v1 rfl e1 f1 r1 (k3 w1.F)⟩
    · cases ez
end
section
variable {m : Mem} {X : Exn → Mem → Prop} {E : EV → Mem → Prop}
@[simp] theorem vV8 {op : Operator} {tb : List (Str × Fn)} {fa fb : Pg EV} : W (yG0 op tb fa fb) m X E ↔ W fa m X fun v m1 => W (toA v) m1 X fun a m2 => W fb m2 X fun u m3 => W (toA u) m3 X fun b m4 => W (look (ovA a) fun x => look (ovA b) fun y => if (yJi x).isSome then .bind (zKz (wKe tb x y)) fun h => zJ1 h [a, b] else zKz (yW7 op x y)) m4 X E := by
  unfold yG0
  simp only [zQ8]
@[simp] theorem vY9 {n : Str} {tb : List (Str × PyData)} {f : Pg EV} : W (wQt n tb f) m X E ↔ W f m X fun v m1 => W (look (zHc v) fun x => zKz ((yJi x).bind fun p => if (yKc n p.2).isNone then (tb.lookup p.1).map .d else none)) m1 X E := by
  unfold wQt
  rw [zQ8]
@[simp] theorem vZx {tb : List (Str × Fn)} {a : AV} {P : Fn → Mem → Prop} : W (xKz tb a) m X P ↔ W (look (ovA a) fun x => zKz ((wYq x).bind fun c => tb.lookup c)) m X P := Iff.rfl
@[simp] theorem vXg {tb : List (Str × Fn)} {q : Nat} {fo : Pg EV} {fa fk : Pg (List AV)} : W (yUs tb q fo fa fk) m X E ↔ W fo m X fun v m1 => W (toA v) m1 X fun a m2 => W (xKz tb a) m2 X fun h m3 => W fa m3 X fun vs m4 => W fk m4 X fun zs m5 => W (if zs.length = q then zJ1 h (a :: (vs ++ zs)) else .stuck) m5 X E := by
  unfold yUs
  simp only [zQ8]
@[simp] theorem vV7 {tb : List (Str × Fn)} {q : Nat} {fo : Pg EV} {fa fk : Pg (List AV)} : W (xZ9 tb q fo fa fk) m X E ↔ W fo m X fun v m1 => W (toA v) m1 X fun a m2 => W (xKz tb a) m2 X fun h m3 => W fa m3 X fun vs m4 => W fk m4 X fun zs m5 => W (if zs.length = q then zJ1 h (vs ++ zs) else .stuck) m5 X E := by
  unfold xZ9
  simp only [zQ8]
end
end Ev

namespace Ev
open PySem PySem.Spec PyProof.Rows L2
def yGg (K : PySem.W.Frag) (n : Str) (D g : Addr) : Prop := L2.Meth K D n g
def xWr (K : PySem.W.Frag) (n : Str) (D g : Addr) : Prop := ∃ p, L2.PropOf K D n p g
def wKn (K : PySem.W.Frag) (n : Str) (D g : Addr) : Prop := ∃ mc p, ClX.CRead K D mc ∧ ClX.CMet K D mc n p g
def RMk (K : PySem.W.Frag) (mg : Str → Option Value) (c : Str) (D g : Addr) : Prop := L2.Mk K D g ∧ mg c = some (.ref D)
def ROp (K : PySem.W.Frag) (op : Operator) (D g : Addr) : Prop := PySem.W.selfFirst K D = true ∧ PySem.W.findIn K (.ref D) (PySem.dunder op.info.2) = some (some (.ref g)) ∧ PySem.W.isFn K (.ref g) = true
def xWt (K : PySem.W.Frag) (c : Str) (R : Addr → Addr → Prop) (FF : Addr → FuncData → Prop) : Prop := ∃ D g fd, yQx K c D ∧ L2.Cls K D ∧ R D g ∧ FF g fd
def yG4 (P : Program) (w : World) (K : PySem.W.Frag) (mg : Str → Option Value) (base : Heap) (k : Nat) (c : Str) (R : Addr → Addr → Prop) (ks : List Str) (h : Fn) : Prop := ∃ D g, yQx K c D ∧ L2.Cls K D ∧ R D g ∧ zHj P w K mg base k g ks h
def FFp (K : PySem.W.Frag) (x qual : Str) (st : Stmt) (g : Addr) (fd : FuncData) : Prop := Fun K x qual st g fd
def FFd (K : PySem.W.Frag) (x qual : Str) (st : Stmt) (kws : List (Str × V)) (g : Addr) (fd : FuncData) : Prop := FunD K x qual (defArgs st) (defBody st) (defScope st) [] kws g fd
section
variable {P : Program} {w : World} {K : PySem.W.Frag} {mg : Str → Option Value} {base : Heap} {c x qual pv : Str} {R : Addr → Addr → Prop} {FF : Addr → FuncData → Prop} {st : Stmt} {ps ks : List Str} {kws : List (Str × V)} {g : Fn} {j k q : Nat} {f : Addr} {fd : FuncData}
theorem zU8 {h : Fn} (m : xWt K c R FF) (cp : ∀ {f : Addr} {fd : FuncData}, FF f fd → zHj P w K mg base k f ks h) : yG4 P w K mg base k c R ks h := by
  obtain ⟨D, g, fd, h1, h2, h3, h4⟩ := m
  exact ⟨D, g, h1, h2, h3, cp h4⟩
theorem xV4 (F : FFd K x qual st kws f fd) : Fun K x qual st f fd := by
  obtain ⟨oc, od, dV, kV, doc, pm, an, cdv, ct, osl, e, lk, hcd, hD, hK⟩ := F.ex
  rcases hD with ⟨_, rfl⟩ | ⟨z, _⟩
  · exact ⟨⟨oc, od, kV, doc, pm, an, cdv, ct, osl, e, lk, hcd⟩, F.kp⟩
  · exact absurd rfl z
theorem wQz (ok : ∀ {f : Addr} {fd : FuncData}, Fun K x qual st f fd → FnG P w K mg base j f fd ps (spG K ps.length g)) (hk : j ≤ k) (n : Nat) (is : List Nat) (hq : ps.length = q)
    (hb : ∀ (kV doc pm : Value) (an : Option Addr) (cdv ct : Value) (us ws : List Value), us.length = n → ws.length = ks.length → bindArgs (PySem.W.fnOf x qual (defArgs st) (defBody st) (defScope st) .none kV doc pm an cdv ct) ⟨us, ks.zip ws⟩ = pure (ps.zip (pick is (us ++ ws ++ [])))) (F : FFp K x qual st f fd) :
    zHj P w K mg base k f ks (pD n ks.length q is [] g) := by
  refine xGd ((ok F).up hk) hq .nil (fun _ => .nil) fun s us ws _ l1 l2 => ?_
  obtain ⟨oc, od, kV, doc, pm, an, cdv, ct, osl, rfl, _, _⟩ := F.ex
  exact .of_eq (hb kV doc pm an cdv ct us ws l1 l2)
theorem vJ5 (ok : ∀ {f : Addr} {fd : FuncData}, Fun K x qual st f fd → FnG P w K mg base j f fd ps (spG K ps.length g)) (hk : j ≤ k) (n : Nat) (ms : List (Str × V)) (is : List Nat) (ds : List PyData) (hne : kws ≠ []) (hms : ∀ q ∈ ms, q ∈ kws) (hds : ∀ F : Hp, RA K F ds (ms.map (·.2))) (hq : ps.length = q)
    (hb : ∀ (D : Addr) (doc pm : Value) (an : Option Addr) (cdv ct : Value) (us mv ws : List Value), us.length = n → mv.length = ms.length → ws.length = ks.length →
      KwChain D ((ms.map (·.1)).zip mv) (bindArgs (PySem.W.fnOf x qual (defArgs st) (defBody st) (defScope st) .none (.ref D) doc pm an cdv ct) ⟨us, ks.zip ws⟩) (ps.zip (pick is (us ++ ws ++ mv)))) (F : FFd K x qual st kws f fd) :
    zHj P w K mg base k f ks (pD n ks.length q is ds g) := by
  obtain ⟨mv, rk, hb'⟩ := wXg F n ks ms is hne hms hb
  exact xGd ((ok (xV4 F)).up hk) hq rk hds hb'
theorem vYj {full : Bool} (ok : ∀ {f : Addr} {fd : FuncData}, Fun K x qual st f fd → FnG P w K mg base j f fd (ps ++ [pv]) (spG K (ps.length + 1) g)) (hk : j ≤ k) (n : Nat) (ms : List (Str × V)) (is : List Nat) (ds : List PyData) (hne : kws ≠ []) (hms : ∀ q ∈ ms, q ∈ kws) (hds : ∀ F : Hp, RA K F ds (ms.map (·.2))) (hq : ps.length + 1 = q)
    (hb : ∀ (D : Addr) (doc pm : Value) (an : Option Addr) (cdv ct : Value) (us mv ws rest : List Value), us.length = n → mv.length = ms.length → ws.length = ks.length → (full = true ∨ rest = []) →
      Chain D ((ms.map (·.1)).zip mv) (bindArgs (PySem.W.fnOf x qual (defArgs st) (defBody st) (defScope st) .none (.ref D) doc pm an cdv ct) ⟨us ++ rest, ks.zip ws⟩) (newTuple rest >>= fun t => pure (ps.zip (pick is (us ++ ws ++ mv)) ++ [(pv, t)]))) (F : FFd K x qual st kws f fd) :
    zHj P w K mg base k f ks (pS full n ks.length q is ds g) := by
  obtain ⟨mv, rk, hb'⟩ := wK2 F n ks ms is hne hms hb
  exact xGc ((ok (xV4 F)).up hk) hq rk hds hb'
theorem vQ3 {full : Bool} (ok : ∀ {f : Addr} {fd : FuncData}, Fun K x qual st f fd → FnG P w K mg base j f fd (ps ++ [pv]) (spG K (ps.length + 1) g)) (hk : j ≤ k) (n : Nat) (is : List Nat) (hq : ps.length + 1 = q)
    (hb : ∀ (kV doc pm : Value) (an : Option Addr) (cdv ct : Value) (us ws rest : List Value), us.length = n → ws.length = ks.length → (full = true ∨ rest = []) →
      bindArgs (PySem.W.fnOf x qual (defArgs st) (defBody st) (defScope st) .none kV doc pm an cdv ct) ⟨us ++ rest, ks.zip ws⟩ = (newTuple rest >>= fun t => pure (ps.zip (pick is (us ++ ws ++ [])) ++ [(pv, t)]))) (F : FFp K x qual st f fd) :
    zHj P w K mg base k f ks (pS full n ks.length q is [] g) := by
  refine xGc ((ok F).up hk) hq .nil (fun _ => .nil) fun s us ws rest X l1 l2 l3 M A Q E hw => ?_
  obtain ⟨oc, od, kV, doc, pm, an, cdv, ct, osl, rfl, _, _⟩ := F.ex
  rw [hb kV doc pm an cdv ct us ws rest l1 l2 l3]
  exact hw
end
section
variable {X : Cx} {B : XBt} {k : Nat} {c n : Str} {ks : List Str} {h : Fn} {tb : List (Str × Fn)} {op : Operator}
theorem yV4 (C : Ctx X B) (m : yG4 X.prog X.w X.K X.mg X.base k c (yGg X.K n) ks h) (hr : Room k X.A) (t : wKp X B n ks tb) : wKp X B n ks ((c, h) :: tb) := by
  obtain ⟨D, g, h1, h2, h3, h4⟩ := m
  exact xUg h1 h2 h3 (xQo C h4 hr) t
theorem yJq (m : yG4 X.prog X.w X.K X.mg X.base k c (xWr X.K n) [] h) (t : wKo X k n tb) : wKo X k n ((c, h) :: tb) := by
  obtain ⟨D, g, h1, h2, ⟨p, h3⟩, h4⟩ := m
  exact xYv h1 h2 h3 h4 t
theorem xXe : wZd X B n ks [] := fun c h e => by cases e
theorem xGe (C : Ctx X B) (m : yG4 X.prog X.w X.K X.mg X.base k c (wKn X.K n) ks h) (hr : Room k X.A) (t : wZd X B n ks tb) : wZd X B n ks ((c, h) :: tb) := by
  obtain ⟨D, g, h1, h2, ⟨mc, p, h3, h5⟩, h4⟩ := m
  intro c' h' e D' hD
  rw [List.lookup_cons] at e
  cases q : c' == c with
  | true =>
    rw [q] at e
    cases e
    have q := eq_of_beq q
    subst q
    rw [hD.one h1]
    exact ⟨mc, p, g, h3, h5, wQ4 C h4 hr⟩
  | false =>
    rw [q] at e
    exact t c' h' e D' hD
theorem wJu (C : Ctx X B) (m : yG4 X.prog X.w X.K X.mg X.base k c (ROp X.K op) [] h) (hr : Room k X.A) (t : OpT X B op tb) : OpT X B op ((c, h) :: tb) := by
  obtain ⟨D, g, h1, h2, ⟨h3, h5, h6⟩, h4⟩ := m
  exact xH7 h1 h3 h5 h6 (xQo C h4 hr) t
theorem xKe : wHo X B ks [] := fun c h e => by cases e
theorem wXh (C : Ctx X B) (m : yG4 X.prog X.w X.K X.mg X.base k c (RMk X.K X.mg c) ks h) (hr : Room (k + 1) X.A) (t : wHo X B ks tb) : wHo X B ks ((c, mkF c h) :: tb) := by
  obtain ⟨D, g, h1, h2, ⟨h3, h5⟩, h4⟩ := m
  intro c' h' e D' hD
  rw [List.lookup_cons] at e
  cases q : c' == c with
  | true =>
    rw [q] at e
    cases e
    have q := eq_of_beq q
    subst q
    rw [hD.one h1]
    exact ⟨h3.kp, xGk C h3 h1 h4 hr⟩
  | false =>
    rw [q] at e
    exact t c' h' e D' hD
variable {es : List Expr} {kws : List Keyword} {fa fk : Pg (List AV)} {p pos : Pos} {m : Nat}
theorem xJ5 (C : Ctx X B) (me : yG4 X.prog X.w X.K X.mg X.base k c (RMk X.K X.mg c) ks h) (hr : Room (k + 1) X.A) (hg : Gl X c) (A : SndAK X B es kws ks fa fk) (hm : ks.length = m) (hdb : (c == ("__debug__" : Str)) = false := by decide)
    (hpl : ((backTo pos (starEach es X.env)).any (·.1) || (backToKw pos (keywordEach kws X.env)).any (·.1.isNone)) = false ∨ (backTo pos (starEach es X.env)).any (·.1) = true := by first | exact .inl rfl | exact .inr rfl) : Snd X B (.Call (.Name c p) es kws pos) (yKf (mkF c h) m fa fk) := by
  obtain ⟨D, g, h1, h2, ⟨h3, h5⟩, h4⟩ := me
  rcases hpl with hpl | hst
  · exact xJ7 (xGk C h3 h1 h4 hr) hg h5 h3.kp A hm hdb hpl
  · exact xQx (xGk C h3 h1 h4 hr) hg h5 h3.kp A hm hdb hst
end
def wY4 (K : PySem.W.Frag) (c n : Str) : Prop := ∃ D, yQx K c D ∧ L2.Cls K D ∧ L2.NoAttr K D n
theorem yQo {K : PySem.W.Frag} {c n : Str} {cl : List Str} (h : wY4 K c n) (t : FlL K cl n) : FlL K (c :: cl) n := by
  obtain ⟨D, h1, h2, h3⟩ := h
  exact wQq h1 h2 h3 t
def vXu (K : PySem.W.Frag) (c n : Str) (d : PyData) : Prop := ∃ D, yQx K c D ∧ L2.Cls K D ∧ ∃ v u, L2.Con K D n v u ∧ ∀ F, R K F d v
theorem wQ0 {X : Cx} {n : Str} : wHn X n [] := fun c h e => by cases e
theorem wYo {X : Cx} {c n : Str} {d : PyData} {tb : List (Str × PyData)} (h : vXu X.K c n d) (t : wHn X n tb) : wHn X n ((c, d) :: tb) := by
  obtain ⟨D, h1, h2, h3⟩ := h
  intro c' h' e D' hD
  rw [List.lookup_cons] at e
  cases q : c' == c with
  | true =>
    rw [q] at e
    cases e
    have q := eq_of_beq q
    subst q
    rw [hD.one h1]
    exact ⟨h2, h3⟩
  | false =>
    rw [q] at e
    exact t c' h' e D' hD
end Ev

namespace Ev
open PySem PySem.Spec PyProof.Rows L2
def vXp (P : Program) (w : World) (K : PySem.W.Frag) (mg : Str → Option Value) (base : Heap) (k : Nat) (x : Str) (ks : List Str) (h : Fn) : Prop := ∃ f, mg x = some (.ref f) ∧ PySem.W.keepIn K (.ref f) = true ∧ zHj P w K mg base k f ks h
section
variable {P : Program} {w : World} {K : PySem.W.Frag} {mg : Str → Option Value} {base : Heap} {x : Str} {st : Stmt} {k : Nat} {ks : List Str} {h : Fn}
theorem wWu (m : FMS K mg x st) (cp : ∀ {f : Addr} {fd : FuncData}, FFp K x x st f fd → zHj P w K mg base k f ks h) : vXp P w K mg base k x ks h := by
  obtain ⟨f, fd, F, e⟩ := m
  exact ⟨f, e, F.kp, cp F⟩
end
section
variable {X : Cx} {B : XBt} {k : Nat} {x : Str} {ks : List Str} {h : Fn} {es : List Expr} {kws : List Keyword} {fa fk : Pg (List AV)} {pos p : Pos} {m : Nat}
theorem wX4 (C : Ctx X B) (me : vXp X.prog X.w X.K X.mg X.base k x ks h) (hr : Room k X.A) (hg : Gl X x) (A : SndAK X B es kws ks fa fk) (hm : ks.length = m) (hdb : (x == ("__debug__" : Str)) = false := by decide)
    (hpl : ((backTo pos (starEach es X.env)).any (·.1) || (backToKw pos (keywordEach kws X.env)).any (·.1.isNone)) = false ∨ (backTo pos (starEach es X.env)).any (·.1) = true := by first | exact .inl rfl | exact .inr rfl) : Snd X B (.Call (.Name x p) es kws pos) (yKf h m fa fk) := by
  obtain ⟨f, h1, h2, h3⟩ := me
  rcases hpl with hpl | hst
  · exact xJ7 (xQo C h3 hr) hg h1 h2 A hm hdb hpl
  · exact xQx (xQo C h3 hr) hg h1 h2 A hm hdb hst
end
section
variable {K : PySem.W.Frag} {c x qual : Str} {st : Stmt} {C f p D : Addr} {mc oc kV doc pm cdv ct : Value} {od an : Option Addr} {osl : Array (Option Value)} {kws : List (Str × V)} {rest : List Value} {n : Nat} {mg : Str → Option Value}
theorem yKb (l : K.lookup f = some ⟨oc, od, .func (PySem.W.fnOf x qual (defArgs st) (defBody st) (defScope st) .none kV doc pm an cdv ct), osl⟩) (cc : PySem.W.codeIn K cdv qual = true) (k : PySem.W.keepIn K (.ref f) = true) : FFp K x qual st f (PySem.W.fnOf x qual (defArgs st) (defBody st) (defScope st) .none kV doc pm an cdv ct) := fun_mk l cc k
theorem xU2 (l : K.lookup f = some ⟨oc, od, .func (PySem.W.fnOf x qual (defArgs st) (defBody st) (defScope st) .none (.ref D) doc pm an cdv ct), osl⟩) (cc : PySem.W.codeIn K cdv qual = true) (k : PySem.W.keepIn K (.ref f) = true) (h : ∀ q ∈ kws, ∃ u, PySem.W.nsIn K D q.1 = some (some u) ∧ RelV q.2 u) :
    FFd K x qual st kws f (PySem.W.fnOf x qual (defArgs st) (defBody st) (defScope st) .none (.ref D) doc pm an cdv ct) := ⟨⟨oc, od, .none, .ref D, doc, pm, an, cdv, ct, osl, rfl, l, cc, .inl ⟨rfl, rfl⟩, .inr ⟨D, rfl, h⟩⟩, k⟩
theorem zGc (a : PySem.W.plainGet K C Str.empty = true) (b : PySem.W.hasDictIn K C = true) (d : PySem.W.plainOver K C = true) (e : PySem.W.findIn K (.ref C) "__setattr__" = some (some (.builtin "object.__setattr__"))) : L2.Cls K C := ⟨a, b, d, e⟩
theorem yYe (a : PySem.W.findIn K (.ref C) x = some (some (.ref f))) (b : PySem.W.isFn K (.ref f) = true) (k : PySem.W.keepIn K (.ref f) = true) : yGg K x C f := ⟨a, b, k⟩
theorem xVb (a : PySem.W.findIn K (.ref C) x = some (some (.ref p))) (r : PySem.W.recIn K p "property" = some (.ref f :: rest)) (b : PySem.W.specialIn K (.ref p) "__get__" = some (some (.builtin "property.__get__"))) (d : PySem.W.takesIn K (.ref p) = some true) : xWr K x C f := ⟨p, a, b, d, rest, r⟩
theorem xYr (a : PySem.W.readsIn K C mc = true) (b : PySem.W.specialIn K (.ref C) "__getattribute__" = some (some (.builtin "type.__getattribute__"))) (d : PySem.W.findCls K (.ref C) mc x = some (.get (.builtin "classmethod.__get__") (.ref p) .none (.ref C))) (r : PySem.W.recIn K p "classmethod" = some (.ref f :: rest)) (e : PySem.W.fnIn K f = true) : wKn K x C f := ⟨mc, p, ⟨a, b⟩, d, ⟨rest, r⟩, e⟩
theorem wK7 (a : PySem.W.findIn K (.ref C) "__init__" = some (some (.ref f))) (b : PySem.W.isFn K (.ref f) = true) (d : PySem.W.makesIn K C = true) (e : PySem.W.keepIn K (.ref C) = true) (m : mg c = some (.ref C)) : RMk K mg c C f := ⟨⟨d, a, b, e⟩, m⟩
theorem wZn {op : Operator} (a : PySem.W.findIn K (.ref C) (PySem.dunder op.info.2) = some (some (.ref f))) (b : PySem.W.isFn K (.ref f) = true) (d : PySem.W.selfFirst K C = true) : ROp K op C f := ⟨d, a, b⟩
theorem xU0 (z : PySem.W.nsIn K mainGlobals c = some (some (.ref C))) (k : L2.Cls K C) (a : PySem.W.findIn K (.ref C) x = some none) : wY4 K c x := ⟨C, z, k, a⟩
theorem wYn {u : Value} {d : PyData} (z : PySem.W.nsIn K mainGlobals c = some (some (.ref C))) (k : L2.Cls K C) (a : PySem.W.findIn K (.ref C) x = some (some u)) (e : rdK K n u = some d) (g : PySem.W.specialIn K u "__get__" = some none) (cp : PySem.W.copiedNames.contains x = false) : vXu K c x d := by
  obtain ⟨y, h1, h2⟩ := xYq n u d e
  exact ⟨C, z, k, y, u, ⟨a, h1, g, cp⟩, h2⟩
end
end Ev

namespace Ev
open PySem PySem.Spec PyProof.Rows L2
def xQf : EV → Pg EV
  | .pk i o => fun m => .ok (.d (dOf o)) (zHd m i (dOf o))
  | v => .ret v
def kept : EV → Prop
  | .pk _ _ => False
  | _ => True
theorem xV2 {K : PySem.W.Frag} {w : Wd} (r : Rep K w) : ∀ {v : EV} {x : V}, RE K w v x → ∃ (v' : EV) (w' : Wd), xQf v w.m = .ok v' w'.m ∧ w'.sg = w.sg ∧ w'.H = w.H ∧ FolE w w' ∧ Rep K w' ∧ RE K w' v' x ∧ kept v'
  | .d y, x, h => ⟨.d y, w, rfl, rfl, rfl, FolE.refl w, r, h, trivial⟩
  | .cell n, x, h => ⟨.cell n, w, rfl, rfl, rfl, FolE.refl w, r, h, trivial⟩
  | .new o, x, h => ⟨.new o, w, rfl, rfl, rfl, FolE.refl w, r, h, trivial⟩
  | .pk i o, x, ⟨h1, h2⟩ => by
    obtain ⟨w', e1, e2, e3, f, r', q⟩ := yUj r h1 h2
    exact ⟨.d (dOf o), w', by show Res.ok _ _ = _; rw [e1], e2, e3, f, r', q, trivial⟩
def adN : EV → V → Addr → Prop
  | .new _, x, a => x = .ref a
  | _, _, _ => False
def wXt (w : Wd) (v : EV) (x : V) : Wd := { w with Z := fun b => w.Z b ∨ adN v x b }
theorem wXs {K : PySem.W.Frag} {w : Wd} {v : EV} {x : V} (r : Rep K w) (h : RE K w v x) : Rep K (wXt w v x) := by
  have nn : ∀ {a : Addr}, adN v x a → (∃ o, OH K w.F w.H w.Z a o) ∧ w.F a = none ∧ a ∉ w.ro ∧ ¬ Own w a := fun {a} z => by
    cases v with
    | new o =>
      obtain ⟨b, e, h1, h2, h3, h4, h5⟩ := h
      have z : x = .ref a := z
      rw [e] at z
      cases z
      exact ⟨⟨o, h1⟩, h2, h3, h5⟩
    | _ => exact z.elim
  refine ⟨r.sub, r.le, fun i s hs => ?_, r.cs, r.ln, r.rf, r.rk, r.nd, r.ow, fun a z => ?_, r.oo, r.tb⟩
  · obtain ⟨y, h1, h2⟩ := r.sl i s hs
    refine ⟨y, h1, ?_⟩
    cases s with
    | d u => exact h2
    | cell n => exact h2
    | thk t => exact h2
    | ob o =>
      obtain ⟨b, e, q1, q2, q3, q4⟩ := h2
      refine ⟨b, e, q1.keep (Same.refl _) (fun _ z => z) (fun _ z => z) fun d hd z => ?_, q2, q3, fun z => ?_⟩
      · rcases z with z | z
        · exact z
        · obtain ⟨⟨o', g⟩, _⟩ := nn z
          exact absurd hd g.noOwn
      · rcases z with z | z
        · exact q4 z
        · subst e
          exact (nn z).2.2.2 ⟨i, o, hs, h1⟩
  · rcases z with z | z
    · exact r.zl a z
    · obtain ⟨⟨o', g⟩, _⟩ := nn z
      obtain ⟨u, hu⟩ := g.live
      show w.H a ≠ none
      rw [hu]
      simp
theorem xW4 {K : PySem.W.Frag} {w w2 : Wd} {v : EV} {x : V} (r : Rep K w) (h : RE K w v x) (hk : kept v) (f : FolE (wXt w v x) w2) (r2 : Rep K w2) :
    Rep K { w2 with Z := w.Z } ∧ FolE w { w2 with Z := w.Z } ∧ RE K { w2 with Z := w.Z } v x ∧ ∀ (u : EV) (y : V), RE K w2 u y → RE K { w2 with Z := w.Z } u y ∧ ∀ a, adN v x a → ¬ adN u y a := by
  have sz : ∀ {b : Addr}, w.Z b → w2.Z b := fun {b} z => by
    rw [f.z]
    exact .inl z
  have ohz : ∀ {b : Addr} {o : Ob}, OH K w2.F w2.H w2.Z b o → OH K w2.F w2.H w.Z b o := fun h => h.keep (Same.refl _) (fun _ z => z) (fun _ z => z) fun _ _ z => sz z
  refine ⟨⟨r2.sub, r2.le, fun i s hs => ?_, r2.cs, r2.ln, r2.rf, r2.rk, r2.nd, r2.ow, fun a z => r2.zl a (sz z), r2.oo, r2.tb⟩,
    ⟨rfl, f.t, f.ext, f.pre, f.frm, f.new, f.liv, fun a q => (f.grow a q).imp id fun z z2 => z (.inl z2), f.own⟩, ?_, fun u y hu => ⟨?_, fun a z1 z2 => ?_⟩⟩
  · obtain ⟨y, h1, h2⟩ := r2.sl i s hs
    refine ⟨y, h1, ?_⟩
    cases s with
    | d u => exact h2
    | cell n => exact h2
    | thk t => exact h2
    | ob o =>
      obtain ⟨b, e, q1, q2, q3, q4⟩ := h2
      exact ⟨b, e, ohz q1, q2, q3, fun z => q4 (sz z)⟩
  · cases v with
    | d u => exact R.mono f.ext h
    | cell n =>
      obtain ⟨a, e, q⟩ := h
      exact ⟨a, e, f.at q⟩
    | pk i o => exact hk.elim
    | new o =>
      obtain ⟨a, e, h1, h2, h3, h4, h5⟩ := h
      obtain ⟨u, hu⟩ := h1.live
      refine ⟨a, e, h1.keep f.ext (fun u z => f.frm _ _ z h3 (h1.ntbl z)) (fun d z => f.frm _ _ z (r.noOwnDict z).1 (by intro _ q; cases q)) (fun _ _ z => z), Classical.byContradiction fun q => ?_, fun q => ?_, h4, fun q => h5 (f.own _ q)⟩
      · rcases f.grow a q with z | z
        · exact z h2
        · exact z (.inr e)
      · rcases f.new a q with z | z
        · exact h3 z
        · have z : w.H a = none := z
          rw [hu] at z
          cases z
  · cases u with
    | d y => exact hu
    | cell n => exact hu
    | pk i o => exact hu
    | new o =>
      obtain ⟨a, e, h1, h2, h3, h4, h5⟩ := hu
      exact ⟨a, e, ohz h1, h2, h3, fun z => h4 (sz z), h5⟩
  · cases u with
    | d y => exact z2.elim
    | cell n => exact z2.elim
    | pk i o => exact z2.elim
    | new o =>
      obtain ⟨b, e, h1, h2, h3, h4, h5⟩ := hu
      have z2 : y = .ref a := z2
      rw [e] at z2
      cases z2
      exact h4 (by rw [f.z]; exact .inr z1)
def xXk : EV → SV
  | .d x => .d x
  | .new o => .ob o
  | .cell n => .cell n
  | .pk _ o => .d (dOf o)
def wKb (i : Nat) (v : EV) : Pg Unit := fun m => .ok () (setM m i (xXk v))
def xU4 (i j : Nat) (fa fb : Pg EV) : Pg Fl := .bind fa fun v => .bind (xQf v) fun v' => .bind (yW1 fb) fun u => .bind (xQf u) fun u' => .bind (wKb i v') fun _ => .bind (wKb j u') fun _ => .ret .next
theorem wK5 {K : PySem.W.Frag} {w : Wd} {v : EV} {x : V} (h : RE K w v x) (hk : kept v) : RS K w (xXk v) x := by
  cases v with
  | d y => exact h
  | cell n => exact h
  | pk i o => exact hk.elim
  | new o =>
    obtain ⟨a, e, h1, h2, h3, h4, h5⟩ := h
    exact ⟨a, e, h1, h2, h3, h4⟩
theorem wJf {K : PySem.W.Frag} {w : Wd} {i : Nat} {v s : SV} {x y : V} (h : RS K w s y) : RS K (yHh w i v x) s y := by
  cases s <;> exact h
section
variable {m : Mem} {X : Exn → Mem → Prop} {F : Fl → Mem → Prop}
@[simp] theorem vZ1 {i : Nat} {o : Ob} {P : EV → Mem → Prop} : W (xQf (.pk i o)) m X P ↔ P (.d (dOf o)) (zHd m i (dOf o)) := ⟨fun h => h.go, fun h => ⟨h⟩⟩
@[simp] theorem vZ3 {x : PyData} {P : EV → Mem → Prop} : W (xQf (.d x)) m X P ↔ P (.d x) m := ⟨fun h => h.go, fun h => ⟨h⟩⟩
@[simp] theorem vZ2 {o : Ob} {P : EV → Mem → Prop} : W (xQf (.new o)) m X P ↔ P (.new o) m := ⟨fun h => h.go, fun h => ⟨h⟩⟩
@[simp] theorem vZ4 {n : Nat} {P : EV → Mem → Prop} : W (xQf (.cell n)) m X P ↔ P (.cell n) m := ⟨fun h => h.go, fun h => ⟨h⟩⟩
@[simp] theorem vX3 {x : PyData} : xXk (.d x) = .d x := rfl
@[simp] theorem vX2 {o : Ob} : xXk (.new o) = .ob o := rfl
@[simp] theorem vX4 {n : Nat} : xXk (.cell n) = .cell n := rfl
@[simp] theorem vVl {i : Nat} {v : EV} {sl : List (Option SV)} {cs : List Ob} {P : Unit → Mem → Prop} : W (wKb i v) ⟨sl, cs⟩ X P ↔ P () ⟨sl.set i (some (xXk v)), cs⟩ := ⟨fun h => h.go, fun h => ⟨h⟩⟩
@[simp] theorem vY0 {i j : Nat} {fa fb : Pg EV} : W (xU4 i j fa fb) m X F ↔ W fa m X fun v m1 => W (xQf v) m1 X fun v' m2 => W fb m2 noX fun u m3 => W (xQf u) m3 X fun u' m4 => W (wKb i v') m4 X fun _ m5 => W (wKb j u') m5 X fun _ m6 => F .next m6 := by
  unfold xU4
  simp only [zQ8, xQp, yXu]
end
section
variable {X : Cx} {B : XBt} {a b : Expr} {pos : Pos} {fa fb : Pg EV}
theorem wJr {K : PySem.W.Frag} {w : Wd} {v u : EV} {x y : V} (r : Rep K w) (hv : RE K w v x) (hu : RE K w u y) (kv : kept v) (ku : kept u) (dis : ∀ a, adN v x a → ¬ adN u y a) (i j : Nat) :
    Rep K (yHh (yHh w i (xXk v) x) j (xXk u) y) ∧ FolS w (yHh (yHh w i (xXk v) x) j (xXk u) y) := by
  obtain ⟨r5, f5⟩ := yGl (i := i) (v := xXk v) (x := x) r (wK5 hv kv) fun xs a e e' => by
    cases v with
    | d y => cases e
    | cell n => cases e
    | pk i o => exact kv.elim
    | new o =>
      obtain ⟨c, ec, _, _, _, _, h5⟩ := hv
      rw [e'] at ec
      cases ec
      exact h5
  obtain ⟨r6, f6⟩ := yGl (i := j) (v := xXk u) (x := y) r5 (wJf (wK5 hu ku)) fun xs a e e' => by
    cases u with
    | d y => cases e
    | cell n => cases e
    | pk i o => exact ku.elim
    | new o =>
      obtain ⟨c, ec, _, _, _, _, h5⟩ := hu
      rw [e'] at ec
      cases ec
      rintro ⟨t, ys, z1, z2⟩
      rcases xJ9 z1 with ⟨q1, q2, q3⟩ | ⟨q1, q2⟩
      · subst q1
        have z2 : (w.sg.set t (some x))[t]? = some (some (.ref a)) := z2
        rw [List.getElem?_set_self (Nat.lt_of_lt_of_le q3 r.le)] at z2
        cases z2
        cases v with
        | d y => cases q2
        | cell n => cases q2
        | pk i o => exact kv.elim
        | new o' => exact dis a rfl e'
      · have z2 : (w.sg.set i (some x))[t]? = some (some (.ref a)) := z2
        rw [List.getElem?_set_ne (Ne.symm q1)] at z2
        exact h5 ⟨t, ys, q2, z2⟩
  exact ⟨r6, f5.trans f6⟩
theorem wWi {i j : Nat} {w : Wd} {D : Ends} {Z : V → V → Hp → Prop} (ha : Snd X B a fa) (hb : Snd X B b fb) (r : Rep X.K w) (hww : (xU4 i j fa fb w.m).wp (yQw X.K w D) (XW X.K B w))
    (fin : ∀ (w5 : Wd) (v u : EV) (x y : V), Rep X.K w5 → FolE w w5 → w5.sg = w.sg → RE X.K w5 v x → RE X.K w5 u y → kept v → kept u → (∀ a, adN v x a → ¬ adN u y a) → yQw X.K w D .next (setM (setM w5.m i (xXk v)) j (xXk u)) → Z x y w5.H) :
    WE X a w.sg w.H fun x H1 => WE X b w.sg H1 fun y H2 => Z x y H2 := by
  refine zQ0 ha r hww fun v w1 xv e1 f1 r1 re h1 => ?_
  obtain ⟨v', w2, ev', s2, g2, f2, r2, re2, kv⟩ := xV2 r1 re
  have h1 := wp_bind h1
  rw [ev'] at h1
  have h1 : (Pg.bind (yW1 fb) _ w2.m).wp (yQw X.K w D) (XW X.K B w1) := h1
  have h1 := yVo (wp_bind h1)
  have r2z := wXs r2 re2
  rw [← e1, ← s2, ← g2]
  refine hb (wXt w2 v' xv) _ r2z (Res.wp.imp h1 (fun u m' q w3 yv em es f3 r3 re3 => ?_) fun _ _ z => z.elim)
  subst em
  obtain ⟨u', w4, eu', s4, g4, f4, r4, re4, ku⟩ := xV2 r3 re3
  have q := wp_bind q
  rw [eu'] at q
  obtain ⟨rb, fb', rv, dis⟩ := xW4 r2 re2 kv (f3.trans f4) r4
  obtain ⟨ru, dis⟩ := dis u' yv re4
  have sg2 : w4.sg = w.sg := s4.trans (es.trans (s2.trans e1))
  have z := fin { w4 with Z := w2.Z } v' u' xv yv rb (f1.trans (f2.trans fb')) sg2 rv ru kv ku dis q
  have z : Z xv yv w4.H := z
  rw [g4] at z
  exact z
variable {x y : Str} {px py pt : Pos} {kt k2 : Nat} {pt2 : Pos}
theorem wX2 (i j : Nat) (C : Ctx X B) (hc : X.calm = true) (hi : X.N[i]? = some x) (hj : X.N[j]? = some y) (hij : i ≠ j)
    (hx : X.env.scope.names.lookup x = some .local) (hy : X.env.scope.names.lookup y = some .local) (ha : Snd X B a fa) (hb : Snd X B b fb)
    (hw : swappedStores [.Tuple [.Name x px, .Name y py] kt pt] (.Tuple [a, b] k2 pt2) X.env = pure (some [x, y]))
    (hs : swapsWithSole [.Tuple [.Name x px, .Name y py] kt pt] (.Tuple [a, b] k2 pt2) pos.line X.env = pure false := by rfl)
    (he : starEach [a, b] X.env = (false, eval a X.env) :: starEach [b] X.env := by rfl) (he2 : starEach [b] X.env = (false, eval b X.env) :: starEach [] X.env := by rfl) :
    xXi X B (.Assign [.Tuple [.Name x px, .Name y py] kt pt] (.Tuple [a, b] k2 pt2) pos) (xU4 i j fa fb) := by
  intro w D r hww
  refine yJz (ps_par hc C.nd hi hj hij hx hy (pa_cons zHk (pa_cons zHk pa_nil he2) he) hw hs) ?_
  refine wWi ha hb r hww fun w5 v u x y r5 f5 s5 hv hu kv ku dis q => ⟨x, y, rfl, ?_⟩
  obtain ⟨r6, f6⟩ := wJr r5 hv hu kv ku dis i j
  have z := q (yHh (yHh w5 i (xXk v) x) j (xXk u) y) rfl ((f5.s r).trans f6) r6
  have z : D.nx ((w5.sg.set i (some x)).set j (some y)) w5.H := z
  rw [s5] at z
  exact z
end
end Ev

namespace Ev
open PySem PySem.Spec PyProof.Rows L2
def Pb (K : PySem.W.Frag) (w : Wd) (Z : EV → V → Hp → Prop) : EV → Mem → Prop := fun r m' => ∀ (w' : Wd) (x : V), w'.m = m' → w'.sg = w.sg → FolE w w' → Rep K w' → RE K w' r x → Z r x w'.H
section
variable {X : Cx} {pins : List (Addr × Obj)} {sg : L2.St} {s : Shared} {k : Nat}
theorem xJ2 {A : Around} {g : Addr} {h : Fn} {w : Wd} {args : List AV} {xs : List V} {us : List Value} {Z : EV → V → Hp → Prop} {E : Value → Shared → Prop} (F : zHj X.prog X.w X.K X.mg X.base k g [] h) (hg : A.guards = some []) (hr : Room k A) (I : L2.Inv X pins sg w.H s) (e0 : Env0 X.prog X.w X.K X.mg X.base A X.stack s w.H)
    (r : Rep X.K w) (rv : Paired (RV X.K w) args xs) (ru : Vals xs us) (q : (zJ1 h args w.m).wp (Pb X.K w Z) (fun _ _ => False)) :
    wpAny (model X.prog X.w) A (call (.ref g) us) (fun v s' => ∃ r x H', Inv X pins sg H' s' ∧ RelV x v ∧ Z r x H') E s := by
  have cw : yWg X.K h (fun x w' => ∀ cls d, xWv X.K w' x cls d → (fun (_ : Value) (_ : Option Addr) (_ : Hp) => False) cls d w'.H) (bare w) args (fun x H' => ∃ r, Z r x H') := by
    refine (yKg q).imp (fun v m' q w' x e1 e2 e3 f r' re => ?_) fun x m' q => q.elim
    obtain ⟨r3, f3⟩ := yXt r f r'
    exact ⟨v, q (back w w') x (by show (⟨w.m.sl, w'.m.cs⟩ : Mem) = _; rw [e2]) rfl f3 r3 (yUx r f e1 re)⟩
  have rva : Paired (RV X.K (bare w)) args (xs ++ []) := by
    rw [List.append_nil]
    exact yJ9 rv
  refine wpAny_call (codeAny_mono (F A X.stack s (bare w) us [] args xs [] _ (fun _ _ _ => False) hg hr e0 rfl rfl (fun _ h => h) (yKi r) rva ru .nil rfl cw) fun r s' hq => ?_)
  cases r with
  | error er =>
    obtain ⟨_, _, _, _, _, _, _, _, _, _, _, _, z⟩ := (show L2.CX X.prog X.w X.stack w.H s (fun _ _ _ => False) er s' from hq)
    exact z.elim
  | ok fl =>
    cases fl with
    | ret u =>
      obtain ⟨v, H', I3, rv, r, q3⟩ := I.after hq
      exact ⟨r, v, H', I3, rv, q3⟩
    | next => exact False.elim hq
    | brk => exact False.elim hq
    | cont => exact False.elim hq
def TyN (X : Cx) (H : Hp) (y : V) (D : Addr) : Prop := (∃ t, TyX X.K H y (.type t) ∧ PySem.W.notFirst X.K D (.type t) = true) ∨ ∃ b dy ws, y = .ref b ∧ H b = some (.ins D dy ws)
theorem vQj {K : PySem.W.Frag} {D : Addr} {d : PyData} {t : String} (h : tyName d = some t) : PySem.W.notFirst K D (.type t) = true := by
  have go : ∀ t, t ∈ ["NoneType", "bool", "int", "str", "list", "tuple", "dict"] → (fastBuiltinMro t).map (·.all fun v => match v with | .type _ => true | _ => false) = some true := by decide +kernel
  have mem : t ∈ ["NoneType", "bool", "int", "str", "list", "tuple", "dict"] := by
    cases d with
    | dict es =>
      unfold tyName at h
      dsimp only at h
      split at h
      · cases h
        simp
      · cases h
    | _ => cases h; simp
  have h2 := go t mem
  obtain ⟨l, e, ha⟩ := Option.map_eq_some_iff.mp h2
  have : PySem.W.subIn K (.type t) (.ref D) = some false := by
    show (fastBuiltinMro t).map (·.contains (.ref D)) = some false
    rw [e]
    have : l.contains (.ref D) = false := by
      rw [Bool.eq_false_iff]
      intro hc
      have hm : Value.ref D ∈ l := by simpa using hc
      have := List.all_eq_true.mp ha _ hm
      simp at this
    exact congrArg some this
  unfold PySem.W.notFirst
  rw [this]
  simp
def vJc (X : Cx) (k : Nat) (neg : Bool) : R2 := fun x y H Q => ∃ (a D dx : Addr) (fs : List (Str × V)) (g : Addr) (h : Fn) (av bv : AV) (w : Wd), x = .ref a ∧ w.H = H ∧ H a = some (.ins D dx fs) ∧ PySem.W.findIn X.K (.ref D) "__eq__" = some (some (.ref g)) ∧ PySem.W.isFn X.K (.ref g) = true ∧
  (neg = true → PySem.W.findIn X.K (.ref D) "__ne__" = some (some (.builtin "object.__ne__")) ∧ PySem.W.mroIn X.K D (.type "object") = some true) ∧ zHj X.prog X.w X.K X.mg X.base k g [] h ∧ Rep X.K w ∧ RV X.K w av x ∧ RV X.K w bv y ∧ TyN X H y D ∧
  (zJ1 h [av, bv] w.m).wp (Pb X.K w fun r x H' => ∃ kb, x = .bl kb ∧ Q (.bl (if neg then !kb else kb)) H') (fun _ _ => False)
theorem xW6 {x : V} {u : Value} {D : Addr} {H : Hp} (I : L2.Inv X pins sg H s) (rx : RelV x u) (h : TyN X H x D) : ∃ tb, PySem.W.Looks (model X.prog X.w) s.heap (typeOf u) tb ∧ PySem.W.notFirst X.K D tb = true := by
  rcases h with ⟨t, h1, h2⟩ | ⟨b, dy, ws, rfl, hb⟩
  · obtain ⟨P, kx, hp, _⟩ := kit_of I rx h1
    exact ⟨_, kx.ty _ _ I.kIn hp, h2⟩
  · obtain rfl : u = Value.ref b := rx
    obtain ⟨mA, O, _⟩ := ins_get I.hok hb
    obtain ⟨od, J, _⟩ := O.look
    exact ⟨_, J.type, by simp [PySem.W.notFirst]⟩
theorem wWp (C : Ctx X B) (hr : Room k X.A) : OpR X (compareOp .Eq) (vJc X k false) := by
  intro pins s sg H x y v u Q I rx ry h
  obtain ⟨a, D, dx, fs, g, h, av, bv, w, rfl, rfl, ha, hs, hf, _, F, r, rv1, rv2, ty, q⟩ := h
  obtain rfl : v = Value.ref a := rx
  obtain ⟨mA, O, _⟩ := ins_get I.hok ha
  obtain ⟨od, J, _⟩ := O.look
  obtain ⟨m, hF⟩ := I.fr
  obtain ⟨tb, hb, hn⟩ := xW6 I ry ty
  show wpAny _ _ (richCompare .Eq (.ref a) u) _ _ _
  refine PySem.W.cmp_K (op := .Eq) hr.units0 hF I.ok.mod.kin J hb hn hs hf ?_
  refine wpAny_mono (xJ2 (us := [.ref a, u]) (xs := [.ref a, y]) F C.gd hr I I.env0 r (.cons rv1 (.cons rv2 .nil)) (.cons rfl (.cons ry .nil)) q) (fun v' s' ⟨r', x', H', I', rl, kb, e, q⟩ => ?_) fun _ _ x => x
  subst e
  cases (show v' = Value.bool kb from rl)
  exact ⟨.bl kb, H', I', rfl, q⟩
theorem xWg {A : Around} {E : Value → Shared → Prop} {x C : Addr} {ox : Obj} {od : Option Obj} {args : List Value} {Q : Option Value → Shared → Prop} (XK : X.K.In s.heap) (I : PySem.W.InstAt s.heap x ox C od) (hs : PySem.W.findIn X.K (.ref C) "__ne__" = some (some (.builtin "object.__ne__")))
    (h : wpAny (model X.prog X.w) A (call (.builtin "object.__ne__") (.ref x :: args)) (fun v => Q (some v)) E s) : wpAny (model X.prog X.w) A (callSpecialIfBound? (.ref x) "__ne__" args) Q E s := by
  simp only [callSpecialIfBound?, bindSpecialIfBound?]
  refine wpAny_holding (wpAny_bind (wpAny_bind (wpAny_bind (I.type.here ((PySem.W.looks_findIn XK hs).here ?_)))))
  refine wpAny_bind (wpAny_askSetting (wpAny_ite ?_))
  have fin : wpAny (model X.prog X.w) A (call (.builtin "object.__ne__") ([.ref x] ++ args) >>= fun v => pure (some v)) Q E s := wpAny_bind (wpAny_mono h (fun v s' h' => wpAny_pure h') fun _ _ h' => h')
  split
  · exact wpAny_bind (wpAny_of_eq (F.cmp_object.ne.bind _) (wpAny_pure (by exact fin)))
  · exact wpAny_tryCatch (wpAny_bind (wpAny_of_eq (F.cmp_object.ne.bind _) (wpAny_pure (by exact fin))))
theorem wQb {A : Around} {E : Value → Shared → Prop} {x C f : Addr} {y : Value} {ox : Obj} {od : Option Obj} (XK : X.K.In s.heap) (I : PySem.W.InstAt s.heap x ox C od) (hs : PySem.W.findIn X.K (.ref C) "__eq__" = some (some (.ref f))) (hf : PySem.W.isFn X.K (.ref f) = true) (hu : A.units < cLine) {Q : Fin → Shared → Prop}
    (hcall : wpAny (model X.prog X.w) A (call (.ref f) [.ref x, y]) (fun v s' => ∃ b, v = .bool b ∧ Q (.done (.ret (.bool (!b)))) s') E s) : wpAny (model X.prog X.w) A (Builtin.«object.__ne__» ⟨[.ref x, y], []⟩) Q E s := by
  unfold Builtin.«object.__ne__»
  repeat (first
    | with_reducible refine wpAny_cRoomFor hu ?_
    | (refine wpAny_bind (m := callSpecialIfBound? (.ref x) (Str.ofString "__eq__") [y])
        (PySem.W.ifBound_K XK I hs hf (wpAny_mono hcall (fun r s' hr => by
          obtain ⟨b, rfl, hq⟩ := hr
          repeat (first | exact hq | exact wpAny_pure hq | exact wpAny_truthy_bool hq | (refine wpAny_bind (m := truthy (.bool _)) (wpAny_truthy_bool ?_)) | wp_step)) fun _ _ e => e)))
    | wp_step)
theorem wWl (C : Ctx X B) (hr : Room (k + 1) X.A) : OpR X (compareOp .NotEq) (vJc X k true) := by
  intro pins s sg H x y v u Q I rx ry h
  obtain ⟨a, D, dx, fs, g, h, av, bv, w, rfl, rfl, ha, hs, hf, hne, FP, r, rv1, rv2, ty, q⟩ := h
  obtain ⟨hn1, hn2⟩ := hne rfl
  obtain rfl : v = Value.ref a := rx
  obtain ⟨mA, O, _⟩ := ins_get I.hok ha
  obtain ⟨od, J, _⟩ := O.look
  obtain ⟨tb, hb, hn⟩ := xW6 I ry ty
  have XK := I.kIn
  have one : wpAny (model X.prog X.w) X.A (tryCompare (.ref a) (cmpInfo .NotEq).2.1 u) (fun r s' => ∃ v, r = some v ∧ EP X pins sg Q v s') X.xe s := by
    show wpAny (model X.prog X.w) X.A (tryCompare (.ref a) "__ne__" u) _ _ s
    unfold tryCompare
    refine wpAny_bind (xWg XK J hn1 (wpAny_call (codeAny_call_builtin F.cmp_object.ne.plain F.cmpEntry_ne (PySem.W.check_slot F.cmpKind_ne F.cmpSplit_ne (J.type.andThen (PySem.W.looks_mroIn XK hn2)) (F.cmpArgs_ne _ _) (wQb XK J hs hf (hr.in1 (k := k)).units0 ?_)))))
    refine wpAny_mono (xJ2 (us := [.ref a, u]) (xs := [.ref a, y]) FP C.gd hr.in1 I I.env0.in1 r (.cons rv1 (.cons rv2 .nil)) (.cons rfl (.cons ry .nil)) q) (fun v' s' ⟨r', x', H', I', rl, kb, e, q⟩ => ?_) fun _ _ x => x
    subst e
    cases (show v' = Value.bool kb from rl)
    refine ⟨kb, rfl, ?_⟩
    first
      | exact wpAny_pure ⟨_, rfl, .bl (!kb), H', I', rfl, q⟩
      | exact ⟨_, rfl, .bl (!kb), H', I', rfl, q⟩
  show wpAny _ _ (richCompare .NotEq (.ref a) u) _ _ _
  unfold richCompare
  simp only [oneThing_ref]
  refine wpAny_holding (wpAny_bind (wpAny_cRoomFor hr.units0 ?_))
  refine wpAny_bind (J.type.here (wpAny_bind (hb.here ?_)))
  split
  · rename_i qq
    have e : PySem.W.subIn X.K tb (.ref D) = some false := by
      rcases Bool.or_eq_true_iff.mp hn with e | e
      · rw [beq_iff_eq.mp e] at qq; simp at qq
      · exact beq_iff_eq.mp e
    refine wpAny_bind ((PySem.W.looks_subIn XK e).here ?_)
    simp only [Bool.false_eq_true, if_false]
    refine wpAny_bind (wpAny_mono one (fun r s' z => ?_) fun _ _ e => e)
    obtain ⟨v, rfl, hq⟩ := z
    exact wpAny_pure hq
  · refine wpAny_bind (wpAny_pure ?_)
    simp only [Bool.false_eq_true, if_false]
    refine wpAny_bind (wpAny_mono one (fun r s' z => ?_) fun _ _ e => e)
    obtain ⟨v, rfl, hq⟩ := z
    exact wpAny_pure hq
def vJb (X : Cx) (k : Nat) (neg : Bool) : R2 := fun x y H Q => ∃ (a D dx : Addr) (fs : List (Str × V)) (g : Addr) (h : Fn) (av bv : AV) (w : Wd), y = .ref a ∧ w.H = H ∧ H a = some (.ins D dx fs) ∧ PySem.W.findIn X.K (.ref D) "__contains__" = some (some (.ref g)) ∧ PySem.W.isFn X.K (.ref g) = true ∧
  zHj X.prog X.w X.K X.mg X.base k g [] h ∧ Rep X.K w ∧ RV X.K w av x ∧ RV X.K w bv y ∧
  (zJ1 h [bv, av] w.m).wp (Pb X.K w fun r x H' => ∃ kb, x = .bl kb ∧ Q (.bl (if neg then !kb else kb)) H') (fun _ _ => False)
theorem wWn (C : Ctx X B) (hr : Room k X.A) : OpR X (compareOp .In) (vJb X k false) := by
  intro pins s sg H x y v u Q I rx ry h
  obtain ⟨a, D, dx, fs, g, h, av, bv, w, rfl, rfl, ha, hs, hf, F, r, rv1, rv2, q⟩ := h
  obtain rfl : u = Value.ref a := ry
  obtain ⟨mA, O, _⟩ := ins_get I.hok ha
  obtain ⟨od, J, _⟩ := O.look
  obtain ⟨m, hF⟩ := I.fr
  refine PySem.W.in_K hF I.ok.mod.kin J hs hf ?_
  refine wpAny_mono (xJ2 (us := [.ref a, v]) (xs := [.ref a, x]) F C.gd hr I I.env0 r (.cons rv2 (.cons rv1 .nil)) (.cons rfl (.cons rx .nil)) q) (fun v' s' ⟨r', x', H', I', rl, kb, e, q⟩ => ?_) fun _ _ x => x
  subst e
  cases (show v' = Value.bool kb from rl)
  exact wpAny_truthy_bool ⟨.bl kb, H', I', rfl, q⟩
theorem xY7 (C : Ctx X B) (hr : Room k X.A) : OpR X (compareOp .NotIn) (vJb X k true) := by
  intro pins s sg H x y v u Q I rx ry h
  obtain ⟨a, D, dx, fs, g, h, av, bv, w, rfl, rfl, ha, hs, hf, F, r, rv1, rv2, q⟩ := h
  obtain rfl : u = Value.ref a := ry
  obtain ⟨mA, O, _⟩ := ins_get I.hok ha
  obtain ⟨od, J, _⟩ := O.look
  obtain ⟨m, hF⟩ := I.fr
  refine PySem.W.notIn_K hF I.ok.mod.kin J hs hf ?_
  refine wpAny_mono (xJ2 (us := [.ref a, v]) (xs := [.ref a, x]) F C.gd hr I I.env0 r (.cons rv2 (.cons rv1 .nil)) (.cons rfl (.cons rx .nil)) q) (fun v' s' ⟨r', x', H', I', rl, kb, e, q⟩ => ?_) fun _ _ x => x
  subst e
  cases (show v' = Value.bool kb from rl)
  exact wpAny_truthy_bool ⟨.bl (!kb), H', I', rfl, q⟩
end
end Ev

namespace Ev
open PySem PySem.Spec PyProof.Rows L2
def yWa : EV → Pg EV
  | .pk i (.ins c fs) => fun m => .ok (.d (yWq c fs)) (zHd m i (yWq c fs))
  | .new (.ins c fs) => .ret (.d (yWq c fs))
  | v => .ret v
theorem xV1 {K : PySem.W.Frag} {w : Wd} (r : Rep K w) : ∀ {v : EV} {x : V}, RE K w v x → ∃ (v' : EV) (w' : Wd), yWa v w.m = .ok v' w'.m ∧ w'.sg = w.sg ∧ w'.H = w.H ∧ FolE w w' ∧ Rep K w' ∧ RE K w' v' x
  | .d y, x, h => ⟨.d y, w, rfl, rfl, rfl, FolE.refl w, r, h⟩
  | .cell n, x, h => ⟨.cell n, w, rfl, rfl, rfl, FolE.refl w, r, h⟩
  | .new (.lst l), x, h => ⟨.new (.lst l), w, rfl, rfl, rfl, FolE.refl w, r, h⟩
  | .new (.dic l), x, h => ⟨.new (.dic l), w, rfl, rfl, rfl, FolE.refl w, r, h⟩
  | .pk i (.lst l), x, h => ⟨.pk i (.lst l), w, rfl, rfl, rfl, FolE.refl w, r, h⟩
  | .pk i (.dic l), x, h => ⟨.pk i (.dic l), w, rfl, rfl, rfl, FolE.refl w, r, h⟩
  | .new (.ins c fs), x, h => by
    obtain ⟨a, w', e1, e2, e3, f, r', q⟩ := zUy r (v := .new (.ins c fs)) h
    have e1 : Res.ok (AV.d (yWq c fs)) w.m = .ok a w'.m := e1
    cases a with
    | cell n => cases e1
    | d y =>
      injection e1 with e4 e5
      cases e4
      exact ⟨.d (yWq c fs), w', by show Res.ok _ _ = _; rw [e5], e2, e3, f, r', q⟩
  | .pk i (.ins c fs), x, ⟨h1, h2⟩ => by
    obtain ⟨w', e1, e2, e3, f, r', q⟩ := yUj r h1 h2
    exact ⟨.d (yWq c fs), w', by show Res.ok _ _ = _; rw [e1]; rfl, e2, e3, f, r', q⟩
def dA : EV → Option AV
  | .d x => some (.d x)
  | .cell n => some (.cell n)
  | _ => none
theorem wYm {K : PySem.W.Frag} {w : Wd} {v : EV} {x : V} {a : AV} (h : RE K w v x) (e : dA v = some a) : RV K w a x := by
  cases v with
  | d y => cases e; exact h
  | cell n => cases e; exact h
  | new o => cases e
  | pk i o => cases e
def xGj (h : Fn) (args : List AV) (neg : Bool) : Pg Bool := .bind (yW1 (zJ1 h args)) fun r => match r with
  | .d (.bool b) => .ret (if neg then !b else b)
  | _ => .stuck
def xVz (op : CmpOp) (x y : PyData) : Bool := match op with
  | .Eq => (yJi x).isSome
  | .NotEq => (yJi x).isSome
  | .In => (yJi y).isSome
  | .NotIn => (yJi y).isSome
  | _ => false
def wUg (op : CmpOp) (tb : List (Str × Fn)) (x y : PyData) : Option Fn := match op with
  | .In => (yJi y).bind fun p => tb.lookup p.1
  | .NotIn => (yJi y).bind fun p => tb.lookup p.1
  | _ => (yJi x).bind fun p => if (tyName y).isSome || decide ((yJi y).map (·.1) = some p.1) then tb.lookup p.1 else none
def xQq : CmpOp → Bool
  | .In => true
  | .NotIn => true
  | _ => false
def xXm : CmpOp → Bool
  | .NotEq => true
  | .NotIn => true
  | _ => false
def wKm (op : CmpOp) (tb : List (Str × Fn)) (v u : EV) : Pg Bool := look (zHc v) fun x => look (zHc u) fun y =>
  if xVz op x y then .bind (zKz (wUg op tb x y)) fun h => .bind (zKz (dA v)) fun a => .bind (zKz (dA u)) fun b => xGj h (if xQq op then [b, a] else [a, b]) (xXm op)
  else zKz (zG1 op x y)
def zYd (op : CmpOp) (tb : List (Str × Fn)) (fa fb : Pg EV) : Pg Bool := .bind fa fun v => .bind (yWa v) fun v' => .bind fb fun u => .bind (yWa u) fun u' => wKm op tb v' u'
def wV7 (X : Cx) (k : Nat) (op : CmpOp) (tb : List (Str × Fn)) : Prop := ∀ c h, tb.lookup c = some h → ∀ D, yQx X.K c D → ∃ g, PySem.W.findIn X.K (.ref D) (if xQq op then "__contains__" else "__eq__") = some (some (.ref g)) ∧ PySem.W.isFn X.K (.ref g) = true ∧
  (op = .NotEq → PySem.W.findIn X.K (.ref D) "__ne__" = some (some (.builtin "object.__ne__")) ∧ PySem.W.mroIn X.K D (.type "object") = some true) ∧ zHj X.prog X.w X.K X.mg X.base k g [] h
theorem wQ3 {K : PySem.W.Frag} {h : Fn} {args : List AV} {neg : Bool} {w : Wd} {P : Bool → Mem → Prop} {E : Exn → Mem → Prop} (q : (xGj h args neg w.m).wp P E) : (zJ1 h args w.m).wp (Pb K w fun r x H' => ∃ kb, x = .bl kb ∧ ∃ w' : Wd, w'.H = H' ∧ w'.sg = w.sg ∧ FolE w w' ∧ Rep K w' ∧ P (if neg then !kb else kb) w'.m) (fun _ _ => False) := by
  refine (yVo (wp_bind q)).imp (fun r m' q w' x em es f r' re => ?_) fun _ _ z => z
  subst em
  cases r with
  | d y =>
    cases y with
    | bool b =>
      cases re
      exact ⟨b, rfl, w', rfl, es, f, r', q⟩
    | _ => exact q.elim
  | _ => exact q.elim
section
variable {X : Cx} {B : XBt} {a b : Expr} {fa fb : Pg EV} {pos : Pos} {tb : List (Str × Fn)} {k : Nat}
theorem wVv {op : CmpOp} {w : Wd} {v u : EV} {x y : V} {Q : VK} {P : Bool → Mem → Prop} (C : Ctx X B) (hr : Room (k + 1) X.A) (T : wV7 X k op tb) (r : Rep X.K w) (o1 : RO X.K w (zHc v) x) (o2 : RO X.K w (zHc u) y) (hv : ∀ a, dA v = some a → RV X.K w a x) (hu : ∀ a, dA u = some a → RV X.K w a y)
    (h : (wKm op tb v u w.m).wp P (XW X.K B w)) (q : ∀ (kb : Bool) (w' : Wd), w'.sg = w.sg → FolE w w' → Rep X.K w' → P kb w'.m → Q (.bl kb) w'.H) : anyR X (compareOp op) x y w.H Q := by
  obtain ⟨dx, ex, h⟩ := zJe h
  obtain ⟨dy, ey, h⟩ := zJe h
  have r1 := o1.rn r ex
  have r2 := o2.rn r ey
  split at h
  · rename_i ho
    obtain ⟨g, eg, h⟩ := zXn (wp_bind h)
    obtain ⟨av, ea, h⟩ := zXn (wp_bind h)
    obtain ⟨bv, eb, h⟩ := zXn (wp_bind h)
    have ra := hv av ea
    have rb := hu bv eb
    have z := wQ3 (K := X.K) h
    have eqs : ∀ {c : Str} {fs : List (PyData × PyData)}, yJi dx = some (c, fs) → ((tyName dy).isSome || decide ((yJi dy).map (·.1) = some c)) = true → ∃ (ad D d1 : Addr) (vs : List (Str × V)), x = .ref ad ∧ yQx X.K c D ∧ w.H ad = some (.ins D d1 vs) ∧ TyN X w.H y D := fun {c fs} i1 hc => by
      obtain ⟨ad, D, d1, vs, rfl, hcn, ha, _⟩ := zH8 r.sub r1 i1
      refine ⟨ad, D, d1, vs, rfl, hcn, ha, ?_⟩
      rcases Bool.or_eq_true_iff.mp hc with z | z
      · obtain ⟨t, et⟩ := Option.isSome_iff_exists.mp z
        exact .inl ⟨t, wZh r.sub r2 et, vQj et⟩
      · have z := of_decide_eq_true z
        obtain ⟨⟨c', fs'⟩, i2, e⟩ := Option.map_eq_some_iff.mp z
        have e : c' = c := e
        subst e
        obtain ⟨ad2, D2, d2, vs2, rfl, hcn2, ha2, _⟩ := zH8 r.sub r2 i2
        rw [hcn2.one hcn] at ha2
        exact .inr ⟨ad2, d2, vs2, rfl, ha2⟩
    cases op with
    | Eq =>
      obtain ⟨⟨c, fs⟩, i1, eg⟩ := Option.bind_eq_some_iff.mp eg
      split at eg
      · rename_i hc
        obtain ⟨ad, D, d1, vs, rfl, hcn, ha, ty⟩ := eqs i1 hc
        obtain ⟨gd, t1, t2, t3, t4⟩ := T c g eg D hcn
        refine ⟨_, wWp C (hr.mono (Nat.le_succ _)), ad, D, d1, vs, gd, g, av, bv, w, rfl, rfl, ha, t1, t2, (fun z => by cases z), t4, r, ra, rb, ty, ?_⟩
        exact z.imp (fun rr m' zz w' xx em es f rp re => by
          obtain ⟨kb, e, w2, e2, e3, f2, r2, q2⟩ := zz w' xx em es f rp re
          exact ⟨kb, e, e2 ▸ q _ w2 e3 f2 r2 q2⟩) fun _ _ z => z
      · cases eg
    | NotEq =>
      obtain ⟨⟨c, fs⟩, i1, eg⟩ := Option.bind_eq_some_iff.mp eg
      split at eg
      · rename_i hc
        obtain ⟨ad, D, d1, vs, rfl, hcn, ha, ty⟩ := eqs i1 hc
        obtain ⟨gd, t1, t2, t3, t4⟩ := T c g eg D hcn
        refine ⟨_, wWl C hr, ad, D, d1, vs, gd, g, av, bv, w, rfl, rfl, ha, t1, t2, (fun _ => t3 rfl), t4, r, ra, rb, ty, ?_⟩
        exact z.imp (fun rr m' zz w' xx em es f rp re => by
          obtain ⟨kb, e, w2, e2, e3, f2, r2, q2⟩ := zz w' xx em es f rp re
          exact ⟨kb, e, e2 ▸ q _ w2 e3 f2 r2 q2⟩) fun _ _ z => z
      · cases eg
    | In =>
      obtain ⟨⟨c, fs⟩, i1, eg⟩ := Option.bind_eq_some_iff.mp eg
      obtain ⟨ad, D, d1, vs, rfl, hcn, ha, _⟩ := zH8 r.sub r2 i1
      obtain ⟨gd, t1, t2, t3, t4⟩ := T c g eg D hcn
      refine ⟨_, wWn C (hr.mono (Nat.le_succ _)), ad, D, d1, vs, gd, g, av, bv, w, rfl, rfl, ha, t1, t2, t4, r, ra, rb, ?_⟩
      exact z.imp (fun rr m' zz w' xx em es f rp re => by
        obtain ⟨kb, e, w2, e2, e3, f2, r2, q2⟩ := zz w' xx em es f rp re
        exact ⟨kb, e, e2 ▸ q _ w2 e3 f2 r2 q2⟩) fun _ _ z => z
    | NotIn =>
      obtain ⟨⟨c, fs⟩, i1, eg⟩ := Option.bind_eq_some_iff.mp eg
      obtain ⟨ad, D, d1, vs, rfl, hcn, ha, _⟩ := zH8 r.sub r2 i1
      obtain ⟨gd, t1, t2, t3, t4⟩ := T c g eg D hcn
      refine ⟨_, xY7 C (hr.mono (Nat.le_succ _)), ad, D, d1, vs, gd, g, av, bv, w, rfl, rfl, ha, t1, t2, t4, r, ra, rb, ?_⟩
      exact z.imp (fun rr m' zz w' xx em es f rp re => by
        obtain ⟨kb, e, w2, e2, e3, f2, r2, q2⟩ := zz w' xx em es f rp re
        exact ⟨kb, e, e2 ▸ q _ w2 e3 f2 r2 q2⟩) fun _ _ z => z
    | _ => cases ho
  · obtain ⟨kb, ez, hq⟩ := zXn h
    exact xGf C r r1 r2 ez (q kb w rfl (FolE.refl w) r hq)
theorem xGg {op : CmpOp} {w : Wd} {Q : VK} {P : Bool → Mem → Prop} (C : Ctx X B) (hr : Room (k + 1) X.A) (T : wV7 X k op tb) (ha : Snd X B a fa) (hb : Snd X B b fb) (r : Rep X.K w) (h : (zYd op tb fa fb w.m).wp P (XW X.K B w))
    (q : ∀ (kb : Bool) (w' : Wd), w'.sg = w.sg → FolE w w' → Rep X.K w' → P kb w'.m → Q (.bl kb) w'.H) : WE X a w.sg w.H fun x H1 => WE X b w.sg H1 fun y H2 => anyR X (compareOp op) x y H2 Q := by
  refine zQ0 ha r h fun v w1 x e1 f1 r1 re h1 => ?_
  obtain ⟨v', w2, ev, s2, g2, f2, r2, re2⟩ := xV1 r1 re
  have h1 := wp_bind h1
  rw [ev] at h1
  have h1 : (Pg.bind fb _ w2.m).wp P (XW X.K B w1) := h1
  have h1 : (Pg.bind fb _ w2.m).wp P (XW X.K B w2) := Res.wp.imp h1 (fun _ _ z => z) fun _ _ z => z.fol (f2.s r1)
  rw [← e1, ← s2, ← g2]
  refine zQ0 hb r2 h1 fun u w3 y e3 f3 r3 re3 h2 => ?_
  obtain ⟨u', w4, eu, s4, g4, f4, r4, re4⟩ := xV1 r3 re3
  have h2 := wp_bind h2
  rw [eu] at h2
  have h2 : (wKm op tb v' u' w4.m).wp P (XW X.K B w3) := h2
  have h2 : (wKm op tb v' u' w4.m).wp P (XW X.K B w4) := Res.wp.imp h2 (fun _ _ z => z) fun _ _ z => z.fol (f4.s r3)
  rw [← g4]
  refine wVv C hr T r4 (((re2.ro r2).fol r2 f3).fol r3 f4) (re4.ro r4) (fun a ea => ?_) (fun a ea => wYm re4 ea) h2 fun kb w' es f rp hp => q kb w' ?_ ?_ rp hp
  · exact ((wYm re2 ea).fol f3).fol f4
  · exact es.trans (s4.trans (e3.trans (s2.trans e1)))
  · exact f1.trans (f2.trans (f3.trans (f4.trans f)))
theorem zJ3 {op : CmpOp} (C : Ctx X B) (hr : Room (k + 1) X.A) (T : wV7 X k op tb) (ha : Snd X B a fa) (hb : Snd X B b fb) (hm : behindInMarks op b = false := by rfl) : xKk X B (.Compare a [op] [b] pos) (zYd op tb fa fb) := by
  intro w Q r h
  refine xHh (pt_cmpR yGs zHk zHk hm) ?_
  exact xGg C hr T ha hb r h fun kb w' es f rp hp => ⟨kb, rfl, hp w' rfl es f rp⟩
theorem xJ6 {op : CmpOp} (C : Ctx X B) (hr : Room (k + 1) X.A) (T : wV7 X k op tb) (ha : Snd X B a fa) (hb : Snd X B b fb) (hm : behindInMarks op b = false := by rfl) : Snd X B (.Compare a [op] [b] pos) (asV (zYd op tb fa fb)) := by
  intro w Q r h
  refine zUx (pe_cmpR yGs zHk zHk hm) ?_
  have h := wp_bind h
  exact xGg C hr T ha hb r h fun kb w' es f rp hp => hp w' (.bl kb) rfl es f rp (.bl kb)
end
section
variable {m : Mem} {X : Exn → Mem → Prop} {T : Bool → Mem → Prop}
@[simp] theorem wHi {x : PyData} {P : EV → Mem → Prop} : W (yWa (.d x)) m X P ↔ P (.d x) m := ⟨fun h => h.go, fun h => ⟨h⟩⟩
@[simp] theorem wHj {n : Nat} {P : EV → Mem → Prop} : W (yWa (.cell n)) m X P ↔ P (.cell n) m := ⟨fun h => h.go, fun h => ⟨h⟩⟩
@[simp] theorem wHg {l : List PyData} {P : EV → Mem → Prop} : W (yWa (.new (.lst l))) m X P ↔ P (.new (.lst l)) m := ⟨fun h => h.go, fun h => ⟨h⟩⟩
@[simp] theorem wYz {l : List (PyData × PyData)} {P : EV → Mem → Prop} : W (yWa (.new (.dic l))) m X P ↔ P (.new (.dic l)) m := ⟨fun h => h.go, fun h => ⟨h⟩⟩
@[simp] theorem wYw {i : Nat} {l : List PyData} {P : EV → Mem → Prop} : W (yWa (.pk i (.lst l))) m X P ↔ P (.pk i (.lst l)) m := ⟨fun h => h.go, fun h => ⟨h⟩⟩
@[simp] theorem wYy {i : Nat} {l : List (PyData × PyData)} {P : EV → Mem → Prop} : W (yWa (.pk i (.dic l))) m X P ↔ P (.pk i (.dic l)) m := ⟨fun h => h.go, fun h => ⟨h⟩⟩
@[simp] theorem wHh {c : Str} {fs : List (Str × PyData)} {P : EV → Mem → Prop} : W (yWa (.new (.ins c fs))) m X P ↔ P (.d (yWq c fs)) m := ⟨fun h => h.go, fun h => ⟨h⟩⟩
@[simp] theorem wYx {i : Nat} {c : Str} {fs : List (Str × PyData)} {P : EV → Mem → Prop} : W (yWa (.pk i (.ins c fs))) m X P ↔ P (.d (yWq c fs)) (zHd m i (yWq c fs)) := ⟨fun h => h.go, fun h => ⟨h⟩⟩
@[simp] theorem vV4 {op : CmpOp} {tb : List (Str × Fn)} {fa fb : Pg EV} : W (zYd op tb fa fb) m X T ↔ W fa m X fun v m1 => W (yWa v) m1 X fun v' m2 => W fb m2 X fun u m3 => W (yWa u) m3 X fun u' m4 => W (wKm op tb v' u') m4 X T := by
  unfold zYd
  simp only [zQ8]
@[simp] theorem vXf {op : CmpOp} {tb : List (Str × Fn)} {v u : EV} : W (wKm op tb v u) m X T ↔ W (look (zHc v) fun x => look (zHc u) fun y =>
  if xVz op x y then .bind (zKz (wUg op tb x y)) fun h => .bind (zKz (dA v)) fun a => .bind (zKz (dA u)) fun b => xGj h (if xQq op then [b, a] else [a, b]) (xXm op)
  else zKz (zG1 op x y)) m X T := Iff.rfl
@[simp] theorem vXj {h : Fn} {args : List AV} {neg : Bool} : W (xGj h args neg) m X T ↔ W (zJ1 h args) m noX fun r m1 => ∃ b, r = .d (.bool b) ∧ T (if neg then !b else b) m1 := by
  unfold xGj
  rw [zQ8, xQp]
  constructor
  · intro hh
    refine hh.mono fun r m1 q => ?_
    cases r with
    | d y =>
      cases y with
      | bool b => exact ⟨b, rfl, q.go⟩
      | _ => exact q.go.elim
    | _ => exact q.go.elim
  · intro hh
    refine hh.mono fun r m1 ⟨b, e, q⟩ => ?_
    subst e
    exact ⟨q⟩
@[simp] theorem vUj {x : PyData} : dA (.d x) = some (.d x) := rfl
@[simp] theorem vUk {n : Nat} : dA (.cell n) = some (.cell n) := rfl
end
end Ev

namespace Ev
open PySem PySem.Spec PyProof.Rows L2
section
variable {prog : Program} {w : World} {A : Around} {E : Value → Shared → Prop} {s : Shared} {K : PySem.W.Frag} {a C g : Addr} {ox : Obj} {od : Option Obj}
end
section
variable {X : Cx} {B : XBt} {e : Expr} {fa : Pg EV} {pos p : Pos} {tb : List (Str × Fn)} {k : Nat} {x : Str}
end
section
variable {m : Mem} {X : Exn → Mem → Prop} {E : EV → Mem → Prop}
end
end Ev

namespace Ev
open PySem PySem.Spec PyProof.Rows L2
def wHm (K : PySem.W.Frag) (D g : Addr) : Prop := PySem.W.findIn K (.ref D) "__contains__" = some (some (.ref g)) ∧ PySem.W.isFn K (.ref g) = true
section
variable {K : PySem.W.Frag} {C f : Addr}
theorem wJl (a : PySem.W.findIn K (.ref C) "__contains__" = some (some (.ref f))) (b : PySem.W.isFn K (.ref f) = true) : wHm K C f := ⟨a, b⟩
end
section
variable {X : Cx} {B : XBt} {k : Nat} {op : CmpOp} {c : Str} {tb : List (Str × Fn)} {h : Fn}
theorem zVj : wV7 X k op [] := fun c h e => by cases e
theorem zYe (ho : xQq op = true) (m : yG4 X.prog X.w X.K X.mg X.base k c (wHm X.K) [] h) (t : wV7 X k op tb) : wV7 X k op ((c, h) :: tb) := by
  obtain ⟨D, g, h1, h2, ⟨a1, a2⟩, h4⟩ := m
  intro c' h' e D' hD
  rw [List.lookup_cons] at e
  cases q : c' == c with
  | true =>
    rw [q] at e
    cases e
    have q := eq_of_beq q
    subst q
    rw [hD.one h1]
    exact ⟨g, by rw [ho]; exact a1, a2, (fun z => by subst z; cases ho), h4⟩
  | false =>
    rw [q] at e
    exact t c' h' e D' hD
end
end Ev

namespace Ev
open PySem PySem.Spec PyProof.Rows L2
section
variable {X : Cx} {B : XBt} {e c : Expr} {f : Pg EV} {p1 pos : Pos} {ns : List Str} {t1 : List (String × Bool)} {t2 t3 : List (Str × Bool)}
end
end Ev

namespace Ev
open PySem PySem.Spec PyProof.Rows L2
structure FunA (K : PySem.W.Frag) (x qual : Str) (st : Stmt) (f : Addr) (fd : FuncData) : Prop where
  ex : ∃ (oc : Value) (od : Option Addr) (dV kV doc pm : Value) (an : Option Addr) (cdv ct : Value) (osl : Array (Option Value)),
    fd = PySem.W.fnOf x qual (defArgs st) (defBody st) (defScope st) dV kV doc pm an cdv ct ∧ K.lookup f = some ⟨oc, od, .func fd, osl⟩ ∧ PySem.W.codeIn K cdv qual = true
section
variable {P : Program} {w : World} {K : PySem.W.Frag} {mg : Str → Option Value} {base : Heap}
theorem wYe {x qual : Str} {st : Stmt} {f : Addr} {fd : FuncData} {N ps : List Str} {k : Nat} {fb : Pg Fl} (F : FunA K x qual st f fd) (S : FnScope N ps (defScope st)) (sm : SM base)
    (hbody : ∀ (cdv : Value) (A : Around) (outer : List Env) (s : Shared) (H : Hp) (E : XK) (B : XBt), Ctx (cxOf (L2.CX P w) P w K mg base N qual (defScope st) f cdv A outer s H E) B → PassesOwn (model P w) (cxOf (L2.CX P w) P w K mg base N qual (defScope st) f cdv A outer s H E).A (cxOf (L2.CX P w) P w K mg base N qual (defScope st) f cdv A outer s H E).env (cxOf (L2.CX P w) P w K mg base N qual (defScope st) f cdv A outer s H E).xe →
      Room k (cxOf (L2.CX P w) P w K mg base N qual (defScope st) f cdv A outer s H E).A →
      xGz (cxOf (L2.CX P w) P w K mg base N qual (defScope st) f cdv A outer s H E) B (defBody st) fb) : FnG P w K mg base (k + 1) f fd ps (spG K ps.length (zQ2 N.length fb)) := by
  obtain ⟨oc, od, dV, kV, doc, pm, an, cdv, ct, osl, rfl, lk, hcd⟩ := F.ex
  refine ⟨xYb rfl, fun A outer s H args Q E hg hr e0 hb => ?_⟩
  refine StX.run_bnd (k := k) lk hcd S hr e0 hb fun s2 H2 vs hsp rm => ?_
  obtain ⟨w0, as, z1, z2, z3, zz, r0, rv, hn, hc⟩ := hsp
  subst z3
  let B : XBt := fun x w' => ∀ cls d, xWv K w' x cls d → E cls d w'.H
  have C : Ctx (cxOf (L2.CX P w) P w K mg base N qual (defScope st) f cdv A outer s2 w0.H E) B := ⟨rfl, hg, rm.mono (Nat.zero_le _), S.nd, sm, (takes_of rfl rfl rfl rfl).imp fun cls d sg H ⟨x, w', _, _, eH, ex, b⟩ => eH ▸ b cls d ex⟩
  have body := hbody cdv A outer s2 w0.H E B C (passes_of rfl) rm
  have re := xXc (N := N) r0 rv
  have hw : (fb (entry N w0 as vs).m).wp (yQw K (entry N w0 as vs) { nx := fun _ H' => Q .non H', rt := Q }) (XW K B (entry N w0 as vs)) := by
    refine (xU7 (r := fb ⟨zZo N.length as, w0.m.cs⟩) hc).imp (fun fl m' q w' em fol r' => ?_) fun x m' q w' em fol r' => ?_
    · subst em
      have fo : FolS w0 { w' with m := ⟨[], w'.m.cs⟩, sg := [] } := ⟨fol.z, fol.t, fol.ext, fol.pre, fol.frm, fol.new, fol.liv, fol.grow⟩
      cases fl with
      | next => exact q { w' with m := ⟨[], w'.m.cs⟩, sg := [] } .non rfl rfl rfl fo (yKw r') .non
      | brk => exact q.elim
      | cont => exact q.elim
      | ret v => exact fun x re => q { w' with m := ⟨[], w'.m.cs⟩, sg := [] } x rfl rfl rfl fo (yKw r') (wZx r' re)
    · subst em
      exact fun cls d ex => q { w' with m := ⟨[], w'.m.cs⟩, sg := [] } rfl rfl rfl ⟨fol.z, fol.t, fol.ext, fol.pre, fol.frm, fol.new, fol.liv, fol.grow⟩ (yKw r') cls d ex
  exact ⟨_, wKd, body (entry N w0 as vs) _ re hw⟩
end
def FME (K : PySem.W.Frag) (mg : Str → Option Value) (x : Str) (st : Stmt) (dvs : List V) (kws : List (Str × V)) : Prop := ∃ (f : Addr) (fd : FuncData), FunD K x x (defArgs st) (defBody st) (defScope st) dvs kws f fd ∧ mg x = some (.ref f)
section
variable {P : Program} {w : World} {K : PySem.W.Frag} {mg : Str → Option Value} {base : Heap} {x : Str} {st : Stmt} {ps : List Str} {dvs : List V} {kws : List (Str × V)} {g : Fn} {j k q : Nat}
theorem wVl {f : Addr} {fd : FuncData} (F : FunD K x x (defArgs st) (defBody st) (defScope st) dvs kws f fd) : FunA K x x st f fd := by
  obtain ⟨oc, od, dV, kV, doc, pm, an, cdv, ct, osl, e, lk, hcd, _, _⟩ := F.ex
  exact ⟨oc, od, dV, kV, doc, pm, an, cdv, ct, osl, e, lk, hcd⟩
theorem xJg (h : FME K mg x st dvs kws) (hk : j ≤ k) (ok : ∀ {f : Addr} {fd : FuncData}, FunA K x x st f fd → FnG P w K mg base j f fd ps (spG K ps.length g)) (n : Nat) (ks : List Str) (ms : List (Str × V)) (is : List Nat) (dp dm : List PyData) (hd : dvs ≠ []) (hne : kws ≠ []) (hms : ∀ q ∈ ms, q ∈ kws)
    (hdp : ∀ F : Hp, RA K F dp dvs) (hds : ∀ F : Hp, RA K F dm (ms.map (·.2)))
    (hb : ∀ (T D : Addr) (doc pm : Value) (an : Option Addr) (cdv ct : Value) (us its mv ws : List Value), us.length = n → its.length = dvs.length → mv.length = ms.length → ws.length = ks.length →
      ∃ kk, bindArgs (PySem.W.fnOf x x (defArgs st) (defBody st) (defScope st) (.ref T) (.ref D) doc pm an cdv ct) ⟨us, ks.zip ws⟩ = seqItems? (.ref T) >>= kk ∧ KwChain D ((ms.map (·.1)).zip mv) (kk (some its.toArray)) (ps.zip (pick is (us ++ ws ++ (its ++ mv))))) :
    ∃ (f : Addr) (fd : FuncData) (dv : List Value) (dvs' : List V), FnG P w K mg base k f fd ps (spG K ps.length g) ∧ mg x = some (.ref f) ∧ PySem.W.keepIn K (.ref f) = true ∧ Vals dvs' dv ∧ (∀ F : Hp, RA K F (dp ++ dm) dvs') ∧
      ∀ (s : Shared) (us ws : List Value), K.In s.heap → us.length = n → ws.length = ks.length → BindsTo s fd ⟨us, ks.zip ws⟩ (ps.zip (pick is (us ++ ws ++ dv))) := by
  obtain ⟨f, fd, F, hm⟩ := h
  have F' := wVl F
  obtain ⟨oc, od, dV, kV, doc, pm, an, cdv, ct, osl, rfl, lk, hcd, hD, hK⟩ := F.ex
  rcases hD with ⟨e, _⟩ | ⟨_, T, o, its, m, rfl, lT, oT, rT⟩
  · exact absurd e hd
  · rcases hK with e | ⟨D, rfl, hq⟩
    · exact absurd e hne
    · obtain ⟨mv, hl, rk, hks⟩ := kwd_vals (ms := ms) fun q hm => hq q (hms q hm)
      refine ⟨f, _, its ++ mv, dvs ++ ms.map (·.2), (ok F').up hk, hm, F.kp, rT.append rk, fun F => (hdp F).app (hds F), fun s us ws X l1 l2 => BindsTo.of_looks fun M => ?_⟩
      obtain ⟨kk, e1, e2⟩ := hb T D doc pm an cdv ct us its mv ws l1 rT.length.symm hl l2
      rw [e1]
      exact looks_items X lT oT (KwChain.looks X hks e2)
theorem wXc {f D T : Addr} {oc : Value} {od an : Option Addr} {osl : Array (Option Value)} {doc pm cdv ct : Value} {o : Obj} {its : List Value} {m : Nat} (hm : mg x = some (.ref f)) (l : K.lookup f = some ⟨oc, od, .func (PySem.W.fnOf x x (defArgs st) (defBody st) (defScope st) (.ref T) (.ref D) doc pm an cdv ct), osl⟩)
    (c : PySem.W.codeIn K cdv x = true) (k : PySem.W.keepIn K (.ref f) = true) (hd : dvs ≠ []) (lT : K.lookup T = some o) (oT : o.data = .seq its.toArray m) (rT : Vals dvs its) (h : ∀ q ∈ kws, ∃ u, PySem.W.nsIn K D q.1 = some (some u) ∧ RelV q.2 u) : FME K mg x st dvs kws :=
  ⟨f, _, ⟨⟨oc, od, .ref T, .ref D, doc, pm, an, cdv, ct, osl, rfl, l, c, .inr ⟨hd, T, o, its, m, rfl, lT, oT, rT⟩, .inr ⟨D, rfl, h⟩⟩, k⟩, hm⟩
end
section
variable {P : Program} {w : World} {K : PySem.W.Frag} {mg : Str → Option Value} {base : Heap}
theorem wXb {x qual : Str} {st : Stmt} {f : Addr} {fd : FuncData} {N ps : List Str} {k n m : Nat} {fb : Pg Fl} (F : FunA K x qual st f fd) (S : FnScope N ps (defScope st)) (sm : SM base) (hn : N.length = n) (hm : ps.length = m)
    (hbody : ∀ (cdv : Value) (A : Around) (outer : List Env) (s : Shared) (H : Hp) (E : XK) (B : XBt), Ctx (cxOf (L2.CX P w) P w K mg base N qual (defScope st) f cdv A outer s H E) B → PassesOwn (model P w) (cxOf (L2.CX P w) P w K mg base N qual (defScope st) f cdv A outer s H E).A (cxOf (L2.CX P w) P w K mg base N qual (defScope st) f cdv A outer s H E).env (cxOf (L2.CX P w) P w K mg base N qual (defScope st) f cdv A outer s H E).xe →
      Room k (cxOf (L2.CX P w) P w K mg base N qual (defScope st) f cdv A outer s H E).A →
      xGz (cxOf (L2.CX P w) P w K mg base N qual (defScope st) f cdv A outer s H E) B (defBody st) fb) : FnG P w K mg base (k + 1) f fd ps (spG K m (zQ2 n fb)) := by
  subst hn hm
  exact wYe F S sm hbody
end
theorem RA.eraseIdx {K : PySem.W.Frag} {F : Hp} {ds : List PyData} {vs : List V} (a : RA K F ds vs) (n : Nat) : RA K F (ds.eraseIdx n) (vs.eraseIdx n) := by
  rw [List.eraseIdx_eq_take_drop_succ, List.eraseIdx_eq_take_drop_succ]
  exact (a.take _).app (a.drop _)
section
variable {X : Cx} {B : XBt} {o e : Expr} {fo f : Pg EV}
end
end Ev

namespace Ev
open PySem PySem.Spec PyProof.Rows L2
def vKi (sl : List (Option SV)) (fl : Pg EV) : Pg EV := fun m => match fl ⟨sl, m.cs⟩ with
  | .ok v m' => .ok (xH5 v) ⟨m.sl, m'.cs⟩
  | .thr x m' => .thr x ⟨m.sl, m'.cs⟩
  | .bad => .bad
section
variable {X : Cx} {pins : List (Addr × Obj)} {sg0 : L2.St} {H0 : Hp} {s0 : Shared}
end
end Ev
namespace Ev
open PySem PySem.Spec PyProof.Rows L2
section
variable {X : Cx} {pins : List (Addr × Obj)} {sg : L2.St} {H : Hp} {s : Shared}
inductive Made (H : Hp) (P : Addr) (q : Str) (c' : Addr) : Hp → Prop where
  | hit (h : H c' = some (LamX.CodeO c' q)) : Made H P q c' H
  | miss (ps ps' : Array Value) (h : H P = some (.tbl ps)) (n : H c' = none) : Made H P q c' (upd (upd H P (.tbl ps')) c' (LamX.CodeO c' q))
end
end Ev

namespace Ev
open PySem PySem.Spec PyProof.Rows L2
def vJ1 (i : Nat) : Pg Unit := fun m => match m.sl[i]? with
  | some (some (.ob o)) => .ok () (zHd m i (dOf o))
  | _ => .ok () m
def frzs : List Nat → Pg Unit
  | [] => .ret ()
  | i :: is => .bind (vJ1 i) fun _ => frzs is
section
variable {K : PySem.W.Frag} {w : Wd} {P c' : Addr} {q : Str} {H1 : Hp}
theorem Made.code (M : Made w.H P q c' H1) : H1 c' = some (LamX.CodeO c' q) := by
  cases M with
  | hit h => exact h
  | miss ps ps' h n => exact upd_same
theorem Made.keep (M : Made w.H P q c' H1) {b : Addr} {o : HO} (e : w.H b = some o) (n : ∀ ps, o ≠ .tbl ps) : H1 b = some o := by
  cases M with
  | hit h => exact e
  | miss ps ps' h nc =>
    rw [upd_ne (ne_of_none e nc), upd_ne (fun z => n ps (by rw [z, h] at e; exact (Option.some.inj e).symm))]
    exact e
theorem Made.other (M : Made w.H P q c' H1) {b : Addr} {q' : Str} (n : b ≠ P) (T : LamX.TabS w.H b q') : LamX.TabS H1 b q' := by
  cases M with
  | hit h => exact T
  | miss ps ps' h nc =>
    obtain ⟨ts, e, r, k⟩ := T
    refine ⟨ts, by rw [upd_ne (ne_of_none e nc), upd_ne n]; exact e, r, fun pos cv z => ?_⟩
    obtain ⟨d, e1, e2⟩ := k pos cv z
    refine ⟨d, e1, ?_⟩
    rw [upd_ne (ne_of_none e2 nc), upd_ne (fun y => by rw [y, h] at e2; exact LamX.codeO_ne _ (Option.some.inj e2).symm)]
    exact e2
theorem Made.live (M : Made w.H P q c' H1) {b : Addr} (e : w.H b ≠ none) : H1 b ≠ none := by
  cases M with
  | hit h => exact e
  | miss ps ps' h nc =>
    by_cases z : b = c'
    · rw [z, upd_same]; simp
    · rw [upd_ne z]
      by_cases y : b = P
      · rw [y, upd_same]; simp
      · rw [upd_ne y]; exact e
theorem Made.tbl (M : Made w.H P q c' H1) (hp : ∃ q, (P, q) ∈ xWw K) (h3 : ∀ b ps, w.H b = some (.tbl ps) → ∃ q, (b, q) ∈ xWw K) (b : Addr) (ps : Array Value) (e : H1 b = some (.tbl ps)) : ∃ q, (b, q) ∈ xWw K := by
  cases M with
  | hit h => exact h3 b ps e
  | miss ps0 ps' h nc =>
    by_cases z : b = c'
    · rw [z, upd_same] at e
      exact absurd (Option.some.inj e) (LamX.codeO_ne ps)
    · rw [upd_ne z] at e
      by_cases y : b = P
      · rw [y]; exact hp
      · rw [upd_ne y] at e; exact h3 b ps e
end
section
variable {X : Cx} {B : XBt}
end
end Ev
namespace Ev
open PySem PySem.Spec PyProof.Rows L2
end Ev
namespace Ev
open PySem PySem.Spec PyProof.Rows L2
section
variable {m : Mem} {X : Exn → Mem → Prop} {P : EV → Mem → Prop}
end
end Ev
namespace Ev
open PySem PySem.Spec PyProof.Rows L2
section
variable {X : Cx} {B : XBt}
end
end Ev
namespace Ev
open PySem PySem.Spec PyProof.Rows L2
section
variable {P : Program} {w : World} {K : PySem.W.Frag} {mg : Str → Option Value} {base : Heap}
end
end Ev
namespace Ev
open PySem PySem.Spec PyProof.Rows L2
section
variable {P : Program} {w : World} {K : PySem.W.Frag} {mg : Str → Option Value} {base : Heap}
end
section
variable {P : Program} {w : World} {K : PySem.W.Frag} {mg : Str → Option Value} {base : Heap}
end
end Ev

namespace Ev
open PySem PySem.Spec PyProof.Rows L2
section
variable {M : Model} {A : Around} {E : Value → Shared → Prop} {s : Shared} {pos : Pos} {f : Value} {Q : Value → Shared → Prop}
end
section
variable {X : Cx} {B : XBt} {es : List Expr} {kws : List Keyword} {ks : List Str} {fa fk : Pg (List AV)} {fo : Pg EV} {p pos : Pos} {x : Str} {tb : List (Str × Fn)} {m : Nat}
end
section
variable {m : Mem} {X : Exn → Mem → Prop} {E : EV → Mem → Prop}
end
end Ev

namespace Ev
open PySem PySem.Spec PyProof.Rows L2
section
variable {X : Cx}
end
section
variable {X : Cx} {B : XBt} {o e e1 e2 : Expr} {fo f f1 f2 : Pg EV} {pos : Pos}
end
section
variable {m : Mem} {X : Exn → Mem → Prop} {E : EV → Mem → Prop} {F : Fl → Mem → Prop}
@[simp] theorem vZ5 {P : Unit → Mem → Prop} : W (frzs []) m X P ↔ P () m := ⟨fun h => h.go, fun h => ⟨h⟩⟩
@[simp] theorem vZ6 {i : Nat} {is : List Nat} {P : Unit → Mem → Prop} : W (frzs (i :: is)) m X P ↔ W (vJ1 i) m X fun _ m1 => W (frzs is) m1 X P := zQ8
end
end Ev

namespace Ev
open PySem PySem.Spec PyProof.Rows L2
def sok (x : Str) : Prop := PyData.strOk x = true
theorem yJp (s : String) : sok (Str.ofString s) := by
  unfold sok PyData.strOk
  rw [Str.ofString_eq_toList]
  simp only [List.all_toArray, List.all_map, List.all_eq_true, Function.comp, decide_eq_true_iff]
  intro c _
  have h := c.valid
  show c.val.toNat < 1114112
  rcases h with h | ⟨_, h⟩
  · have : c.val.toNat < 55296 := h
    omega
  · exact h
theorem yJ0 {a b : Str} (ha : sok a) (hb : sok b) : sok (a ++ b) := by
  show (a.cps ++ b.cps).all _ = true
  rw [Array.all_append, Bool.and_eq_true]
  exact ⟨ha, hb⟩
theorem xJ3 {s : Str} (hs : sok s) : ∀ {ts : List Str}, (∀ t, t ∈ ts → sok t) → sok (Str.join s ts)
  | [], _ => yJp ""
  | [x], h => h x (List.mem_cons_self ..)
  | x :: y :: r, h => by
    show sok (x ++ s ++ Str.join s (y :: r))
    exact yJ0 (yJ0 (h x (List.mem_cons_self ..)) hs) (xJ3 hs fun t ht => h t (List.mem_cons_of_mem _ ht))
theorem xJ4 : ∀ {ts : List Str} {k : Nat} {acc : Str}, sok acc → (∀ t, t ∈ ts → sok t) → sok (textFrom k acc ts)
  | [], _, _, h, _ => h
  | t :: ts, k, acc, h, g => by
    refine xJ4 (ts := ts) (k := k + 1) (yJ0 (yJ0 h ?_) (g t (List.mem_cons_self ..))) fun t ht => g t (List.mem_cons_of_mem _ ht)
    exact yJp _
theorem xHp {ts : List Str} (h : ∀ t, t ∈ ts → sok t) : sok (listText ts) := yJ0 (xJ4 (yJp _) h) (yJp _)
theorem xYc {ts : List Str} (h : ∀ t, t ∈ ts → sok t) : sok (tupleText ts) := yJ0 (yJ0 (yJp _) (xJ3 (yJp _) h)) (yJp _)
mutual
def wV9 : PyData → Bool
  | .str x => PyData.strOk (reprText x)
  | .list xs => xYe xs
  | .tuple xs => xYe xs
  | .dict _ => false
  | _ => true
def xYe : List PyData → Bool
  | [] => true
  | x :: xs => wV9 x && xYe xs
end
mutual
theorem xYd : ∀ {d : PyData}, wV9 d = true → sok d.shown
  | .none, _ => yJp _
  | .bool b, _ => by cases b <;> exact yJp _
  | .int i, _ => yJp _
  | .str x, h => by simpa [wV9, PyData.shown, sok] using h
  | .list xs, h => by
    simp only [PyData.shown]
    exact xHp (yZu (by simpa [wV9] using h))
  | .tuple xs, h => by
    simp only [PyData.shown]
    exact xYc (yZu (by simpa [wV9] using h))
  | .dict _, h => by simp [wV9] at h
theorem yZu : ∀ {xs : List PyData}, xYe xs = true → ∀ t, t ∈ PyData.shownAll xs → sok t
  | [], _, t, ht => by simp [PyData.shownAll] at ht
  | x :: xs, h, t, ht => by
    simp only [xYe, Bool.and_eq_true] at h
    simp only [PyData.shownAll] at ht
    rcases List.mem_cons.mp ht with e | e
    · rw [e]
      exact xYd h.1
    · exact yZu h.2 t e
end
end Ev

namespace Ev
open PySem PySem.Spec PyProof.Rows L2
section
variable {X : Cx} {B : XBt} {o e e1 e2 : Expr} {fo f f1 f2 : Pg EV}
end
section
variable {m : Mem} {X : Exn → Mem → Prop} {E : EV → Mem → Prop}
end
end Ev

namespace Ev
open PySem PySem.Spec PyProof.Rows L2
section
variable {K : PySem.W.Frag} {F : Hp}
end
section
variable {X : Cx} {B : XBt} {o e a b : Expr} {fo f fa fb : Pg EV}
end
section
variable {m : Mem} {X : Exn → Mem → Prop} {E : EV → Mem → Prop}
end
end Ev

namespace Ev
open PySem PySem.Spec PyProof.Rows L2
section
variable {X : Cx} {B : XBt} {a b : Expr} {fa fb : Pg EV}
end
section
variable {m : Mem} {X : Exn → Mem → Prop} {E : EV → Mem → Prop}
end
end Ev

namespace Ev
open PySem PySem.Spec PyProof.Rows L2
section
variable {prog : Program} {w : World} {A : Around} {E : Value → Shared → Prop} {s : Shared} {K : PySem.W.Frag} {a C g : Addr} {ox : Obj} {od : Option Obj}
end
section
variable {X : Cx} {B : XBt} {e : Expr} {fa : Pg EV} {pos p : Pos} {tb : List (Str × Fn)} {k : Nat}
end
section
variable {m : Mem} {X : Exn → Mem → Prop} {E : EV → Mem → Prop}
end
end Ev

namespace Ev
open PySem PySem.Spec PyProof.Rows L2
def yUo (f : Pg EV) (g : Pg (List AV)) : Pg (List AV) := .bind f fun v => .bind (toA v) fun a => .bind (zKz ((zG7 a).map dAV)) fun xs => .bind g fun ys => .ret (xs ++ ys)
section
variable {X : Cx} {B : XBt} {e : Expr} {es : List Expr} {f : Pg EV} {g : Pg (List AV)} {p' : Pos}
theorem yGk (h1 : Snd X B e f) (h2 : xKl X B es g) (hs : starEach (.Starred e p' :: es) X.env = (true, eval e X.env) :: starEach es X.env := by rfl) : xKl X B (.Starred e p' :: es) (yUo f g) := by
  intro w Q r h
  refine xKm (StX.pa_star zHk xY2 hs) ?_
  refine zQ0 h1 r h fun v w1 x e1 f1 r1 re h' => ?_
  obtain ⟨a, w2, ea, e2, e3, f2, r2, rv⟩ := zUy r1 re
  have h'' := wp_bind h'
  rw [ea] at h''
  obtain ⟨as, es', q⟩ := zXn (wp_bind h'')
  have fin : ∀ {a : Addr} {vs : List V} {ds : List PyData}, (SqT X.K w2.F a vs ∨ LQ X.K w2.F a vs) → RA X.K w2.F ds vs → as = dAV ds → x = V.ref a → ∃ a' vs', x = V.ref a' ∧ (SqT X.K w1.H a' vs' ∨ SqL X.K w1.H a' vs') ∧ WA X es w.sg w1.H fun ys H2 => Q (vs' ++ ys) H2 := fun {a vs ds} hq ra ed ey => by
    subst ed
    refine ⟨a, vs, ey, ?_, ?_⟩
    · rw [← e3]
      rcases hq with hq | hq
      · exact .inl (zZ7 r2.sub hq)
      · exact .inr (hq.mox r2.sub).sq
    · rw [← e1, ← e2, ← e3]
      have h3 : (Pg.bind g (fun ys => Pg.ret (dAV ds ++ ys)) w2.m).wp (xG0 X.K w Q) (XW X.K B w2) := Res.wp.imp q (fun _ _ q => q) fun _ _ q => q.fol (f2.s r1)
      refine zUz h2 r2 h3 fun ys' w3 ys e4 f3 r3 rvs q => ?_
      exact q w3 (vs ++ ys) rfl (e4.trans (e2.trans e1)) (f1.trans (f2.trans f3)) r3 (zZq (yKu f3 (xX1 ra)) rvs)
  cases a with
  | cell n => cases es'
  | d d =>
    cases d with
    | list xs =>
      cases es'
      cases rv with
      | lst ha ra => exact fin (.inr ha) ra rfl rfl
    | tuple xs =>
      cases es'
      cases rv with
      | tup ha ra => exact fin (.inl ha) ra rfl rfl
    | _ => cases es'
end
section
variable {m : Mem} {X : Exn → Mem → Prop} {P : List AV → Mem → Prop}
@[simp] theorem vZu {f : Pg EV} {g : Pg (List AV)} : W (yUo f g) m X P ↔ W f m X fun v m1 => W (toA v) m1 X fun a m2 => ∃ as, (zG7 a).map dAV = some as ∧ W g m2 X fun ys m3 => P (as ++ ys) m3 := by
  unfold yUo
  simp only [zQ8, yUy, yXu]
end
end Ev

namespace Ev
open PySem PySem.Spec PyProof.Rows L2
section
variable {X : Cx} {B : XBt} {pos : Pos} {tg : Expr} {tgs : List Expr}
end
section
variable {m : Mem} {X : Exn → Mem → Prop} {F : Unit → Mem → Prop}
end
end Ev

namespace Ev
open PySem PySem.Spec PyProof.Rows L2
section
variable {X : Cx} {B : XBt} {a b : Expr} {fa fb : Pg EV}
end
section
variable {m : Mem} {X : Exn → Mem → Prop}
end
end Ev

namespace Ev
open PySem PySem.Spec PyProof.Rows L2
theorem yWj.keep {K : PySem.W.Frag} {w w1 : Wd} {Q : VK} {v : EV} (q : yWj K w Q v w1.m) (e1 : w1.sg = w.sg) (f1 : FolE w w1) : xG1 K w1 v Q := fun w' x em es f r re hn => q w' x em (es.trans e1) (f1.trans f) r re (hn.back f1)
def cellOf : PyData → Option Nat
  | .dict [(.none, .int i), (.none, .int n)] => if i = 1 ∧ 0 ≤ n then some n.toNat else none
  | _ => none
@[simp] theorem wG3 {n : Nat} : cellOf (xQm n) = some n := by
  unfold cellOf xQm
  simp
def nE : EV → EV
  | .d x => match cellOf x with
    | some n => .cell n
    | none => .d x
  | v => v
section
variable {X : Cx} {B : XBt} {e : Expr} {f : Pg EV}
end
section
variable {m : Mem} {X : Exn → Mem → Prop} {E : EV → Mem → Prop} {f : Pg EV}
@[simp] theorem vJq {i : Int} : nE (.d (.int i)) = .d (.int i) := rfl
@[simp] theorem vJo {i : Str} : nE (.d (.str i)) = .d (.str i) := rfl
@[simp] theorem vQk : nE (.d .none) = .d .none := rfl
@[simp] theorem vQn {b : Bool} : nE (.d (.bool b)) = .d (.bool b) := rfl
@[simp] theorem vQl {xs : List PyData} : nE (.d (.list xs)) = .d (.list xs) := rfl
@[simp] theorem wUj {xs : List PyData} : nE (.d (.tuple xs)) = .d (.tuple xs) := rfl
@[simp] theorem vQm {n : Nat} : nE (.cell n) = .cell n := rfl
@[simp] theorem vJp {o : Ob} : nE (.new o) = .new o := rfl
@[simp] theorem vKw {i : Nat} {o : Ob} : nE (.pk i o) = .pk i o := rfl
@[simp] theorem wUk {n : Nat} : nE (.d (xQm n)) = .cell n := by
  unfold nE
  simp
end
end Ev

namespace Ev
open PySem PySem.Spec PyProof.Rows L2
section
variable {X : Cx} {B : XBt} {e : Expr} {f : Pg EV} {pos pos' : Pos}
end
section
variable {P : Program} {w : World} {K : PySem.W.Frag} {mg : Str → Option Value} {base : Heap}
end
section
variable {m : Mem} {X : Exn → Mem → Prop} {E : EV → Mem → Prop} {F : Fl → Mem → Prop}
end
section
variable {P : Program} {w : World} {K : PySem.W.Frag} {mg : Str → Option Value} {base : Heap} {x : Str} {st : Stmt} {ps : List Str} {kws : List (Str × PyData)} {g : Fn} {j k : Nat}
end
end Ev

namespace Ev
open PySem PySem.Spec PyProof.Rows L2
section
variable {n : Nat} {xs ds acc : List PyData} {is : List Nat} {g : PyData → Pg Unit} {t : Pg Bool} {e : Pg EV} {m : Mem} {d : PyData}
end
section
variable {X : Cx} {B : XBt} {tg iter elt : Expr} {ifs : List Expr} {scope : Scope} {pos : Pos}
end

section
variable {m : Mem} {X : Exn → Mem → Prop} {E : EV → Mem → Prop} {is : List Nat} {g : PyData → Pg Unit} {t : Pg Bool} {e : Pg EV}
end
end Ev

namespace Ev
open PySem PySem.Spec PyProof.Rows L2
end Ev

namespace Ev
open PySem PySem.Spec PyProof.Rows L2
section
variable {P : Program} {w : World} {A : Around} {R : Result → Shared → Prop} {I S : Addr} {fp wr : List Addr} {n : Nat} {Pv : Nat → Value → Prop} {St : Nat → Heap → Prop}
end
section
variable {X : Cx} {B : XBt}
end
section
variable {X : Cx} {B : XBt} {e : Expr} {pos p pos2 : Pos} {f : Pg EV}
end
section
variable {m : Mem} {X : Exn → Mem → Prop} {E : EV → Mem → Prop}
end
end Ev

namespace Ev
open PySem PySem.Spec PyProof.Rows L2
theorem xVk : ∀ {xs ys : List Char}, xs.map Char.toNat = ys.map Char.toNat → xs = ys
  | [], [], _ => rfl
  | [], _ :: _, h => by simp at h
  | _ :: _, [], h => by simp at h
  | x :: xs, y :: ys, h => by
    rw [List.map_cons, List.map_cons] at h
    injection h with h1 h2
    rw [xVk h2, show x = y from Char.ext (UInt32.toNat_inj.mp h1)]
theorem yQh {a b : String} : (Str.ofString a = Str.ofString b) = (a = b) := by
  refine propext ⟨fun h => ?_, fun h => by rw [h]⟩
  rw [Str.ofString_eq_toList, Str.ofString_eq_toList] at h
  injection h with h
  exact String.toList_injective (xVk (by simpa using h))
end Ev

namespace Ev
open PySem PySem.Spec PyProof.Rows L2
section
variable {prog : Program} {w : World} {A : Around} {E : Value → Shared → Prop} {s : Shared}
end
section
variable {X : Cx} {pos : Pos}
end
section
variable {X : Cx} {B : XBt} {is : List Nat} {pos : Pos} {tg : Expr} {tgs : List Expr}
end
section
variable {m : Mem} {X : Exn → Mem → Prop} {F : Fl → Mem → Prop}
end
end Ev

namespace Ev
open PySem PySem.Spec PyProof.Rows L2
namespace F2
end F2
def EnG (h : Heap) (e it : Addr) (i : Int) : Prop := ∃ (f0 : Value) (f1 : Bool) (old : Value),
  h.get? e = some { cls := .type "enumerate", dict := none, data := .fields #[f0, .bool f1, .ref it, rawInt i, .none, old], slots := #[] } ∧ (f0 = .none ∨ ∃ T : Nat, f0 = rawInt T ∧ ∃ o, h.get? T = some o)
theorem EnG.ty {s : Shared} {e it : Addr} {i : Int} (h : EnG s.heap e it i) : s.TypeIs (.ref e) "enumerate" := by
  obtain ⟨f0, f1, old, h, _⟩ := h
  exact ⟨_, h, rfl⟩
section
variable {prog : Program} {w : World} {A : Around} {E : Value → Shared → Prop} {s : Shared}
end
section
variable {X : Cx} {e : Expr} {ta : TA} {p p2 pos pos2 : Pos}
end
section
variable {X : Cx} {B : XBt} {e : Expr} {fa : Pg (List AV)} {p p2 pos pos2 : Pos}
end
section
variable {m : Mem} {X : Exn → Mem → Prop} {E : EV → Mem → Prop}
end
end Ev

namespace Ev
open PySem PySem.Spec PyProof.Rows L2
section
variable {prog : Program} {w : World} {A : Around} {E : Value → Shared → Prop} {s : Shared}
end
section
variable {X : Cx}
end
end Ev

namespace Ev
open PySem PySem.Spec PyProof.Rows L2
namespace F2
end F2
def ZpG (h : Heap) (z TI TO : Addr) : Prop := ∃ (f0 : Value) (f1 : Bool),
  h.get? z = some { cls := .type "zip", dict := none, data := .fields #[f0, .bool f1, .bool false, .ref TI, .ref TO], slots := #[] } ∧ ((f0 = .none ∧ f1 = false) ∨ ∃ T : Nat, f0 = rawInt T ∧ ∃ o, h.get? T = some o)
theorem ZpG.ty {s : Shared} {z TI TO : Addr} (h : ZpG s.heap z TI TO) : s.TypeIs (.ref z) "zip" := by
  obtain ⟨f0, f1, h, _⟩ := h
  exact ⟨_, h, rfl⟩
theorem xJy {h h' : Heap} {it l : Addr} {i : Nat} (k : ∀ o, h.get? it = some o → h'.get? it = some o) (x : h.IsTupleIter it l i) : h'.IsTupleIter it l i := by
  obtain ⟨o, a, b, c⟩ := x
  exact ⟨o, k o a, b, c⟩
theorem xJx {h h' : Heap} {l : Addr} {xs : Array Value} (k : ∀ o, h.get? l = some o → h'.get? l = some o) (x : h.IsTuple l xs) : h'.IsTuple l xs := by
  obtain ⟨o, a, b⟩ := x
  exact ⟨o, k o a, b⟩
structure ZSt (xs ys : Array Value) (z TI TO i1 i2 l1 l2 : Addr) (i : Nat) (h : Heap) : Prop where
  zp : ZpG h z TI TO
  ti : IsPair h TI (.ref i1) (.ref i2)
  to : ∃ a b, IsPair h TO a b
  t1 : h.IsTupleIter i1 l1 i
  t2 : h.IsTupleIter i2 l2 i
  a1 : h.IsTuple l1 xs
  a2 : h.IsTuple l2 ys
theorem ZSt.keep {xs ys : Array Value} {z TI TO i1 i2 l1 l2 : Addr} {i : Nat} {h h' : Heap} (Z : ZSt xs ys z TI TO i1 i2 l1 l2 i h) (S : Addr) (n : z ≠ S ∧ TI ≠ S ∧ TO ≠ S ∧ i1 ≠ S ∧ i2 ≠ S ∧ l1 ≠ S ∧ l2 ≠ S)
    (k : ∀ b o, b ≠ S → h.get? b = some o → h'.get? b = some o) (live : ∃ o, h'.get? S = some o) : ZSt xs ys z TI TO i1 i2 l1 l2 i h' := by
  obtain ⟨n1, n2, n3, n4, n5, n6, n7⟩ := n
  obtain ⟨f0, f1, e, q⟩ := Z.zp
  obtain ⟨a, b, et⟩ := Z.to
  exact ⟨⟨f0, f1, k _ _ n1 e, q.imp id fun ⟨T, e1, o, e2⟩ => ⟨T, e1, by
    by_cases c : T = S
    · rw [c]; exact live
    · exact ⟨o, k _ _ c e2⟩⟩⟩, k _ _ n2 Z.ti, ⟨a, b, k _ _ n3 et⟩, xJy (fun o => k _ o n4) Z.t1, xJy (fun o => k _ o n5) Z.t2, xJx (fun o => k _ o n6) Z.a1, xJx (fun o => k _ o n7) Z.a2⟩
section
variable {prog : Program} {w : World} {A : Around} {E : Value → Shared → Prop} {s : Shared} {xs ys : Array Value} {z TI TO i1 i2 l1 l2 : Addr}
end
section
variable {prog : Program} {w : World} {A : Around} {E : Value → Shared → Prop} {s : Shared} {xs ys : Array Value} {z TI TO i1 i2 l1 l2 : Addr}
end
section
variable {X : Cx} {e e2 : Expr} {ta : TA} {p p2 pos pos2 : Pos}
end
section
variable {X : Cx} {B : XBt} {e e2 : Expr} {fa : Pg (List AV)} {p p2 pos pos2 : Pos}
end
section
variable {m : Mem} {X : Exn → Mem → Prop} {E : EV → Mem → Prop}
end
end Ev

namespace Ev
open PySem PySem.Spec PyProof.Rows L2
namespace F2
end F2
section
variable {prog : Program} {w : World} {K : PySem.W.Frag} {A : Around} {E : Value → Shared → Prop} {s : Shared} {x dx C g : Addr} {mA : Str → Option Value} {n : Str} {v : Value}
end
section
variable {X : Cx} {o value : Expr} {tv ta : TE} {n : Str} {pos pos' : Pos}
end
section
variable {X : Cx} {B : XBt} {e o : Expr} {fe fo : Pg EV} {pos p1 : Pos} {n : Str} {tb : List (Str × Fn)} {k : Nat}
end
section
variable {m : Mem} {X : Exn → Mem → Prop} {F : Fl → Mem → Prop}
end
end Ev

namespace Ev
open PySem PySem.Spec PyProof.Rows L2
section
variable {prog : Program} {w : World} {A : Around} {E : Value → Shared → Prop} {s : Shared} {env : Env} {K : PySem.W.Frag} {x C fe fx : Addr} {ox : Obj} {od : Option Obj} {pos : Pos}
end
section
variable {P : Program} {w : World} {K : PySem.W.Frag} {mg : Str → Option Value} {base : Heap}
end
section
variable {P : Program} {w : World} {K : PySem.W.Frag} {mg : Str → Option Value} {base : Heap}
end
end Ev

namespace Ev
open PySem PySem.Spec PyProof.Rows L2
section
variable {X : Cx} {B : XBt} {k : Nat} {fx : Addr} {ex : Fn} {a : AV} {x : Addr}
end
end Ev

namespace Ev
open PySem PySem.Spec PyProof.Rows L2
section
variable {X : Cx} {B : XBt} {e : Expr} {body : List Stmt} {fm : Pg EV} {fb : Pg Fl} {pos : Pos} {tb : List (Str × (Fn × Fn))} {k : Nat}
end
section
variable {m : Mem} {X : Exn → Mem → Prop} {F : Fl → Mem → Prop}
end
end Ev

namespace Ev
open PySem PySem.Spec PyProof.Rows L2
section
variable {X : Cx} {B : XBt} {ea : Expr} {pos : Pos} {f : Pg EV} {n : Str} {tb : List (Str × PyData)}
end
section
variable {m : Mem} {X : Exn → Mem → Prop} {E : EV → Mem → Prop}
end
end Ev

namespace Ev
open PySem PySem.Spec PyProof.Rows L2
def nA : AV → AV
  | .d x => match cellOf x with
    | some n => .cell n
    | none => .d x
  | .cell n => .cell n
@[simp] theorem vUh {n : Nat} : nA (.cell n) = .cell n := rfl
@[simp] theorem vUg {n : Nat} : nA (.d (xQm n)) = .cell n := by
  unfold nA
  simp
section
variable {X : Cx} {B : XBt} {o : Expr} {es : List Expr} {kws : List Keyword} {ks : List Str} {fa fk : Pg (List AV)} {fo : Pg EV} {apos pos : Pos} {n : Str} {tb : List (Str × Fn)} {m : Nat}
end
section
variable {X : Cx} {B : XBt} {e : Expr} {f : Pg EV} {pos : Pos}
end
section
variable {X : Cx} {B : XBt} {e : Expr} {body : List Stmt} {fm : Pg EV} {fb : Pg Fl} {pos : Pos} {tb : List (Str × (Fn × Fn))} {k : Nat}
end

section
variable {m : Mem} {X : Exn → Mem → Prop} {E : EV → Mem → Prop} {F : Fl → Mem → Prop}
end
end Ev

namespace Ev
open PySem PySem.Spec PyProof.Rows L2
section
variable {P : Program} {w : World} {K : PySem.W.Frag} {mg : Str → Option Value} {base : Heap}
end

section
variable {X : Cx} {B : XBt} {k : Nat}
end
end Ev

namespace Ev
open PySem PySem.Spec PyProof.Rows L2
section
variable {X : Cx} {B : XBt} {o e c : Expr} {fo f fc : Pg EV}
end

section
variable {X : Cx} {B : XBt} {tg : Expr} {is : List Nat} {pos : Pos}
end
end Ev

namespace Ev
open PySem PySem.Spec PyProof.Rows L2
section
variable {P : Program} {w : World} {K : PySem.W.Frag} {mg : Str → Option Value} {base : Heap} {c x qual n : Str} {R : Addr → Addr → Prop} {st : Stmt} {ps ks N : List Str} {g : Fn} {j k q : Nat} {f D : Addr} {fd : FuncData} {fb : Pg Fl}
end
section
variable {m : Mem} {X : Exn → Mem → Prop} {E : EV → Mem → Prop} {F : Fl → Mem → Prop}
end
end Ev

namespace Ev
open PySem PySem.Spec PyProof.Rows L2
section
variable {prog : Program} {w : World} {A : Around} {E : Value → Shared → Prop} {s : Shared}
end
section
variable {X : Cx} {pos : Pos}
end
section
variable {X : Cx} {B : XBt} {is : List Nat} {pos : Pos} {tg : Expr} {tgs : List Expr}
end
section
variable {m : Mem} {X : Exn → Mem → Prop} {F : Fl → Mem → Prop}
end
end Ev

namespace Ev
open PySem PySem.Spec PyProof.Rows L2
section
variable {X : Cx} {B : XBt} {tg iter elt : Expr} {ifs : List Expr} {scope : Scope} {pos : Pos}
end

section
variable {m : Mem} {X : Exn → Mem → Prop} {E : EV → Mem → Prop} {is : List Nat} {g : PyData → Pg Unit} {t : Pg Bool} {e : Pg EV}
end
end Ev

namespace Ev
open PySem PySem.Spec PyProof.Rows L2
section
variable {X : Cx} {B : XBt} {k : Nat}
end
end Ev

namespace Ev
open PySem PySem.Spec PyProof.Rows L2
section
variable {P : Program} {w : World} {K : PySem.W.Frag} {mg : Str → Option Value} {base : Heap} {x qual : Str} {st : Stmt} {ps ks : List Str} {dvs : List V} {g : Fn} {j k q : Nat} {f : Addr} {fd : FuncData}
end
end Ev

namespace Ev
open PySem PySem.Spec PyProof.Rows L2
section
variable {X : Cx} {B : XBt} {tg iter elt : Expr} {ifs : List Expr} {scope : Scope} {pos : Pos} {own : List (Str × Nat)} {f : Pg EV} {g : PyData → Pg Unit} {t : Pg Bool} {fe : Pg EV}
end
section
variable {m : Mem} {X : Exn → Mem → Prop} {E : EV → Mem → Prop} {is : List Nat} {f : Pg EV} {g : PyData → Pg Unit} {t : Pg Bool} {e : Pg EV}
end
end Ev

namespace Ev
open PySem PySem.Spec PyProof.Rows L2
section
variable {X : Cx} {B : XBt} {e : Expr} {f : Pg EV}
end
section
variable {X : Cx} {B : XBt} {x : Str} {p pos : Pos} {es : List Expr} {kws : List Keyword} {ks : List Str} {fa fk : Pg (List AV)}
end
section
variable {X : Cx} {B : XBt} {k : Nat} {Cc fI : Addr} {c : Str} {ks : List Str} {h : Fn}
end
section
variable {X : Cx} {B : XBt} {c : Str} {p pos : Pos} {es : List Expr} {kws : List Keyword} {ks : List Str} {fa fk : Pg (List AV)} {k m : Nat} {h : Fn}
end
section
variable {m : Mem} {X : Exn → Mem → Prop} {E : EV → Mem → Prop}
end
end Ev

namespace Ev
open PySem PySem.Spec PyProof.Rows L2
section
variable {prog : Program} {w : World} {A : Around} {E : Value → Shared → Prop} {s : Shared} {K : PySem.W.Frag} {x y C D L f : Addr} {h₀ : Heap} {m : Str → Option Value} {ox oy : Obj} {od od2 : Option Obj}
end
section
variable {X : Cx} {B : XBt} {k : Nat}
end
section
variable {X : Cx} {B : XBt} {a b : Expr} {fa fb : Pg EV} {pos : Pos} {tb : List (Str × Fn)} {sub : List (Str × Str)} {k : Nat}
end
section
variable {m : Mem} {X : Exn → Mem → Prop} {T : Bool → Mem → Prop}
end
end Ev

namespace Ev
open PySem PySem.Spec PyProof.Rows L2
section
variable {X : Cx} {B : XBt} {e e2 : Expr} {pos p pos2 : Pos} {f g : Pg EV}
end
section
variable {m : Mem} {X : Exn → Mem → Prop} {E : EV → Mem → Prop}
end
end Ev

namespace Ev
open PySem PySem.Spec PyProof.Rows L2

structure SKey (P : Program) (w : World) (K : Type) [DecidableEq K] where
  is : Heap → K → Addr → Prop
  hash : K → Int
  cost : K → Nat
  one : ∀ {h : Heap} {x y : K} {b : Addr}, is h x b → is h y b → x = y
  keep : ∀ {h h' : Heap} {k : K} {b : Addr}, is h k b → (∀ o, h.get? b = some o → h'.get? b = some o) → is h' k b
  noSet : ∀ {h : Heap} {k : K} {b : Addr} {o : Obj} {es : Array (Int × Value)} {ep : Nat} {t : SetTable}, is h k b → h.get? b = some o → o.data = .set es ep t → False
  hashed : ∀ {A : Around} {E : Value → Shared → Prop} {s : Shared} {k : K} {b : Addr} {Q : Int → Shared → Prop}, A.units < cLine → is s.heap k b → Q (hash k) { s with toks := s.toks + cost k } → wpAny (model P w) A (pyHash (.ref b)) Q E s
  alike : ∀ {A : Around} {E : Value → Shared → Prop} {s : Shared} {x y : K} {b c : Addr} {Q : Bool → Shared → Prop}, A.units < cLine → is s.heap x b → is s.heap y c → Q (decide (x = y)) s → wpAny (model P w) A (eqBool (.ref b) (.ref c)) Q E s
  byVal : ∀ {A : Around} {E : Value → Shared → Prop} {s : Shared} {k : K} {b : Addr} {Q : Bool → Shared → Prop}, is s.heap k b → (∀ v, Q v s) → wpAny (model P w) A (hashByValue 8 (.ref b)) Q E s
  unseen : ∀ {A : Around} {E : Value → Shared → Prop} {s : Shared} {k : K} {b : Addr} {ys : List Value} {Q : Bool → Shared → Prop}, is s.heap k b → (∀ y ∈ ys, ∃ k' c, y = Value.ref c ∧ is s.heap k' c) → Q false s → wpAny (model P w) A (searchCouldBeSeen (.ref b) ys) Q E s

section
variable {P : Program} {w : World} {K : Type} [DecidableEq K] {kd : SKey P w K} {A : Around} {E : Value → Shared → Prop} {s : Shared}
def zU0 (kd : SKey P w K) (L : List (Addr × K)) : List (Int × Value) := L.map fun q => (kd.hash q.2, .ref q.1)
def xQz (kd : SKey P w K) (L : List (Addr × K)) : List Int := L.map fun q => kd.hash q.2
structure SetH (kd : SKey P w K) (h : Heap) (a : Addr) (L : List (Addr × K)) (es : Array (Int × Value)) (ep : Nat) (t : SetTable) : Prop where
  here : ∃ o, h.get? a = some o ∧ o.ExactSet ∧ o.data = .set es ep t
  ent : es.toList = zU0 kd L
  tb : TabOk t (xQz kd L)
  ones : (L.map Prod.snd).Nodup
  mem : ∀ q ∈ L, kd.is h q.2 q.1
  ldd : w.params.followText "set-order" = true ∨ t.led = true
  gap : 5 * L.length < 3 * t.mask
  small : L.length < 64
variable {a : Addr} {L : List (Addr × K)} {es : Array (Int × Value)} {ep : Nat} {t : SetTable}
theorem SetH.count (R : SetH kd s.heap a L es ep t) : es.size = L.length := by
  simpa [zU0] using congrArg List.length R.ent
theorem SetH.holds (R : SetH kd s.heap a L es ep t) : t.fits es.size = true := by
  have z1 : t.place.size = L.length := by simpa [xQz] using R.tb.sz
  have z2 := R.count; have z3 := R.gap
  simp only [SetTable.fits, SetTable.fill, R.tb.dm, Bool.and_eq_true, beq_iff_eq, decide_eq_true_eq]
  exact ⟨by omega, by show t.place.size + 0 ≤ t.mask; omega⟩
theorem SetH.at_ (R : SetH kd s.heap a L es ep t) {i : Nat} {q : Addr × K} (h : L[i]? = some q) : es[i]? = some (kd.hash q.2, .ref q.1) := by
  have z : es.toList[i]? = some (kd.hash q.2, .ref q.1) := by simp only [R.ent, zU0, List.getElem?_map, h, Option.map_some]
  rwa [Array.getElem?_toList] at z
theorem SetH.stays (R : SetH kd s.heap a L es ep t) : ¬ t.gaveWay = true := by simp [SetTable.gaveWay, mask_odd R.tb.mok]
theorem SetH.idx (R : SetH kd s.heap a L es ep t) {i j : Nat} (h : t.place.toList[i]? = some j) : ∃ q, L[i]? = some q ∧ q ∈ L := by
  have l1 := (List.getElem?_eq_some_iff.mp h).1
  have l2 : t.place.size = L.length := by simpa [xQz] using R.tb.sz
  rw [Array.length_toList, l2] at l1
  exact ⟨L[i], List.getElem?_eq_getElem l1, List.getElem_mem l1⟩

abbrev pst (m : Nat) (H : Int) (c : Nat) : SetTable.Probe := nth m (runAt m (SetTable.bits H % (m + 1)) (SetTable.bits H)) c
theorem xYt (m : Nat) (H : Int) (c q : Nat) : nth m (pst m H c) q = pst m H (c + q) := (nth_add ..).symm
theorem xQ9 (m : Nat) (H : Int) : ∀ c, (pst m H c).dummy = none
  | 0 => rfl
  | c + 1 => by
    have e : pst m H (c + 1) = adv m (pst m H c) := nth_succ ..
    have i := xQ9 m H c
    rw [e, adv]
    split <;> exact i

theorem seek (R : SetH kd s.heap a L es ep t) {x : Addr} {k : K} (hx : kd.is s.heap k x) (hu : A.units < cLine) {H : Int} (eH : kd.hash k = H) {N : Nat} (big : N < 10 * SetTable.turns t.mask) (out : way t.mask H N ∉ t.place.toList)
    (inn : ∀ c, c < N → way t.mask H c ∈ t.place.toList) {Q : SetFound → Shared → Prop} (q1 : k ∈ L.map Prod.snd → Q (.there none) s) (q2 : k ∉ L.map Prod.snd → Q (.free (way t.mask H N) false) s) :
    ∀ (n c : Nat) (sd : Option SetTable.Probe), sd.getD (t.probeStart H) = pst t.mask H c → c ≤ N → N - c < n → (∀ (i : Nat) (q : Addr × K), L[i]? = some q → q.2 = k → ∃ d, c ≤ d ∧ d < N ∧ t.place.toList[i]? = some (way t.mask H d)) →
      wpAny (model P w) A (setSearchFrom a (.ref x) H true n sd) Q E s := by
  obtain ⟨o, ho, _, hd⟩ := R.here
  have rd : ∀ {Q' : Array (Int × Value) × Nat × SetTable → Shared → Prop}, Q' (es, ep, t) s → wpAny (model P w) A (setState a) Q' E s := fun z => wpAny_setState_of ho hd R.holds z
  intro n
  induction n with
  | zero => intro c _ _ _ z; omega
  | succ n ih =>
    intro c sd e0 cN nN ahead
    have wayE : ∀ q, (nth t.mask (pst t.mask H c) q).j = way t.mask H (c + q) := fun q => congrArg SetTable.Probe.j (xYt ..)
    have hEnt : ∀ {i : Nat} {q : Addr × K}, L[i]? = some q → ((es[i]? : Option (Int × Value)).map (·.1)).getD 0 = kd.hash q.2 := fun {i q} z => by rw [R.at_ z] <;> rfl
    rw [setSearchFrom_succ]
    refine wpAny_bind (rd ?_)
    dsimp only
    rw [e0]
    refine wp_if_neg R.stays ?_
    try refine wpAny_bind (wpAny_pure ?_)
    rcases go_spec t R.tb.ris R.tb.dm (fun i => ((es[i]? : Option (Int × Value)).map (·.1)).getD 0) H (10 * SetTable.turns t.mask) (N - c) (pst t.mask H c) (xQ9 ..) (by omega) (fun q z => by rw [wayE]; exact inn _ (by omega))
      (by rw [wayE, Nat.add_sub_cancel' cN]; exact out) with ⟨q, i, qN, at1, hh, before, pr⟩ | ⟨before, pr⟩
    · rw [wayE, xYt] at pr
      rw [wayE] at at1
      rw [show t.probe (fun i => ((es[i]? : Option (Int × Value)).map (·.1)).getD 0) H (pst t.mask H c) = _ from pr]
      dsimp only
      obtain ⟨p, hp, pL⟩ := R.idx at1
      have live := slot_live R.tb.ris at1
      have go : wpAny (model P w) A (searchRest a (.ref x) H true n es t (way t.mask H (c + q)) i (pst t.mask H (c + (q + 1)))) Q E s := by
        simp only [searchRest, R.at_ hp]
        refine wpAny_bind (wpAny_holding (kd.alike hu (R.mem p pL) hx ?_)); refine wpAny_bind (rd ?_)
        dsimp only
        by_cases same : p.2 = k
        · exact wp_if_pos (by simp [same]) (wpAny_pure (q1 (List.mem_map.mpr ⟨p, pL, same⟩)))
        · refine wp_if_neg (by simp [same]) ?_
          try refine wpAny_bind (wpAny_pure ?_)
          rw [sameMem]
          dsimp only
          simp only [live, R.at_ hp, if_true]
          refine wpAny_bind (wpAny_isSame_ref_self (wpAny_bind (wpAny_pure ?_))); simp only [if_true]
          refine wp_if_neg (by simp [same]) (ih (c + (q + 1)) _ rfl (by omega) (by omega) fun i' p' z1 z2 => ?_)
          obtain ⟨d, d1, d2, d3⟩ := ahead i' p' z1 z2
          refine ⟨d, ?_, d2, d3⟩
          by_cases lt : d < c + q
          · have e : c + (d - c) = d := by omega
            exact absurd ((hEnt z1).trans (by rw [z2, eH])) (before (d - c) i' (by omega) (by rw [wayE, e]; exact d3))
          · have ne : d ≠ c + q := fun e => by
              subst e
              have s1 := slot_live R.tb.ris d3
              rw [live] at s1
              injection s1 with s1
              rw [← s1, hp] at z1
              injection z1 with z1
              exact same (z1 ▸ z2)
            omega
      by_cases lead : t.led = true
      · refine wp_if_neg (by simp [lead]) ?_
        first | exact go | exact wpAny_bind (wpAny_pure go)
      · refine wp_if_pos (by simp [lead]) (wpAny_bind (kd.unseen hx (fun y hy => ?_) (wp_if_neg Bool.false_ne_true ?_)))
        · obtain ⟨e, ee, rfl⟩ := List.mem_map.mp hy
          have e1 : e ∈ es.toList := by have := ee; simp at this; simpa using this.1
          rw [R.ent] at e1
          obtain ⟨u, uL, rfl⟩ := List.mem_map.mp e1
          exact ⟨u.2, u.1, rfl, R.mem u uL⟩
        · first | exact go | exact wpAny_bind (wpAny_pure go)
    · rw [wayE, Nat.add_sub_cancel' cN] at pr
      rw [show t.probe (fun i => ((es[i]? : Option (Int × Value)).map (·.1)).getD 0) H (pst t.mask H c) = _ from pr]
      dsimp only
      refine wpAny_pure (q2 fun z => ?_)
      obtain ⟨p, pL, pk⟩ := List.mem_map.mp z
      obtain ⟨i, li, ei⟩ := List.getElem_of_mem pL
      have hp : L[i]? = some p := by rw [List.getElem?_eq_getElem li, ei]
      obtain ⟨d, d1, d2, d3⟩ := ahead i p hp pk
      have e : c + (d - c) = d := by omega
      exact before (d - c) i (by omega) (by rw [wayE, e]; exact d3) ((hEnt hp).trans (by rw [pk, eH]))
theorem wH5 (R : SetH kd s.heap a L es ep t) {x : Addr} {k : K} (hx : kd.is s.heap k x) (hu : A.units < cLine) {H : Int} (eH : kd.hash k = H) {Q : SetFound → Shared → Prop} (q1 : k ∈ L.map Prod.snd → Q (.there none) s)
    (q2 : ∀ N, k ∉ L.map Prod.snd → way t.mask H N ∉ t.place.toList → (∀ c, c < N → way t.mask H c ∈ t.place.toList) → Q (.free (way t.mask H N) false) s) : wpAny (model P w) A (setSearch a (.ref x) H true) Q E s := by
  have len : (xQz kd L).length = L.length := by simp [xQz]
  obtain ⟨N, big, out, inn⟩ := R.tb.first (by have := R.gap; omega) H
  have top : 10 * SetTable.turns t.mask < 100000 := by rcases R.tb.mok with e | e | e <;> (rw [e]; decide)
  rw [setSearch]
  refine seek R hx hu eH big out inn q1 (fun z => q2 N z out inn) 100000 0 none rfl N.zero_le (by omega) fun i q z1 z2 => ?_
  have hi : (xQz kd L)[i]? = some H := by simp only [xQz, List.getElem?_map, z1, Option.map_some, z2, eH]
  have li : i < t.place.toList.length := by
    rw [Array.length_toList, R.tb.sz]
    exact (List.getElem?_eq_some_iff.mp hi).1
  obtain ⟨d, d1, d2⟩ := R.tb.before out hi (List.getElem?_eq_getElem li)
  exact ⟨d, d.zero_le, d1, by rw [d2]; exact List.getElem?_eq_getElem li⟩
end
end Ev

namespace Ev
open PySem PySem.Spec PyProof.Rows L2
section
variable {P : Program} {w : World} {K : Type} [DecidableEq K] {kd : SKey P w K} {A : Around} {E : Value → Shared → Prop} {s : Shared} {a : Addr} {L : List (Addr × K)} {es : Array (Int × Value)} {ep : Nat} {t : SetTable}
theorem xVh {α : Type} : ∀ L : List α, (List.range L.length).filterMap (fun i => L[i]?) = L
  | [] => rfl
  | x :: L => by
    have ih := xVh L
    rw [List.length_cons, List.range_succ_eq_map, List.filterMap_cons, List.filterMap_map]
    show x :: List.filterMap (fun i => L[i]?) (List.range L.length) = _
    rw [ih]
theorem xZd {kd : SKey P w K} (e : es.toList = zU0 kd L) : ∀ l : List Nat, l.filterMap (fun i => es[i]?) = zU0 kd (l.filterMap fun i => L[i]?)
  | [] => rfl
  | i :: l => by
    have z : es[i]? = (L[i]?).map fun q => (kd.hash q.2, Value.ref q.1) := by rw [← Array.getElem?_toList, e, zU0, List.getElem?_map]
    have ih := xZd e l
    simp only [List.filterMap_cons, z]
    cases L[i]? with
    | none => simpa using ih
    | some q =>
      simp only [Option.map_some, ih]
      rfl
theorem xYz {kd : SKey P w K} (e : es.toList = zU0 kd L) : ∀ l : List Nat, (∀ i ∈ l, i < L.length) → xQz kd (l.filterMap fun i => L[i]?) = l.map fun i => (es.map (·.1)).getD i 0
  | [], _ => rfl
  | i :: l, h => by
    have ih := xYz e l fun j hj => h j (.tail _ hj)
    have lt := h i (.head _)
    have z : (es.map (·.1))[i]? = some (kd.hash (L[i]).2) := by
      rw [Array.getElem?_map, ← Array.getElem?_toList, e, zU0, List.getElem?_map, List.getElem?_eq_getElem lt]; rfl
    rw [List.filterMap_cons, List.getElem?_eq_getElem lt, List.map_cons, ← ih, Array.getD_eq_getD_getElem?, z]
    rfl
structure SetB (kd : SKey P w K) (h : Heap) (a : Addr) (L : List (Addr × K)) (es : Array (Int × Value)) (ep : Nat) (t : SetTable) : Prop where
  here : ∃ o, h.get? a = some o ∧ o.ExactSet ∧ o.data = .set es ep t
  ent : es.toList = zU0 kd L
  tb : TabOk t (xQz kd L)
  ones : (L.map Prod.snd).Nodup
  mem : ∀ q ∈ L, kd.is h q.2 q.1
  ldd : w.params.followText "set-order" = true ∨ t.led = true
  room : L.length ≤ t.mask
  small : L.length < 64
theorem SetB.full (R : SetB kd s.heap a L es ep t) (g : 5 * L.length < 3 * t.mask) : SetH kd s.heap a L es ep t := ⟨R.here, R.ent, R.tb, R.ones, R.mem, R.ldd, g, R.small⟩
theorem SetB.count (R : SetB kd s.heap a L es ep t) : es.size = L.length := by simpa [zU0] using congrArg List.length R.ent
theorem xJb {h h' : Heap} {k : K} {b : Addr} {o : Obj} (kd : SKey P w K) (x : kd.is h k b) (ho : h.get? a = some o) (hd : o.data = .set es ep t) (sb : Heap.SameBut a h h') : kd.is h' k b :=
  kd.keep x fun u hu => (sb.2 b fun e => by subst e; exact kd.noSet x ho hd).trans hu
theorem wK9 (R : SetB kd s.heap a L es ep t) {n M : Nat} (e1 : SetTable.sizeAbove n - 1 = M) (m : MaskOk M) (e2 : SetTable.sizeAbove n ≤ 128) (g : 5 * L.length < 3 * M) {Q : Unit → Shared → Prop}
    (q : ∀ h' L' es' ep' t', Heap.SameBut a s.heap h' → SetH kd h' a L' es' ep' t' → L'.Perm L → Q () { s with heap := h' }) : wpAny (model P w) A (setRelay a n) Q E s := by
  obtain ⟨o, ho, hex, hd⟩ := R.here
  have cnt := R.count
  have z1 : t.place.size = L.length := by simpa [xQz] using R.tb.sz
  have fits : t.fits es.size = true := by
    have := R.room
    simp only [SetTable.fits, SetTable.fill, R.tb.dm, Bool.and_eq_true, beq_iff_eq, decide_eq_true_eq]
    exact ⟨by omega, by show t.place.size + 0 ≤ t.mask; omega⟩
  obtain ⟨t', ord, r1, r2, r3, r4, r5, r6, r7⟩ := relaid_ok t (hs := es.map (·.1)) e1 m (by rw [Array.size_map]; omega)
  rw [Array.size_map, cnt] at r2
  have inL : ∀ i ∈ ord.toList, i < L.length := fun i hi => List.mem_range.mp (r2.mem_iff.mp hi)
  rw [← xYz R.ent ord.toList inL] at r3
  have rows : (ord.filterMap (es[·]?)).toList = zU0 kd (ord.toList.filterMap fun i => L[i]?) := by
    rw [Array.toList_filterMap]; exact xZd R.ent _
  have pm : (ord.toList.filterMap fun i => L[i]?).Perm L := by
    have z := r2.filterMap fun i => L[i]?
    rwa [xVh] at z
  generalize ord.toList.filterMap (fun i => L[i]?) = L' at r3 rows pm
  have sz : (ord.filterMap (es[·]?)).size = es.size := by
    have z := congrArg List.length rows
    rw [Array.length_toList, zU0, List.length_map] at z
    rw [z, pm.length_eq, cnt]
  rw [setRelay_eq]
  refine wpAny_bind (wpAny_setState_of ho hd fits ?_); dsimp only
  refine wp_if_neg (by have := sizeLine_eq; omega) ?_
  try refine wpAny_bind (wpAny_pure ?_)
  rw [r1]; dsimp only
  refine wpAny_bind (wp_if_neg (by simp [sz]) ?_)
  try refine wpAny_bind (wpAny_pure ?_)
  refine wpAny_pure ?_
  dsimp only
  refine wpAny_storeSet_of ho hd ?_ (by have := sizeLine_eq; have := R.small; omega)
  have sb : Heap.SameBut a s.heap (s.heap.update a (Obj.putSet (ord.filterMap (es[·]?)) t')) := Heap.SameBut.update ..
  refine q _ L' _ (ep + 1) t' sb ⟨⟨_, store_at ho hd, ⟨hex.1, hex.2.1, hex.2.2⟩, rfl⟩, rows, r3, (pm.map Prod.snd).nodup_iff.mpr R.ones, fun u hu => xJb kd (R.mem u (pm.mem_iff.mp hu)) ho hd sb, by rw [r5]; exact R.ldd, ?_, ?_⟩ pm
  · rw [pm.length_eq, r4]; exact g
  · rw [pm.length_eq]; exact R.small
theorem _root_.L2.TabOk.like {t t' : SetTable} {hs : List Int} (u1 : t'.place = t.place) (u2 : t'.dummies = t.dummies) (u3 : t'.mask = t.mask) (T : TabOk t hs) : TabOk t' hs := by
  refine ⟨u1 ▸ T.ris, u2.trans T.dm, u1 ▸ T.sz, u3 ▸ T.mok, ?_, ?_⟩
  · rw [u1, u3]; exact T.bd
  · rw [u1, u3]; exact T.reach
theorem vYv (R : SetH kd s.heap a L es ep t) {x : Addr} {k : K} (hx : kd.is s.heap k x) (hu : A.units < cLine) (few : L.length < 63) {Q : Bool → Shared → Prop}
    (q : ∀ b h' L' es' ep' t', Heap.SameBut a s.heap h' → SetH kd h' a L' es' ep' t' → (k ∈ L.map Prod.snd → L' = L) → (k ∉ L.map Prod.snd → L'.Perm ((x, k) :: L)) → Q b { s with heap := h' }) :
    wpAny (model P w) A (setAddHashed a (.ref x) (kd.hash k)) Q E s := by
  obtain ⟨o, ho, hex, hd⟩ := R.here
  have cnt := R.count
  have gap := R.gap
  have rd : ∀ {A' : Around} {Q' : Array (Int × Value) × Nat × SetTable → Shared → Prop}, Q' (es, ep, t) s → wpAny (model P w) A' (setState a) Q' E s := fun z => wpAny_setState_of ho hd R.holds z
  rw [setAddHashed]
  refine wpAny_holding ?_
  rw [show (100000 : Nat) = 99999 + 1 from rfl, setAddHashedIn_succ]
  refine wpAny_bind (rd ?_)
  dsimp only
  refine wp_if_neg (by simp [byScan, Value.scannable]) ?_
  try refine wpAny_bind (wpAny_pure ?_)
  refine wpAny_bind (wH5 R hx hu rfl (fun old => ?_) fun N new out inn => ?_)
  · exact wpAny_pure (q false s.heap L es ep t (.refl ..) R (fun _ => rfl) fun z => (z old).elim)
  dsimp only
  refine wpAny_bind (rd ?_)
  dsimp only
  obtain ⟨p1, p2, p3, p4, p5, p6, _, _, p9⟩ := R.tb.put out inn
  have asks : ∀ {c : Bool} {F : Bool → Sem Bool}, (∀ b, wpAny (model P w) A (F b) Q E s) → wpAny (model P w) A (if c = true then hashByValue 8 (.ref x) >>= F else pure true >>= F) Q E s := fun {c F} z => by
    cases c
    · exact wp_if_neg Bool.false_ne_true (wpAny_bind (wpAny_pure (z _)))
    · exact wp_if_pos rfl (wpAny_bind (kd.byVal hx fun v => z v))
  generalize t.put (way t.mask (kd.hash k) N) = pt at p1 p3 p4 p5 p6 p9 ⊢
  obtain ⟨t1, p⟩ := pt
  dsimp only at p1 p3 p4 p5 p6 p9 ⊢
  rw [← p1] at p2 p3
  refine asks fun b => ?_
  obtain ⟨t2, et, u1, u2, u3, u4⟩ : ∃ t2 : SetTable, (if b = true then t1 else { t1 with plain := false }) = t2 ∧ t2.place = t1.place ∧ t2.dummies = t1.dummies ∧ t2.mask = t1.mask ∧ t2.led = t1.led := by cases b <;> exact ⟨_, rfl, rfl, rfl, rfl, rfl⟩
  rw [et]
  have fl : t2.fill = t1.fill := by simp only [SetTable.fill, u1, u2]
  rw [← fl] at p9; rw [← u3] at p4; rw [← u4] at p5
  replace p3 := TabOk.like u1 u2 u3 p3
  clear et u1 u2 u3 u4 fl p6
  have pm := put_perm L p (x, k)
  have rows : (SetTable.insertAt es p (kd.hash k, Value.ref x)).toList = zU0 kd (L.take p ++ (x, k) :: L.drop p) := by
    rw [SetTable.toList_insertAt, R.ent]; simp [zU0]
  have hs : (xQz kd L).take p ++ kd.hash k :: (xQz kd L).drop p = xQz kd (L.take p ++ (x, k) :: L.drop p) := by simp [xQz]
  rw [hs] at p3
  generalize L.take p ++ (x, k) :: L.drop p = L1 at pm rows p3
  generalize SetTable.insertAt es p (kd.hash k, Value.ref x) = es1 at rows ⊢
  have len : L1.length = L.length + 1 := pm.length_eq
  have sz : es1.size = L.length + 1 := by
    have z : es1.size = L1.length := by simpa [zU0] using congrArg List.length rows
    rw [z, len]
  have fill : t2.fill = L.length + 1 := by simpa [xQz] using p9
  refine wpAny_bind (wpAny_storeSet_of ho hd ?_ (by have := sizeLine_eq; omega))
  have sb : Heap.SameBut a s.heap (s.heap.update a (Obj.putSet es1 t2)) := Heap.SameBut.update ..
  have o1 := store_at (es' := es1) (t' := t2) ho hd
  generalize s.heap.update a (Obj.putSet es1 t2) = h1 at sb o1 ⊢
  have B : SetB kd h1 a L1 es1 (ep + 1) t2 := ⟨⟨_, o1, ⟨hex.1, hex.2.1, hex.2.2⟩, rfl⟩, rows, p3, (pm.map Prod.snd).nodup_iff.mpr (List.nodup_cons.mpr ⟨new, R.ones⟩), fun u hu' => by
      rcases List.mem_cons.mp (pm.mem_iff.mp hu') with e | e
      · rw [e]; exact xJb kd hx ho hd sb
      · exact xJb kd (R.mem u e) ho hd sb, by rw [p5]; exact R.ldd, by omega, by omega⟩
  by_cases tf : t2.tooFull = true
  · first
      | (refine wpAny_bind ?_; refine wp_if_pos (by simp [tf]) ?_)
      | (refine wp_if_pos (by simp [tf]) ?_; refine wpAny_bind ?_)
    have tf' : 5 * (L.length + 1) ≥ 3 * t.mask := by
      simp only [SetTable.tooFull, decide_eq_true_eq, fill, p4] at tf
      omega
    rw [cnt]
    have two : (t.mask = 7 ∧ L.length = 4) ∨ (t.mask = 31 ∧ L.length = 18) := by
      rcases R.tb.mok with e | e | e
      · exact .inl ⟨e, by omega⟩
      · exact .inr ⟨e, by omega⟩
      · omega
    have go : ∀ M, SetTable.sizeAbove (SetTable.grown (L.length + 1)) - 1 = M → MaskOk M → SetTable.sizeAbove (SetTable.grown (L.length + 1)) ≤ 128 → 5 * (L.length + 1) < 3 * M →
        wpAny (model P w) A (setRelay a (SetTable.grown (L.length + 1))) (fun _ s' => wpAny (model P w) A (pure true) Q E s') E { s with heap := h1 } := fun M g1 g2 g3 g4 =>
      wK9 (s := { s with heap := h1 }) B g1 g2 g3 (by omega) fun h2 L2 es2 ep2 t3 sb2 R2 pm2 => wpAny_pure (q true h2 L2 es2 ep2 t3 (sb.trans sb2) R2 (fun z => (new z).elim) fun _ => pm2.trans pm)
    rcases two with ⟨_, e⟩ | ⟨_, e⟩
    · exact go 31 (by rw [e, size_20]) (.inr (.inl rfl)) (by rw [e, size_20]; decide) (by omega)
    · exact go 127 (by rw [e, size_76]) (.inr (.inr rfl)) (by rw [e, size_76]; decide) (by omega)
  · have lt : 5 * L1.length < 3 * t2.mask := by
      simp only [SetTable.tooFull, decide_eq_true_eq, fill, p4] at tf
      omega
    first
      | refine wp_if_neg (by simp [tf]) ?_
      | (refine wpAny_bind ?_; refine wp_if_neg (by simp [tf]) ?_; refine wpAny_pure ?_)
    exact wpAny_pure (q true h1 L1 es1 (ep + 1) t2 sb (SetB.full (s := { s with heap := h1 }) B lt) (fun z => (new z).elim) fun _ => pm)
end
end Ev

namespace Ev
open PySem PySem.Spec PyProof.Rows L2
section
variable {P : Program} {w : World} {K : Type} [DecidableEq K] {kd : SKey P w K} {A : Around} {E : Value → Shared → Prop} {s : Shared}
structure Coll (ks : List (Addr × K)) (i : Nat) (L : List (Addr × K)) : Prop where
  old : ∀ q ∈ L, q ∈ ks.take i
  keys : ∀ q ∈ ks.take i, q.2 ∈ L.map Prod.snd
  le : L.length ≤ i
theorem Coll.next {ks L L' : List (Addr × K)} {i : Nat} {x : Addr × K} (c : Coll ks i L) (h : ks[i]? = some x) (h1 : x.2 ∈ L.map Prod.snd → L' = L) (h2 : x.2 ∉ L.map Prod.snd → L'.Perm (x :: L)) : Coll ks (i + 1) L' := by
  have tk : ks.take (i + 1) = ks.take i ++ [x] := by rw [List.take_succ, h]; rfl
  by_cases z : x.2 ∈ L.map Prod.snd
  · rw [h1 z]
    refine ⟨fun q hq => by rw [tk]; exact List.mem_append_left _ (c.old q hq), fun q hq => ?_, Nat.le_succ_of_le c.le⟩
    rw [tk, List.mem_append, List.mem_singleton] at hq
    rcases hq with hq | rfl
    · exact c.keys q hq
    · exact z
  · have pm := h2 z
    refine ⟨fun q hq => ?_, fun q hq => ?_, by rw [pm.length_eq]; exact Nat.succ_le_succ c.le⟩
    · rw [tk, List.mem_append, List.mem_singleton]
      rcases List.mem_cons.mp (pm.mem_iff.mp hq) with e | e
      · exact .inr e
      · exact .inl (c.old q e)
    · rw [(pm.map Prod.snd).mem_iff, List.map_cons, List.mem_cons]
      rw [tk, List.mem_append, List.mem_singleton] at hq
      rcases hq with hq | rfl
      · exact .inr (c.keys q hq)
      · exact .inl rfl
theorem SetH.moved {h h' : Heap} {a : Addr} {L : List (Addr × K)} {es : Array (Int × Value)} {ep : Nat} {t : SetTable} (R : SetH kd h a L es ep t) (k1 : ∀ o, h.get? a = some o → h'.get? a = some o) (k2 : ∀ q ∈ L, kd.is h' q.2 q.1) : SetH kd h' a L es ep t := by
  obtain ⟨o, ho, r⟩ := R.here
  exact ⟨⟨o, k1 o ho, r⟩, R.ent, R.tb, R.ones, k2, R.ldd, R.gap, R.small⟩
theorem xHv {h : Heap} {a : Addr} (kd : SKey P w K) (ho : h.get? a = some (wH2 w)) : SetH kd h a [] #[] 0 (.fresh 0 0 (!w.params.followText "set-order")) := by
  refine ⟨⟨_, ho, ⟨rfl, rfl, rfl⟩, rfl⟩, rfl, ⟨.nil, rfl, rfl, .inl rfl, fun x hx => (by cases hx), fun i h j hi => (by simp [xQz] at hi)⟩, List.nodup_nil, fun q hq => (by cases hq), ?_, ?_, by show (0 : Nat) < 64; decide⟩
  · show _ ∨ (!w.params.followText "set-order") = true
    cases w.params.followText "set-order" <;> simp
  · show 5 * 0 < 3 * 7
    decide
theorem vKf {I : Addr} {fp wr : List Addr} {G : Array GenState → Array GenState → Prop} {n : Nat} {Pv : Nat → Value → Prop} {St : Nat → Shared → Prop} {R : Result → Shared → Prop} (W : WalksS P w A.in1 I fp wr G n Pv St) (S : Addr) (apart : S ∉ fp)
    (ks : List (Addr × K)) (hn : n = ks.length) (few : ks.length < 64) (val : ∀ i v, Pv i v → ∃ q, ks[i]? = some q ∧ v = .ref q.1) (h0 : Heap) (mem : ∀ q ∈ ks, kd.is h0 q.2 q.1) (S0 : h0.get? S = none) (w0 : ∀ b ∈ wr, h0.get? b = none) (hu : A.in1.units < cLine) :
    ∀ (d i : Nat) (s : Shared), n - i = d → i ≤ n → St i s → (∀ b o, h0.get? b = some o → s.heap.get? b = some o) → (∃ L es ep t, SetH kd s.heap S L es ep t ∧ Coll ks i L) →
      (∀ s' L es ep t, Moved (S :: wr) G s s' → SetH kd s'.heap S L es ep t → Coll ks n L → (∀ b o, h0.get? b = some o → s'.heap.get? b = some o) → R (.ok (.ret .none)) s') →
      codeAny (model P w) A (.builtin "set.update.loop" ⟨[.ref S, .ref I], []⟩) R s := by
  have Sw : S ∉ wr := fun z => apart (W.sub _ z)
  have wide : ∀ b ∈ wr, b ∈ S :: wr := fun b z => .tail _ z
  have on : ∀ {u u' : Shared}, Moved wr G u u' → (∀ b o, h0.get? b = some o → u.heap.get? b = some o) → ∀ b o, h0.get? b = some o → u'.heap.get? b = some o := fun m k b o e =>
    m.heap b o (fun z => by rw [w0 b z] at e; cases e) (k b o e)
  intro d
  induction d with
  | zero =>
    intro i s hd hi st k0 ⟨L, es, ep, t, hS, c⟩ fin
    obtain rfl : i = n := by omega
    refine codeAny_builtin F.entry_set_update_loop ?_
    rw [Around.under_plainId F.plain_set_update_loop _]
    show wpAny _ A.in1 (pyNext (.ref I) >>= _) _ _ s
    refine wpAny_bind (W.done s _ _ st fun s' m => ?_)
    show wpAny _ A.in1 (ret Value.none) _ _ s'
    have k1 := on m k0
    exact wpAny_pure (fin s' L es ep t (m.mono wide) (hS.moved (fun o e => m.heap S o Sw e) fun q hq => kd.keep (mem q (List.mem_of_mem_take (c.old q hq))) (k1 _)) c k1)
  | succ d ih =>
    intro i s hd hi st k0 ⟨L, es, ep, t, hS, c⟩ fin
    refine codeAny_builtin F.entry_set_update_loop ?_
    rw [Around.under_plainId F.plain_set_update_loop _]
    show wpAny _ A.in1 (pyNext (.ref I) >>= _) _ _ s
    have lt : i < n := by omega
    refine wpAny_bind (W.item i s _ _ lt st fun v s' hv st' m => ?_)
    obtain ⟨q, hq, rfl⟩ := val i v hv
    have k1 := on m k0
    have hS' : SetH kd s'.heap S L es ep t := hS.moved (fun o e => m.heap S o Sw e) fun q hq => kd.keep (mem q (List.mem_of_mem_take (c.old q hq))) (k1 _)
    have hx : kd.is s'.heap q.2 q.1 := kd.keep (mem q (List.mem_of_getElem? hq)) (k1 _)
    show wpAny _ A.in1 (holding [Value.ref q.1] (setAdd S (.ref q.1)) >>= _) _ _ s'
    refine wpAny_bind (wpAny_holding ?_)
    rw [setAdd]
    refine wpAny_holding (wpAny_bind (kd.hashed hu hx ?_))
    refine vYv (s := { s' with toks := s'.toks + kd.cost q.2 }) hS' hx hu (by have := c.le; omega) fun b h' L' es' ep' t' sb hS2 c1 c2 => ?_
    have k2 : ∀ b o, h0.get? b = some o → h'.get? b = some o := fun b o e => (sb.2 b fun z => by rw [z, S0] at e; cases e).trans (k1 b o e)
    refine wpAny_pure ⟨plainId_quiet F.plain_set_update_loop _, ih (i + 1) _ (by omega) lt (W.frame _ s' _ _ st' (Nat.le_add_right _ _) fun b hb o e => ?_) k2 ⟨L', es', ep', t', hS2, c.next hq c1 c2⟩ fun s'' L2 es2 ep2 t2 m2 hS3 c3 k3 => ?_⟩
    · exact (sb.2 b fun z => apart (z ▸ hb)).trans e
    · refine fin s'' L2 es2 ep2 t2 (Moved.trans W.gtrans ((m.mono wide).then_heap (Nat.le_add_right _ _) fun b o hb e => ?_) m2) hS3 c3 k3
      exact (sb.2 b fun z => hb (z ▸ .head _)).trans e
theorem xGh {l : Addr} {items : Array Value} (ks : List (Addr × K)) {Q : Value → Shared → Prop} (free : A.handled = none) (isL : s.heap.IsList l items) (hit : items.toList = ks.map fun q => Value.ref q.1) (mem : ∀ q ∈ ks, kd.is s.heap q.2 q.1) (few : ks.length < 64) (hu : A.units + 3 < cLine)
    (fin : ∀ (h1 : Heap) (tk : Nat) L es ep t, SetH kd h1 s.heap.objs.size L es ep t → Coll ks ks.length L → (∀ b o, s.heap.get? b = some o → h1.get? b = some o) → Q (.ref s.heap.objs.size) { s with heap := h1, toks := tk }) :
    wpAny (model P w) A (call (.type "set") [.ref l]) Q E s := by
  have size : items.size = ks.length := by simpa using congrArg List.length hit
  obtain ⟨cc, tl, g1⟩ := F.called_set.mro; have g2 := F.called_set.made; have g3 := F.called_set.sub
  refine wpAny_call (codeAny_of_tree ?_); show wpAny _ _ (callAny (.type "set") _) _ _ _
  refine wpAny_pure ⟨Code.quiet_builtin _ (by decide +kernel), codeAny_builtin F.entry_type_call ?_⟩; rw [Around.under_plain (weight_type_call_type "set" [.ref l] []) rfl]
  have g4 := F.called_set.notType; have g5 := F.called_set.canCreate; have g6 := F.typeCall_set_1 (.ref l)
  repeat (any_goals (first | assumption | wp_step))
  let S := s.heap.objs.size; let hS := s.heap.push (wH2 w)
  refine codeAny_mono (code_set_led1 (.ref l) (E := E) (Q₁ := fun o t => o = .ref S ∧ t = { s with heap := hS }) ⟨rfl, rfl⟩) fun r t hr => ?_
  match r, hr with
  | .error _, hr => exact hr
  | .ok .next, hr => exact hr.elim
  | .ok .brk, hr => exact hr.elim
  | .ok .cont, hr => exact hr.elim
  | .ok (.ret obj), hr =>
    obtain ⟨rfl, rfl⟩ := hr
    have at0 : hS.get? S = some (wH2 w) := Heap.get?_push_size _ rfl
    have isT : Shared.TypeIs { s with heap := hS } (.ref S) "set" := ⟨_, at0, rfl⟩
    have g7 := F.called_set.init.lookup; have g8 := F.called_set.init.bind (.ref S)
    repeat (any_goals (first | assumption | wp_step))
    refine codeAny_mono (codeAny_call_builtin (R := wants (fun r t => r = .none ∧ ∃ h1 tk L es ep tb, t = { s with heap := h1, toks := tk } ∧ SetH kd h1 S L es ep tb ∧ Coll ks ks.length L ∧ ∀ b o, s.heap.get? b = some o → h1.get? b = some o) E) F.called_set.init.plain F.entry_set_init (check_set_init_1 isT ?_)) fun r t hr => ?_
    · obtain ⟨⟨c1, d1, dt, sl⟩, hol, e1, nl, e2⟩ := id isL
      dsimp only at e1 e2; subst e1 e2
      have lS : l < S := Heap.lt_size hol
      have n1 := F.sub_list_set; have n2 := F.sub_list_frozenset; have n3 : (Value.type "list" == Value.type "dict") = false := by decide
      have hl1 : hS.IsList l items := ⟨_, Heap.get?_push_of_some _ hol, rfl, nl, rfl⟩
      have hol1 : hS.get? l = some { cls := .type "list", dict := d1, data := .seq items nl, slots := sl } := Heap.get?_push_of_some _ hol
      unfold Builtin.«set.__init__» noKeywords Builtin.Frozenset.updateFrom; generalize hPI : pyIter = PI
      wp_walk
      subst hPI; refine wpAny_pyIter_list hl1 (wpAny_bind (wpAny_runValue ?_))
      have zS : hS.objs.size = S + 1 := Heap.size_push ..
      have free3 : A.in1.in1.in1.handled = none := by simp [free]
      have n4 : l ≠ hS.objs.size := by rw [zS]; exact Nat.ne_of_lt (Nat.lt_succ_of_lt lS)
      have n5 : S ∉ [hS.objs.size, l] := by rw [zS]; simp only [List.mem_cons, List.not_mem_nil, or_false, not_or]; exact ⟨Nat.ne_of_lt (Nat.lt_succ_self _), Nat.ne_of_gt lS⟩
      have val : ∀ (i : Nat) (v : Value), items[i]? = some v → ∃ q, ks[i]? = some q ∧ v = .ref q.1 := fun i v hv => by
        rw [← Array.getElem?_toList, hit, List.getElem?_map] at hv
        cases e : ks[i]? with
        | none => rw [e] at hv; cases hv
        | some q => rw [e] at hv; exact ⟨q, rfl, (Option.some.inj hv).symm⟩
      have past : ∀ b, S ≤ b → s.heap.get? b = none := fun b hb => Heap.get?_none_of_le hb
      refine vKf ((Walks.list free3 _ l n4 items).toS) S n5 ks size few val s.heap mem (past _ (Nat.le_refl _)) (fun b hb => past b (by rw [List.mem_singleton.mp hb, zS]; exact Nat.le_succ _)) (by first | exact hu | (simp only [Around.in1_units] at *; omega) | omega) (items.size - 0) 0 _ (by omega) (Nat.zero_le _)
        ⟨⟨_, Heap.get?_push_size _ rfl, rfl, rfl⟩, (hl1.push _)⟩ (fun b o e => Heap.get?_push_of_some _ (Heap.get?_push_of_some _ e)) ⟨[], #[], 0, _, xHv kd (Heap.get?_push_of_some _ at0), ⟨fun q hq => (by cases hq), fun q hq => (by simp at hq), Nat.le_refl _⟩⟩ ?_
      rintro ⟨h1, g9, d9, tk, os⟩ L es ep tb hm hR hc hk
      obtain rfl : g9 = s.gens := hm.gens
      obtain rfl : d9 = s.drawn := hm.drawn
      obtain rfl : os = s.os := hm.os
      show wpAny _ _ _ _ _ _; refine wpAny_pure ?_; show wpAny _ _ (ret Value.none) _ _ _
      exact wpAny_pure ⟨rfl, h1, tk, L, es, ep, tb, rfl, hR, size ▸ hc, hk⟩
    · match r, hr with
      | .error _, hr => exact hr
      | .ok .next, hr => exact hr.elim
      | .ok .brk, hr => exact hr.elim
      | .ok .cont, hr => exact hr.elim
      | .ok (.ret r), hr =>
        obtain ⟨rfl, h1, tk, L, es, ep, tb, rfl, q1, q2, q3⟩ := hr
        repeat (any_goals (first | assumption | wp_step))
        exact fin _ _ _ _ _ _ q1 q2 q3
end
end Ev

namespace Ev
open PySem PySem.Spec PyProof.Rows L2
section
variable {P : Program} {w : World} {A : Around} {E : Value → Shared → Prop} {s : Shared}
abbrev PrK (P : Program) (w : World) (h : Heap) (p : Str × Str) (b : Addr) : Prop := IsTupleKey (PySem.strKind P w) h [p.1, p.2] b
theorem xVg {ks : List Str} {vs : List Value} (h : ItemsAre (PySem.strKind P w) ks vs) : ∀ v ∈ vs, ∃ x t, v = Value.str x t := by
  induction h with
  | nil => intro v hv; cases hv
  | cons h1 _ ih =>
    intro v hv
    cases hv with
    | head => obtain ⟨t, e⟩ := Value.isStrOf_shape h1; exact ⟨_, t, e⟩
    | tail _ hv => exact ih v hv
theorem xX8 (n : Nat) (x : Str) (t : Tok) : ofAClassStatement n (.str x t) = pure false := by cases n <;> rfl
theorem xGm (n : Nat) (x : Str) (t : Tok) : hashByValue n (.str x t) = pure false := by cases n <;> rfl
theorem yYv {p : Str × Str} {b : Addr} {Q : Bool → Shared → Prop} (x : PrK P w s.heap p b) (h : Q false s) : wpAny (model P w) A (ofAClassStatement 8 (.ref b)) Q E s := by
  have ty := x.typeIs
  obtain ⟨o, its, n, ho, _, hd, hi⟩ := x
  unfold ofAClassStatement
  refine wpAny_bind (wpAny_typeOf ty ?_)
  dsimp only
  simp only [show (("tuple" : String) == "tuple") = true by decide, if_true, Bool.not_true, Bool.false_eq_true, if_false]
  try refine wpAny_bind (wpAny_pure ?_)
  try simp only [Bool.not_true, Bool.false_eq_true, if_false]
  refine wpAny_bind (m := seqItems? (.ref b)) (wpAny_seqItems ho hd ?_)
  dsimp only
  refine wpAny_bind (m := forIn its _ _) ?_
  rw [← Array.forIn_toList]
  refine wpAny_forIn_list _ (fun rest r u => r.1 = none ∧ u = s ∧ ∀ v ∈ rest, ∃ x t, v = Value.str x t) _ ?_ ?_ _ _ ⟨rfl, rfl, xVg hi⟩
  · rintro v rest r u ⟨_, rfl, all⟩
    obtain ⟨x, t, rfl⟩ := all v (.head _)
    rw [xX8]
    refine wpAny_bind (wpAny_pure ?_); simp only [Bool.false_eq_true, if_false]
    exact wpAny_pure ⟨rfl, rfl, fun z hz => all z (.tail _ hz)⟩
  · rintro ⟨r1, r2⟩ u ⟨e, rfl, _⟩
    simp only at e
    subst e
    exact wpAny_pure h
theorem xYw {p : Str × Str} {b : Addr} {Q : Bool → Shared → Prop} (x : PrK P w s.heap p b) (h : ∀ v, Q v s) : wpAny (model P w) A (hashByValue 8 (.ref b)) Q E s := by
  have ty := x.typeIs
  obtain ⟨o, its, n, ho, _, hd, hi⟩ := x
  unfold hashByValue
  refine wpAny_bind (wpAny_specialOf ty F.slot_tuple_hash.lookup ?_)
  refine wpAny_bind (m := seqItems? (.ref b)) (wpAny_seqItems ho hd ?_)
  refine wpAny_bind (m := forIn its _ _) ?_
  rw [← Array.forIn_toList]
  refine wpAny_forIn_list _ (fun rest r u => r.1 = none ∧ u = s ∧ ∀ v ∈ rest, ∃ x t, v = Value.str x t) _ ?_ ?_ _ _ ⟨rfl, rfl, xVg hi⟩
  · rintro v rest r u ⟨_, rfl, all⟩
    obtain ⟨x, t, rfl⟩ := all v (.head _)
    rw [xGm]
    refine wpAny_bind (wpAny_pure ?_); simp only [Bool.not_false, if_true]
    exact wpAny_pure (show wpAny _ _ (pure false) _ _ _ from wpAny_pure (h _))
  · rintro ⟨r1, r2⟩ u ⟨e, rfl, _⟩
    simp only at e
    subst e
    exact wpAny_pure (h _)
theorem xK0 {p : Str × Str} {b : Addr} {ys : List Value} {Q : Bool → Shared → Prop} (x : PrK P w s.heap p b) (hy : ∀ y ∈ ys, ∃ p' c, y = Value.ref c ∧ PrK P w s.heap p' c) (h : Q false s) : wpAny (model P w) A (searchCouldBeSeen (.ref b) ys) Q E s := by
  unfold searchCouldBeSeen
  refine wpAny_bind ?_
  refine wpAny_forIn_list _ (fun rest r u => r.1 = none ∧ u = s ∧ ∀ y ∈ rest, ∃ p' c, y = Value.ref c ∧ PrK P w s.heap p' c) _ ?_ ?_ _ _ ⟨rfl, rfl, hy⟩
  · rintro v rest r u ⟨_, rfl, all⟩
    obtain ⟨p', c, rfl, hc⟩ := all v (.head _)
    have more : ∀ y ∈ rest, ∃ p' c, y = Value.ref c ∧ PrK P w u.heap p' c := fun z hz => all z (.tail _ hz)
    dsimp only
    by_cases z : (b == c || (carriedByValue (.ref b) && carriedByValue (.ref c))) = true
    · exact wp_if_pos z (wpAny_pure ⟨rfl, rfl, more⟩)
    · refine wp_if_neg z (wpAny_bind (wpAny_eqIsQuiet_tuple x ?_)); simp only [Bool.not_true, Bool.false_eq_true, if_false]
      refine wpAny_bind (wpAny_eqIsQuiet_tuple hc ?_); simp only [Bool.not_true, Bool.false_eq_true, if_false]
      refine wpAny_bind (yYv x ?_); simp only [Bool.false_eq_true, if_false]
      refine wpAny_bind (yYv hc ?_); simp only [Bool.false_eq_true, if_false]
      exact wpAny_pure ⟨rfl, rfl, more⟩
  · rintro ⟨r1, r2⟩ u ⟨e, rfl, _⟩
    simp only at e
    subst e
    exact wpAny_pure h
def xZb (P : Program) (w : World) : SKey P w (Str × Str) where
  is := PrK P w
  hash := fun p => tupleKeyHash (PySem.strKind P w) [p.1, p.2]
  cost := fun _ => 3
  one := fun {h x y b} hx hy => by
    have z := hx.inj hy
    obtain ⟨a, c⟩ := x
    obtain ⟨d, e⟩ := y
    simp only [List.cons.injEq, and_true] at z
    rw [z.1, z.2]
  keep := fun ⟨o, its, n, ho, r⟩ k => ⟨o, its, n, k o ho, r⟩
  noSet := fun ⟨o, its, n, ho, _, hd, _⟩ ho' hd' => by
    rw [ho] at ho'
    cases ho'
    rw [hd] at hd'
    exact nomatch hd'
  hashed := fun hu hx q => wpAny_pyHash_tuple hu hx q
  alike := fun {A E s x y b c Q} hu hx hy q => wpAny_eqBool_tuple hu hx hy (by
    have z : decide ([x.1, x.2] = [y.1, y.2]) = decide (x = y) := by
      obtain ⟨a, c⟩ := x
      obtain ⟨d, e⟩ := y
      simp
    rw [z]
    exact q)
  byVal := xYw
  unseen := xK0
end
def txt (x : Str) : List Nat := x.cps.toList
theorem wXw {x y : Str} (h : txt x = txt y) : x = y := by
  cases x; cases y
  exact congrArg Str.mk (Array.toList_inj.mp h)
def yVb (p q : Str × Str) : Bool := decide (txt p.1 < txt q.1) || (decide (p.1 = q.1) && decide (txt p.2 < txt q.2))
theorem yX7 {p q : Str × Str} : yVb p q = true ↔ txt p.1 < txt q.1 ∨ (p.1 = q.1 ∧ txt p.2 < txt q.2) := by simp [yVb]
theorem xW7 (x y : Str) : txt x < txt y ∨ x = y ∨ txt y < txt x := by
  by_cases h1 : txt x < txt y
  · exact .inl h1
  · by_cases h2 : txt y < txt x
    · exact .inr (.inr h2)
    · exact .inr (.inl (wXw (List.le_antisymm (List.not_lt.mp h2) (List.not_lt.mp h1))))
theorem yX6 {p q r : Str × Str} (h1 : yVb p q = true) (h2 : yVb q r = true) : yVb p r = true := by
  rw [yX7] at *
  rcases h1 with h1 | ⟨e1, h1⟩
  · rcases h2 with h2 | ⟨e2, h2⟩
    · exact .inl (List.lt_trans h1 h2)
    · exact .inl (e2 ▸ h1)
  · rcases h2 with h2 | ⟨e2, h2⟩
    · exact .inl (e1 ▸ h2)
    · exact .inr ⟨e1.trans e2, List.lt_trans h1 h2⟩
theorem yHs (p : Str × Str) : yVb p p = false := by
  cases h : yVb p p with
  | false => rfl
  | true =>
    rcases yX7.mp h with h | ⟨_, h⟩
    · exact absurd h (List.lt_irrefl _)
    · exact absurd h (List.lt_irrefl _)
theorem yHr (p q : Str × Str) : yVb p q = true ∨ p = q ∨ yVb q p = true := by
  rcases xW7 p.1 q.1 with h | h | h
  · exact .inl (yX7.mpr (.inl h))
  · rcases xW7 p.2 q.2 with k | k | k
    · exact .inl (yX7.mpr (.inr ⟨h, k⟩))
    · exact .inr (.inl (Prod.ext h k))
    · exact .inr (.inr (yX7.mpr (.inr ⟨h.symm, k⟩)))
  · exact .inr (.inr (yX7.mpr (.inl h)))
theorem xH1 {α : Type} (k : α → Str × Str) : SrtO.Swo fun v u => yVb (k v) (k u) := by
  refine ⟨fun x y h => ?_, fun x y z h1 h2 => ?_⟩
  · cases z : yVb (k y) (k x) with
    | false => rfl
    | true => exact absurd (yX6 h z) (by rw [yHs]; decide)
  · cases g : yVb (k z) (k x) with
    | false => rfl
    | true =>
      rcases yHr (k y) (k z) with e | e | e
      · rw [yX6 e g] at h1; cases h1
      · rw [e, g] at h1; cases h1
      · rw [e] at h2; cases h2
def yKj (x : Str × Str) : List (Str × Str) → List (Str × Str)
  | [] => [x]
  | y :: ys => if yVb x y then x :: y :: ys else if x = y then y :: ys else y :: yKj x ys
def zG4 (ps : List (Str × Str)) : List (Str × Str) := ps.foldr yKj []
theorem yY8 {x k : Str × Str} : ∀ {ys : List (Str × Str)}, k ∈ yKj x ys ↔ k = x ∨ k ∈ ys
  | [] => by simp [yKj]
  | y :: ys => by
    rw [yKj]
    split
    · simp
    · split
      · rename_i e; subst e; simp
      · rw [List.mem_cons, yY8 (ys := ys), List.mem_cons]
        constructor
        · rintro (h | h | h)
          · exact .inr (.inl h)
          · exact .inl h
          · exact .inr (.inr h)
        · rintro (h | h | h)
          · exact .inr (.inl h)
          · exact .inl h
          · exact .inr (.inr h)
@[simp] theorem yK4 {k : Str × Str} : ∀ {ps : List (Str × Str)}, k ∈ zG4 ps ↔ k ∈ ps
  | [] => by simp [zG4]
  | p :: ps => by
    show k ∈ yKj p (zG4 ps) ↔ _
    rw [yY8, yK4, List.mem_cons]
theorem xQt {x : Str × Str} : ∀ {ys : List (Str × Str)}, ys.Pairwise (fun p q => yVb p q = true) → (yKj x ys).Pairwise fun p q => yVb p q = true
  | [], _ => by simp [yKj]
  | y :: ys, h => by
    have ⟨h1, h2⟩ := List.pairwise_cons.mp h
    rw [yKj]
    split
    · rename_i e
      refine List.pairwise_cons.mpr ⟨fun z hz => ?_, h⟩
      rcases List.mem_cons.mp hz with q | q
      · rw [q]; exact e
      · exact yX6 e (h1 z q)
    · split
      · exact h
      · rename_i e1 e2
        refine List.pairwise_cons.mpr ⟨fun z hz => ?_, xQt h2⟩
        rcases yY8.mp hz with q | q
        · rcases yHr x y with t | t | t
          · exact absurd t e1
          · exact absurd t e2
          · rw [q]; exact t
        · exact h1 z q
theorem yGi : ∀ ps : List (Str × Str), (zG4 ps).Pairwise fun p q => yVb p q = true
  | [] => .nil
  | p :: ps => xQt (yGi ps)
theorem xKi : ∀ {ps qs : List (Str × Str)}, ps.Pairwise (fun p q => yVb p q = true) → qs.Pairwise (fun p q => yVb p q = true) → (∀ k, k ∈ ps ↔ k ∈ qs) → ps = qs
  | [], [], _, _, _ => rfl
  | [], q :: qs, _, _, h => by simpa using (h q).mpr (by simp)
  | p :: ps, [], _, _, h => by simpa using (h p).mp (by simp)
  | p :: ps, q :: qs, h1, h2, h => by
    have ⟨a1, b1⟩ := List.pairwise_cons.mp h1
    have ⟨a2, b2⟩ := List.pairwise_cons.mp h2
    have no : ∀ x : Str × Str, ¬ yVb x x = true := fun x => by rw [yHs]; decide
    have e : p = q := by
      rcases List.mem_cons.mp ((h p).mp (.head _)) with z | z
      · exact z
      · rcases List.mem_cons.mp ((h q).mpr (.head _)) with y | y
        · exact y.symm
        · exact absurd (yX6 (a2 _ z) (a1 _ y)) (no q)
    subst e
    rw [xKi b1 b2 fun k => ⟨fun hk => ?_, fun hk => ?_⟩]
    · rcases List.mem_cons.mp ((h k).mp (.tail _ hk)) with z | z
      · rw [z] at hk; exact absurd (a1 p hk) (no p)
      · exact z
    · rcases List.mem_cons.mp ((h k).mpr (.tail _ hk)) with z | z
      · rw [z] at hk; exact absurd (a2 p hk) (no p)
      · exact z
theorem xKn {ps qs : List (Str × Str)} (g : qs.Pairwise fun p q => yVb p q = true) (h : ∀ k, k ∈ qs ↔ k ∈ ps) : qs = zG4 ps := xKi g (yGi ps) fun k => (h k).trans yK4.symm
end Ev

namespace Ev
open PySem PySem.Spec PyProof.Rows L2
section
variable {P : Program} {w : World} {A : Around} {E : Value → Shared → Prop} {s : Shared}
def yXv (h : Heap) (v : Value) (p : Str × Str) : Prop := ∃ a o t u n, v = .ref a ∧ h.get? a = some o ∧ o.cls = .type "tuple" ∧ o.data = .seq #[.str p.1 t, .str p.2 u] n
theorem yXv.of {h : Heap} {p : Str × Str} {b : Addr} (x : PrK P w h p b) : yXv h (.ref b) p := by
  obtain ⟨o, its, n, ho, hc, hd, hi⟩ := x
  obtain ⟨l⟩ := its
  cases hi with
  | cons h1 r =>
    cases r with
    | cons h2 r =>
      cases r
      obtain ⟨t, rfl⟩ := Value.isStrOf_shape h1
      obtain ⟨u, rfl⟩ := Value.isStrOf_shape h2
      exact ⟨b, o, t, u, n, rfl, ho, hc, hd⟩
theorem yXv.keep {h h' : Heap} {v : Value} {p : Str × Str} (x : yXv h v p) (k : ∀ b o, h.get? b = some o → o.cls = .type "tuple" → h'.get? b = some o) : yXv h' v p := by
  obtain ⟨a, o, t, u, n, e, ho, hc, hd⟩ := x
  exact ⟨a, o, t, u, n, e, k a o ho hc, hc, hd⟩
theorem xYx (x a b : Str) : yVb (x, a) (x, b) = decide (txt a < txt b) := by
  show (decide (txt x < txt x) || (decide (x = x) && decide (txt a < txt b))) = _
  rw [decide_eq_false (List.lt_irrefl (txt x)), decide_eq_true (rfl : x = x), Bool.true_and, Bool.false_or]
theorem xYy {x y : Str} (ne : ¬ x = y) (a b : Str) : yVb (x, a) (y, b) = decide (txt x < txt y) := by
  show (decide (txt x < txt y) || (decide (x = y) && decide (txt a < txt b))) = _
  rw [decide_eq_false ne, Bool.false_and, Bool.or_false]
theorem wWg {vs : List Value} {k : Value → Str × Str} (hp : ∀ v ∈ vs, yXv s.heap v (k v)) : SrtO.Cmp P w A s (tuples' true) (fun p => p.1 ∈ vs) (SrtO.lt2 fun v u => yVb (k v) (k u)) := by
  intro p q m1 m2
  have g1 := hp _ m1
  have g2 := hp _ m2
  show wpAny (model P w) A (keyLt' (tuples' true) p.1 q.1) (fun r s' => s' = s ∧ r = yVb (k p.1) (k q.1)) (fun _ _ => False) s
  generalize k p.1 = x at g1 ⊢
  generalize k q.1 = y at g2 ⊢
  obtain ⟨x1, x2⟩ := x
  obtain ⟨y1, y2⟩ := y
  obtain ⟨a, o, t, u, n, e, ho, _, hd⟩ := g1
  obtain ⟨a', o', t', u', n', e', ho', _, hd'⟩ := g2
  rw [e, e']
  refine PySem.W.kat_lt ho hd ho' hd' ?_
  show PySem.W.KatLex P w A true (decide (2 < 2)) _ [(.str x1 t, .str y1 t'), (.str x2 u, .str y2 u')] 0 s
  refine PySem.W.kat_cons (wpAny_eqBool_str ?_)
  refine PySem.W.kat_go (fun e1 => ?_) (fun e1 => ?_)
  · obtain rfl : x1 = y1 := by simpa using e1
    refine PySem.W.kat_yes (PySem.W.kat_cons (wpAny_eqBool_str ?_))
    refine PySem.W.kat_go (fun e2 => ?_) (fun e2 => ?_)
    · obtain rfl : x2 = y2 := by simpa using e2
      exact PySem.W.kat_yes (PySem.W.kat_nil ⟨rfl, by rw [yHs]; rfl⟩)
    · refine PySem.W.kat_no (PySem.W.kat_one _ _ (PyProof.Rows.lt_str ?_))
      exact (show s = s ∧ decide (x2.cps.toList < y2.cps.toList) = yVb (x1, x2) (x1, y2) from ⟨rfl, (xYx ..).symm⟩)
  · have ne : ¬ x1 = y1 := by simpa using e1
    exact PySem.W.kat_no (oneLt_str ⟨rfl, (xYy ne ..).symm⟩)
theorem xZa {h : Heap} : ∀ {vs : List Value}, (∀ v ∈ vs, ∃ p, yXv h v p) → ∃ fs, PySem.W.KatTups h vs fs ∧ fs.length = vs.length ∧ ∀ f ∈ fs, ∃ x t, f = Value.str x t
  | [], _ => ⟨[], .nil, rfl, fun _ z => nomatch z⟩
  | v :: vs, hp => by
    obtain ⟨fs, h1, h2, h3⟩ := xZa (vs := vs) fun u hu => hp u (.tail _ hu)
    obtain ⟨p, a, o, t, u, n, rfl, ho, hc, hd⟩ := hp v (.head _)
    refine ⟨.str p.1 t :: fs, PySem.W.KatTups.cons ho hc hd rfl h1, congrArg Nat.succ h2, fun f hf => ?_⟩
    cases hf with
    | head => exact ⟨_, _, rfl⟩
    | tail _ hf => exact h3 f hf
theorem xX2 {a : Addr} {vs : List Value} {k : Value → Str × Str} (h0 : 0 < vs.length) (hp : ∀ v ∈ vs, yXv s.heap v (k v)) (ha : ∀ o, s.heap.get? a = some o → o.cls ≠ .type "tuple") : SrtO.SortableO P w A s a vs fun v u => yVb (k v) (k u) := by
  intro h' kp
  have hp' : ∀ v ∈ vs, yXv h' v (k v) := fun v hv => (hp v hv).keep fun b o e c => kp b o (fun z => by subst z; exact ha o e c) e
  obtain ⟨fs, h1, h2, h3⟩ := xZa fun v hv => ⟨_, hp' v hv⟩
  refine ⟨tuples' true, fun Q E hq => PySem.W.kat_kind (T := .type "str") h1 (by omega) (fun f hf => ?_) (by rfl) ?_, wWg hp'⟩
  · obtain ⟨x, t, rfl⟩ := h3 f hf
    exact PySem.W.Looks.now
  · rw [show (Value.type "str" != Value.type "tuple") = true by first | decide +kernel | rfl | decide]
    exact hq
def adV : Value → Addr
  | .ref a => a
  | _ => 0
def kAt (L : List (Addr × (Str × Str))) (v : Value) : Str × Str := ((L.find? fun q => q.1 == adV v).map Prod.snd).getD ("", "")
theorem wZ6 {L : List (Addr × (Str × Str))} (one : ∀ q ∈ L, ∀ r ∈ L, q.1 = r.1 → q.2 = r.2) {q : Addr × (Str × Str)} (hq : q ∈ L) : kAt L (.ref q.1) = q.2 := by
  show ((L.find? fun r => r.1 == q.1).map Prod.snd).getD ("", "") = q.2
  cases e : L.find? fun r => r.1 == q.1 with
  | none => exact absurd (List.find?_eq_none.mp e q hq) (by simp)
  | some r =>
    have z := List.find?_some e
    exact one r (List.mem_of_find?_eq_some e) q hq (by simpa using z)
theorem xXp {a : Addr} {L : List (Addr × (Str × Str))} {es : Array (Int × Value)} {ep : Nat} {t : SetTable} {Q : Value → Shared → Prop} (R : SetH (xZb P w) s.heap a L es ep t) (free : A.handled = none)
    (fin : ∀ s' p (out : Array Value) (c : Nat) (L' : List (Addr × (Str × Str))), (∀ b o, s.heap.get? b = some o → s'.heap.get? b = some o) → s'.gens = s.gens → s'.os = s.os → s.heap.objs.size ≤ p → s'.heap.get? p = some (seqObj "list" out c) →
      out.toList = L'.map (fun q => Value.ref q.1) → L'.Perm L → L'.Pairwise (fun q r => yVb q.2 r.2 = true) → Q (.ref p) s') : wpAny (model P w) A (call (.builtin "sorted") [.ref a]) Q E s := by
  obtain ⟨o, ho, hex, hd⟩ := R.here
  have cnt := R.count
  have few := R.small
  have one : ∀ q ∈ L, ∀ r ∈ L, q.1 = r.1 → q.2 = r.2 := fun q hq r hr e => (xZb P w).one (e ▸ R.mem q hq) (R.mem r hr)
  refine Calls.call_function_entry kind_sorted plain_sorted entry_sorted (args_sorted1 _) ?_
  unfold Builtin.«sorted»
  refine wpAny_bind (m := checkCount "sorted" 1 1 _) (wpAny_pure ?_)
  refine wpAny_bind (collect_set (A := A.in1) free ⟨o, ho, hex.1, hd⟩ R.holds (by unfold scanBound; omega) R.tb.ris R.ldd fun s1 vs k1 hz g1 o1 pm => ?_)
  have rows : es.toList.map (·.2) = L.map fun q => Value.ref q.1 := by rw [R.ent, zU0, List.map_map]; rfl
  rw [rows] at pm
  have fromL : ∀ v ∈ vs, ∃ q ∈ L, Value.ref q.1 = v := fun v hv => List.mem_map.mp (pm.mem_iff.mp hv)
  have small : vs.length < 64 := by rw [pm.length_eq, List.length_map]; exact few
  have line : vs.length ≤ sizeLine := by have := sizeLine_eq; omega
  refine wpAny_bind (wpAny_newList ?_ line)
  have hoL : (s1.heap.push (seqObj "list" vs.toArray 0)).get? s1.heap.objs.size = some (seqObj "list" vs.toArray 0) := Heap.get?_push_size _ rfl
  have hp : ∀ v ∈ vs, yXv (s1.heap.push (seqObj "list" vs.toArray 0)) v (kAt L v) := fun v hv => by
    obtain ⟨q, hq, rfl⟩ := fromL v hv
    rw [wZ6 one hq]
    exact yXv.of (P := P) (w := w) ((xZb P w).keep (R.mem q hq) fun u e => Heap.get?_push_of_some _ (k1 _ u e))
  refine wpAny_bind (wpAny_holding (wpAny_call_entry (s := { s1 with heap := s1.heap.push (seqObj "list" vs.toArray 0) }) slot_list_sort ⟨_, hoL, rfl⟩ entry_list_sort (SrtO.list_sort_ord (xH1 (kAt L)) hoL line (fun h2 => xX2 (by omega) hp fun o' e c => ?_) fun out a1 a2 => ⟨_, rfl, ?_⟩) (args_list_sort _)))
  · rw [hoL] at e
    cases e
    exact absurd (Value.type.inj c) (by decide)
  obtain ⟨c, hc⟩ := sortedHeap_at (vs := vs) (out := out.toArray) hoL
  have pm2 : out.Perm (L.map fun q => Value.ref q.1) := a2.perm.trans pm
  have refs : ∀ v ∈ out, Value.ref (adV v) = v := fun v hv => by
    obtain ⟨q, _, rfl⟩ := List.mem_map.mp (pm2.mem_iff.mp hv)
    rfl
  have e1 : out = (out.map fun v => (adV v, kAt L v)).map fun q => Value.ref q.1 := by
    have z : out.map (fun v => Value.ref (adV v)) = out.map fun v => v := List.map_congr_left refs
    rw [List.map_map]
    exact (z.trans (List.map_id' out)).symm
  have pL : (out.map fun v => (adV v, kAt L v)).Perm L := by
    have z := pm2.map fun v => (adV v, kAt L v)
    rw [List.map_map] at z
    have y : L.map ((fun v => (adV v, kAt L v)) ∘ fun q => Value.ref q.1) = L := by
      have x : L.map ((fun v => (adV v, kAt L v)) ∘ fun q => Value.ref q.1) = L.map fun q => q := List.map_congr_left fun q hq => Prod.ext rfl (wZ6 one hq)
      rw [x, List.map_id']
    rwa [y] at z
  have asc : (out.map fun v => (adV v, kAt L v)).Pairwise fun q r => yVb q.2 r.2 = true := by
    have z1 : (out.map fun v => (adV v, kAt L v)).Pairwise fun q r => yVb r.2 q.2 = false := List.pairwise_map.mpr a1
    have z2 : (out.map fun v => (adV v, kAt L v)).Pairwise fun q r => q.2 ≠ r.2 := List.pairwise_map.mp ((pL.map Prod.snd).nodup_iff.mpr R.ones)
    refine (z1.and z2).imp fun {q r} h => ?_
    rcases yHr q.2 r.2 with g | g | g
    · exact g
    · exact absurd g h.2
    · rw [h.1] at g; cases g
  refine wpAny_pure ⟨_, rfl, fin _ s1.heap.objs.size out.toArray c _ (fun b u e => ?_) g1 o1 hz hc (by simpa using e1) pL asc⟩
  have q := k1 b u e
  have lt := Heap.lt_size q
  show (sortedHeap (s1.heap.push (seqObj "list" vs.toArray 0)) s1.heap.objs.size vs out.toArray).get? b = some u
  rw [sortedHeap_old (Nat.ne_of_lt lt) (by rw [size_push']; exact Nat.lt_succ_of_lt lt)]
  exact Heap.get?_push_of_some _ q
end
end Ev

namespace Ev
open PySem PySem.Spec PyProof.Rows L2
section
variable {P : Program} {w : World}
def wZc (kd : SKey P w (Str × Str)) (h : Heap) (a : Addr) (L : List (Addr × (Str × Str))) : Prop := ∃ (es : Array (Int × Value)) (ep : Nat) (t : SetTable), (∃ o, h.get? a = some o ∧ o.ExactSet ∧ o.data = .set es ep t) ∧ es.toList = zU0 kd L ∧ TabOk t (xQz kd L) ∧ (L.map Prod.snd).Nodup ∧
  (w.params.followText "set-order" = true ∨ t.led = true) ∧ 5 * L.length < 3 * t.mask ∧ L.length < 64
def xWq (P : Program) (w : World) (a : Addr) (L : List (Addr × (Str × Str))) : HO := .ext fun h => wZc (xZb P w) h a L
theorem wZc.of {kd : SKey P w (Str × Str)} {h : Heap} {a : Addr} {L : List (Addr × (Str × Str))} {es : Array (Int × Value)} {ep : Nat} {t : SetTable} (R : SetH kd h a L es ep t) : wZc kd h a L := ⟨es, ep, t, R.here, R.ent, R.tb, R.ones, R.ldd, R.gap, R.small⟩
theorem wZc.full {kd : SKey P w (Str × Str)} {h : Heap} {a : Addr} {L : List (Addr × (Str × Str))} (R : wZc kd h a L) (m : ∀ q ∈ L, kd.is h q.2 q.1) : ∃ es ep t, SetH kd h a L es ep t := by
  obtain ⟨es, ep, t, h1, h2, h3, h4, h5, h6, h7⟩ := R
  exact ⟨es, ep, t, h1, h2, h3, h4, m, h5, h6, h7⟩
theorem xHu {H : Hp} {h : Heap} {a : Addr} {L : List (Addr × (Str × Str))} (R : wZc (xZb P w) h a L) : ObjOk P w H h a (xWq P w a L) := by
  have ⟨es, ep, t, ⟨o, ho, _⟩, _⟩ := R
  refine ⟨R, ⟨o, ho⟩, fun h1 h2 x k => ?_⟩
  have ⟨es', ep', t', ⟨o', ho', r⟩, q⟩ := (show wZc (xZb P w) h1 a L from x)
  exact ⟨es', ep', t', ⟨o', k o' ho', r⟩, q⟩
def prV (p : Str × Str) : List V := [.str p.1, .str p.2]
end
section
variable {X : Cx} {B : XBt} {e : Expr} {pos p p2 pos2 : Pos} {f : Pg EV}
theorem xUq {pins : List (Addr × Obj)} {σ : L2.St} {H : Hp} {s : Shared} {b : Addr} {k : Str × Str} (I : L2.Inv X pins σ H s) (h : SqT X.K H b (prV k)) : PrK X.prog X.w s.heap k b := by
  obtain ⟨its, r, ⟨o, ho, hc, n, hd⟩, _⟩ := I.tuple h
  refine ⟨o, its.toArray, n, ho, hc, hd, ?_⟩
  cases r with
  | cons r1 r =>
    cases r with
    | cons r2 r =>
      cases r
      obtain ⟨t, rfl⟩ := r1
      obtain ⟨u, rfl⟩ := r2
      exact .cons (PySem.strKind_is _ _ _ _) (.cons (PySem.strKind_is _ _ _ _) .nil)
theorem xVc : ∀ {ks : List (Addr × (Str × Str))} {us : List Value}, Vals (ks.map fun q => V.ref q.1) us → us = ks.map fun q => Value.ref q.1
  | [], _, .nil => rfl
  | q :: ks, _, .cons r t => by
    cases r
    rw [xVc t]
    rfl
theorem xJw : ∀ ks : List (Addr × (Str × Str)), Vals (ks.map fun q => V.ref q.1) (ks.map fun q => Value.ref q.1)
  | [] => .nil
  | _ :: ks => .cons rfl (xJw ks)
def wJm (K : PySem.W.Frag) (P : Program) (w : World) : List V → Hp → VK → Prop := fun xs H Q => ∃ (l : Addr) (ks : List (Addr × (Str × Str))), xs = [V.ref l] ∧ SqL K H l (ks.map fun q => V.ref q.1) ∧ (∀ q ∈ ks, SqT K H q.1 (prV q.2)) ∧ ks.length < 64 ∧
  ∀ a L, H a = none → (∀ q ∈ L, q ∈ ks) → (∀ q ∈ ks, q.2 ∈ L.map Prod.snd) → Q (.ref a) (upd H a (xWq P w a L))
theorem xGb (hc : X.calm = true) (hu : X.A.units + 64 < cLine) : CallR X (.type "set") (wJm X.K X.prog X.w) := by
  intro pins s σ H xs us Q I r ⟨l, ks, ex, hl, hk, hf, q⟩
  subst ex
  rw [Vals.ref1 r]
  obtain ⟨its, rv, pl, _⟩ := I.list hl
  refine xGh (kd := xZb X.prog X.w) ks (I.ok.hd hc) pl.isList (by simpa using xVc rv) (fun u hu' => xUq I (hk u hu')) hf (by omega) fun h1 tk L es ep t R c k => ?_
  refine ⟨.ref s.heap.objs.size, upd H s.heap.objs.size (xWq X.prog X.w s.heap.objs.size L), I.laid (t' := tk) k (Nat.le_refl _) (xHu (wZc.of R)), rfl, q _ L (I.hok.fresh (Nat.le_refl _)) (fun u hu' => List.mem_of_mem_take (c.old u hu')) fun u hu' => c.keys u (by rw [List.take_length]; exact hu')⟩
def rSortedP (K : PySem.W.Frag) (P : Program) (w : World) : List V → Hp → VK → Prop := fun xs H Q => ∃ (a : Addr) (L : List (Addr × (Str × Str))), xs = [V.ref a] ∧ H a = some (xWq P w a L) ∧ (∀ q ∈ L, SqT K H q.1 (prV q.2)) ∧
  ∀ (L' : List (Addr × (Str × Str))) (p : Addr), L'.Perm L → L'.Pairwise (fun q r => yVb q.2 r.2 = true) → H p = none → Q (.ref p) (upd H p (.lst (L'.map fun q => V.ref q.1)))
theorem cr_sortedP (hc : X.calm = true) : CallR X (.builtin "sorted") (rSortedP X.K X.prog X.w) := by
  intro pins s σ H xs us Q I r ⟨a, L, ex, ha, hk, q⟩
  subst ex
  have S : wZc (xZb X.prog X.w) s.heap a L := (I.hok a _ ha).1
  obtain ⟨es, ep, t, R⟩ := S.full fun u hu => xUq I (hk u hu)
  rw [Vals.ref1 r]
  refine xXp R (I.ok.hd hc) fun s' p out c L' k g o hp hg hout pm asc => ?_
  have hn : H p = none := I.hok.fresh hp
  have len : (L'.map fun q => V.ref q.1).length ≤ sizeLine := by
    have := sizeLine_eq
    have := R.small
    rw [List.length_map, pm.length_eq]
    omega
  have hv : Vals (L'.map fun q => V.ref q.1) out.toList := by rw [hout]; exact xJw L'
  have J : Inv X pins σ (upd H p (.lst (L'.map fun q => V.ref q.1))) { s with heap := s'.heap, gens := s'.gens, drawn := s'.drawn, toks := s'.toks } :=
    I.call (ch := []) (Un.laid k hp hn) (I.hok.laid k hp ⟨len, out.toList, c, hv, hg⟩) (by rw [g]; exact I.bare) fun _ z => nomatch z
  have es' : s' = { s with heap := s'.heap, gens := s'.gens, drawn := s'.drawn, toks := s'.toks } := by
    cases s'
    cases s
    cases o
    rfl
  rw [es']
  exact ⟨.ref p, _, J, rfl, q L' p pm asc hn⟩
def prD (p : Str × Str) : PyData := .tuple [.str p.1, .str p.2]
def pairsOf : List PyData → Option (List (Str × Str))
  | [] => some []
  | .tuple [.str a, .str b] :: ds => (pairsOf ds).map ((a, b) :: ·)
  | _ => none
theorem yGr : ∀ {ds : List PyData} {ps : List (Str × Str)}, pairsOf ds = some ps → ds = ps.map prD
  | [], ps, h => by
    obtain rfl : [] = ps := Option.some.inj h
    rfl
  | d :: ds, ps, h => by
    unfold pairsOf at h
    split at h
    · rename_i h'; cases h'
    · rename_i a b ds' e
      obtain ⟨rfl, rfl⟩ := List.cons.inj e
      obtain ⟨qs, h1, rfl⟩ := Option.map_eq_some_iff.mp h
      rw [yGr h1]
      rfl
    · cases h
@[simp] theorem yYx : ∀ ps : List (Str × Str), pairsOf (ps.map prD) = some ps
  | [] => rfl
  | (a, b) :: ps => by
    show (pairsOf (ps.map prD)).map ((a, b) :: ·) = _
    rw [yYx ps]
    rfl
theorem xVi {K : PySem.W.Frag} {F : Hp} : ∀ {ps : List (Str × Str)} {vs : List V}, RA K F (ps.map prD) vs → ∃ ks : List (Addr × (Str × Str)), vs = ks.map (fun q => V.ref q.1) ∧ ks.map Prod.snd = ps ∧ ∀ q ∈ ks, SqT K F q.1 (prV q.2) ∧ R K F (prD q.2) (.ref q.1)
  | [], _, .nil => ⟨[], rfl, rfl, fun _ z => nomatch z⟩
  | p :: ps, _, .cons (v := v) h t => by
    obtain ⟨ks, h1, h2, h3⟩ := xVi t
    have h' := h
    cases h' with
    | tup sq ra =>
      rename_i a us
      refine ⟨(a, p) :: ks, by rw [h1]; rfl, by rw [List.map_cons, h2], fun q hq => ?_⟩
      cases hq with
      | tail _ hq => exact h3 q hq
      | head =>
        cases ra with
        | cons r1 ra =>
          cases ra with
          | cons r2 ra =>
            cases ra
            cases r1
            cases r2
            exact ⟨sq, h⟩
theorem wWb {K : PySem.W.Frag} {F : Hp} : ∀ {L : List (Addr × (Str × Str))}, (∀ q ∈ L, R K F (prD q.2) (.ref q.1)) → RA K F ((L.map Prod.snd).map prD) (L.map fun q => V.ref q.1)
  | [], _ => .nil
  | q :: L, h => .cons (h q (.head _)) (wWb fun r hr => h r (.tail _ hr))
def xYi : PyData → Option EV
  | .list xs => match pairsOf xs with
    | some ps => if ps.length < 64 then some (.fresh ((zG4 ps).map prD)) else none
    | none => none
  | _ => none
def yKe (f : Pg EV) : Pg EV := .bind f fun v => look (zHc v) fun x => zKz (xYi x)
theorem xXq {y z : Str} (C : Ctx X B) (h : Snd X B e f) (hg : Gl X y) (hm : X.mg y = none) (hv : bootBuiltins y = some (.builtin "sorted")) (hg2 : Gl X z) (hm2 : X.mg z = none) (hv2 : bootBuiltins z = some (.type "set"))
    (hn : y ≠ "__name__" := by decide) (hdb : (y == ("__debug__" : Str)) = false := by decide) (hn2 : z ≠ "__name__" := by decide) (hdb2 : (z == ("__debug__" : Str)) = false := by decide)
    (he : starEach [e] X.env = (false, eval e X.env) :: starEach [] X.env := by rfl) (he2 : starEach [.Call (.Name z p2) [e] [] pos2] X.env = (false, eval (.Call (.Name z p2) [e] [] pos2) X.env) :: starEach [] X.env := by rfl) :
    Snd X B (.Call (.Name y p) [.Call (.Name z p2) [e] [] pos2] [] pos) (yKe f) := by
  intro w Q r hw
  refine zUx (pe_callB (cr_sortedP C.calm) hg hm hv (pa_cons (pe_callTy (xGb C.calm C.u64) hg2 hm2 hv2 (pa_cons zHk pa_nil he) hn2 hdb2 he rfl) pa_nil he2) hn hdb he2 rfl) ?_
  refine zQ0 h r hw fun v w1 y e1 f1 r1 re h1 => ?_
  obtain ⟨x, ex, h1⟩ := zJe h1
  have ro := (re.ro r1).rn r1 ex
  obtain ⟨u, eu, q⟩ := zXn h1
  have k := zYh.keep q e1 f1
  cases x with
  | list xs =>
    obtain ⟨a, vs, rfl, hl, ra⟩ := ro.lst r1.sub
    have eu : (match pairsOf xs with
      | some ps => if ps.length < 64 then some (EV.fresh ((zG4 ps).map prD)) else none
      | none => none) = some u := eu
    cases ei : pairsOf xs with
    | none => rw [ei] at eu; cases eu
    | some ps =>
      rw [ei] at eu
      have eu : (if ps.length < 64 then some (EV.fresh ((zG4 ps).map prD)) else none) = some u := eu
      split at eu
      · rename_i few
        cases eu
        rw [yGr ei] at ra
        obtain ⟨ks, rfl, hks, all⟩ := xVi ra
        refine ⟨a, ks, rfl, hl.sq, fun q hq => zZ7 r1.sub (all q hq).1, by rw [← List.length_map (f := Prod.snd), hks]; exact few, fun b L hb sub keys => ?_⟩
        obtain ⟨r2, f2⟩ := lay r1 hb (xWq X.prog X.w b L)
        refine ⟨b, L, rfl, upd_same, fun q hq => zZ7 r2.sub (all q (sub q hq)).1, fun L' p pm asc hp => ?_⟩
        have mem : L'.map Prod.snd = zG4 ps := xKn (List.pairwise_map.mpr asc) fun y => by
          rw [(pm.map Prod.snd).mem_iff, ← hks]
          constructor
          · intro z
            obtain ⟨q, hq, rfl⟩ := List.mem_map.mp z
            exact List.mem_map.mpr ⟨q, sub q hq, rfl⟩
          · intro z
            obtain ⟨q, hq, rfl⟩ := List.mem_map.mp z
            exact keys q hq
        have k2 : xG1 X.K { w1 with H := upd w1.H b (xWq X.prog X.w b L) } (.fresh ((zG4 ps).map prD)) Q := fun w' x em es f3 r3 re hn => k w' x em es (f2.trans f3) r3 re (hn.back f2)
        rw [← mem] at k2
        exact k2.lst r2 (wWb fun q hq => (all q (sub q (pm.mem_iff.mp hq))).2) hp
      · cases eu
  | _ => cases eu
end
section
variable {m : Mem} {X : Exn → Mem → Prop} {E : EV → Mem → Prop}
@[simp] theorem wYv {f : Pg EV} : W (yKe f) m X E ↔ W f m X fun v m1 => W (look (zHc v) fun x => zKz (xYi x)) m1 X E := by
  unfold yKe
  simp only [zQ8]
@[simp] theorem wJb {ps : List (Str × Str)} : xYi (.list (ps.map prD)) = if ps.length < 64 then some (.fresh ((zG4 ps).map prD)) else none := by
  simp only [xYi, yYx]
end
end Ev

namespace Ev
open PySem PySem.Spec PyProof.Rows L2
def wUf (i : Nat) : EV → Pg Fl
  | .d (.int n) => fun m => match m.sl[i]? with
    | some (some (.ob (.lst xs))) => if 0 ≤ n ∧ n < 9223372036854775808 ∧ n.toNat < xs.length then .ok .next (setM m i (.ob (.lst (xs.eraseIdx n.toNat)))) else .bad
    | _ => .bad
  | _ => .stuck
def xV8 (i : Nat) (f : Pg EV) : Pg Fl := .bind (xZy i) fun _ => .bind f fun v => wUf i v
section
variable {X : Cx} {B : XBt} {e : Expr} {pos : Pos} {f : Pg EV}
theorem xHr {x : Str} {p1 p2 p3 : Pos} (i : Nat) (hi : X.N[i]? = some x) (hv : Vis X.env.scope x) (he : Snd X B e f)
    (hd : (x == ("__debug__" : Str)) = false := by decide) (hcd : (x == ("__classdict__" : Str)) = false := by decide)
    (hbase : attributeBase (.Name x p1) "pop" X.env (eval (.Name x p1) X.env) = eval (.Name x p1) X.env := by rfl)
    (hfew : ((backTo p3 (starEach [e] X.env)).all (fun x => !x.1) && (backToKw p3 (keywordEach [] X.env)).all (fun x => x.1.isSome) && decide ([e].length + ([] : List Keyword).length + (if ([] : List Keyword).isEmpty then 0 else 1) < 30)) = true := by rfl)
    (hline : (p2.endLine == p3.line) = true := by rfl) (hst : starEach [e] X.env = (false, eval e X.env) :: starEach [] X.env := by rfl) :
    xXi X B (.Expr (.Call (.Attribute (.Name x p1) "pop" p2) [e] [] p3) pos) (xV8 i f) := by
  intro w D r hw
  refine yJz (ps_expr (pe_bm PySem.F.plainAttrs_list PySem.F.slot_list_pop PySem.F.type_list_pop mt_popAt (pe_var hi hv hd hcd) (pa_cons zHk pa_nil hst) hbase hfew hline hst rfl) rfl) ?_
  obtain ⟨us, o1, hw⟩ := xVy (wp_bind hw)
  obtain ⟨u, hu, b0, e0, ⟨vs0, k0, _⟩, _⟩ := r.sl i _ o1
  refine ⟨u, hu, ?_, ?_⟩
  · subst e0
    exact .inl ⟨rfl, vs0, .inl (.inl k0)⟩
  refine zQ0 he r hw fun v w1 y e1 f1 r1 re h1 => ?_
  cases v with
  | new _ => exact h1.elim
  | pk _ _ => exact h1.elim
  | cell _ => exact h1.elim
  | d z =>
    cases z <;> try exact h1.elim
    rename_i n
    have h1 : ((match w1.m.sl[i]? with
      | some (some (.ob (.lst xs))) => if 0 ≤ n ∧ n < 9223372036854775808 ∧ n.toNat < xs.length then .ok .next (setM w1.m i (.ob (.lst (xs.eraseIdx n.toNat)))) else .bad
      | _ => .bad) : Res Fl).wp (yQw X.K w D) (XW X.K B w1) := h1
    split at h1
    · rename_i xs g1
      split at h1
      · rename_i hn
        obtain ⟨z, g3, b, g4, ⟨vs, g5, g6⟩, _⟩ := r1.sl i _ g1
        rw [e1, hu] at g3
        cases g3
        subst g4
        obtain ⟨v', hv', rv⟩ := g6.get (List.getElem?_eq_getElem hn.2.2)
        obtain ⟨r3, f3⟩ := xJl (o' := .lst (xs.eraseIdx n.toNat)) (u := .lst (vs.eraseIdx n.toNat)) r1 g1 (by rw [e1]; exact hu) ⟨_, upd_same, g6.eraseIdx _⟩
        cases re
        have hlt := (List.getElem?_eq_some_iff.mp hv').1
        refine ⟨b, vs, n, n.toNat, v', rfl, rfl, g5, by omega, by omega, ?_, hv', ?_⟩
        · have h0 : ¬ n < 0 := by omega
          have h2 : (decide (0 ≤ n) && decide (n < (vs.length : Int))) = true := by
            rw [Bool.and_eq_true, decide_eq_true_iff, decide_eq_true_iff]
            omega
          simp only [seqIndex?, h0, if_false, h2, if_true]
        have q := h1 _ rfl ((f1.s r).trans f3) r3
        rw [← e1]
        exact q
      · exact h1.elim
    · exact h1.elim
end
section
variable {m : Mem} {X : Exn → Mem → Prop} {E : Fl → Mem → Prop}
@[simp] theorem vZz {i : Nat} {f : Pg EV} : W (xV8 i f) m X E ↔ W (xZy i) m X fun _ m1 => W f m1 X fun v m2 => W (wUf i v) m2 X E := by
  unfold xV8
  simp only [zQ8]
end
end Ev

namespace Ev
open PySem PySem.Spec PyProof.Rows L2
section
variable {X : Cx} {B : XBt} {e e2 : Expr} {fa : Pg (List AV)} {p pos tpos : Pos} {elts : List Expr} {kk : Nat}
end
section
variable {m : Mem} {X : Exn → Mem → Prop}
end
end Ev

namespace Ev
open PySem PySem.Spec PyProof.Rows L2
abbrev zYg : PyData := .tuple [.tuple [.str "load", .str "white"], .tuple [.str "load", .str "grey"], .tuple [.str "load", .str "black"], .tuple [.str "old", .str "white"], .tuple [.str "old", .str "grey"], .tuple [.str "old", .str "black"], .tuple [.str "new", .str "white"], .tuple [.str "new", .str "grey"], .tuple [.str "new", .str "black"], .tuple [.str "source", .str "white"], .tuple [.str "source", .str "grey"], .tuple [.str "source", .str "black"]]
abbrev yKh : PyData := .tuple [.str "white", .str "grey", .str "black"]
abbrev yUv : PyData := .tuple [.str "load", .str "old", .str "new", .str "source"]
abbrev zYp : PyData := .str "whole"
abbrev yUw : PyData := .tuple [.str "safe", .str "snapshot", .str "bounded"]
abbrev zKm : PyData := .tuple [.tuple [.tuple [], .tuple [], .tuple [.str "white", .str "grey", .str "black"], .tuple [.str "again"], .str "strong"], .tuple [.tuple [], .tuple [], .tuple [.str "grey", .str "black"], .tuple [.str "once", .str "again"], .str "thread"]]
abbrev zKl : PyData := .tuple [.tuple [.tuple [.tuple [.str "new", .str "black"]], .tuple [], .tuple [.str "white", .str "grey", .str "black"], .tuple [.str "again"], .str "strong"], .tuple [.tuple [.tuple [.str "source", .str "black"]], .tuple [], .tuple [.str "white", .str "grey", .str "black"], .tuple [.str "again"], .str "strong"]]
abbrev zVw : PyData := .tuple [.tuple [.tuple [.tuple [.str "new", .str "grey"], .tuple [.str "new", .str "black"]], .tuple [], .tuple [.str "white", .str "grey", .str "black"], .tuple [.str "again"], .str "strong"], .tuple [.tuple [.tuple [.str "new", .str "grey"], .tuple [.str "source", .str "black"]], .tuple [], .tuple [.str "white", .str "grey", .str "black"], .tuple [.str "again"], .str "strong"], .tuple [.tuple [.tuple [.str "new", .str "black"], .tuple [.str "source", .str "grey"]], .tuple [], .tuple [.str "white", .str "grey", .str "black"], .tuple [.str "again"], .str "strong"], .tuple [.tuple [.tuple [.str "source", .str "grey"], .tuple [.str "source", .str "black"]], .tuple [], .tuple [.str "white", .str "grey", .str "black"], .tuple [.str "again"], .str "strong"]]
abbrev yQu : PyData := .tuple [.tuple [.tuple [.tuple [.str "load", .str "grey"]], .tuple [], .tuple [.str "grey", .str "black"], .tuple [.str "once", .str "again"], .str "registers"], .tuple [.tuple [.tuple [.str "load", .str "white"], .tuple [.str "old", .str "grey"]], .tuple [], .tuple [.str "grey", .str "black"], .tuple [.str "once", .str "again"], .str "held"], .tuple [.tuple [.tuple [.str "old", .str "white"], .tuple [.str "old", .str "grey"]], .tuple [], .tuple [.str "grey", .str "black"], .tuple [.str "once", .str "again"], .str "paths"]]
abbrev zZz : PyData := .tuple [.str "source", .str "black"]
abbrev zYf : PyData := .tuple [.str "source", .str "grey"]
abbrev xXf : PyData := .tuple [.str "once", .str "again"]
abbrev yQt : PyData := .tuple [.tuple [.str "load", .str "white"], .tuple [.str "old", .str "white"], .tuple [.str "new", .str "white"], .tuple [.str "source", .str "white"]]
abbrev yQs : PyData := .tuple [.tuple [.tuple [.tuple [.str "load", .str "grey"], .tuple [.str "old", .str "grey"]], .tuple [], .tuple [.str "white", .str "grey", .str "black"], .tuple [.str "once", .str "again"], .str "screened"], .tuple [.tuple [.tuple [.str "old", .str "white"], .tuple [.str "old", .str "grey"]], .tuple [], .tuple [.str "white", .str "grey", .str "black"], .tuple [.str "once", .str "again"], .str "snapshot"]]
abbrev xJq : PyData := .tuple [.int 1, .tuple [.tuple [.none]]]
abbrev zQ4 : PyData := .tuple [.str "start"]
abbrev yUu : PyData := .tuple [.int 1, .tuple []]
abbrev zYr : PyData := .tuple [.str "load", .str "grey"]
abbrev zG2 : PyData := .tuple [.str "old", .str "grey"]
abbrev zQ1 : PyData := .tuple [.str "start"]
abbrev yZm : PyData := .tuple [.str "end"]
abbrev zYq : PyData := .tuple [.str "new", .str "black"]
abbrev xGl : PyData := .str "yes"
abbrev wQ5 : PyData := .str "no"
def yJ3 : Pg Fl := zZg (zVu (zQb (zGt xZ2 (zXa (wGr (zQg 0) (.ret none) (xV9 (evC (.int 63)))) (zQh))) (zQb (evC (.int 0)) (zQb (evC (.int 0)) (zQh)))))
def yZl : Fn := zQ2 1 yJ3
def zWa : Pg Fl := zZg (xQl (asV (zQ3 .Eq (yQq ["Table"] "kept_fresh" (zQg 0)) (yQq ["Table"] "kept_fresh" (zQg 1)))) (asV (zQ3 .Eq (yQq ["Table"] "kept_roots" (zQg 0)) (yQq ["Table"] "kept_roots" (zQg 1)))))
def zXg : Fn := zQ2 2 zWa
def zKg : Pg Fl := zXe (zGb (yQc (yZq "is_beside" [("Table", (pD 2 0 2 [0, 1] [] zXg))] 0 (zQg 0) (zQb (zQg 1) (zQh)) (zQh)))) (xQi "Mismatch") (.ret .next)
def zZ5 : Fn := zQ2 2 zKg
def yYw : Pg Fl := zZg (zGt yV8 (zXa (zU5 [1] (xQj (evC zYg)) (zXf 1) (zQ3 .In (zQg 1) (zQg 0)) (zQg 1)) (zQh)))
def yXm : Fn := zQ2 2 yYw
def yJ2 : Pg Fl := zZg (xQl (xZ7 "str" (zQg 0)) (asV (zQ3 .In (zQg 0) (evC yKh))))
def zHg : Fn := zQ2 1 yJ2
def yJ1 : Pg Fl := zQz (zXe (yJk (zGb (yQc (xZ7 "tuple" (zQg 0)))) (yJk (zQ3 .NotEq (zGt xG4 (zXa (zQg 0) (zQh))) (evC (.int 2))) (zGb (yQc (xZ7 "str" (zHr (zQg 0) (evC (.int 0)))))))) (zZg (evC (.bool false))) (.ret .next)) (zZg (xQl (asV (zQ3 .In (zHr (zQg 0) (evC (.int 0))) (evC yUv))) (zQ9 zHg (zZy 1 (zQb (zHr (zQg 0) (evC (.int 1))) (zQh))))))
def zHf : Fn := zQ2 1 yJ1
def zYl : Pg Fl := zQz (yUq (xQk (zQb (zQg 0) (zQh))) (yZt 2 (zKh (zXf 1) (zKh (zXf 2) (yKk)))) (zXe (zGb (yQc (zQ9 zHf (zZy 1 (zQb (zQg 2) (zQh)))))) (yJ7 "InvalidEntry" ["index"] (zQb (zQg 1) (zQh))) (.ret .next))) (zZg (zQ9 yXm (zZy 1 (zQb (zQg 0) (zQh)))))
def zKb : Fn := zQ2 3 zYl
def zYm : Pg Fl := zQz (yGz ["Table"] "kept" (yKf (pS true 0 0 1 [] [] zKb) 0 (yWd (zQg 3)) zQh) (zQg 0)) (zQz (zXe (zGb (yQc (zQ9 zHg (zZy 1 (zQb (zQg 1) (zQh)))))) (yJ7 "InvalidFresh" ["value"] (zQb (zQg 1) (zQh))) (.ret .next)) (zQz (zXe (yJk (zGb (yQc (xZ7 "str" (zQg 2)))) (zQ3 .NotIn (zQg 2) (wQt "ROOTS" [("Table", .tuple [.str "once", .str "again"])] (zQg 0)))) (yJ7 "InvalidRoots" ["value"] (zQb (zQg 2) (zQh))) (.ret .next)) (zQz (yGz ["Table"] "kept_fresh" (zQg 1) (zQg 0)) (yGz ["Table"] "kept_roots" (zQg 2) (zQg 0)))))
def zZv : Fn := zQ2 4 zYm
def zVo : Pg Fl := zZg (yKf (mkF "Table" (pS true 1 2 4 [0, 1, 2] [] zZv)) 2 (yWd (zQg 1)) (zQb (yQq ["Table"] "kept_fresh" (zQg 0)) (zQb (yQq ["Table"] "kept_roots" (zQg 0)) (zQh))))
def zZu : Fn := zQ2 2 zVo
def zHa : Pg Fl := zQz (yUr (yZq "need_beside" [("Table", (pD 2 0 2 [0, 1] [] zZ5))] 0 (zQg 0) (zQb (zQg 1) (zQh)) (zQh))) (zZg (yZq "with_entries" [("Table", (pD 2 0 2 [0, 1] [] zZu))] 0 (zQg 0) (zQb (zQ9 yXm (zZy 1 (zQb (zXl .Add (yQq ["Table"] "kept" (zQg 0)) (yQq ["Table"] "kept" (zQg 1))) (zQh)))) (zQh)) (zQh)))
def zXd : Fn := zQ2 2 zHa
def zU7 : Pg Fl := zQz (yUr (yZq "need_beside" [("Table", (pD 2 0 2 [0, 1] [] zZ5))] 0 (zQg 0) (zQb (zQg 1) (zQh)) (zQh))) (zZg (yZq "with_entries" [("Table", (pD 2 0 2 [0, 1] [] zZu))] 0 (zQg 0) (zQb (zGt yV8 (zXa (zU5 [2] (xQj (yQq ["Table"] "kept" (zQg 0))) (zXf 2) (zQ3 .In (zQg 2) (yQq ["Table"] "kept" (zQg 1))) (zQg 2)) (zQh))) (zQh)) (zQh)))
def zKx : Fn := zQ2 3 zU7
def yXb : Pg Fl := zQz (evSet 0 (zVu (zQh))) (zQz (yUq (xQj (zQl (zQb (evC (.str "load")) (zQb (evC (.str "old")) (zQb (evC (.str "new")) (zQb (evC (.str "source")) (zQh))))))) (zXf 1) (xJn 0 (zU5 [2] (xQj (zQl (zQb (evC (.str "white")) (zQb (evC (.str "grey")) (zQb (evC (.str "black")) (zQh)))))) (zXf 2) (.ret true) (zQl (zQb (zQg 1) (zQb (zQg 2) (zQh))))))) (zZg (zQg 0)))
def zHh : Fn := zQ2 3 yXb
def yZp : Pg Fl := zQz (yUr (yZq "need_beside" [("Table", (pD 2 0 2 [0, 1] [] zZ5))] 0 (zQg 0) (zQb (zQg 1) (zQh)) (zQh))) (zZg (yZq "with_entries" [("Table", (pD 2 0 2 [0, 1] [] zZu))] 0 (zQg 0) (zQb (zGt yV8 (zXa (zU5 [2] (xQj (yQq ["Table"] "kept" (zQg 0))) (zXf 2) (zQ3 .NotIn (zQg 2) (yQq ["Table"] "kept" (zQg 1))) (zQg 2)) (zQh))) (zQh)) (zQh)))
def xWz : Fn := zQ2 3 yZp
def yXc : Pg Fl := zQz (zXe (zQ3 .Gt (zHr (zQg 0) (evC (.int 2))) (evC (.int 0))) (zQz (evSet 2 (zXl .Mod (zHr (zQg 0) (evC (.int 2))) (zQg 1))) (zQz (yWc (zXl .FloorDiv (zHr (zQg 0) (evC (.int 2))) (zQg 1)) (zQg 0) (evC (.int 2))) (zZg (zQg 2)))) (.ret .next)) (zQz (evSet 3 (zHr (zQg 0) (evC (.int 1)))) (zQz (yWc (zXl .Add (zQg 3) (evC (.int 1))) (zQg 0) (evC (.int 1))) (zQz (evSet 4 (zXl .Add (zXl .Mult (evC (.int 83407)) (zQg 3)) (evC (.int 61)))) (zQz (zXe (zQ3 .NotEq (zHr (zQg 0) (evC (.int 0))) (zVu (zQh))) (evSet 4 (zHr (zHr (zQg 0) (evC (.int 0))) (zXl .Mod (zQg 3) (zGt xG4 (zXa (zHr (zQg 0) (evC (.int 0))) (zQh)))))) (.ret .next)) (zQz (zXe (yJy (zQ3 .Lt (zQg 3) (zGt xG4 (zXa (zHr (zQg 0) (evC (.int 0))) (zQh)))) (zQ3 .GtE (zGt wGm (zXa (zQg 4) (zQh))) (zXl .Pow (evC (.int 10)) (evC (.int 18))))) (zQz (evSet 5 (zXl .Add (zXl .Mult (evC (.int 2)) (zXl .Sub (zGt wGm (zXa (zQg 4) (zQh))) (zXl .Pow (evC (.int 10)) (evC (.int 18))))) (zGt wGi (zXa (asV (zQ3 .Lt (zQg 4) (evC (.int 0)))) (zQh))))) (zQz (yWc (zXl .FloorDiv (zQg 5) (zQg 1)) (zQg 0) (evC (.int 2))) (zZg (zXl .Mod (zQg 5) (zQg 1))))) (.ret .next)) (zQz (evSet 6 (zXl .Mod (zXl .Pow (zXl .Add (zXl .Add (zXl .Mod (zQg 4) (evC (.int 2147483563))) (zXl .Mult (evC (.int 50053)) (zQg 3))) (evC (.int 71))) (evC (.int 5))) (evC (.int 2147483647)))) (zQz (evSet 6 (zXl .Mod (zXl .Pow (zXl .Add (zXl .Add (zXl .Mult (zQg 6) (zXl .Add (zXl .Mult (evC (.int 2)) (zQg 3)) (evC (.int 13)))) (zXl .Mult (zXl .Mult (evC (.int 61007)) (zQg 3)) (zQg 3))) (evC (.int 29))) (evC (.int 3))) (evC (.int 2147483579)))) (zZg (zXl .Mod (zXl .FloorDiv (zQg 6) (evC (.int 32))) (zQg 1))))))))))
def zZ6 : Fn := zQ2 7 yXc
def yZ9 : Pg Fl := zQz (evSet 1 (zQ9 zHh zQh)) (zQz (evSet 2 (zQ9 zZ6 (zZy 2 (zQb (zQg 0) (zQb (evC (.int 8)) (zQh)))))) (zQz (evSet 3 (zHr (zVu (zQb (zVu (zQh)) (zQb (zVu (zQb (evC (.int 1)) (zQh))) (zQb (zVu (zQb (evC (.int 0)) (zQb (evC (.int 4)) (zQh)))) (zQb (zVu (zQb (evC (.int 3)) (zQb (evC (.int 4)) (zQh)))) (zQb (zVu (zQb (evC (.int 7)) (zQb (evC (.int 8)) (zQh)))) (zQb (zVu (zQb (evC (.int 7)) (zQb (evC (.int 11)) (zQh)))) (zQb (zVu (zQb (evC (.int 3)) (zQb (evC (.int 4)) (zQb (evC (.int 8)) (zQh))))) (zQb (zVu (zQb (evC (.int 1)) (zQb (evC (.int 4)) (zQh)))) (zQh)))))))))) (zQ9 zZ6 (zZy 2 (zQb (zQg 0) (zQb (evC (.int 8)) (zQh))))))) (zQz (evSet 4 (zU5 [5] (xQj (zQg 3)) (zXf 5) (.ret true) (zHr (zQg 1) (zQg 5)))) (zQz (zXe (zQ3 .Lt (zQg 2) (evC (.int 3))) (evSet 4 (zU5 [6] (xQj (zQg 1)) (zXf 6) (yQc (zHr (zVu (zQb (evC (.bool false)) (zQb (evC (.bool true)) (zQb (asV (zQ3 .Eq (zQ9 zZ6 (zZy 2 (zQb (zQg 0) (zQb (evC (.int 2)) (zQh))))) (evC (.int 0)))) (zQh))))) (zQg 2))) (zQg 6))) (.ret .next)) (zQz (zXe (zQ3 .In (zQg 2) (zQl (zQb (evC (.int 3)) (zQb (evC (.int 4)) (zQh))))) (evSet 4 (yKe (zXl .Add (zQg 4) (zVu (zQb (zHr (zQg 1) (zQ9 zZ6 (zZy 2 (zQb (zQg 0) (zQb (evC (.int 12)) (zQh)))))) (zQb (zHr (zQg 1) (zQ9 zZ6 (zZy 2 (zQb (zQg 0) (zQb (evC (.int 12)) (zQh)))))) (zQh))))))) (.ret .next)) (zQz (zXe (yJy (zQ3 .Eq (zQg 2) (evC (.int 5))) (zQ3 .NotEq (zQg 4) (zVu (zQh)))) (xV8 4 (zQ9 zZ6 (zZy 2 (zQb (zQg 0) (zQb (zGt xG4 (zXa (zQg 4) (zQh))) (zQh)))))) (.ret .next)) (zZg (zQl (zQb (zQg 4) (zQb (zHr (zVu (zQb (evC (.str "white")) (zQb (evC (.str "grey")) (zQb (evC (.str "black")) (zQh))))) (zQ9 zZ6 (zZy 2 (zQb (zQg 0) (zQb (evC (.int 3)) (zQh)))))) (zQb (zHr (zVu (zQb (evC (.str "once")) (zQb (evC (.str "again")) (zQh)))) (zQ9 zZ6 (zZy 2 (zQb (zQg 0) (zQb (evC (.int 2)) (zQh)))))) (zQh))))))))))))
def zU3 : Fn := zQ2 7 yZ9
def zH4 : Pg Fl := zZg (xZ9 [("Table", mkF "Table" (pS true 1 2 4 [0, 1, 2] [] zZv))] 2 (zQg 0) (zQh) (zQb (zQg 1) (zQb (zQg 2) (zQh))))
def zJ9 : Fn := zQ2 3 zH4
def yQ7 : Pg Fl := zQz (evSet 1 (yUs [("Table", (pD 1 2 3 [0, 1, 2] [] zJ9))] 2 (evC (wQ1 "Table")) (zQh) (zQb (zHr (zQg 0) (evC (.int 1))) (zQb (zHr (zQg 0) (evC (.int 2))) (zQh))))) (zQz (yUq (xQj (zHr (zQg 0) (evC (.int 0)))) (zXf 2) (evSet 1 (yG0 .BitOr [("Table", (pD 2 0 2 [0, 1] [] zXd))] (zQg 1) (yKf (mkF "Table" (pS true 1 2 4 [0, 1, 2] [] zZv)) 2 (zQb (zQg 2) (zQh)) (zQb (zHr (zQg 0) (evC (.int 1))) (zQb (zHr (zQg 0) (evC (.int 2))) (zQh))))))) (zZg (zQg 1)))
def zKe : Fn := zQ2 3 yQ7
def yZo : Pg Fl := zZg (zVu (zQb (zQl (zQb (evC (.int 1)) (zQb (evC (.str "whole")) (zQh)))) (zQb (zQl (zQb (evC (.int 1)) (zQb (evC (.str "fields")) (zQh)))) (zQb (zQl (zQb (evC (.int 2)) (zQb (evC (.str "whole")) (zQh)))) (zQb (zQl (zQb (evC (.int 2)) (zQb (evC (.str "fields")) (zQh)))) (zQh))))))
def zU9 : Fn := zQ2 0 yZo
def zG9 : Pg Fl := zZg (xQl (yZq "is_beside" [("Table", (pD 2 0 2 [0, 1] [] zXg))] 0 (zQg 0) (zQb (zQg 1) (zQh)) (zQh)) (zGt wYd (zXa (zU5 [2] (xQj (yQq ["Table"] "kept" (zQg 0))) (zXf 2) (.ret true) (asV (zQ3 .In (zQg 2) (yQq ["Table"] "kept" (zQg 1))))) (zQh))))
def zVt : Fn := zQ2 3 zG9
def zVp : Pg Fl := zZg (xQl (zQ9 zHf (zZy 1 (zQb (zQg 1) (zQh)))) (asV (zQ3 .In (zQg 1) (yQq ["Table"] "kept" (zQg 0)))))
def zQm : Fn := zQ2 2 zVp
def zU6 : Pg Fl := zQz (zXe (zYd .NotIn [("Table", (pD 2 0 2 [0, 1] [] zQm))] (zQl (zQb (evC (.str "old")) (zQb (evC (.str "grey")) (zQh)))) (zQg 0)) (zZg (evC (.int 4))) (.ret .next)) (zZg (xZ8 (yJk (zYd .In [("Table", (pD 2 0 2 [0, 1] [] zQm))] (zQl (zQb (evC (.str "old")) (zQb (evC (.str "white")) (zQh)))) (zQg 0)) (zYd .In [("Table", (pD 2 0 2 [0, 1] [] zQm))] (zQl (zQb (evC (.str "load")) (zQb (evC (.str "grey")) (zQh)))) (zQg 0))) (evC .none) (evC (.int 6))))
def zJ4 : Fn := zQ2 1 zU6
def yXa : Pg Fl := zQz (evSet 1 (zQ9 zJ4 (zZy 1 (zQb (zQg 0) (zQh))))) (zZg (xZ8 (zQ3 .Is (zQg 1) (evC .none)) (evC (.int 99)) (zQg 1)))
def zU4 : Fn := zQ2 2 yXa
def yGp : Pg Fl := zZg (xZ8 (zQ3 .Eq (zQg 1) (evC zYp)) (zQl (zQb (evC (.str "scan")) (zQb (zQg 0) (zQh)))) (zQl (zQb (evC (.str "scan")) (zQb (zQg 0) (zQb (evC (.int 0)) (zQh))))))
def zJ8 : Fn := zQ2 2 yGp
def zH1 : Pg Fl := zQz (evSet 3 (zQ9 zJ4 (zZy 1 (zQb (zQg 0) (zQh))))) (zQz (zXe (zQ3 .Is (zQg 3) (evC .none)) (zZg (evC .none)) (.ret .next)) (zQz (evSet 4 (xZ8 (zQ3 .Eq (zQg 1) (evC (.int 1))) (zQl (zQb (evC (.int 0)) (zQh))) (zQl (zQb (evC (.int 0)) (zQb (evC .none) (zQh)))))) (zQz (xU4 5 6 (zQl (zQb (evC (.str "store")) (zQb (evC (.int 0)) (zQb (evC (.int 0)) (zQb (evC .none) (zQh)))))) (zQ9 zJ8 (zZy 2 (zQb (evC (.int 0)) (zQb (zQg 2) (zQh)))))) (zQz (zXe (zQ3 .Eq (zQg 3) (evC (.int 4))) (zZg (zQl (zQb (zQl (zQb (evC (.int 1)) (zQb (zQl (zQb (zQl (zQb (evC (.int 1)) (zQh))) (zQb (zQl (zQb (evC .none) (zQh))) (zQh)))) (zQh)))) (zQb (zQg 4) (zQb (zQl (zQb (zQl (zQb (evC (.str "start")) (zQh))) (zQb (zQg 5) (zQb (zQg 6) (zQb (zQl (zQb (evC (.str "end")) (zQh))) (zQh)))))) (zQh)))))) (.ret .next)) (zQz (evSet 7 (zQl (zQb (zQl (zQb (evC (.str "start")) (zQh))) (zQb (zQl (zQb (evC (.str "load")) (zQb (evC (.int 0)) (zQb (evC (.int 0)) (zQb (evC (.int 0)) (zQh)))))) (zQb (zQg 5) (zQb (zQg 6) (zQb (zQ9 zJ8 (zZy 2 (zQb (evC (.int 1)) (zQb (zQg 2) (zQh))))) (zQb (zQl (zQb (evC (.str "end")) (zQh))) (zQh))))))))) (zZg (zQl (zQb (zQl (zQb (evC (.int 1)) (zQb (zQl (zQb (zQl (zQb (evC (.int 1)) (zQh))) (zQb (zQl (zQb (evC (.int 2)) (zQh))) (zQb (zQl (zQb (evC .none) (zQh))) (zQh))))) (zQh)))) (zQb (zQg 4) (zQb (zQg 7) (zQh)))))))))))
def zXq : Fn := zQ2 8 zH1
def zH3 : Pg Fl := zZg (yQq ["Table"] "kept_fresh" (zQg 0))
def zJf : Fn := zQ2 1 zH3
def zH2 : Pg Fl := zZg (yQq ["Table"] "kept_roots" (zQg 0))
def zXb : Fn := zQ2 1 zH2
def xX3 : Pg Fl := zQz (xWj (yZt 5 (zKh (zXf 2) (zKh (zXf 3) (zKh (zXf 4) (zKh (zXf 5) (zKh (zXf 6) (yKk))))))) (zQg 1)) (zQz (zXe (yJk (zQ3 .NotIn (yQp [("Table", (pD 1 0 1 [0] [] zJf))] (zQg 0)) (zQg 4)) (zQ3 .NotIn (yQp [("Table", (pD 1 0 1 [0] [] zXb))] (zQg 0)) (zQg 5))) (zZg (evC (.bool false))) (.ret .next)) (zZg (xQl (zGt wYd (zXa (zU5 [7] (xQj (zQg 2)) (zXf 7) (.ret true) (asV (zYd .In [("Table", (pD 2 0 2 [0, 1] [] zQm))] (zQg 7) (zQg 0)))) (zQh))) (wQs (zGt wYb (zXa (zU5 [7] (xQj (zQg 3)) (zXf 7) (.ret true) (asV (zYd .In [("Table", (pD 2 0 2 [0, 1] [] zQm))] (zQg 7) (zQg 0)))) (zQh)))))))
def yUk : Fn := zQ2 8 xX3
def yWn : Pg Fl := zXe (yJk (zGb (yQc (xZ7 "str" (zQg 0)))) (zQ3 .NotIn (zQg 0) (evC yUw))) (yJ7 "InvalidGoal" ["value"] (zQb (zQg 0) (zQh))) (.ret .next)
def yWs : Fn := zQ2 1 yWn
def yWm : Pg Fl := zQz (zXe (zQ3 .Eq (zQg 0) (evC (.int 1))) (zZg (evC zKm)) (.ret .next)) (zZg (zXl .Add (xZ8 (zQ3 .Eq (zQg 1) (evC zYp)) (evC zKl) (evC zVw)) (evC yQu)))
def yWr : Fn := zQ2 2 yWm
def yZ8 : Pg Fl := zQz (evSet 2 (xZ8 (zQ3 .Eq (zQg 1) (evC zYp)) (zQl (zQb (evC zZz) (zQh))) (zQl (zQb (evC zYf) (zQb (evC zZz) (zQh)))))) (zQz (evSet 3 (zQl (zQb (zQl (zQb (zQl (zQh)) (zQb (zQg 2) (zQb (zQl (zQb (evC (.str "black")) (zQh))) (zQb (evC xXf) (zQb (evC (.str "single")) (zQh))))))) (zQh)))) (zQz (zXe (zQ3 .Gt (zQg 0) (evC (.int 1))) (zZg (zQg 3)) (.ret .next)) (zZg (zXl .Add (zQg 3) (zQl (zQb (zQl (zQb (zQl (zQh)) (zQb (zXl .Add (evC yQt) (zQg 2)) (zQb (zQl (zQb (evC (.str "white")) (zQh))) (zQb (zQl (zQb (evC (.str "once")) (zQh))) (zQb (evC (.str "single")) (zQh))))))) (zQh)))))))
def yXo : Fn := zQ2 4 yZ8
def xY0 : Pg Fl := zQz (yUr (zQ9 yWs (zZy 1 (zQb (zQg 0) (zQh))))) (zQz (zXe (zQ3 .Eq (zQg 0) (evC (.str "safe"))) (zZg (zQ9 yWr (zZy 2 (zQb (zQg 1) (zQb (zQg 2) (zQh)))))) (.ret .next)) (zZg (xZ8 (zQ3 .Eq (zQg 0) (evC (.str "snapshot"))) (evC yQs) (zQ9 yXo (zZy 2 (zQb (zQg 1) (zQb (zQg 2) (zQh))))))))
def xQh : Fn := zQ2 3 xY0
def zG8 : Pg Fl := zZg (zGt wYb (zXa (zU5 [4] (xQj (zVv xQh 1 2 3 [0, 1, 2] [] (zQb (zQg 1) (zQh)) (zQb (zQg 2) (zQb (zQg 3) (zQh))))) (zXf 4) (.ret true) (zQ9 yUk (zZy 2 (zQb (zQg 0) (zQb (zQg 4) (zQh)))))) (zQh)))
def zJr : Fn := zQ2 5 zG8
def yJr : Pg Fl := zQz (evSet 3 (zQ9 zJ8 (zZy 2 (zQb (evC (.int 0)) (zQb (zQg 2) (zQh)))))) (zZg (zQl (zQb (evC xJq) (zQb (zQl (zQb (evC (.int 0)) (yKd (zQg 1)))) (zQb (zQl (zQb (evC zQ4) (zQb (zQg 3) (yKd (zXl .Mult (zQl (zQb (zQl (zQb (evC (.str "store")) (zQb (evC (.int 0)) (zQb (evC (.int 0)) (zQb (evC .none) (zQh)))))) (zQb (zQg 3) (zQh)))) (zQg 0)))))) (zQh))))))
def yQa : Fn := zQ2 4 yJr
def yVk : Pg Fl := zQz (evSet 2 (zQl (zQb (evC (.str "scan")) (zQb (evC (.int 0)) (zQb (evC (.int 0)) (zQh)))))) (zZg (zQl (zQb (zQl (zQb (evC (.int 2)) (zQb (zQl (zQb (zQl (zQb (evC .none) (zQb (evC .none) (zQh)))) (zQh))) (zQh)))) (zQb (zQl (zQb (evC (.int 0)) (yKd (zQg 1)))) (zQb (zQl (zQb (evC zQ4) (zQb (zQg 2) (yKd (zXl .Mult (zQl (zQb (zQl (zQb (evC (.str "store")) (zQb (evC (.int 0)) (zQb (evC (.int 0)) (zQb (evC .none) (zQh)))))) (zQb (zQg 2) (zQh)))) (zQg 0)))))) (zQh))))))
def yZk : Fn := zQ2 3 yVk
def yWo : Pg Fl := zQz (evSet 3 (zVu (zQb (evC zQ4) (zQh)))) (zQz (yUq (yUp (zXa (zQg 0) (zQh))) (zXf 4) (xJn 3 (zVu (zQb (zQl (zQb (evC (.str "new")) (zQb (evC (.int 0)) (zQh)))) (zQb (zQ9 zJ8 (zZy 2 (zQb (zQg 4) (zQb (zQg 2) (zQh))))) (zQh)))))) (zZg (zQl (zQb (evC yUu) (zQb (zQl (zQb (evC .none) (yKd (zQg 1)))) (zQb (zGt yV8 (zXa (zQg 3) (zQh))) (zQh)))))))
def yXn : Fn := zQ2 5 yWo
def yGq : Pg Fl := zQz (evSet 2 (zVu (zQb (evC zQ4) (zQh)))) (zQz (yUq (yUp (zXa (zQg 0) (zQh))) (zXf 3) (zQz (xWj (yZt 2 (zKh (zXf 4) (zKh (zXf 5) (yKk)))) (xZ8 (zQ3 .Eq (zXl .Mod (zQg 3) (evC (.int 2))) (evC (.int 0))) (zQl (zQb (evC (.int 0)) (zQb (evC (.int 1)) (zQh)))) (zQl (zQb (evC (.int 1)) (zQb (evC (.int 0)) (zQh)))))) (xJn 2 (zVu (zQb (zQl (zQb (evC (.str "new")) (zQb (zQg 5) (zQh)))) (zQb (zQl (zQb (evC (.str "store")) (zQb (zQg 4) (zQb (evC (.int 0)) (zQb (zQg 5) (zQh)))))) (zQb (zQ9 zJ8 (zZy 2 (zQb (zQg 3) (zQb (zQg 1) (zQh))))) (zQh)))))))) (zZg (zQl (zQb (evC xJq) (zQb (zQl (zQb (evC (.int 0)) (zQb (evC .none) (zQh)))) (zQb (zGt yV8 (zXa (zQg 2) (zQh))) (zQh)))))))
def yWb : Fn := zQ2 6 yGq
def zYk : Pg Fl := zQz (xWj (yZt 2 (zKh (zXf 1) (zKh (zXf 2) (yKk)))) (zQl (zQb (zQl (zQb (evC (.str "store")) (zQb (evC (.int 0)) (zQb (evC (.int 0)) (zQb (evC (.int 0)) (zQh)))))) (zQb (zQl (zQb (evC (.str "store")) (zQb (evC (.int 0)) (zQb (evC (.int 0)) (zQb (evC .none) (zQh)))))) (zQh))))) (zQz (zXe (zQ3 .Eq (yQp [("Table", (pD 1 0 1 [0] [] zXb))] (zQg 0)) (evC (.str "again"))) (zZg (zVu (zQb (zQl (zQb (evC (.str "look")) (zQh))) (zQh)))) (.ret .next)) (zQz (zXe (yJk (zYd .In [("Table", (pD 2 0 2 [0, 1] [] zQm))] (zQl (zQb (evC (.str "new")) (zQb (evC (.str "white")) (zQh)))) (zQg 0)) (zYd .In [("Table", (pD 2 0 2 [0, 1] [] zQm))] (zQl (zQb (evC (.str "source")) (zQb (evC (.str "white")) (zQh)))) (zQg 0))) (zZg (zVu (zQb (zQg 1) (zQh)))) (.ret .next)) (zZg (xZ8 (zYd .In [("Table", (pD 2 0 2 [0, 1] [] zQm))] (zQl (zQb (evC (.str "old")) (zQb (evC (.str "white")) (zQh)))) (zQg 0)) (zVu (zQb (zQg 1) (zQb (zQg 2) (zQh)))) (zVu (zQb (zQg 1) (zQb (zQl (zQb (evC (.str "load")) (zQb (evC (.int 0)) (zQb (evC (.int 0)) (zQb (evC (.int 0)) (zQh)))))) (zQh))))))))
def zKa : Fn := zQ2 3 zYk
def yZ7 : Pg Fl := zQz (evSet 3 (zVu (zQb (evC zQ4) (zQh)))) (zQz (yUq (yUp (zXa (zQg 1) (zQh))) (zXf 4) (xJn 3 (zVu (zQb (zQl (zQb (evC (.str "new")) (zQb (evC (.int 0)) (zQh)))) (yUo (zQ9 zKa (zZy 1 (zQb (zQg 0) (zQh)))) (zQb (zQ9 zJ8 (zZy 2 (zQb (zQg 4) (zQb (zQg 2) (zQh))))) (zQh))))))) (zZg (zQl (zQb (evC yUu) (zQb (zQl (zQb (evC .none) (zQh))) (zQb (zGt yV8 (zXa (zQg 3) (zQh))) (zQh)))))))
def zHq : Fn := zQ2 5 yZ7
def yQ6 : Pg Fl := zQz (zXe (yQc (zVv zJr 2 2 4 [0, 1, 2, 3] [.str "safe"] (zQb (zQg 0) (zQb (evC (.str "bounded")) (zQh))) (zQb (zQg 2) (zQb (zQg 3) (zQh))))) (zZg (evC .none)) (.ret .next)) (zQz (evSet 4 (xZ8 (zQ3 .Eq (zQg 2) (evC (.int 1))) (zQl (zQh)) (zQl (zQb (evC .none) (zQh))))) (zQz (evSet 5 (zGt vQw (zXa (zQg 1) (zXa (evC (.int 2)) (zQh))))) (zQz (zXe (zYd .In [("Table", (pD 2 0 2 [0, 1] [] zQm))] (zQl (zQb (evC (.str "source")) (zQb (evC (.str "black")) (zQh)))) (zQg 0)) (zZg (zQ9 yQa (zZy 3 (zQb (zQg 5) (zQb (zQg 4) (zQb (zQg 3) (zQh))))))) (.ret .next)) (zQz (zXe (yJy (zQ3 .NotEq (zQg 3) (evC zYp)) (zYd .In [("Table", (pD 2 0 2 [0, 1] [] zQm))] (zQl (zQb (evC (.str "source")) (zQb (evC (.str "grey")) (zQh)))) (zQg 0))) (zZg (zQ9 yZk (zZy 2 (zQb (zQg 5) (zQb (zQg 4) (zQh)))))) (.ret .next)) (zQz (zXe (zQ3 .Eq (yQp [("Table", (pD 1 0 1 [0] [] zJf))] (zQg 0)) (evC (.str "grey"))) (zZg (zQ9 yXn (zZy 3 (zQb (zQg 5) (zQb (zQg 4) (zQb (zQg 3) (zQh))))))) (.ret .next)) (zZg (xZ8 (zQ3 .Gt (zQg 2) (evC (.int 1))) (zQ9 yWb (zZy 2 (zQb (zQg 5) (zQb (zQg 3) (zQh))))) (zQ9 zHq (zZy 3 (zQb (zQg 0) (zQb (zQg 5) (zQb (zQg 3) (zQh)))))))))))))
def zGq : Fn := zQ2 6 yQ6
def yX8 : Pg Fl := zZg (zVv zGq 2 2 4 [0, 1, 2, 3] [] (zQb (zQg 0) (zQb (evC (.int 0)) (zQh))) (zQb (zQg 1) (zQb (zQg 2) (zQh))))
def zKc : Fn := zQ2 3 yX8
def yKv : Pg Fl := zQz (zXe (zQ3 .Eq (yQp [("Table", (pD 1 0 1 [0] [] zJf))] (zQg 0)) (evC (.str "white"))) (zZg (evC (.int 0))) (.ret .next)) (zZg (xZ8 (yJk (zYd .In [("Table", (pD 2 0 2 [0, 1] [] zQm))] (evC zYr) (zQg 0)) (zYd .In [("Table", (pD 2 0 2 [0, 1] [] zQm))] (evC zG2) (zQg 0))) (evC (.int 2)) (evC (.int 1))))
def yQn : Fn := zQ2 1 yKv
def zVn : Pg Fl := zQz (evSet 1 (zQ9 yQn (zZy 1 (zQb (zQg 0) (zQh))))) (zQz (zXe (zQ3 .Eq (zQg 1) (evC (.int 0))) (zQz (evSet 2 (zQl (zQb (evC zQ1) (zQb (zQl (zQb (evC (.str "scan")) (zQb (evC (.int 0)) (zQb (evC (.int 0)) (zQh))))) (zQb (zQl (zQb (evC (.str "new")) (zQb (evC (.int 1)) (zQh)))) (zQb (zQl (zQb (evC (.str "store")) (zQb (evC (.int 0)) (zQb (evC (.int 0)) (zQb (evC (.int 1)) (zQh)))))) (zQb (zQl (zQb (evC (.str "clear")) (zQb (evC (.int 1)) (zQh)))) (zQb (zQl (zQb (evC (.str "scan")) (zQb (evC (.int 0)) (zQb (evC (.int 1)) (zQh))))) (zQb (evC yZm) (zQh)))))))))) (zZg (zQl (zQb (zQl (zQb (evC (.int 2)) (zQb (zQl (zQb (zQl (zQb (evC .none) (zQb (evC .none) (zQh)))) (zQh))) (zQh)))) (zQb (zQl (zQb (evC (.int 0)) (zQb (evC .none) (zQh)))) (zQb (zQg 2) (zQh))))))) (.ret .next)) (zQz (zXe (zQ3 .Eq (zQg 1) (evC (.int 1))) (zQz (evSet 2 (zQl (zQb (evC zQ1) (zQb (zQl (zQb (evC (.str "scan")) (zQb (evC (.int 0)) (zQb (evC (.int 0)) (zQh))))) (zQb (zQl (zQb (evC (.str "load")) (zQb (evC (.int 1)) (zQb (evC (.int 0)) (zQb (evC (.int 1)) (zQh)))))) (zQb (zQl (zQb (evC (.str "store")) (zQb (evC (.int 0)) (zQb (evC (.int 1)) (zQb (evC .none) (zQh)))))) (zQb (zQl (zQb (evC (.str "store")) (zQb (evC (.int 0)) (zQb (evC (.int 0)) (zQb (evC (.int 1)) (zQh)))))) (zQh)))))))) (zZg (zQl (zQb (zQl (zQb (evC (.int 2)) (zQb (zQl (zQb (zQl (zQb (evC .none) (zQb (evC (.int 1)) (zQh)))) (zQb (zQl (zQb (evC .none) (zQb (evC .none) (zQh)))) (zQh)))) (zQh)))) (zQb (zQl (zQb (evC (.int 0)) (zQb (evC .none) (zQh)))) (zQb (zXl .Add (zQg 2) (zQl (zQb (zQl (zQb (evC (.str "clear")) (zQb (evC (.int 1)) (zQh)))) (zQb (zQl (zQb (evC (.str "scan")) (zQb (evC (.int 0)) (zQb (evC (.int 1)) (zQh))))) (zQb (evC yZm) (zQh)))))) (zQh))))))) (.ret .next)) (zQz (evSet 2 (zQl (zQb (evC zQ1) (zQb (zQl (zQb (evC (.str "load")) (zQb (evC (.int 1)) (zQb (evC (.int 0)) (zQb (evC (.int 0)) (zQh)))))) (zQb (zQl (zQb (evC (.str "load")) (zQb (evC (.int 0)) (zQb (evC (.int 1)) (zQb (evC (.int 1)) (zQh)))))) (zQb (zQl (zQb (evC (.str "store")) (zQb (evC (.int 1)) (zQb (evC (.int 1)) (zQb (evC .none) (zQh)))))) (zQb (zQl (zQb (evC (.str "scan")) (zQb (evC (.int 0)) (zQb (evC (.int 0)) (zQh))))) (zQb (zQl (zQb (evC (.str "scan")) (zQb (evC (.int 0)) (zQb (evC (.int 1)) (zQh))))) (zQh))))))))) (zQz (evSet 2 (zXl .Add (zQg 2) (zQl (zQb (zQl (zQb (evC (.str "scan")) (zQb (evC (.int 1)) (zQb (evC (.int 0)) (zQh))))) (zQb (zQl (zQb (evC (.str "store")) (zQb (evC (.int 1)) (zQb (evC (.int 0)) (zQb (evC (.int 0)) (zQh)))))) (zQb (zQl (zQb (evC (.str "clear")) (zQb (evC (.int 0)) (zQh)))) (zQb (zQl (zQb (evC (.str "scan")) (zQb (evC (.int 1)) (zQb (evC (.int 1)) (zQh))))) (zQb (evC yZm) (zQh))))))))) (zZg (zQl (zQb (zQl (zQb (evC (.int 2)) (zQb (zQl (zQb (zQl (zQb (evC (.int 1)) (zQb (evC .none) (zQh)))) (zQb (zQl (zQb (evC .none) (zQb (evC (.int 2)) (zQh)))) (zQb (zQl (zQb (evC .none) (zQb (evC .none) (zQh)))) (zQh))))) (zQh)))) (zQb (zQl (zQb (evC (.int 0)) (zQb (evC .none) (zQh)))) (zQb (zQg 2) (zQh))))))))))
def zJb : Fn := zQ2 3 zVn
def yGo : Pg Fl := zZg (xZ8 (zQ3 .Eq (zQg 1) (evC zYp)) (zQl (zQb (zQl (zQb (evC (.str "scan")) (zQb (zQg 0) (zQh)))) (zQh))) (zQl (zQb (zQl (zQb (evC (.str "scan")) (zQb (zQg 0) (zQb (evC (.int 0)) (zQh))))) (zQh))))
def yQm : Fn := zQ2 2 yGo
def yQf : Pg Fl := zQz (zXe (zQ3 .Eq (yQp [("Table", (pD 1 0 1 [0] [] zXb))] (zQg 0)) (evC (.str "once"))) (zZg (zQl (zQb (zQl (zQb (evC (.int 1)) (zQb (zQl (zQh)) (zQh)))) (zQb (zQl (zQb (evC .none) (zQb (evC .none) (zQh)))) (zQb (zQl (zQb (evC zQ1) (zQb (zQl (zQb (evC (.str "new")) (zQb (evC (.int 0)) (zQh)))) (zQb (evC yZm) (zQh))))) (zQh)))))) (.ret .next)) (zQz (evSet 2 (zQl (zQb (evC zQ1) (yUo (zQ9 yQm (zZy 2 (zQb (evC (.int 0)) (zQb (zQg 1) (zQh))))) (zQb (zQl (zQb (evC (.str "new")) (zQb (evC (.int 1)) (zQh)))) (zQb (zQl (zQb (evC (.str "store")) (zQb (evC (.int 0)) (zQb (evC (.int 0)) (zQb (evC (.int 1)) (zQh)))))) (zQb (zQl (zQb (evC (.str "clear")) (zQb (evC (.int 1)) (zQh)))) (zQb (evC yZm) (zQh))))))))) (zZg (zQl (zQb (zQl (zQb (evC (.int 1)) (zQb (zQl (zQb (zQl (zQb (evC .none) (zQh))) (zQh))) (zQh)))) (zQb (zQl (zQb (evC (.int 0)) (zQb (evC .none) (zQh)))) (zQb (zQg 2) (zQh)))))))
def zYn : Fn := zQ2 3 yQf
def yZ6 : Pg Fl := zQz (evSet 2 (zQl (zQb (evC zQ1) (zQb (zQl (zQb (evC (.str "load")) (zQb (evC (.int 1)) (zQb (evC (.int 0)) (zQb (evC (.int 0)) (zQh)))))) (zQb (zQl (zQb (evC (.str "store")) (zQb (evC (.int 0)) (zQb (evC (.int 0)) (zQb (evC .none) (zQh)))))) (yKd (zQ9 yQm (zZy 2 (zQb (evC (.int 0)) (zQb (zQg 1) (zQh))))))))))) (zQz (zXe (zQ3 .Eq (yQp [("Table", (pD 1 0 1 [0] [] zXb))] (zQg 0)) (evC (.str "again"))) (evSet 2 (zXl .Add (zQg 2) (zQl (zQb (zQl (zQb (evC (.str "store")) (zQb (evC (.int 0)) (zQb (evC (.int 0)) (zQb (evC (.int 1)) (zQh)))))) (zQb (zQl (zQb (evC (.str "clear")) (zQb (evC (.int 1)) (zQh)))) (zQh)))))) (.ret .next)) (zZg (zQl (zQb (zQl (zQb (evC (.int 1)) (zQb (zQl (zQb (zQl (zQb (evC (.int 1)) (zQh))) (zQb (zQl (zQb (evC .none) (zQh))) (zQh)))) (zQh)))) (zQb (zQl (zQb (evC (.int 0)) (zQb (evC .none) (zQh)))) (zQb (zXl .Add (zQg 2) (zQl (zQb (evC yZm) (zQh)))) (zQh)))))))
def zHe : Fn := zQ2 3 yZ6
def yQg : Pg Fl := zQz (evSet 2 (zQl (zQb (evC zQ1) (zQb (zQl (zQb (evC (.str "load")) (zQb (evC (.int 1)) (zQb (evC (.int 0)) (zQb (evC (.int 0)) (zQh)))))) (zQb (zQl (zQb (evC (.str "load")) (zQb (evC (.int 0)) (zQb (evC (.int 1)) (zQb (evC (.int 0)) (zQh)))))) (zQb (zQl (zQb (evC (.str "store")) (zQb (evC (.int 1)) (zQb (evC (.int 0)) (zQb (evC .none) (zQh)))))) (zQh))))))) (zQz (evSet 2 (zXl .Add (zXl .Add (zQg 2) (zQ9 yQm (zZy 2 (zQb (evC (.int 0)) (zQb (zQg 1) (zQh)))))) (zQ9 yQm (zZy 2 (zQb (evC (.int 1)) (zQb (zQg 1) (zQh))))))) (zQz (zXe (zQ3 .Eq (yQp [("Table", (pD 1 0 1 [0] [] zXb))] (zQg 0)) (evC (.str "again"))) (evSet 2 (zXl .Add (zQg 2) (zQl (zQb (zQl (zQb (evC (.str "store")) (zQb (evC (.int 1)) (zQb (evC (.int 0)) (zQb (evC (.int 0)) (zQh)))))) (zQb (zQl (zQb (evC (.str "clear")) (zQb (evC (.int 0)) (zQh)))) (zQh)))))) (.ret .next)) (zZg (zQl (zQb (zQl (zQb (evC (.int 1)) (zQb (zQl (zQb (zQl (zQb (evC (.int 1)) (zQh))) (zQb (zQl (zQb (evC (.int 2)) (zQh))) (zQb (zQl (zQb (evC .none) (zQh))) (zQh))))) (zQh)))) (zQb (zQl (zQb (evC (.int 0)) (zQb (evC .none) (zQh)))) (zQb (zXl .Add (zQg 2) (zQl (zQb (evC yZm) (zQh)))) (zQh))))))))
def zYo : Fn := zQ2 3 yQg
def yQ5 : Pg Fl := zQz (zXe (yQc (zVv zJr 1 2 4 [0, 3, 1, 2] [.str "safe"] (zQb (zQg 0) (zQh)) (zQb (zQg 1) (zQb (zQg 2) (zQh))))) (zZg (evC .none)) (.ret .next)) (zQz (zXe (zQ3 .Eq (zQg 1) (evC (.int 1))) (zZg (zQl (zQb (zQl (zQb (evC (.int 1)) (zQb (zQl (zQh)) (zQh)))) (zQb (zQl (zQb (evC .none) (zQh))) (zQb (zQl (zQb (evC zQ1) (zQb (zQl (zQb (evC (.str "new")) (zQb (evC (.int 0)) (zQh)))) (zQb (evC yZm) (zQh))))) (zQh)))))) (.ret .next)) (zQz (zXe (yJy (zQ3 .Eq (yQp [("Table", (pD 1 0 1 [0] [] zXb))] (zQg 0)) (evC (.str "again"))) (yJk (zYd .In [("Table", (pD 2 0 2 [0, 1] [] zQm))] (evC zYq) (zQg 0)) (zYd .In [("Table", (pD 2 0 2 [0, 1] [] zQm))] (evC zZz) (zQg 0)))) (zZg (zQ9 zJb (zZy 1 (zQb (zQg 0) (zQh))))) (.ret .next)) (zQz (evSet 3 (zQ9 yQn (zZy 1 (zQb (zQg 0) (zQh))))) (zQz (zXe (zQ3 .Eq (zQg 3) (evC (.int 0))) (zZg (zQ9 zYn (zZy 2 (zQb (zQg 0) (zQb (zQg 2) (zQh)))))) (.ret .next)) (zZg (xZ8 (zQ3 .Eq (zQg 3) (evC (.int 1))) (zQ9 zHe (zZy 2 (zQb (zQg 0) (zQb (zQg 2) (zQh))))) (zQ9 zYo (zZy 2 (zQb (zQg 0) (zQb (zQg 2) (zQh)))))))))))
def zKd : Fn := zQ2 4 yQ5
def yHt : Pg Fl := zQz (evSet 4 (zU5 [5] (xQj (zVv xQh 1 2 3 [0, 1, 2] [] (zQb (zQg 1) (zQh)) (zQb (zQg 2) (zQb (zQg 3) (zQh))))) (zXf 5) (yQc (zQ9 yUk (zZy 2 (zQb (zQg 0) (zQb (zQg 5) (zQh)))))) (zHr (zQg 5) (evC (.int 4))))) (zQz (zXe (zQ3 .NotEq (zQg 4) (zVu (zQh))) (zZg (zQl (zQb (evC xGl) (zQb (zHr (zQg 4) (evC (.int 0))) (zQh))))) (.ret .next)) (zQz (zXe (zQ3 .Eq (zQg 1) (evC (.str "safe"))) (zZg (zQl (zQb (evC wQ5) (zQb (zVv zKd 1 2 3 [0, 1, 2] [] (zQb (zQg 0) (zQh)) (zQb (zQg 2) (zQb (zQg 3) (zQh)))) (zQh))))) (.ret .next)) (zQz (zXe (zQ3 .Eq (zQg 1) (evC (.str "snapshot"))) (zZg (zQl (zQb (evC wQ5) (zQb (zVv zXq 1 2 3 [0, 1, 2] [] (zQb (zQg 0) (zQh)) (zQb (zQg 2) (zQb (zQg 3) (zQh)))) (zQh))))) (.ret .next)) (zZg (zQl (zQb (evC wQ5) (zQb (zVv zKc 1 2 3 [0, 1, 2] [] (zQb (zQg 0) (zQh)) (zQb (zQg 2) (zQb (zQg 3) (zQh)))) (zQh))))))))
def yV9 : Fn := zQ2 6 yHt
def zK9 : Pg Fl := zQz (zXe (yJk (zGb (yQc (yZq "within" [("Table", (pD 2 0 2 [0, 1] [] zVt))] 0 (zQg 0) (zQb (zQg 1) (zQh)) (zQh)))) (zQ3 .Gt (zQ9 zU4 (zZy 1 (zQb (zQg 0) (zQh)))) (zQ9 zU4 (zZy 1 (zQb (zQg 1) (zQh)))))) (zZg (evC (.bool false))) (.ret .next)) (zQz (yUq (xQj (zQ9 zU9 zQh)) (yZt 2 (zKh (zXf 2) (zKh (zXf 3) (yKk)))) (zQz (evSet 4 (zVu (zQb (zVv zXq 1 2 3 [0, 1, 2] [] (zQb (zQg 0) (zQh)) (zQb (zQg 2) (zQb (zQg 3) (zQh)))) (zQb (zVv zXq 1 2 3 [0, 1, 2] [] (zQb (zQg 1) (zQh)) (zQb (zQg 2) (zQb (zQg 3) (zQh)))) (zQh))))) (zQz (zXe (yJy (zQ3 .Is (zHr (zQg 4) (evC (.int 0))) (evC .none)) (zQ3 .IsNot (zHr (zQg 4) (evC (.int 1))) (evC .none))) (zZg (evC (.bool false))) (.ret .next)) (zQz (evSet 5 (zVu (zQb (zVv zKc 1 2 3 [0, 1, 2] [] (zQb (zQg 0) (zQh)) (zQb (zQg 2) (zQb (zQg 3) (zQh)))) (zQb (zVv zKc 1 2 3 [0, 1, 2] [] (zQb (zQg 1) (zQh)) (zQb (zQg 2) (zQb (zQg 3) (zQh)))) (zQh))))) (zQz (zXe (yJy (zQ3 .Is (zHr (zQg 5) (evC (.int 1))) (evC .none)) (zQ3 .IsNot (zHr (zQg 5) (evC (.int 0))) (evC .none))) (zZg (evC (.bool false))) (.ret .next)) (zXe (yJy (zQ3 .Is (zHr (zQg 4) (evC (.int 1))) (evC .none)) (zQ3 .NotEq (yQp [("Table", (pD 1 0 1 [0] [] zJf))] (zQg 1)) (evC (.str "white")))) (zQz (zXe (zQ3 .NotEq (zHr (zVv yV9 2 2 4 [0, 1, 2, 3] [.str "safe"] (zQb (zQg 1) (zQb (evC (.str "safe")) (zQh))) (zQb (zQg 2) (zQb (zQg 3) (zQh)))) (evC (.int 0))) (evC (.str "yes"))) (zZg (evC (.bool false))) (.ret .next)) (zXe (zQ3 .IsNot (zVv zKd 1 2 3 [0, 1, 2] [] (zQb (zQg 1) (zQh)) (zQb (zQg 2) (zQb (zQg 3) (zQh)))) (evC .none)) (zZg (evC (.bool false))) (.ret .next))) (.ret .next))))))) (zZg (evC (.bool true))))
def zZp : Fn := zQ2 6 zK9
def yQ8 : Pg Fl := zZg (xZ9 [("Table", mkF "Table" (pS true 1 2 4 [0, 1, 2] [] zZv))] 2 (zQg 0) (yWd (evC zYg)) (zQb (zQg 1) (zQb (zQg 2) (zQh))))
def zGr : Fn := zQ2 3 yQ8
def xY1 : Pg Fl := zQz (xV7 1 (zQ9 yZl (zZy 1 (zQb (zQg 0) (zQh))))) (zQz (yUq (yUp (zXa (evC (.int 3)) (zQh))) (zXf 2) (zQz (evSet 3 (zQ9 zU3 (zZy 1 (zQb (zQg 1) (zQh))))) (zQz (evSet 4 (zQ9 zU3 (zZy 1 (zQb (zQg 1) (zQh))))) (zQz (evSet 5 (zQ9 zKe (zZy 1 (zQb (zQg 3) (zQh))))) (zQz (evSet 6 (yG0 .BitOr [("Table", (pD 2 0 2 [0, 1] [] zXd))] (zQg 5) (zQ9 zKe (zZy 1 (zQb (zQl (zQb (zHr (zQg 4) (evC (.int 0))) (zQb (zHr (zQg 3) (evC (.int 1))) (zQb (zHr (zQg 3) (evC (.int 2))) (zQh))))) (zQh)))))) (zQz (evSet 7 (yG0 .BitAnd [("Table", (pD 2 0 2 [0, 1] [] zKx))] (zQg 5) (zQ9 zKe (zZy 1 (zQb (zQl (zQb (zHr (zQg 4) (evC (.int 0))) (zQb (zHr (zQg 3) (evC (.int 1))) (zQb (zHr (zQg 3) (evC (.int 2))) (zQh))))) (zQh)))))) (zQz (zXe (yJk (zGb (yQc (zQ9 zZp (zZy 2 (zQb (zQg 5) (zQb (zQg 6) (zQh))))))) (yJk (zGb (yQc (zQ9 zZp (zZy 2 (zQb (zQg 7) (zQb (zQg 5) (zQh))))))) (zGb (yQc (zQ9 zZp (zZy 2 (zQb (zQg 7) (zQb (zQg 6) (zQh))))))))) (zZg (evC (.bool false))) (.ret .next)) (zXe (yJk (zGb (yQc (zQ9 zZp (zZy 2 (zQb (zQg 5) (zQb (zQg 5) (zQh))))))) (zGb (yQc (zQ9 zZp (zZy 2 (zQb (zQg 6) (zQb (yUs [("Table", (pD 1 2 3 [0, 1, 2] [] zGr))] 2 (evC (wQ1 "Table")) (zQh) (zQb (zHr (zQg 3) (evC (.int 1))) (zQb (zHr (zQg 3) (evC (.int 2))) (zQh)))) (zQh)))))))) (zZg (evC (.bool false))) (.ret .next))))))))) (zZg (evC (.bool true))))
def xZ3 : Fn := zQ2 8 xY1
end Ev
namespace Ev
open PySem PySem.Spec PyProof.Rows L2
def vQf (ns : List Int) (a r : Int) : List PyData := [.list (ns.map .int), .int a, .int r]
def Pen (n : Nat) (o : Ob) : Prop := ∃ ns a r, o = .lst (vQf ns a r) ∧ 0 ≤ a ∧ a + n ≤ 1000000 ∧ 0 ≤ r
theorem Pen.le {n m : Nat} {o : Ob} (h : Pen n o) (e : m ≤ n) : Pen m o := by
  obtain ⟨ns, a, r, q, h1, h2, h3⟩ := h
  exact ⟨ns, a, r, q, h1, by omega, h3⟩
theorem wHz {a c : Int} (ha : 0 ≤ a) (ha2 : a ≤ 1000000) (hc : 0 ≤ c) (hc2 : c ≤ 100000) : 0 ≤ c * a * a ∧ c * a * a ≤ 100000000000000000 := by
  have h1 : 0 ≤ c * a := Int.mul_nonneg hc ha
  have h2 : c * a ≤ 100000 * 1000000 := Int.mul_le_mul hc2 ha2 ha (by decide)
  have h3 : 0 ≤ c * a * a := Int.mul_nonneg h1 ha
  have h4 : c * a * a ≤ 100000 * 1000000 * 1000000 := Int.mul_le_mul h2 ha2 ha (by decide)
  omega
theorem vQo {y a c : Int} (h1 : 0 ≤ y) (h2 : y < 2147483648) (ha : 0 ≤ a) (ha2 : a ≤ 1000000) (hc : 0 ≤ c) (hc2 : c ≤ 1000) : 0 ≤ y * (2 * a + c) ∧ y * (2 * a + c) ≤ 2147483648 * 2001000 :=
  ⟨Int.mul_nonneg h1 (by omega), Int.mul_le_mul (by omega) (by omega) (by omega) (by decide)⟩
theorem wVy {a c : Int} (ha : 0 ≤ a) (ha2 : a ≤ 1000000) : (c % 2147483563 + 50053 * a + 71).natAbs < 18446744073709551616 := by
  have h1 := Int.emod_nonneg c (show (2147483563 : Int) ≠ 0 by decide)
  have h2 := Int.emod_lt_of_pos c (show (0 : Int) < 2147483563 by decide)
  omega
theorem xYj {a x : Int} (ha : 0 ≤ a) (ha2 : a ≤ 1000000) : (x % 2147483647 * (2 * a + 13) + 61007 * a * a + 29).natAbs < 18446744073709551616 := by
  have h1 := Int.emod_nonneg x (show (2147483647 : Int) ≠ 0 by decide)
  have h2 := Int.emod_lt_of_pos x (show (0 : Int) < 2147483647 by decide)
  have h3 := vQo (c := 13) h1 (by omega) ha ha2 (by decide) (by decide)
  have h4 := wHz (c := 61007) ha ha2 (by decide) (by decide)
  omega
theorem yXq {X : Exn → Mem → Prop} {n : Nat} {c : Ob} {cs : List Ob} {k : Int} {E : EV → Mem → Prop} (hc : Pen (n + 1) c) (hk : 0 < k) (hk2 : k < 1000000)
    (h : ∀ v c', 0 ≤ v → v < k → Pen n c' → E (.d (.int v)) ⟨[], c' :: cs⟩) : W (zZ6 [.cell 0, .d (.int k)]) ⟨[], c :: cs⟩ X E := by
  obtain ⟨ns, a, r, rfl, ha, ha2, hr⟩ := hc
  have ha2 : a ≤ 1000000 := by omega
  have kk : k < 1073741824 := by omega
  have md : ∀ x : Int, 0 ≤ x % k ∧ x % k < k := fun x => ⟨Int.emod_nonneg x (by omega), Int.emod_lt_of_pos x hk⟩
  have m1 : -18446744073709551616 < a ∧ a < 18446744073709551616 := by omega
  have m2 : -18446744073709551616 < 2 * a + 13 ∧ 2 * a + 13 < 18446744073709551616 := by omega
  have b1 := fun c => wVy (c := c) ha ha2
  have b2 := fun x => xYj (x := x) ha ha2
  have hE : ∀ x r', 0 ≤ r' → E (.d (.int (x % k))) ⟨[], .lst [.list (ns.map .int), .int (a + 1), .int r'] :: cs⟩ := fun x r' q => h _ _ (md x).1 (md x).2 ⟨ns, a + 1, r', rfl, by omega, by omega, q⟩
  have hE0 : ∀ x r', 0 ≤ r' → E (.d (.int (x % k))) ⟨[], .lst [.list (ns.map .int), .int a, .int r'] :: cs⟩ := fun x r' q => h _ _ (md x).1 (md x).2 ⟨ns, a, r', rfl, by omega, by omega, q⟩
  have dv : ∀ x : Int, 0 ≤ x → 0 ≤ x / k := fun x q => Int.ediv_nonneg q (by omega)
  unfold zZ6
  rw [zVk]
  unfold yXc vQf zZo
  by_cases h0 : 0 < r
  · simp [ixN, h0, hk, kk, Int.not_le.mpr h0]
    exact hE0 _ _ (dv r hr)
  · have h0' : r ≤ 0 := by omega
    cases ns with
    | nil =>
      simp [ixN, h0, h0', hk, kk, m1, m2, b1, b2]
      have l : 0 ≤ a := ha
      have hl : ¬ a < 0 := by omega
      simp [l, hl]
      exact hE _ _ hr
    | cons n0 ns =>
      have hlen : 0 < ((n0 :: ns).length : Int) := by simp only [List.length_cons]; omega
      have hc : ∃ c, atI (n0 :: ns) (a % ((n0 :: ns).length : Int)) = some c := by
        have q1 := Int.emod_nonneg a (show ((n0 :: ns).length : Int) ≠ 0 by omega)
        have q2 := Int.emod_lt_of_pos a hlen
        rw [wXl q1]
        exact ⟨_, List.getElem?_eq_getElem (by omega)⟩
      obtain ⟨c, hc⟩ := hc
      generalize (n0 :: ns) = ms at *
      have nn : ms ≠ [] := by
        intro e
        subst e
        simp at hlen
      have nn2 : 0 < ms.length := by omega
      simp [ixN, h0, h0', hk, kk, m1, m2, b1, b2, nn, nn2, wVz, hc]
      repeat' first | (refine And.intro ?_ ?_) | intro _
      all_goals first
        | exact hE _ _ hr
        | (refine hE _ _ (dv _ ?_); omega)
        | omega
theorem vQe {X : Exn → Mem → Prop} {ns : List Int} {E : EV → Mem → Prop} (h : ∀ o, Pen 1000000 o → E (.new o) ⟨[], []⟩) : W (yZl [.d (yJ6 ns)]) ⟨[], []⟩ X E := by
  unfold yZl
  rw [zVk]
  unfold yJ3 zZo yJ6
  have e : cutD (ns.map PyData.int) none (some 63) = (ns.take 63).map PyData.int := wQy (k := 63)
  simp [e]
  exact h _ ⟨ns.take 63, 0, 0, by unfold vQf; rw [List.map_take], by omega, by omega, by omega⟩
end Ev

namespace Ev
open PySem PySem.Spec PyProof.Rows L2
theorem yUl : ∀ l : List Str, (l.map PyData.str).all yQb = true
  | [] => rfl
  | n :: ns => by rw [List.map_cons, List.all_cons, yUl ns]; rfl
theorem xKj {a : Str} : ∀ l : List Str, ((l.map PyData.str).any fun z => PyData.eqv z (.str a)) = decide (a ∈ l)
  | [] => by simp
  | n :: ns => by
    rw [List.map_cons, List.any_cons, xKj ns]
    by_cases h : n = a
    · subst h
      simp [PyData.eqv]
    · have h2 : ¬ a = n := fun e => h e.symm
      simp [PyData.eqv, h, h2]
theorem xQe {a : Str} (l : List Str) : inQ (.str a) (l.map .str) = some (decide (a ∈ l)) := by
  unfold inQ
  rw [yUl, xKj]
  rfl
theorem wZ8 {a : Str} (l : List Str) : zG1 .In (.str a) (.tuple (l.map .str)) = some (decide (a ∈ l)) := xQe l
def yJm : List Str := ["white", "grey", "black"]
def xWy : List Str := ["load", "old", "new", "source"]
def zKf : List Str := ["once", "again"]
def xYa (l : List Str) : PyData → Bool
  | .str a => decide (a ∈ l)
  | _ => false
theorem wW4 {a : Str} : zG1 .In (.str a) (.tuple [.str "white", .str "grey", .str "black"]) = some (decide (a ∈ yJm)) := wZ8 yJm
theorem wW3 {a : Str} : zG1 .In (.str a) (.tuple [.str "load", .str "old", .str "new", .str "source"]) = some (decide (a ∈ xWy)) := wZ8 xWy
def xKb : PyData → Bool
  | .tuple [.str a, b] => decide (a ∈ xWy) && xYa yJm b
  | _ => false
theorem yGw {X : Exn → Mem → Prop} {d : PyData} {cs : List Ob} {E : EV → Mem → Prop} (hk : zJu d = true) (h : E (.d (.bool (xYa yJm d))) ⟨[], cs⟩) : W (zHg [.d d]) ⟨[], cs⟩ X E := by
  unfold zHg
  rw [zVk]
  unfold yJ2 zZo
  cases d with
  | str a =>
    simp [-Bool.exists_bool, wW4]
    exact h
  | dict es =>
    simp only [xQa] at hk
    simp [-Bool.exists_bool, hk]
    exact h
  | _ =>
    simp [-Bool.exists_bool]
    exact h
theorem wQw {xs : List PyData} (h : xs.length ≠ 2) : xKb (.tuple xs) = false := by
  unfold xKb
  split
  · rename_i e
    cases e
    simp at h
  · rfl
theorem yGv {X : Exn → Mem → Prop} {d : PyData} {cs : List Ob} {E : EV → Mem → Prop} (hk : Kin d) (h : E (.d (.bool (xKb d))) ⟨[], cs⟩) : W (zHf [.d d]) ⟨[], cs⟩ X E := by
  unfold zHf
  rw [zVk]
  unfold yJ1 zZo
  have kd := hk.k
  cases d with
  | tuple xs =>
    by_cases hl : xs.length = 2
    · obtain ⟨x, y, rfl⟩ : ∃ x y, xs = [x, y] := by
        match xs, hl with
        | [x, y], _ => exact ⟨x, y, rfl⟩
      have kx := hk.i _ x rfl (by simp)
      have ky := hk.i _ y rfl (by simp)
      cases x with
      | str a =>
        simp [-Bool.exists_bool, wW3]
        have e : xKb (.tuple [.str a, y]) = (decide (a ∈ xWy) && xYa yJm y) := rfl
        rw [e] at h
        refine ⟨fun ha => yGw ky ?_, fun ha => ?_⟩
        · rw [decide_eq_true ha, Bool.true_and] at h
          simpa using h
        · rw [decide_eq_false ha, Bool.false_and] at h
          rw [decide_eq_false ha]
          exact h
      | dict es =>
        simp only [xQa] at kx
        simp [-Bool.exists_bool, kx]
        exact h
      | _ =>
        simp [-Bool.exists_bool]
        exact h
    · rw [wQw hl] at h
      have hl2 : ¬ (xs.length : Int) = 2 := by omega
      simp [-Bool.exists_bool, hl2, h]
  | dict es =>
    simp only [xQa] at kd
    simp [-Bool.exists_bool, kd]
    exact h
  | _ =>
    simp [-Bool.exists_bool]
    exact h
def zZf : List PyData := xWy.flatMap fun k => yJm.map fun c => .tuple [.str k, .str c]
end Ev

namespace Ev
open PySem PySem.Spec PyProof.Rows L2
def vKm : PyData → PyData
  | .tuple [_, x] => x
  | d => d
def vYe : PyData → PyData
  | .tuple [x, _] => x
  | d => d
def wrB (d : PyData) : Bool := !xKb (vKm d)
def xJo (j : Nat) (xs : List PyData) : List PyData := xs.mapIdx fun i x => .tuple [.int (j + i : Nat), x]
theorem wVr {xs : List PyData} : yW5 xs = xJo 0 xs := by
  unfold yW5 xJo
  simp
theorem yWe {j : Nat} {x : PyData} {xs : List PyData} : xJo j (x :: xs) = .tuple [.int (j : Nat), x] :: xJo (j + 1) xs := by
  unfold xJo
  rw [List.mapIdx_cons]
  have e : (fun (i : Nat) (y : PyData) => PyData.tuple [.int (j + (i + 1) : Nat), y]) = fun (i : Nat) (y : PyData) => PyData.tuple [.int (j + 1 + i : Nat), y] := by
    funext i y
    rw [show j + (i + 1) = j + 1 + i by omega]
  simp only [Nat.add_zero]
  rw [e]
def wrF (j : Nat) (xs : List PyData) : List PyData := ((xJo j xs).filter wrB).map vYe
theorem yHb {j : Nat} {x : PyData} {xs : List PyData} : wrF j (x :: xs) = if xKb x then wrF (j + 1) xs else .int (j : Nat) :: wrF (j + 1) xs := by
  unfold wrF
  rw [yWe, List.filter_cons]
  have e : wrB (.tuple [.int (j : Nat), x]) = !xKb x := rfl
  rw [e]
  cases xKb x <;> rfl
theorem xW1 : ∀ {xs : List PyData} {j : Nat}, wrF j xs = [] → ∀ x, x ∈ xs → xKb x = true
  | [], _, _, x, h => by cases h
  | y :: ys, j, e, x, h => by
    rw [yHb] at e
    cases q : xKb y with
    | false =>
      rw [q] at e
      simp at e
    | true =>
      rw [q] at e
      rcases List.mem_cons.mp h with rfl | h
      · exact q
      · exact xW1 e x h
theorem wVt {d : PyData} (h : xKb d = true) : d.canLay0 = true := by
  unfold xKb at h
  split at h
  · rename_i a b
    rw [Bool.and_eq_true] at h
    cases b with
    | str b =>
      have h1 : ∀ s, s ∈ xWy → PyData.strOk s = true := by decide +kernel
      have h2 : ∀ s, s ∈ yJm → PyData.strOk s = true := by decide +kernel
      simp [PyData.canLay0, PyData.canLayAll0, h1 a (of_decide_eq_true h.1), h2 b (of_decide_eq_true h.2)]
    | _ => exact absurd h.2 (by simp [xYa])
  · cases h
theorem xKf : ∀ {xs : List PyData}, (∀ x, x ∈ xs → x.canLay0 = true) → PyData.canLayAll0 xs = true
  | [], _ => rfl
  | x :: xs, h => by
    simp only [PyData.canLayAll0, Bool.and_eq_true]
    exact ⟨h x (List.mem_cons_self ..), xKf fun y hy => h y (List.mem_cons_of_mem _ hy)⟩
theorem wVs : ∀ d, d ∈ zZf → SeqAt.shaped d = true := by decide +kernel
def inB (xs : List PyData) (d : PyData) : Bool := xs.any fun z => PyData.eqv z d
theorem xUt {xs : List PyData} (h : wrF 0 xs = []) {d : PyData} (hd : d ∈ zZf) : inQ d xs = some (inB xs d) := by
  unfold inQ
  rw [wVs d hd, xKf fun x hx => wVt (xW1 h x hx)]
  simp [inB]
def zJo (xs : List PyData) : List PyData := zZf.filter (inB xs)
theorem xVx {X : Exn → Mem → Prop} {xs : List PyData} {cs : List Ob} {E : EV → Mem → Prop} (hw : wrF 0 xs = []) (h : E (.d (.tuple (zJo xs))) ⟨[], cs⟩) : W (yXm [.d (.tuple xs)]) ⟨[], cs⟩ X E := by
  unfold yXm
  rw [zVk]
  unfold yYw zZo
  simp [-Bool.exists_bool]
  have e : (zYg : PyData) = .tuple zZf := rfl
  refine yWi (ds := zZf) (inB xs) (fun d => d) (by decide) (fun d hd => ?_) ?_
  · have q : zG1 .In d (.tuple xs) = some (inB xs d) := xUt hw hd
    simp [-Bool.exists_bool, q, zJ2]
  · simp [-Bool.exists_bool]
    exact h
theorem xHo {X : Exn → Mem → Prop} {xs : List PyData} {cs : List Ob} {E : EV → Mem → Prop} (hk : ∀ x, x ∈ xs → Kin x) (h1 : wrF 0 xs = [] → E (.d (.tuple (zJo xs))) ⟨[], cs⟩)
    (h2 : ∀ i, (wrF 0 xs).head? = some (.int i) → X ⟨"InvalidEntry", [("index", .int i)]⟩ ⟨[], cs⟩) : W (zKb [.d (.tuple xs)]) ⟨[], cs⟩ X E := by
  unfold zKb
  rw [zVk]
  unfold zYl zZo
  refine yZr (fun m => wrF 0 xs = [] ∧ ∃ v1 v2, m = ⟨[some (.d (.tuple xs)), v1, v2], cs⟩) ?_ ?_
  · simp [-Bool.exists_bool]
    refine xXh (fun ds m => ∃ j ys, ds = xJo j ys ∧ wrF 0 xs = wrF j ys ∧ (∀ y, y ∈ ys → y ∈ xs) ∧ ∃ v1 v2, m = ⟨[some (.d (.tuple xs)), v1, v2], cs⟩) ⟨0, xs, wVr, rfl, fun _ h => h, _, _, rfl⟩ ?_ ?_
    · rintro d ds m ⟨j, ys, e1, e2, hm, v1, v2, rfl⟩
      cases ys with
      | nil => cases e1
      | cons y ys =>
        rw [yWe] at e1
        cases e1
        rw [yHb] at e2
        simp [-Bool.exists_bool, zKh, yKk]
        refine yGv (hk y (hm y (List.mem_cons_self ..))) ?_
        simp [-Bool.exists_bool]
        refine ⟨fun hn => ?_, fun hy => ?_⟩
        · rw [hn] at e2
          refine h2 _ ?_
          rw [e2]
          rfl
        · rw [hy, if_pos rfl] at e2
          exact ⟨j + 1, ys, rfl, e2, fun z hz => hm z (List.mem_cons_of_mem _ hz)⟩
    · rintro m ⟨j, ys, e1, e2, hm, v1, v2, rfl⟩
      cases ys with
      | nil => exact ⟨e2, v1, v2, rfl⟩
      | cons y ys =>
        rw [yWe] at e1
        cases e1
  · rintro m ⟨hw, v1, v2, rfl⟩
    simp [-Bool.exists_bool]
    refine xVx hw ?_
    simpa using h1 hw
end Ev

namespace Ev
open PySem PySem.Spec PyProof.Rows L2
theorem vKy {c : Str} {h : Fn} {args : List AV} {cs : List Ob} {X : Exn → Mem → Prop} {E : EV → Mem → Prop}
    (hh : W (h (.cell cs.length :: args)) ⟨[], cs ++ [.ins c []]⟩ (fun _ _ => False) fun v m' => v = .d .none ∧ ∃ o, m'.cs = cs ++ [o] ∧ E (.new o) ⟨[], cs⟩) : W (mkF c h args) ⟨[], cs⟩ X E := by
  have q := hh.go
  refine ⟨?_⟩
  unfold mkF
  show (match h (.cell cs.length :: args) ⟨[], cs ++ [.ins c []]⟩ with
    | .ok (.d .none) m' => if m'.cs.length = cs.length + 1 then (match m'.cs[cs.length]? with
      | some o => .ok (.new o) ⟨[], m'.cs.take cs.length⟩
      | none => .bad) else .bad
    | .thr x m' => if m'.cs.length = cs.length + 1 then .thr x ⟨[], m'.cs.take cs.length⟩ else .bad
    | _ => .bad : Res EV).wp E X
  generalize h (.cell cs.length :: args) ⟨[], cs ++ [.ins c []]⟩ = r at q ⊢
  cases r with
  | bad => exact q
  | thr x m => exact q.elim
  | ok v m =>
    obtain ⟨rfl, o, e, z⟩ := q
    simp [e]
    exact z
def xJz (es : List PyData) (f r : Str) : List (Str × PyData) := [("kept", .tuple es), ("kept_fresh", .str f), ("kept_roots", .str r)]
def yGj (es : List PyData) (f r : Str) : Ob := .ins "Table" (xJz es f r)
def zJg (es : List PyData) (f r : Str) : PyData := yWq "Table" (xJz es f r)
def yJo (xs : List PyData) : Prop := ∀ x, x ∈ xs → x ∈ zZf
theorem xKa : ∀ d, d ∈ zZf → xKb d = true := by decide +kernel
theorem yJo.wr : ∀ {xs : List PyData} {j : Nat}, yJo xs → wrF j xs = []
  | [], _, _ => rfl
  | x :: xs, j, h => by
    rw [yHb, xKa x (h x (List.mem_cons_self ..)), if_pos rfl]
    exact yJo.wr fun y hy => h y (List.mem_cons_of_mem _ hy)
theorem xQ8 {xs : List PyData} (h : xs.length ≤ 1000) : xHx (dAV xs) = some xs := by
  unfold xHx
  rw [yWf]
  have e : yY9 xs = true := by simp [yY9]; omega
  simp [e]
theorem xK8 {r : Str} (hr : r ∈ zKf) : zG1 .NotIn (.str r) (.tuple [.str "once", .str "again"]) = some false := by
  have e : inQ (.str r) [.str "once", .str "again"] = some (decide (r ∈ zKf)) := xQe zKf
  show (inQ (.str r) [.str "once", .str "again"]).map (!·) = _
  rw [e, decide_eq_true hr]
  rfl
theorem wW2 {X : Exn → Mem → Prop} {xs : List PyData} {f r : Str} {cs : List Ob} {E : EV → Mem → Prop} (hx : yJo xs) (hl : xs.length ≤ 1000) (hk : ∀ x, x ∈ xs → Kin x) (hf : f ∈ yJm) (hr : r ∈ zKf)
    (h : E (.d .none) ⟨[], cs ++ [yGj (zJo xs) f r]⟩) : W (zZv [.cell cs.length, .d (.str f), .d (.str r), .d (.tuple xs)]) ⟨[], cs ++ [.ins "Table" []]⟩ X E := by
  unfold zZv
  rw [zVk]
  unfold zYm zZo
  have e0 : pick [] (dAV []) = [] := rfl
  simp [-Bool.exists_bool, pS, e0]
  refine ⟨xs, xQ8 hl, ?_⟩
  refine xHo hk (fun _ => ?_) (fun i hi => ?_)
  · simp [-Bool.exists_bool, wGo, putD]
    refine yGw rfl ?_
    have n1 : ("ROOTS" : Str) ≠ "kept" := by decide
    have n2 : ("kept" : Str) ≠ "kept_fresh" := by decide
    have n3 : ("kept" : Str) ≠ "kept_roots" := by decide
    have n4 : ("kept_fresh" : Str) ≠ "kept_roots" := by decide
    have nr : zG1 .NotIn (.str r) (.tuple [.str "once", .str "again"]) = some false := xK8 hr
    have nf : yKc "ROOTS" (zZr []) = none := rfl
    simp [-Bool.exists_bool, xYa, hf, n1, n2, n3, n4, nr, nf, putD]
    exact h
  · rw [hx.wr] at hi
    cases hi
abbrev vQp : Fn := mkF "Table" (pS true 1 2 4 [0, 1, 2] [] zZv)
theorem wQa {X : Exn → Mem → Prop} {xs : List PyData} {f r : Str} {cs : List Ob} {E : EV → Mem → Prop} (hx : yJo xs) (hl : xs.length ≤ 1000) (hk : ∀ x, x ∈ xs → Kin x) (hf : f ∈ yJm) (hr : r ∈ zKf)
    (h : E (.new (yGj (zJo xs) f r)) ⟨[], cs⟩) : W (vQp (dAV xs ++ [.d (.str f), .d (.str r)])) ⟨[], cs⟩ X E := by
  refine vKy ?_
  unfold pS
  have l0 : (dAV xs).length = xs.length := by simp [dAV]
  have t : ((AV.cell cs.length :: (dAV xs ++ [.d (.str f), .d (.str r)])).take ((AV.cell cs.length :: (dAV xs ++ [.d (.str f), .d (.str r)])).length - 2)) = AV.cell cs.length :: dAV xs := by
    have e : (AV.cell cs.length :: (dAV xs ++ [.d (.str f), .d (.str r)])).length - 2 = (AV.cell cs.length :: dAV xs).length := by simp
    rw [e, ← List.cons_append, List.take_left']
    rfl
  have d : ((AV.cell cs.length :: (dAV xs ++ [.d (.str f), .d (.str r)])).drop ((AV.cell cs.length :: (dAV xs ++ [.d (.str f), .d (.str r)])).length - 2)) = [.d (.str f), .d (.str r)] := by
    have e : (AV.cell cs.length :: (dAV xs ++ [.d (.str f), .d (.str r)])).length - 2 = (AV.cell cs.length :: dAV xs).length := by simp
    rw [e, ← List.cons_append, List.drop_left']
    rfl
  rw [t, d]
  have p : pick [0, 1, 2] ((AV.cell cs.length :: dAV xs).take 1 ++ [.d (.str f), .d (.str r)] ++ dAV []) = [.cell cs.length, .d (.str f), .d (.str r)] := rfl
  rw [p]
  rw [if_pos ⟨by simp, .inl rfl, by simp, rfl⟩]
  simp [-Bool.exists_bool]
  refine ⟨xs, xQ8 hl, ?_⟩
  exact wW2 hx hl hk hf hr ⟨rfl, _, rfl, h⟩
theorem vQ1 {es : List PyData} {f r : Str} : yKc "kept_fresh" (zZr (xJz es f r)) = some (.str f) := rfl
theorem vQ0 {es : List PyData} {f r : Str} : yKc "kept_roots" (zZr (xJz es f r)) = some (.str r) := rfl
theorem wVo {es : List PyData} {f r : Str} : yKc "kept" (zZr (xJz es f r)) = some (.tuple es) := rfl
theorem zQ7 {es : List PyData} {f r : Str} : yJi (zJg es f r) = some (("Table" : Str), zZr (xJz es f r)) := rfl
theorem wVu {X : Exn → Mem → Prop} {f r : Str} {cs : List Ob} {E : EV → Mem → Prop} (hf : f ∈ yJm) (hr : r ∈ zKf) (h : E (.new (yGj [] f r)) ⟨[], cs⟩) : W (zJ9 [.d (wQ1 "Table"), .d (.str f), .d (.str r)]) ⟨[], cs⟩ X E := by
  unfold zJ9
  rw [zVk]
  unfold zH4 zZo
  simp [-Bool.exists_bool]
  refine wQa (xs := []) (fun _ h => by cases h) (by simp) (fun _ h => by cases h) hf hr ?_
  simp [-Bool.exists_bool]
  exact h
theorem yUb {X : Exn → Mem → Prop} {es es' : List PyData} {f r f' r' : Str} {cs : List Ob} {E : EV → Mem → Prop} (h : E (.d (.bool (decide (f = f') && decide (r = r')))) ⟨[], cs⟩) : W (zXg [.d (zJg es f r), .d (zJg es' f' r')]) ⟨[], cs⟩ X E := by
  unfold zXg
  rw [zVk]
  unfold zWa zZo
  simp [-Bool.exists_bool, zQ7, vQ1, vQ0]
  refine ⟨fun e => ?_, fun e => ?_⟩
  · rw [decide_eq_true e, Bool.true_and] at h
    exact h
  · rw [decide_eq_false e, Bool.false_and] at h
    rw [decide_eq_false e]
    exact h
theorem yVp {X : Exn → Mem → Prop} {es es' : List PyData} {f r f' r' : Str} {cs : List Ob} {E : EV → Mem → Prop} (h : f = f' ∧ r = r' → E (.d .none) ⟨[], cs⟩) (hx : ¬ (f = f' ∧ r = r') → X ⟨"Mismatch", []⟩ ⟨[], cs⟩) : W (zZ5 [.d (zJg es f r), .d (zJg es' f' r')]) ⟨[], cs⟩ X E := by
  unfold zZ5
  rw [zVk]
  unfold zKg zZo
  have n : yKc "is_beside" (zZr (xJz es f r)) = none := rfl
  simp [-Bool.exists_bool, zQ7, n, pD]
  refine ⟨fun _ => ?_, rfl⟩
  have p : pick [0, 1] (AV.d (zJg es f r) :: AV.d (zJg es' f' r') :: dAV []) = [.d (zJg es f r), .d (zJg es' f' r')] := rfl
  rw [p]
  refine yUb ?_
  simp [-Bool.exists_bool]
  refine ⟨fun q => hx ?_, fun a b => h ⟨a, b⟩⟩
  rintro ⟨a, b⟩
  exact absurd b (q a)
theorem wZf {X : Exn → Mem → Prop} {es xs : List PyData} {f r : Str} {cs : List Ob} {E : EV → Mem → Prop} (hx : yJo xs) (hl : xs.length ≤ 1000) (hk : ∀ x, x ∈ xs → Kin x) (hf : f ∈ yJm) (hr : r ∈ zKf)
    (h : E (.new (yGj (zJo xs) f r)) ⟨[], cs⟩) : W (zZu [.d (zJg es f r), .d (.tuple xs)]) ⟨[], cs⟩ X E := by
  unfold zZu
  rw [zVk]
  unfold zVo zZo
  simp [-Bool.exists_bool, zQ7, vQ1, vQ0, zG7]
  exact wQa hx hl hk hf hr h
theorem zKk {xs : List PyData} : yJo (zJo xs) := fun x h => (List.mem_filter.mp h).1
theorem yJc {xs : List PyData} : (zJo xs).length ≤ 12 := Nat.le_trans (List.length_filter_le ..) (by decide)
theorem vJl {X : Exn → Mem → Prop} {es es' : List PyData} {f r f' r' : Str} {cs : List Ob} {E : EV → Mem → Prop} (hx : yJo (es ++ es')) (hl : (es ++ es').length ≤ 1000) (hk : ∀ x, x ∈ zZf → Kin x) (hf : f ∈ yJm) (hr : r ∈ zKf)
    (h : f = f' ∧ r = r' → E (.new (yGj (zJo (zJo (es ++ es'))) f r)) ⟨[], cs⟩) (hn : ¬ (f = f' ∧ r = r') → X ⟨"Mismatch", []⟩ ⟨[], cs⟩) : W (zXd [.d (zJg es f r), .d (zJg es' f' r')]) ⟨[], cs⟩ X E := by
  unfold zXd
  rw [zVk]
  unfold zHa zZo
  have n1 : yKc "need_beside" (zZr (xJz es f r)) = none := rfl
  have n2 : yKc "with_entries" (zZr (xJz es f r)) = none := rfl
  have p : pick [0, 1] (AV.d (zJg es f r) :: AV.d (zJg es' f' r') :: dAV []) = [.d (zJg es f r), .d (zJg es' f' r')] := rfl
  simp [-Bool.exists_bool, zQ7, n1, pD, p]
  refine yVp (fun q => ?_) hn
  simp [-Bool.exists_bool, zQ7, n2, wVo]
  refine ⟨by simp at hl; omega, xVx hx.wr ?_⟩
  simp [-Bool.exists_bool]
  refine ⟨fun _ => ?_, rfl⟩
  have p2 : pick [0, 1] (AV.d (zJg es f r) :: AV.d (.tuple (zJo (es ++ es'))) :: dAV []) = [.d (zJg es f r), .d (.tuple (zJo (es ++ es')))] := rfl
  rw [p2]
  exact wZf zKk (Nat.le_trans yJc (by decide)) (fun x h => hk x (zKk x h)) hf hr (h q)
theorem xJf {es : List PyData} (h : yJo es) {d : PyData} (hd : d ∈ zZf) : zG1 .In d (.tuple es) = some (inB es d) := xUt h.wr hd
end Ev

namespace Ev
open PySem PySem.Spec PyProof.Rows L2
theorem pD1 {g : Fn} {a : AV} : pD 1 0 1 [0] [] g [a] = g [a] := rfl
theorem pD2 {g : Fn} {a b : AV} : pD 2 0 2 [0, 1] [] g [a, b] = g [a, b] := rfl
def wXn (es : List PyData) (x : PyData) : List PyData := zJo (zJo (es ++ zJo [x]))
end Ev

namespace Ev
open PySem PySem.Spec PyProof.Rows L2
theorem inL {es : List PyData} (h : yJo es) {d : PyData} (hd : d ∈ zZf) : zG1 .In d (.list es) = some (inB es d) := xUt h.wr hd
theorem yUd {xs ys : List PyData} {d : PyData} : inB (xs ++ ys) d = (inB xs d || inB ys d) := by simp [inB]
theorem yK6 {xs ys : List PyData} (h : ∀ d, d ∈ zZf → inB xs d = inB ys d) : zJo xs = zJo ys := List.filter_congr h
theorem xVa : ∀ d, d ∈ zZf → PyData.eqv d d = true := by decide +kernel
theorem wVq : ∀ z, z ∈ zZf → ∀ d, d ∈ zZf → PyData.eqv z d = true → z = d := by
  intro z hz d hd
  simp only [zZf, xWy, yJm, List.flatMap_cons, List.flatMap_nil, List.map_cons, List.map_nil, List.cons_append, List.nil_append, List.append_nil, List.mem_cons, List.not_mem_nil, or_false] at hz hd
  rcases hz with rfl | rfl | rfl | rfl | rfl | rfl | rfl | rfl | rfl | rfl | rfl | rfl <;> rcases hd with rfl | rfl | rfl | rfl | rfl | rfl | rfl | rfl | rfl | rfl | rfl | rfl <;> first | exact fun _ => rfl | exact fun h => absurd h (by decide +kernel)
theorem yK9 {xs : List PyData} (h : yJo xs) {d : PyData} (hd : d ∈ zZf) : inB xs d = true ↔ d ∈ xs := by
  unfold inB
  rw [List.any_eq_true]
  constructor
  · rintro ⟨z, hz, e⟩
    rw [← wVq z (h z hz) d hd e]
    exact hz
  · exact fun hm => ⟨d, hm, xVa d hd⟩
theorem yJe {xs : List PyData} {d : PyData} (hd : d ∈ zZf) : inB (zJo xs) d = inB xs d := by
  rw [Bool.eq_iff_iff, yK9 zKk hd, zJo, List.mem_filter]
  exact ⟨fun h => h.2, fun h => ⟨hd, h⟩⟩
theorem xUj {xs : List PyData} : zJo (zJo xs) = zJo xs := yK6 fun d hd => yJe hd
theorem wV1 {es : List PyData} {x : PyData} : wXn es x = zJo (es ++ [x]) := by
  unfold wXn
  rw [xUj]
  exact yK6 fun d hd => by rw [yUd, yUd, yJe hd]
theorem xXg : ∀ {xs pre : List PyData}, xs.foldl wXn (zJo pre) = zJo (pre ++ xs)
  | [], pre => by rw [List.append_nil]; rfl
  | x :: xs, pre => by
    have e : wXn (zJo pre) x = zJo (pre ++ [x]) := by
      rw [wV1]
      exact yK6 fun d hd => by rw [yUd, yUd, yJe hd]
    rw [List.foldl_cons, e, xXg, List.append_assoc]
    rfl
theorem wVb {xs : List PyData} : xs.foldl wXn [] = zJo xs := xXg (pre := [])
theorem xWf {xs : List PyData} {p : PyData → Bool} (h : yJo xs) {d : PyData} (hd : d ∈ zZf) : inB (xs.filter p) d = (inB xs d && p d) := by
  rw [Bool.eq_iff_iff, Bool.and_eq_true, yK9 (fun x hx => h x (List.mem_filter.mp hx).1) hd, yK9 h hd, List.mem_filter]
theorem yKm : ∀ {l xs : List PyData}, l.Nodup → xs.Sublist l → ∀ p : PyData → Bool, (∀ d, d ∈ l → (p d = true ↔ d ∈ xs)) → l.filter p = xs
  | [], xs, _, h, p, _ => by cases h; rfl
  | a :: l, xs, hn, h, p, hp => by
    have hn := List.nodup_cons.mp hn
    cases h with
    | cons _ h =>
      have na : p a = false := by
        cases q : p a with
        | false => rfl
        | true => exact absurd (h.subset ((hp a (List.mem_cons_self ..)).mp q)) hn.1
      rw [List.filter_cons, na, if_neg (by simp)]
      exact yKm hn.2 h p fun d hd => hp d (List.mem_cons_of_mem _ hd)
    | cons_cons _ h =>
      rw [List.filter_cons, (hp a (List.mem_cons_self ..)).mpr (List.mem_cons_self ..), if_pos rfl]
      rw [yKm hn.2 h p fun d hd => ?_]
      rw [hp d (List.mem_cons_of_mem _ hd), List.mem_cons]
      constructor
      · rintro (rfl | z)
        · exact absurd hd hn.1
        · exact z
      · exact .inr
theorem wQu : zZf.Pairwise fun a b => PyData.eqv a b = false := by
  simp only [zZf, xWy, yJm, List.flatMap_cons, List.flatMap_nil, List.map_cons, List.map_nil, List.cons_append, List.nil_append, List.append_nil]
  decide +kernel
theorem xWk : zZf.Nodup := by
  refine List.Pairwise.imp_of_mem (fun {a b} ha hb h e => ?_) wQu
  subst e
  rw [xVa a ha] at h
  cases h
theorem xHn {xs : List PyData} (h : xs.Sublist zZf) : zJo xs = xs := yKm xWk h _ fun d hd => yK9 (fun x hx => h.subset hx) hd

theorem wQv : ∀ d, d ∈ zZf → Fit 2 60 d := by
  intro d hd
  simp only [zZf, xWy, yJm, List.flatMap_cons, List.flatMap_nil, List.map_cons, List.map_nil, List.cons_append, List.nil_append, List.append_nil, List.mem_cons, List.not_mem_nil, or_false] at hd
  rcases hd with rfl | rfl | rfl | rfl | rfl | rfl | rfl | rfl | rfl | rfl | rfl | rfl
  all_goals exact ⟨by decide +kernel, by decide +kernel, by decide +kernel, by decide +kernel⟩
theorem yQr : ∀ d, d ∈ zZf → Kin d := fun d hd => (wQv d hd).kin
theorem sub_len {xs : List PyData} (h : xs.Sublist zZf) : xs.length ≤ 12 := h.length_le
theorem yHc {xs : List PyData} (h : xs.Sublist zZf) : yJo xs := fun _ hx => h.subset hx
theorem yUt {xs : List PyData} {f r : Str} : dOf (yGj xs f r) = zJg xs f r := rfl
end Ev

namespace Ev
open PySem PySem.Spec PyProof.Rows L2
def en (a b : Str) : PyData := .tuple [.str a, .str b]
end Ev

namespace Ev
open PySem PySem.Spec PyProof.Rows L2
section
variable {es : List PyData} {f r : Str} {h : Fn} {y : PyData}
theorem yQk : xVz .In y (zJg es f r) = true := rfl
theorem xXl : wUg .In [("Table", h)] y (zJg es f r) = some h := rfl
end
section
variable {X : Exn → Mem → Prop} {xs : List PyData} {f r : Str} {cs : List Ob} {E : EV → Mem → Prop} {d p : PyData}
theorem xV5 (h : E (.d (.str f)) ⟨[], cs⟩) : W (zJf [.d (zJg xs f r)]) ⟨[], cs⟩ X E := by
  unfold zJf
  rw [zVk]
  unfold zH3 zZo
  simpa [-Bool.exists_bool, zQ7, vQ1] using h
theorem xQ7 (h : E (.d (.str r)) ⟨[], cs⟩) : W (zXb [.d (zJg xs f r)]) ⟨[], cs⟩ X E := by
  unfold zXb
  rw [zVk]
  unfold zH2 zZo
  simpa [-Bool.exists_bool, zQ7, vQ0] using h
theorem zHi (hx : xs.Sublist zZf) (hp : p ∈ zZf) (h : E (.d (.bool (inB xs p))) ⟨[], cs⟩) : W (zQm [.d (zJg xs f r), .d p]) ⟨[], cs⟩ X E := by
  unfold zQm
  rw [zVk]
  unfold zVp zZo
  simp [-Bool.exists_bool, zQ7, wVo]
  refine yGv (yQr p hp) ?_
  have q := xJf (yHc hx) hp
  have e : xKb p = true := xKa p hp
  simp [-Bool.exists_bool, e, zQ7, wVo, q]
  exact h
end
end Ev

namespace Ev
open PySem PySem.Spec PyProof.Rows L2
theorem xGx {α : Type} {X : Exn → Mem → Prop} {m : Mem} {E : EV → Mem → Prop} {is : List Nat} {g : PyData → Pg Unit} {t : Pg Bool} {e : Pg EV} {l : List α} {q : α → PyData} (b : α → Bool) (φ : α → PyData) (hl : l.length < 16777216)
    (h : ∀ a, a ∈ l → W (g (q a)) m X fun _ m1 => W t m1 noX fun k m2 => k = b a ∧ if k = true then W e m2 noX fun v m3 => W (toA v) m3 X fun u m4 => u = .d (φ a) ∧ (⟨zJ2 is m4.sl, m4.cs⟩ : Mem) = m else (⟨zJ2 is m2.sl, m2.cs⟩ : Mem) = m)
    (hE : E (.fresh ((l.filter b).map φ)) m) : W (yJl is g t e (l.map q) []) m X E := by
  refine yUz (fun ds' acc m' => ∃ pre l', l = pre ++ l' ∧ ds' = l'.map q ∧ acc = (pre.filter b).map φ ∧ m' = m) ⟨[], l, rfl, rfl, rfl, rfl⟩ ?_ ?_
  · rintro d ds' acc m' ⟨pre, l', e1, e0, rfl, rfl⟩
    cases l' with
    | nil => cases e0
    | cons a l' =>
      injection e0 with ea el
      subst ea el
      have hd : a ∈ l := by rw [e1]; simp
      have la : ((pre.filter b).map φ).length < 16777216 := by
        rw [List.length_map]
        have h1 := List.length_filter_le b pre
        have h2 : pre.length ≤ l.length := by rw [e1, List.length_append]; omega
        omega
      have e2 : l = (pre ++ [a]) ++ l' := by rw [e1]; simp
      refine (h a hd).mono fun _ m1 q => q.mono fun k m2 q => ?_
      obtain ⟨hk, q⟩ := q
      cases k with
      | true =>
        rw [if_pos rfl] at q ⊢
        refine q.mono fun v m3 q => q.mono fun u m4 q => ?_
        exact ⟨φ a, q.1, la, pre ++ [a], l', e2, rfl, by rw [List.filter_append, List.map_append, List.filter_cons, ← hk]; simp, q.2⟩
      | false =>
        rw [if_neg (by simp)] at q ⊢
        exact ⟨pre ++ [a], l', e2, rfl, by rw [List.filter_append, List.map_append, List.filter_cons, ← hk]; simp, q⟩
  · rintro acc m' ⟨pre, l', e1, e0, rfl, rfl⟩
    have e3 : l' = [] := List.map_eq_nil_iff.mp e0.symm
    subst e3
    rw [List.append_nil] at e1
    rw [← e1]
    exact hE
theorem wV4 {X : Exn → Mem → Prop} {m : Mem} {F : Fl → Mem → Prop} {t : Pg Bool} {e : Pg EV} {q : Pg Fl} (b : Bool) (ht : W t m noX fun k m' => k = b ∧ m' = m) (h1 : b = true → W (zZg e) m X F) (h2 : b = false → W q m X F) : W (zQz (zXe t (zZg e) (.ret .next)) q) m X F := by
  rw [xGu]
  unfold zXe
  rw [zQ8]
  refine ht.no.mono ?_
  rintro k m' ⟨rfl, rfl⟩
  cases k with
  | false =>
    have := h2 rfl
    simpa using this
  | true =>
    have := h1 rfl
    rw [xGw] at this
    simp only [if_true]
    rw [xGw]
    exact this
theorem yG2 {X : Exn → Mem → Prop} {m : Mem} {F : Fl → Mem → Prop} {f : Pg EV} {q : Pg Fl} {i : Nat} (d : PyData) (hf : W f m noX fun v m' => v = .d d ∧ m' = m) (h : W q ⟨m.sl.set i (some (.d d)), m.cs⟩ X F) : W (zQz (evSet i f) q) m X F := by
  rw [xGu, wV5]
  refine hf.no.mono ?_
  rintro v m' ⟨rfl, rfl⟩
  obtain ⟨sl, cs⟩ := m'
  simpa using h
end Ev

namespace Ev
open PySem PySem.Spec PyProof.Rows L2
structure Way where
  ne : List PyData
  ba : List PyData
  hu : List Str
  mo : List Str
structure Way.Ok (w : Way) : Prop where
  ne : yJo w.ne
  ba : yJo w.ba
  l1 : w.ne.length ≤ 100
  l2 : w.ba.length ≤ 100
def xXn (xs : List PyData) (f r : Str) (w : Way) : Bool := decide (f ∈ w.hu) && decide (r ∈ w.mo) && w.ne.all (inB xs) && !w.ba.any (inB xs)
def wY6 (w : Way) (nm : Str) : PyData := .tuple [.tuple w.ne, .tuple w.ba, .tuple (w.hu.map .str), .tuple (w.mo.map .str), .str nm]
theorem yVn {a : Str} {l : List Str} : zG1 .NotIn (.str a) (.tuple (l.map .str)) = some (!decide (a ∈ l)) := by
  show (inQ (.str a) (l.map .str)).map (!·) = _
  rw [xQe]
  rfl
section
variable {X : Exn → Mem → Prop} {xs : List PyData} {f r : Str} {cs : List Ob} {E : EV → Mem → Prop} {d p : PyData} {w : Way}
theorem wXd {nm : Str} (hx : xs.Sublist zZf) (hw : w.Ok) (h : E (.d (.bool (xXn xs f r w))) ⟨[], cs⟩) : W (yUk [.d (zJg xs f r), .d (wY6 w nm)]) ⟨[], cs⟩ X E := by
  unfold yUk
  rw [zVk]
  unfold xX3 zZo wY6
  simp [-Bool.exists_bool, yZt, zKh, yKk, zQ7, pD1, pD2]
  refine xV5 ?_
  by_cases hf : f ∈ w.hu
  · simp [-Bool.exists_bool, yVn, hf, zQ7, pD1]
    refine xQ7 ?_
    by_cases hr : r ∈ w.mo
    · simp [-Bool.exists_bool, yVn, hr, zG7]
      refine yWi (ds := w.ne) (fun _ => true) (fun d => .bool (inB xs d)) (by have := hw.l1; omega) (fun d hd => ?_) ?_
      · simp [-Bool.exists_bool, zQ7, yQk, xXl, pD2, xQq, xXm]
        refine zHi hx (hw.ne d hd) ?_
        simp [-Bool.exists_bool, zJ2]
      · simp [-Bool.exists_bool, -List.all_eq_true, -List.all_eq_false]
        have go : xXn xs f r w = (w.ne.all (inB xs) && !w.ba.any (inB xs)) := by
          unfold xXn
          rw [decide_eq_true hf, decide_eq_true hr, Bool.true_and, Bool.true_and]
        rw [go] at h
        refine ⟨fun e => ?_, fun e => ?_⟩
        · have e : w.ne.all (inB xs) = true := e
          rw [e] at h
          refine yWi (ds := w.ba) (fun _ => true) (fun d => .bool (inB xs d)) (by have := hw.l2; omega) (fun d hd => ?_) ?_
          · simp [-Bool.exists_bool, zQ7, yQk, xXl, pD2, xQq, xXm]
            refine zHi hx (hw.ba d hd) ?_
            simp [-Bool.exists_bool, zJ2]
          · simp [-Bool.exists_bool, -List.any_eq_true, -List.any_eq_false]
            exact h
        · have e : w.ne.all (inB xs) = false := e
          show E (.d (.bool (w.ne.all (inB xs)))) _
          rw [e] at h ⊢
          exact h
    · simp [-Bool.exists_bool, yVn, hr]
      simpa [xXn, hf, hr] using h
  · simp [-Bool.exists_bool, yVn, hf]
    simpa [xXn, hf] using h
end
def wYu : List Str := ["white", "grey", "black"]
def wQg : List Str := ["grey", "black"]
def yW6 : List Str := ["once", "again"]
def xWi : List Int := [1, 2, 3, 4, 5, 6, 100]
def zWm : List Str := ["whole", "fields"]
def vVc (sc : Str) : List PyData := if sc = "whole" then [en "source" "black"] else [en "source" "grey", en "source" "black"]
def vQq : List (Way × Str) := [(⟨[en "load" "grey"], [], wQg, yW6⟩, "registers"), (⟨[en "load" "white", en "old" "grey"], [], wQg, yW6⟩, "held"), (⟨[en "old" "white", en "old" "grey"], [], wQg, yW6⟩, "paths")]
def vKl (l : List (List PyData)) : List (Way × Str) := l.map fun n => (⟨n, [], wYu, ["again"]⟩, "strong")
def wX6 : List (Way × Str) := [(⟨[en "load" "grey", en "old" "grey"], [], wYu, yW6⟩, "screened"), (⟨[en "old" "white", en "old" "grey"], [], wYu, yW6⟩, "snapshot")]
def xYl (ring : Int) (sc : Str) : List (Way × Str) :=
  if ring = 1 then [(⟨[], [], wYu, ["again"]⟩, "strong"), (⟨[], [], wQg, yW6⟩, "thread")]
  else vKl (if sc = "whole" then [[en "new" "black"], [en "source" "black"]] else [[en "new" "grey", en "new" "black"], [en "new" "grey", en "source" "black"], [en "new" "black", en "source" "grey"], [en "source" "grey", en "source" "black"]]) ++ vQq
def vKd : List PyData := [en "load" "white", en "old" "white", en "new" "white", en "source" "white"]
def vZh (ring : Int) (sc : Str) : List (Way × Str) := (⟨[], vVc sc, ["black"], yW6⟩, "single") :: if ring = 1 then [(⟨[], vKd ++ vVc sc, ["white"], ["once"]⟩, "single")] else []
def pW (g : Str) (ring : Int) (sc : Str) : List (Way × Str) := if g = "safe" then xYl ring sc else if g = "snapshot" then wX6 else vZh ring sc
def xZ1 : List Str := ["safe", "snapshot", "bounded"]
def wHv (g : Str) (ring : Int) (sc : Str) : List PyData := (pW g ring sc).map fun p => wY6 p.1 p.2
theorem xW5 {cs : List Ob} {g sc : Str} {ring : Int} (hg : g ∈ xZ1) (hr : ring ∈ xWi) (hs : sc ∈ zWm) :
    xQh [.d (.str g), .d (.int ring), .d (.str sc)] ⟨[], cs⟩ = .ok (.d (.tuple (wHv g ring sc))) ⟨[], cs⟩ := by
  simp only [xZ1, xWi, zWm, List.mem_cons, List.not_mem_nil, or_false] at hg hr hs
  rcases hg with rfl | rfl | rfl <;> rcases hr with rfl | rfl | rfl | rfl | rfl | rfl | rfl <;> rcases hs with rfl | rfl <;> kernel_rfl
theorem enM {a b : Str} (ha : a ∈ xWy) (hb : b ∈ yJm) : en a b ∈ zZf := List.mem_flatMap.mpr ⟨a, ha, List.mem_map.mpr ⟨b, hb, rfl⟩⟩
def wU5 : PyData → Bool
  | .tuple [.str a, .str b] => decide (a ∈ xWy) && decide (b ∈ yJm)
  | _ => false
theorem xV0 {d : PyData} (h : wU5 d = true) : d ∈ zZf := by
  unfold wU5 at h
  split at h
  · rw [Bool.and_eq_true, decide_eq_true_iff, decide_eq_true_iff] at h
    exact enM h.1 h.2
  · cases h
def wHr (w : Way) : Bool := w.ne.all wU5 && w.ba.all wU5 && decide (w.ne.length ≤ 100) && decide (w.ba.length ≤ 100)
theorem wok {w : Way} (h : wHr w = true) : w.Ok := by
  unfold wHr at h
  rw [Bool.and_eq_true, Bool.and_eq_true, Bool.and_eq_true, decide_eq_true_iff, decide_eq_true_iff, List.all_eq_true, List.all_eq_true] at h
  exact ⟨fun x hx => xV0 (h.1.1.1 x hx), fun x hx => xV0 (h.1.1.2 x hx), h.1.2, h.2⟩
def wJ2 : List Str := ["strong", "registers", "held", "paths", "thread", "screened", "snapshot", "single"]
def wfB (p : Way × Str) : Bool := wHr p.1 && decide (p.2 ∈ wJ2) && !p.1.hu.isEmpty && p.1.hu.all (fun f => decide (f ∈ yJm)) && !p.1.mo.isEmpty && p.1.mo.all (fun r => decide (r ∈ zKf)) && decide (p.1.hu.length ≤ 3) && decide (p.1.mo.length ≤ 3)
theorem xGr {g sc : Str} {ring : Int} (hg : g ∈ xZ1) (hr : ring ∈ xWi) (hs : sc ∈ zWm) : (pW g ring sc).all wfB = true ∧ (pW g ring sc).length ≤ 8 ∧ 0 < (pW g ring sc).length := by
  simp only [xZ1, xWi, zWm, List.mem_cons, List.not_mem_nil, or_false] at hg hr hs
  rcases hg with rfl | rfl | rfl <;> rcases hr with rfl | rfl | rfl | rfl | rfl | rfl | rfl <;> rcases hs with rfl | rfl <;> exact ⟨by decide +kernel, by decide +kernel, by decide +kernel⟩
theorem wHu {p : Way × Str} (h : wfB p = true) : p.1.Ok ∧ p.2 ∈ wJ2 := by
  unfold wfB at h
  simp only [Bool.and_eq_true, decide_eq_true_iff] at h
  exact ⟨wok h.1.1.1.1.1.1.1, h.1.1.1.1.1.1.2⟩
section
variable {X : Exn → Mem → Prop} {xs : List PyData} {f r g sc : Str} {ring : Int} {cs : List Ob} {E : EV → Mem → Prop}
theorem pk3 {a b c : AV} : pick [0, 1, 2] (a :: b :: c :: dAV []) = [a, b, c] := rfl
def hasB (xs : List PyData) (f r g : Str) (ring : Int) (sc : Str) : Bool := (pW g ring sc).any fun p => xXn xs f r p.1
theorem wJn (hg : g ∈ xZ1) (hr : ring ∈ xWi) (hs : sc ∈ zWm) {p : Way × Str} (hp : p ∈ pW g ring sc) : p.1.Ok ∧ p.2 ∈ wJ2 := wHu (List.all_eq_true.mp (xGr hg hr hs).1 p hp)
theorem yJx (hx : xs.Sublist zZf) (hg : g ∈ xZ1) (hr : ring ∈ xWi) (hs : sc ∈ zWm) (h : E (.d (.bool (hasB xs f r g ring sc))) ⟨[], cs⟩) :
    W (zJr [.d (zJg xs f r), .d (.str g), .d (.int ring), .d (.str sc)]) ⟨[], cs⟩ X E := by
  unfold zJr
  rw [zVk]
  unfold zG8 zZo
  simp [-Bool.exists_bool, pk3]
  refine vY8 (xW5 hg hr hs) ?_
  have hl := (xGr hg hr hs).2.1
  simp [-Bool.exists_bool, zG7]
  refine xGx (l := pW g ring sc) (fun _ => true) (fun p => .bool (xXn xs f r p.1)) (by omega) (fun p hp => ?_) ?_
  · simp [-Bool.exists_bool]
    refine wXd hx (wJn hg hr hs hp).1 ?_
    simp [-Bool.exists_bool, zJ2]
  · simp [-Bool.exists_bool, -List.any_eq_true, -List.any_eq_false]
    exact h
end
end Ev

namespace Ev
open PySem PySem.Spec PyProof.Rows L2
end Ev

namespace Ev
open PySem PySem.Spec PyProof.Rows L2
section
variable {X : Exn → Mem → Prop} {cs : List Ob} {E : EV → Mem → Prop}
end
end Ev

namespace Ev
open PySem PySem.Spec PyProof.Rows L2
def nD (n : Nat) : PyData := .int n
def oD : Option Nat → PyData
  | none => .none
  | some n => .int n
structure MS where
  w : Nat
  rows : List (List (Option Nat))
  held : List (Option Nat)
  paint : List Str
  seen : List (List Nat)
  ph : Str
structure MA where
  d : Nat
  ar : Nat
  ah : Nat
  ap : Nat
  as : Nat
  is : List Nat
def MA.all (a : MA) : List Nat := a.d :: a.ar :: a.ah :: a.ap :: a.as :: a.is
def mdE (a : MA) (w : Nat) (ph : Str) : List (PyData × PyData) := [(.str "wide", nD w), (.str "rows", xQm a.ar), (.str "held", xQm a.ah), (.str "paint", xQm a.ap), (.str "seen", xQm a.as), (.str "phase", .str ph)]
def wH6 (r : List (Option Nat)) : Ob := .lst (r.map oD)
def vJr (l : List Nat) : PyData := .list (l.map nD)
def wHw (l : List Nat) : PyData := .tuple (l.map nD)
def vX8 (r : List (Option Nat)) : PyData := .tuple (r.map oD)
structure MAt (cs : List Ob) (a : MA) (s : MS) : Prop where
  pos : 0 ∉ a.all
  nd : a.all.Nodup
  dic : cs[a.d]? = some (.dic (mdE a s.w s.ph))
  rws : cs[a.ar]? = some (.lst (a.is.map xQm))
  hld : cs[a.ah]? = some (.lst (s.held.map oD))
  pnt : cs[a.ap]? = some (.lst (s.paint.map .str))
  sn : cs[a.as]? = some (.lst (s.seen.map vJr))
  len : a.is.length = s.rows.length
  row : ∀ (k i : Nat) (r : List (Option Nat)), a.is[k]? = some i → s.rows[k]? = some r → cs[i]? = some (wH6 r)
section
variable {cs : List Ob} {a : MA} {s : MS}
theorem MA.ne {a : MA} (h : a.all.Nodup) : a.d ≠ a.ar ∧ a.d ≠ a.ah ∧ a.d ≠ a.ap ∧ a.d ≠ a.as ∧ a.ar ≠ a.ah ∧ a.ar ≠ a.ap ∧ a.ar ≠ a.as ∧ a.ah ≠ a.ap ∧ a.ah ≠ a.as ∧ a.ap ≠ a.as ∧
    ∀ i, i ∈ a.is → a.d ≠ i ∧ a.ar ≠ i ∧ a.ah ≠ i ∧ a.ap ≠ i ∧ a.as ≠ i := by
  simp only [MA.all, List.nodup_cons, List.mem_cons, not_or] at h
  obtain ⟨⟨a1, a2, a3, a4, a5⟩, ⟨b2, b3, b4, b5⟩, ⟨c3, c4, c5⟩, ⟨d4, d5⟩, e5, _⟩ := h
  exact ⟨a1, a2, a3, a4, b2, b3, b4, c3, c4, d4, fun i hi => ⟨fun z => a5 (z ▸ hi), fun z => b5 (z ▸ hi), fun z => c5 (z ▸ hi), fun z => d5 (z ▸ hi), fun z => e5 (z ▸ hi)⟩⟩
theorem wXa {i : Nat} {o : Ob} (h : cs[i]? = some o) : i < cs.length := (List.getElem?_eq_some_iff.mp h).1
theorem zGa {i j : Nat} {o p : Ob} (h : cs[i]? = some p) (n : j ≠ i) : (cs.set j o)[i]? = some p := by rw [List.getElem?_set_ne n]; exact h
theorem wZl {i : Nat} {o p : Ob} (h : cs[i]? = some p) : (cs.set i o)[i]? = some o := by rw [List.getElem?_set_self (wXa h)]
theorem MAt.other (h : MAt cs a s) {j : Nat} {o : Ob} (hj : j ∉ a.all) : MAt (cs.set j o) a s := by
  have m : ∀ {i}, i ∈ a.all → j ≠ i := fun hi z => hj (z ▸ hi)
  exact ⟨h.pos, h.nd, zGa h.dic (m (by simp [MA.all])), zGa h.rws (m (by simp [MA.all])), zGa h.hld (m (by simp [MA.all])), zGa h.pnt (m (by simp [MA.all])), zGa h.sn (m (by simp [MA.all])), h.len,
    fun k i r e1 e2 => zGa (h.row k i r e1 e2) (m (by simp [MA.all, List.mem_of_getElem? e1]))⟩
theorem MAt.to {cs' : List Ob} (h : MAt cs a s) (g : ∀ i o, i ∈ a.all → cs[i]? = some o → cs'[i]? = some o) : MAt cs' a s :=
  ⟨h.pos, h.nd, g _ _ (by simp [MA.all]) h.dic, g _ _ (by simp [MA.all]) h.rws, g _ _ (by simp [MA.all]) h.hld, g _ _ (by simp [MA.all]) h.pnt, g _ _ (by simp [MA.all]) h.sn, h.len,
    fun k i r e1 e2 => g _ _ (by simp [MA.all, List.mem_of_getElem? e1]) (h.row k i r e1 e2)⟩
theorem MAt.app (h : MAt cs a s) (t : List Ob) : MAt (cs ++ t) a s := h.to fun i o _ e => by rw [List.getElem?_append_left (wXa e)]; exact e
theorem MAt.pen {c c' : Ob} {R : List Ob} (h : MAt (c :: R) a s) : MAt (c' :: R) a s := h.other (o := c') h.pos
theorem MAt.nz (h : MAt cs a s) {i : Nat} (hi : i ∈ a.all) : i ≠ 0 := fun z => h.pos (z ▸ hi)
theorem MAt.wKb (h : MAt cs a s) (p : List Str) : MAt (cs.set a.ap (.lst (p.map .str))) a { s with paint := p } := by
  obtain ⟨a1, a2, a3, a4, b2, b3, b4, c3, c4, d4, f⟩ := MA.ne h.nd
  exact ⟨h.pos, h.nd, zGa h.dic a3.symm, zGa h.rws b3.symm, zGa h.hld c3.symm, wZl h.pnt, zGa h.sn d4, h.len, fun k i r e1 e2 => zGa (h.row k i r e1 e2) (f i (List.mem_of_getElem? e1)).2.2.2.1⟩
theorem MAt.wJa (h : MAt cs a s) (p : List (List Nat)) : MAt (cs.set a.as (.lst (p.map vJr))) a { s with seen := p } := by
  obtain ⟨a1, a2, a3, a4, b2, b3, b4, c3, c4, d4, f⟩ := MA.ne h.nd
  exact ⟨h.pos, h.nd, zGa h.dic a4.symm, zGa h.rws b4.symm, zGa h.hld c4.symm, zGa h.pnt d4.symm, wZl h.sn, h.len, fun k i r e1 e2 => zGa (h.row k i r e1 e2) (f i (List.mem_of_getElem? e1)).2.2.2.2⟩
end
end Ev

namespace Ev
open PySem PySem.Spec PyProof.Rows L2
def vJn (w : Nat) (rows : List (List (Option Nat))) : PyData := .tuple [nD w, .tuple (rows.map vX8)]
section
variable {X : Exn → Mem → Prop} {cs : List Ob} {E : EV → Mem → Prop}
structure MS.Small (s : MS) : Prop where
  rows : s.rows.length ≤ 1000
  seen : s.seen.length ≤ 1000
  held : s.held.length ≤ 1000
  paint : s.paint.length ≤ 1000
  row : ∀ r, r ∈ s.rows → r.length ≤ 1000
  sn : ∀ r, r ∈ s.seen → r.length ≤ 1000
end
end Ev

namespace Ev
open PySem PySem.Spec PyProof.Rows L2
inductive Act where
  | start
  | load (r s f : Nat)
  | store (s f : Nat) (t : Option Nat)
  | move (r t : Nat)
  | clear (r : Nat)
  | new (r : Nat)
  | scan (x : Nat)
  | scanf (x f : Nat)
  | look
  | fin
def xQr : Act → PyData
  | .start => .tuple [.str "start"]
  | .load r s f => .tuple [.str "load", nD r, nD s, nD f]
  | .store s f t => .tuple [.str "store", nD s, nD f, oD t]
  | .move r t => .tuple [.str "move", nD r, nD t]
  | .clear r => .tuple [.str "clear", nD r]
  | .new r => .tuple [.str "new", nD r]
  | .scan x => .tuple [.str "scan", nD x]
  | .scanf x f => .tuple [.str "scan", nD x, nD f]
  | .look => .tuple [.str "look"]
  | .fin => .tuple [.str "end"]
def wWt (s : MS) : PyData := yWq "Moment" [("stage", .str s.ph), ("rows", .tuple (s.rows.map vX8)), ("held", .tuple (s.held.map oD)), ("paint", .tuple (s.paint.map .str)), ("seen", .tuple (s.seen.map wHw))]
structure CY where
  cls : Str
  w : Nat
  many : Nat
  first : List Nat
  rule : PyData
  m0 : MS
  st : List (Act × MS)
def ptD (d m : PyData) : PyData := .tuple [d, m]
def CY.now (y : CY) : MS := (y.st.getLast?.map (·.2)).getD y.m0
def CY.story (y : CY) : List PyData := ptD .none (wWt y.m0) :: y.st.map fun p => ptD (xQr p.1) (wWt p.2)
def CY.ob (y : CY) : Ob := .ins y.cls [("wide", nD y.w), ("many", nD y.many), ("first", wHw y.first), ("rule", y.rule), ("story", .list y.story)]
def CY.da (y : CY) : PyData := yWq y.cls [("wide", nD y.w), ("many", nD y.many), ("first", wHw y.first), ("rule", y.rule), ("story", .list y.story)]
theorem CY.dOf {y : CY} : dOf y.ob = y.da := rfl
section
variable {w m f r s : PyData}
end
end Ev

namespace Ev
open PySem PySem.Spec PyProof.Rows L2
section
variable {X : Exn → Mem → Prop} {xs : List PyData} {f r g sc : Str} {ring : Int} {cs : List Ob} {E : EV → Mem → Prop} {w : Way}
theorem xU1 {α : Type} {l : List α} {p : α → Bool} : (!(l.filter p).isEmpty) = l.any p := by
  induction l with
  | nil => rfl
  | cons a l ih =>
    rw [List.filter_cons, List.any_cons]
    cases p a with
    | true => rfl
    | false => simpa using ih
def zHl (xs : List PyData) (f : Str) : Nat := if f = "white" then 0 else if inB xs (en "load" "grey") || inB xs (en "old" "grey") then 2 else 1
theorem wXj (hx : xs.Sublist zZf) (h : E (.d (.int (zHl xs f))) ⟨[], cs⟩) : W (yQn [.d (zJg xs f r)]) ⟨[], cs⟩ X E := by
  unfold yQn
  rw [zVk]
  unfold yKv zZo
  have e1 : zYr = en "load" "grey" := rfl
  have e2 : zG2 = en "old" "grey" := rfl
  simp [-Bool.exists_bool, zQ7, pD1]
  refine xV5 ?_
  by_cases hf : f = ("white" : Str)
  · simp [-Bool.exists_bool, hf, yQh]
    simpa [zHl, hf] using h
  · simp [-Bool.exists_bool, hf, yQh, e1, e2, zQ7, yQk, xXl, pD2, xQq, xXm]
    refine zHi hx (enM (by decide) (by decide)) ?_
    cases q1 : inB xs (en "load" "grey") with
    | true =>
      simp [-Bool.exists_bool]
      simpa [zHl, hf, q1] using h
    | false =>
      simp [-Bool.exists_bool, zQ7, yQk, xXl, pD2, xQq, xXm]
      refine zHi hx (enM (by decide) (by decide)) ?_
      cases q2 : inB xs (en "old" "grey") with
      | true =>
        simp [-Bool.exists_bool]
        simpa [zHl, hf, q1, q2] using h
      | false =>
        simp [-Bool.exists_bool]
        simpa [zHl, hf, q1, q2] using h
end
end Ev

namespace Ev
open PySem PySem.Spec PyProof.Rows L2
theorem yG3 {X : Exn → Mem → Prop} {m : Mem} {F : Fl → Mem → Prop} {t : Pg Bool} {e q : Pg Fl} (b : Bool) (ht : W t m noX fun k m' => k = b ∧ m' = m) (h1 : b = true → W (zQz e q) m X F) (h2 : b = false → W q m X F) : W (zQz (zXe t e (.ret .next)) q) m X F := by
  rw [xGu]
  unfold zXe
  rw [zQ8]
  refine ht.no.mono ?_
  rintro k m' ⟨rfl, rfl⟩
  cases k with
  | false => simpa using h2 rfl
  | true =>
    have := h1 rfl
    rw [xGu] at this
    simpa using this
structure RunS where
  w : Nat
  rows : List (List (Option Nat))
  held : List (Option Nat)
  acts : List Act
def RunS.d (u : RunS) : PyData := .tuple [vJn u.w u.rows, .tuple (u.held.map oD), .tuple (u.acts.map xQr)]
def zH0 (x : Nat) (sc : Str) : Act := if sc = "whole" then .scan x else .scanf x 0
def xYn : RunS := ⟨1, [], [none], [.start, .new 0, .fin]⟩
def yX0 (r sc : Str) : RunS := if r = "once" then ⟨1, [], [none, none], [.start, .new 0, .fin]⟩ else ⟨1, [[none]], [some 0, none], [.start, zH0 0 sc, .new 1, .store 0 0 (some 1), .clear 1, .fin]⟩
def yGn (r sc : Str) : RunS := ⟨1, [[some 1], [none]], [some 0, none], [.start, .load 1 0 0, .store 0 0 none, zH0 0 sc] ++ (if r = "again" then [.store 0 0 (some 1), .clear 1] else []) ++ [.fin]⟩
def yX1 (r sc : Str) : RunS := ⟨1, [[some 1], [some 2], [none]], [some 0, none], [.start, .load 1 0 0, .load 0 1 0, .store 1 0 none, zH0 0 sc, zH0 1 sc] ++ (if r = "again" then [.store 1 0 (some 0), .clear 0] else []) ++ [.fin]⟩
def yVi (n : Nat) : RunS := if n = 0 then ⟨2, [[none, none]], [some 0, none], [.start, .scanf 0 0, .new 1, .store 0 0 (some 1), .clear 1, .scanf 0 1, .fin]⟩
  else if n = 1 then ⟨2, [[none, some 1], [none, none]], [some 0, none], [.start, .scanf 0 0, .load 1 0 1, .store 0 1 none, .store 0 0 (some 1), .clear 1, .scanf 0 1, .fin]⟩
  else ⟨2, [[some 1, none], [none, some 2], [none, none]], [some 0, none], [.start, .load 1 0 0, .load 0 1 1, .store 1 1 none, .scanf 0 0, .scanf 0 1, .scanf 1 0, .store 1 0 (some 0), .clear 0, .scanf 1 1, .fin]⟩
def xZv (xs : List PyData) (f r : Str) (ring : Int) (sc : Str) : RunS :=
  if ring = 1 then xYn else if r = "again" ∧ (inB xs (en "new" "black") = true ∨ inB xs (en "source" "black") = true) then yVi (zHl xs f)
  else if zHl xs f = 0 then yX0 r sc else if zHl xs f = 1 then yGn r sc else yX1 r sc
section
variable {X : Exn → Mem → Prop} {xs : List PyData} {f r sc : Str} {ring : Int} {cs : List Ob} {E : EV → Mem → Prop}
theorem xHk (hr : r ∈ zKf) (hs : sc ∈ zWm) : zYn [.d (zJg xs f r), .d (.str sc)] ⟨[], cs⟩ = .ok (.d (yX0 r sc).d) ⟨[], cs⟩ := by
  simp only [zKf, zWm, List.mem_cons, List.not_mem_nil, or_false] at hr hs
  rcases hr with rfl | rfl <;> rcases hs with rfl | rfl <;> kernel_rfl
theorem wKw (hr : r ∈ zKf) (hs : sc ∈ zWm) : zHe [.d (zJg xs f r), .d (.str sc)] ⟨[], cs⟩ = .ok (.d (yGn r sc).d) ⟨[], cs⟩ := by
  simp only [zKf, zWm, List.mem_cons, List.not_mem_nil, or_false] at hr hs
  rcases hr with rfl | rfl <;> rcases hs with rfl | rfl <;> kernel_rfl
theorem xHl (hr : r ∈ zKf) (hs : sc ∈ zWm) : zYo [.d (zJg xs f r), .d (.str sc)] ⟨[], cs⟩ = .ok (.d (yX1 r sc).d) ⟨[], cs⟩ := by
  simp only [zKf, zWm, List.mem_cons, List.not_mem_nil, or_false] at hr hs
  rcases hr with rfl | rfl <;> rcases hs with rfl | rfl <;> kernel_rfl
theorem yG1 : zHl xs f = 0 ∨ zHl xs f = 1 ∨ zHl xs f = 2 := by
  unfold zHl
  split
  · exact .inl rfl
  · split
    · exact .inr (.inr rfl)
    · exact .inr (.inl rfl)
theorem yJn {α : Type} {p : Pg α} {m m' : Mem} {v : α} {X : Exn → Mem → Prop} {F : α → Mem → Prop} (e : p m = .ok v m') (h : F v m') : W p m X F := ⟨by rw [e]; exact h⟩
theorem vZo (hx : xs.Sublist zZf) (h : E (.d (yVi (zHl xs f)).d) ⟨[], cs⟩) : W (zJb [.d (zJg xs f r)]) ⟨[], cs⟩ X E := by
  unfold zJb
  rw [zVk]
  unfold zVn zZo
  refine yG2 (.int (zHl xs f)) ?_ ?_
  · simp [-Bool.exists_bool]
    refine wXj hx ?_
    simp [-Bool.exists_bool]
  simp only [List.set, List.set_cons_succ, List.set_cons_zero]
  generalize zJg xs f r = tb
  rcases yG1 (xs := xs) (f := f) with e | e | e
  · rw [e] at h ⊢
    exact yJn (v := Fl.ret (.d (yVi 0).d)) (m' := ⟨[some (.d tb), some (.d (.int 0)), some (.d (.tuple ((yVi 0).acts.map xQr)))], cs⟩) (by kernel_rfl) h
  · rw [e] at h ⊢
    exact yJn (v := Fl.ret (.d (yVi 1).d)) (m' := ⟨[some (.d tb), some (.d (.int 1)), some (.d (.tuple (((yVi 1).acts.take 5).map xQr)))], cs⟩) (by kernel_rfl) h
  · rw [e] at h ⊢
    exact yJn (v := Fl.ret (.d (yVi 2).d)) (m' := ⟨[some (.d tb), some (.d (.int 2)), some (.d (.tuple ((yVi 2).acts.map xQr)))], cs⟩) (by kernel_rfl) h
theorem vQb {a b c : AV} {d : PyData} : pick [0, 3, 1, 2] (a :: b :: c :: dAV [d]) = [a, .d d, b, c] := rfl
theorem xVv (hx : xs.Sublist zZf) (hr : r ∈ zKf) (hs : sc ∈ zWm) (hg : ring ∈ xWi) (h : E (.d (if hasB xs f r "safe" ring sc = true then .none else (xZv xs f r ring sc).d)) ⟨[], cs⟩) :
    W (zKd [.d (zJg xs f r), .d (.int ring), .d (.str sc)]) ⟨[], cs⟩ X E := by
  have e1 : zYq = en "new" "black" := rfl
  have e2 : zZz = en "source" "black" := rfl
  unfold zKd
  rw [zVk]
  unfold yQ5 zZo
  refine yG3 (hasB xs f r "safe" ring sc) ?_ (fun e => ?_) (fun e => ?_)
  · simp [-Bool.exists_bool, vQb]
    refine yJx (g := "safe") hx (by decide) hg hs ?_
    simp [-Bool.exists_bool]
  · rw [e] at h
    simp [-Bool.exists_bool]
    simpa using h
  rw [e] at h
  have h : E (.d (xZv xs f r ring sc).d) ⟨[], cs⟩ := h
  by_cases h1 : ring = 1
  · have e9 : xZv xs f r ring sc = xYn := by unfold xZv; rw [if_pos h1]
    rw [e9] at h
    simp [-Bool.exists_bool, h1]
    exact h
  have e9 : xZv xs f r ring sc = if r = "again" ∧ (inB xs (en "new" "black") = true ∨ inB xs (en "source" "black") = true) then yVi (zHl xs f)
    else if zHl xs f = 0 then yX0 r sc else if zHl xs f = 1 then yGn r sc else yX1 r sc := by unfold xZv; rw [if_neg h1]
  rw [e9] at h
  clear e9
  refine wV4 false ?_ (fun e => by cases e) (fun _ => ?_)
  · simp [-Bool.exists_bool, h1]
  have hr2 : r = ("again" : Str) ∨ r = ("once" : Str) := by
    have hr' := hr
    simp only [zKf, List.mem_cons, List.not_mem_nil, or_false] at hr'
    exact hr'.symm
  have fin : (if zHl xs f = 0 then yX0 r sc else if zHl xs f = 1 then yGn r sc else yX1 r sc).d = (if zHl xs f = 0 then (yX0 r sc).d else if zHl xs f = 1 then (yGn r sc).d else (yX1 r sc).d) := by
    split
    · rfl
    · split <;> rfl
  refine yG3 (decide (r = "again" ∧ (inB xs (en "new" "black") = true ∨ inB xs (en "source" "black") = true))) ?_ (fun e => ?_) (fun e => ?_)
  · rcases hr2 with rfl | rfl
    · simp [-Bool.exists_bool, zQ7, pD1]
      refine xQ7 ?_
      simp [-Bool.exists_bool, yQh, e1, e2, zQ7, yQk, xXl, pD2, xQq, xXm]
      refine zHi hx (enM (by decide) (by decide)) ?_
      cases q1 : inB xs (en "new" "black") with
      | true => simp [-Bool.exists_bool]
      | false =>
        simp [-Bool.exists_bool, zQ7, yQk, xXl, pD2, xQq, xXm]
        refine zHi hx (enM (by decide) (by decide)) ?_
        simp [-Bool.exists_bool]
    · have e4 : ¬ (("once" : Str) = "again") := by decide
      simp [-Bool.exists_bool, zQ7, pD1]
      refine xQ7 ?_
      simp [-Bool.exists_bool, yQh, e4]
  · rw [if_pos (of_decide_eq_true e)] at h
    simp [-Bool.exists_bool]
    refine vZo hx ?_
    simp [-Bool.exists_bool]
    exact h
  · rw [if_neg (of_decide_eq_false e)] at h
    rw [fin] at h
    refine yG2 (.int (zHl xs f)) ?_ ?_
    · simp [-Bool.exists_bool]
      refine wXj hx ?_
      simp [-Bool.exists_bool]
    rcases yG1 (xs := xs) (f := f) with q | q | q
    · rw [q] at h ⊢
      have h : E (.d (yX0 r sc).d) ⟨[], cs⟩ := h
      simp [-Bool.exists_bool]
      refine yJn (xHk hr hs) ?_
      simp [-Bool.exists_bool]
      exact h
    · rw [q] at h ⊢
      have h : E (.d (yGn r sc).d) ⟨[], cs⟩ := h
      simp [-Bool.exists_bool]
      refine yJn (wKw hr hs) ?_
      simp [-Bool.exists_bool]
      exact h
    · rw [q] at h ⊢
      have h : E (.d (yX1 r sc).d) ⟨[], cs⟩ := h
      simp [-Bool.exists_bool]
      refine yJn (xHl hr hs) ?_
      simp [-Bool.exists_bool]
      exact h
end
end Ev

namespace Ev
open PySem PySem.Spec PyProof.Rows L2
def nnL (ring : Int) (o : Option Nat) : List (Option Nat) := if ring = 1 then [o] else [o, none]
def xJm (xs : List PyData) (ring : Int) (sc : Str) : RunS := if inB xs (en "old" "grey") = true then ⟨1, [[some 1], [some 2], [none]], nnL ring (some 0), [.start, .load 0 0 0, .store 0 0 none, zH0 0 sc, zH0 1 sc, .fin]⟩
  else ⟨1, [[some 1], [none]], nnL ring (some 0), [.start, .store 0 0 none, zH0 0 sc, .fin]⟩
def yYn (xs : List PyData) (r : Str) : List Act := if r = "again" then [.look] else if inB xs (en "new" "white") = true ∨ inB xs (en "source" "white") = true then [.store 0 0 (some 0)] else if inB xs (en "old" "white") = true then [.store 0 0 (some 0), .store 0 0 none] else [.store 0 0 (some 0), .load 0 0 0]
def wQf (sh : List Act) (sc : Str) : RunS := ⟨1, [], [none], [.start] ++ ([.new 0] ++ sh ++ [zH0 0 sc]) ++ ([.new 0] ++ sh ++ [zH0 1 sc])⟩
def xGo (ring : Int) (sc : Str) : RunS := ⟨1, [[none]], nnL ring (some 0), [.start, zH0 0 sc, .store 0 0 none, zH0 0 sc, .store 0 0 none, zH0 0 sc]⟩
def wVj (ring : Int) : RunS := ⟨2, [[none, none]], nnL ring (some 0), [.start, .scanf 0 0, .store 0 0 none, .scanf 0 0, .store 0 0 none, .scanf 0 0]⟩
def wJw (ring : Int) (sc : Str) : RunS := ⟨1, [], nnL ring none, [.start, .new 0, zH0 0 sc, .new 0, zH0 1 sc]⟩
def wXi (sc : Str) : RunS := ⟨1, [[none]], [some 0, none], [.start, .new 1, .store 0 0 (some 1), zH0 0 sc, .new 0, .store 1 0 (some 0), zH0 1 sc]⟩
def xK2 (xs : List PyData) (f r : Str) (ring : Int) (sc : Str) : RunS :=
  if inB xs (en "source" "black") = true then xGo ring sc else if sc ≠ "whole" ∧ inB xs (en "source" "grey") = true then wVj ring
  else if f = "grey" then wJw ring sc else if ring = 1 then wQf (yYn xs r) sc else wXi sc
section
variable {X : Exn → Mem → Prop} {xs : List PyData} {f r sc : Str} {ring : Int} {cs : List Ob} {E : EV → Mem → Prop}
theorem yGm {x : Nat} (hs : sc ∈ zWm) : zJ8 [.d (nD x), .d (.str sc)] ⟨[], cs⟩ = .ok (.d (xQr (zH0 x sc))) ⟨[], cs⟩ := by
  simp only [zWm, List.mem_cons, List.not_mem_nil, or_false] at hs
  rcases hs with rfl | rfl <;> kernel_rfl
def yZ5 (ring : Int) : PyData := if ring = 1 then .tuple [] else .tuple [.none]
theorem wQ7 (hs : sc ∈ zWm) : yQa [.d (.int 2), .d (yZ5 ring), .d (.str sc)] ⟨[], cs⟩ = .ok (.d (xGo ring sc).d) ⟨[], cs⟩ := by
  unfold xGo nnL yZ5
  simp only [zWm, List.mem_cons, List.not_mem_nil, or_false] at hs
  split <;> rcases hs with rfl | rfl <;> kernel_rfl
theorem wVi : yZk [.d (.int 2), .d (yZ5 ring)] ⟨[], cs⟩ = .ok (.d (wVj ring).d) ⟨[], cs⟩ := by
  unfold wVj nnL yZ5
  split <;> kernel_rfl
theorem wJv (hs : sc ∈ zWm) : yXn [.d (.int 2), .d (yZ5 ring), .d (.str sc)] ⟨[], cs⟩ = .ok (.d (wJw ring sc).d) ⟨[], cs⟩ := by
  unfold wJw nnL yZ5
  simp only [zWm, List.mem_cons, List.not_mem_nil, or_false] at hs
  split <;> rcases hs with rfl | rfl <;> kernel_rfl
theorem wQ2 (hs : sc ∈ zWm) : yWb [.d (.int 2), .d (.str sc)] ⟨[], cs⟩ = .ok (.d (wXi sc).d) ⟨[], cs⟩ := by
  simp only [zWm, List.mem_cons, List.not_mem_nil, or_false] at hs
  rcases hs with rfl | rfl <;> kernel_rfl
end
end Ev

namespace Ev
open PySem PySem.Spec PyProof.Rows L2
section
variable {es : List PyData} {f r : Str} {h : Fn} {y : PyData}
theorem wVg : xVz .NotIn y (zJg es f r) = true := rfl
theorem vQh : wUg .NotIn [("Table", h)] y (zJg es f r) = some h := rfl
end
def zYc (xs : List PyData) : Nat := if inB xs (en "old" "grey") = false then 4 else if inB xs (en "old" "white") = true ∨ inB xs (en "load" "grey") = true then 0 else 6
section
variable {X : Exn → Mem → Prop} {xs : List PyData} {f r sc : Str} {ring : Int} {cs : List Ob} {E : EV → Mem → Prop}
theorem ctW (hx : xs.Sublist zZf) {k c : Str} {b : Bool} (hb : inB xs (en k c) = b) (hk : k ∈ xWy) (hc : c ∈ yJm) (h : E (.d (.bool b)) ⟨[], cs⟩) : W (zQm [.d (zJg xs f r), .d (.tuple [.str k, .str c])]) ⟨[], cs⟩ X E := by
  rw [← hb] at h
  exact zHi (p := en k c) hx (enM hk hc) h
theorem yWp (hx : xs.Sublist zZf) (h : E (.d (if zYc xs = 0 then .none else nD (zYc xs))) ⟨[], cs⟩) : W (zJ4 [.d (zJg xs f r)]) ⟨[], cs⟩ X E := by
  unfold zJ4
  rw [zVk]
  unfold zU6 zZo
  unfold zYc at h
  simp [-Bool.exists_bool, zQ7, wVg, vQh, pD2, xQq, xXm]
  cases q1 : inB xs (en "old" "grey") with
  | false =>
    refine ctW hx q1 (by decide) (by decide) ?_
    simp [-Bool.exists_bool]
    simpa [q1, nD] using h
  | true =>
    refine ctW hx q1 (by decide) (by decide) ?_
    simp [-Bool.exists_bool, zQ7, yQk, xXl, pD2, xQq, xXm]
    cases q2 : inB xs (en "old" "white") with
    | true =>
      refine ctW hx q2 (by decide) (by decide) ?_
      simp [-Bool.exists_bool]
      simpa [q1, q2] using h
    | false =>
      refine ctW hx q2 (by decide) (by decide) ?_
      simp [-Bool.exists_bool, zQ7, yQk, xXl, pD2, xQq, xXm]
      cases q3 : inB xs (en "load" "grey") with
      | true =>
        refine ctW hx q3 (by decide) (by decide) ?_
        simp [-Bool.exists_bool]
        simpa [q1, q2, q3] using h
      | false =>
        refine ctW hx q3 (by decide) (by decide) ?_
        simp [-Bool.exists_bool]
        simpa [q1, q2, q3, nD] using h
theorem xUy (hx : xs.Sublist zZf) (hs : sc ∈ zWm) (h : E (.d (if zYc xs = 0 then .none else (xJm xs ring sc).d)) ⟨[], cs⟩) : W (zXq [.d (zJg xs f r), .d (.int ring), .d (.str sc)]) ⟨[], cs⟩ X E := by
  unfold zXq
  rw [zVk]
  unfold zH1 zZo
  refine yG2 (if zYc xs = 0 then .none else nD (zYc xs)) ?_ ?_
  · simp [-Bool.exists_bool]
    refine yWp hx ?_
    simp [-Bool.exists_bool]
  simp only [List.set, List.set_cons_succ, List.set_cons_zero]
  have n4 : zYc xs = 4 ∨ zYc xs = 0 ∨ zYc xs = 6 := by
    unfold zYc
    split
    · exact .inl rfl
    split
    · exact .inr (.inl rfl)
    · exact .inr (.inr rfl)
  have q4 : zYc xs = 4 → inB xs (en "old" "grey") = false := fun e => by
    unfold zYc at e
    split at e
    · assumption
    split at e
    · cases e
    · cases e
  have q6 : zYc xs = 6 → inB xs (en "old" "grey") = true := fun e => by
    unfold zYc at e
    split at e
    · cases e
    · cases z : inB xs (en "old" "grey") with
      | true => rfl
      | false => exact absurd z (by assumption)
  have sg : ∀ (x : Nat) (X : Exn → Mem → Prop) (P : EV → Mem → Prop), P (.d (xQr (zH0 x sc))) ⟨[], cs⟩ → W (zJ8 [.d (nD x), .d (.str sc)]) ⟨[], cs⟩ X P := fun x X P hP => yJn (yGm hs) hP
  have s0 := sg 0
  have s1 := sg 1
  have z0 : nD 0 = PyData.int 0 := rfl
  have z1 : nD 1 = PyData.int 1 := rfl
  rw [z0] at s0
  rw [z1] at s1
  rcases n4 with e | e | e
  · rw [e] at h ⊢
    have h : E (.d (xJm xs ring sc).d) ⟨[], cs⟩ := h
    unfold xJm at h
    rw [q4 e, if_neg (by decide)] at h
    unfold nnL at h
    by_cases h1 : ring = 1
    · rw [if_pos h1] at h
      simp [-Bool.exists_bool, nD, h1]
      refine s0 _ _ ?_
      simp [-Bool.exists_bool, nD, h1]
      exact h
    · rw [if_neg h1] at h
      simp [-Bool.exists_bool, nD, h1]
      refine s0 _ _ ?_
      simp [-Bool.exists_bool, nD, h1]
      exact h
  · rw [e] at h ⊢
    have h : E (.d .none) ⟨[], cs⟩ := h
    simp [-Bool.exists_bool]
    exact h
  · rw [e] at h ⊢
    have h : E (.d (xJm xs ring sc).d) ⟨[], cs⟩ := h
    unfold xJm at h
    rw [q6 e, if_pos rfl] at h
    unfold nnL at h
    by_cases h1 : ring = 1
    · rw [if_pos h1] at h
      simp [-Bool.exists_bool, nD, h1]
      refine s0 _ _ ?_
      simp [-Bool.exists_bool, nD, h1]
      refine s1 _ _ ?_
      simp [-Bool.exists_bool, nD, h1]
      exact h
    · rw [if_neg h1] at h
      simp [-Bool.exists_bool, nD, h1]
      refine s0 _ _ ?_
      simp [-Bool.exists_bool, nD, h1]
      refine s1 _ _ ?_
      simp [-Bool.exists_bool, nD, h1]
      exact h
theorem wX7 (hx : xs.Sublist zZf) (hr : r ∈ zKf) (h : E (.new (.lst ((yYn xs r).map xQr))) ⟨[], cs⟩) : W (zKa [.d (zJg xs f r)]) ⟨[], cs⟩ X E := by
  unfold zKa
  rw [zVk]
  unfold zYk zZo
  unfold yYn at h
  have hr2 : r = ("again" : Str) ∨ r = ("once" : Str) := by
    have hr' := hr
    simp only [zKf, List.mem_cons, List.not_mem_nil, or_false] at hr'
    exact hr'.symm
  have e4 : ¬ (("once" : Str) = "again") := by decide
  rcases hr2 with rfl | rfl
  · simp [-Bool.exists_bool, yZt, zKh, yKk, zQ7, pD1]
    refine xQ7 ?_
    simp [-Bool.exists_bool, yQh]
    exact h
  · rw [if_neg e4] at h
    simp [-Bool.exists_bool, yZt, zKh, yKk, zQ7, pD1]
    refine xQ7 ?_
    simp [-Bool.exists_bool, yQh, zQ7, yQk, xXl, pD2, xQq, xXm]
    cases q1 : inB xs (en "new" "white") with
    | true =>
      refine ctW hx q1 (by decide) (by decide) ?_
      rw [if_pos (.inl q1)] at h
      simp [-Bool.exists_bool]
      exact h
    | false =>
      refine ctW hx q1 (by decide) (by decide) ?_
      simp [-Bool.exists_bool, zQ7, yQk, xXl, pD2, xQq, xXm]
      cases q2 : inB xs (en "source" "white") with
      | true =>
        refine ctW hx q2 (by decide) (by decide) ?_
        rw [if_pos (.inr q2)] at h
        simp [-Bool.exists_bool]
        exact h
      | false =>
        refine ctW hx q2 (by decide) (by decide) ?_
        rw [if_neg (by rw [q1, q2]; decide)] at h
        simp [-Bool.exists_bool, zQ7, yQk, xXl, pD2, xQq, xXm]
        cases q3 : inB xs (en "old" "white") with
        | true =>
          refine ctW hx q3 (by decide) (by decide) ?_
          rw [if_pos q3] at h
          simp [-Bool.exists_bool]
          exact h
        | false =>
          refine ctW hx q3 (by decide) (by decide) ?_
          rw [if_neg (by rw [q3]; decide)] at h
          simp [-Bool.exists_bool]
          exact h
end
end Ev

namespace Ev
open PySem PySem.Spec PyProof.Rows L2
def nmL (xs : List PyData) (f r g : Str) (ring : Int) (sc : Str) : List Str := ((pW g ring sc).filter fun p => xXn xs f r p.1).map (·.2)
def xW0 (xs : List PyData) (f r g : Str) (ring : Int) (sc : Str) : RunS := if g = "safe" then xZv xs f r ring sc else if g = "snapshot" then xJm xs ring sc else xK2 xs f r ring sc
def xZx (xs : List PyData) (f r g : Str) (ring : Int) (sc : Str) : PyData := match nmL xs f r g ring sc with
  | n :: _ => .tuple [.str "yes", .str n]
  | [] => .tuple [.str "no", (xW0 xs f r g ring sc).d]
section
variable {X : Exn → Mem → Prop} {xs : List PyData} {f r g sc : Str} {ring : Int} {cs : List Ob} {E : EV → Mem → Prop}
theorem vX7 {x : Nat} (hs : sc ∈ zWm) (h : E (.d (xQr (zH0 x sc))) ⟨[], cs⟩) : W (zJ8 [.d (nD x), .d (.str sc)]) ⟨[], cs⟩ X E := yJn (yGm hs) h
theorem vKx {l : List PyData} {x y : PyData} (h : l.length ≤ 10) : xJa (.d x :: (dAV l ++ [.d y])) = some (.fresh (x :: (l ++ [y]))) := by
  have e : AV.d x :: (dAV l ++ [.d y]) = dAV (x :: (l ++ [y])) := by simp [dAV]
  rw [e, wQe (yWf _), if_pos]
  rw [xUk]
  simp
  omega
theorem wWv (hx : xs.Sublist zZf) (hr : r ∈ zKf) (hs : sc ∈ zWm) (h : E (.d (wQf (yYn xs r) sc).d) ⟨[], cs⟩) : W (zHq [.d (zJg xs f r), .d (.int 2), .d (.str sc)]) ⟨[], cs⟩ X E := by
  have ls : (yYn xs r).length ≤ 2 := by
    unfold yYn
    split
    · simp
    split
    · simp
    split <;> simp
  have e0 : zQ4 = xQr .start := rfl
  unfold zHq
  rw [zVk]
  unfold yZ7 zZo
  have sg0 := fun (X : Exn → Mem → Prop) (E : EV → Mem → Prop) hE => vX7 (X := X) (E := E) (cs := cs) (x := 0) hs hE
  have sg1 := fun (X : Exn → Mem → Prop) (E : EV → Mem → Prop) hE => vX7 (X := X) (E := E) (cs := cs) (x := 1) hs hE
  have sh := fun (X : Exn → Mem → Prop) (E : EV → Mem → Prop) hE => wX7 (X := X) (E := E) (cs := cs) (f := f) hx hr hE
  have z0 : nD 0 = PyData.int 0 := rfl
  have z1 : nD 1 = PyData.int 1 := rfl
  rw [z0] at sg0
  rw [z1] at sg1
  generalize yYn xs r = sa at *
  have rg : List.range 2 = [0, 1] := rfl
  have l0 : ∀ l : List PyData, l.length ≤ 10 → l.length ≤ 16777216 := fun l h => by omega
  simp [-Bool.exists_bool, yK8]
  rw [rg]
  simp [-Bool.exists_bool, forL]
  refine sh _ _ ?_
  simp [-Bool.exists_bool]
  refine sg0 _ _ ?_
  have mk : ∀ x y : PyData, xJa (.d x :: (dAV (sa.map xQr) ++ [.d y])) = some (.fresh (x :: (sa.map xQr ++ [y]))) := fun x y => vKx (by rw [List.length_map]; omega)
  have q1 : (sa.map xQr).length ≤ 2 := by rw [List.length_map]; omega
  have hd : (wQf sa sc).d = .tuple [vJn 1 [], .tuple [.none], .tuple (zQ4 :: .tuple [.str "new", .int 0] :: (sa.map xQr ++ xQr (zH0 0 sc) :: .tuple [.str "new", .int 0] :: (sa.map xQr ++ [xQr (zH0 1 sc)])))] := by
    unfold wQf RunS.d
    simp
    exact ⟨rfl, rfl, rfl⟩
  rw [hd] at h
  generalize sa.map xQr = sl at mk q1 h sh ⊢
  simp [-Bool.exists_bool, mk]
  refine ⟨by omega, sh _ _ ?_⟩
  simp [-Bool.exists_bool]
  refine sg1 _ _ ?_
  simp [-Bool.exists_bool, mk]
  refine ⟨by omega, ?_⟩
  exact h
theorem xVw (hx : xs.Sublist zZf) (hf : f ∈ yJm) (hr : r ∈ zKf) (hs : sc ∈ zWm) (hg : ring ∈ xWi) (h : E (.d (if hasB xs f r "bounded" ring sc = true then .none else (xK2 xs f r ring sc).d)) ⟨[], cs⟩) :
    W (zGq [.d (zJg xs f r), .d (.int 0), .d (.int ring), .d (.str sc)]) ⟨[], cs⟩ X E := by
  have pk : ∀ a b c d : AV, pick [0, 1, 2, 3] (a :: b :: c :: d :: dAV [.str "safe"]) = [a, b, c, d] := fun a b c d => rfl
  unfold zGq
  rw [zVk]
  unfold yQ6 zZo
  refine yG3 (hasB xs f r "bounded" ring sc) ?_ (fun e => ?_) (fun e => ?_)
  · simp [-Bool.exists_bool, pk]
    refine yJx (g := "bounded") hx (by decide) hg hs ?_
    simp [-Bool.exists_bool]
  · rw [e] at h
    simp [-Bool.exists_bool]
    simpa using h
  rw [e] at h
  have h : E (.d (xK2 xs f r ring sc).d) ⟨[], cs⟩ := h
  have hr1 : 1 ≤ ring := by
    simp only [xWi, List.mem_cons, List.not_mem_nil, or_false] at hg
    omega
  refine yG2 (yZ5 ring) ?_ ?_
  · unfold yZ5
    by_cases h1 : ring = 1
    · simp [-Bool.exists_bool, h1]
    · simp [-Bool.exists_bool, h1]
  refine yG2 (.int 2) ?_ ?_
  · simp [-Bool.exists_bool]
  simp only [List.set, List.set_cons_succ, List.set_cons_zero]
  unfold xK2 at h
  refine yG3 (inB xs (en "source" "black")) ?_ (fun e => ?_) (fun e => ?_)
  · simp [-Bool.exists_bool, zQ7, yQk, xXl, pD2, xQq, xXm]
    refine ctW hx rfl (by decide) (by decide) ?_
    simp [-Bool.exists_bool]
  · rw [if_pos e] at h
    simp [-Bool.exists_bool]
    refine yJn (wQ7 hs) ?_
    simp [-Bool.exists_bool]
    exact h
  rw [if_neg (by rw [e]; decide)] at h
  have w0 : zYp = .str "whole" := rfl
  refine yG3 (decide (sc ≠ "whole" ∧ inB xs (en "source" "grey") = true)) ?_ (fun e => ?_) (fun e => ?_)
  · by_cases h1 : sc = ("whole" : Str)
    · simp [-Bool.exists_bool, w0, h1, yQh]
    · simp [-Bool.exists_bool, w0, h1, yQh, zQ7, yQk, xXl, pD2, xQq, xXm]
      refine ctW hx rfl (by decide) (by decide) ?_
      simp [-Bool.exists_bool]
  · rw [if_pos (of_decide_eq_true e)] at h
    simp [-Bool.exists_bool]
    refine yJn wVi ?_
    simp [-Bool.exists_bool]
    exact h
  rw [if_neg (of_decide_eq_false e)] at h
  refine yG3 (decide (f = "grey")) ?_ (fun e => ?_) (fun e => ?_)
  · simp [-Bool.exists_bool, zQ7, pD1]
    refine xV5 ?_
    simp [-Bool.exists_bool, yQh]
  · rw [if_pos (of_decide_eq_true e)] at h
    simp [-Bool.exists_bool]
    refine yJn (wJv hs) ?_
    simp [-Bool.exists_bool]
    exact h
  rw [if_neg (of_decide_eq_false e)] at h
  by_cases h1 : ring = 1
  · rw [if_pos h1] at h
    simp [-Bool.exists_bool, h1]
    refine wWv hx hr hs ?_
    simp [-Bool.exists_bool]
    exact h
  · rw [if_neg h1] at h
    have h2 : (1 : Int) < ring := by omega
    simp [-Bool.exists_bool, h2]
    refine yJn (wQ2 hs) ?_
    simp [-Bool.exists_bool]
    exact h
end
end Ev

namespace Ev
open PySem PySem.Spec PyProof.Rows L2
theorem wZ2 {xs : List PyData} {f r g sc : Str} {ring : Int} (h : nmL xs f r g ring sc = []) : hasB xs f r g ring sc = false := by
  unfold nmL at h
  unfold hasB
  have h := List.map_eq_nil_iff.mp h
  rw [← xU1, h]
  rfl
theorem wQm {xs : List PyData} {f r sc : Str} {ring : Int} (hf : f ∈ yJm) (hr : r ∈ zKf) : hasB xs f r "snapshot" ring sc = ((inB xs (en "load" "grey") && inB xs (en "old" "grey")) || (inB xs (en "old" "white") && inB xs (en "old" "grey"))) := by
  have e : hasB xs f r "snapshot" ring sc = wX6.any fun p => xXn xs f r p.1 := rfl
  rw [e]
  simp only [yJm, zKf, List.mem_cons, List.not_mem_nil, or_false] at hf hr
  rcases hf with rfl | rfl | rfl <;> rcases hr with rfl | rfl <;> simp [wX6, xXn, wYu, yW6, yQh]
theorem wQo {xs : List PyData} {f r sc : Str} {ring : Int} (hf : f ∈ yJm) (hr : r ∈ zKf) (h : hasB xs f r "snapshot" ring sc = false) : zYc xs ≠ 0 := by
  rw [wQm hf hr] at h
  unfold zYc
  split
  · decide
  · rename_i q
    have q : inB xs (en "old" "grey") = true := by simpa using q
    rw [q] at h
    split
    · rename_i z
      rcases z with z | z <;> simp [z] at h
    · decide
section
variable {X : Exn → Mem → Prop} {xs : List PyData} {f r g sc : Str} {ring : Int} {cs : List Ob} {E : EV → Mem → Prop}
theorem vKe {w : Way} {nm : Str} : ixS (wY6 w nm) (.int 4) = some (.str nm) := rfl
theorem wVd (hx : xs.Sublist zZf) (hf : f ∈ yJm) (hr : r ∈ zKf) (hg : g ∈ xZ1) (hs : sc ∈ zWm) (hring : ring ∈ xWi) (h : E (.d (xZx xs f r g ring sc)) ⟨[], cs⟩) :
    W (yV9 [.d (zJg xs f r), .d (.str g), .d (.int ring), .d (.str sc)]) ⟨[], cs⟩ X E := by
  have pkw : ∀ a b c : AV, pick [0, 1, 2] (a :: b :: c :: dAV []) = [a, b, c] := fun a b c => rfl
  have hl := (xGr hg hring hs).2.1
  unfold yV9
  rw [zVk]
  unfold yHt zZo
  refine yZr (fun m => m = ⟨[some (.d (zJg xs f r)), some (.d (.str g)), some (.d (.int ring)), some (.d (.str sc)), some (.own ((nmL xs f r g ring sc).map .str)), none], cs⟩) ?_ ?_
  · simp [-Bool.exists_bool, pkw]
    refine yJn (xW5 hg hring hs) ?_
    simp [-Bool.exists_bool, zG7]
    refine xGx (l := pW g ring sc) (fun p => xXn xs f r p.1) (fun p => .str p.2) (by omega) (fun p hp => ?_) ?_
    · simp [-Bool.exists_bool]
      refine wXd hx (wJn hg hring hs hp).1 ?_
      simp [-Bool.exists_bool, zJ2, vKe]
    · have e2 : ((pW g ring sc).filter fun p => xXn xs f r p.1).map (fun p => PyData.str p.2) = (nmL xs f r g ring sc).map .str := by
        unfold nmL
        rw [List.map_map]
        rfl
      rw [e2]
      simp [-Bool.exists_bool]
  rintro _ rfl
  have hz : nmL xs f r g ring sc = [] → hasB xs f r g ring sc = false := wZ2
  unfold xZx at h
  cases en : nmL xs f r g ring sc with
  | cons n t =>
    rw [en] at h
    have y0 : xGl = .str "yes" := rfl
    simp [-Bool.exists_bool, y0]
    exact h
  | nil =>
    rw [en] at h
    have hz := hz en
    have h : E (.d (.tuple [.str "no", (xW0 xs f r g ring sc).d])) ⟨[], cs⟩ := h
    have y1 : wQ5 = .str "no" := rfl
    unfold xW0 at h
    simp only [xZ1, List.mem_cons, List.not_mem_nil, or_false] at hg
    rcases hg with rfl | rfl | rfl
    · rw [if_pos rfl] at h
      simp [-Bool.exists_bool, y1, yQh, pkw]
      refine xVv hx hr hs hring ?_
      rw [hz]
      simp [-Bool.exists_bool]
      exact h
    · rw [if_neg (by decide), if_pos rfl] at h
      simp [-Bool.exists_bool, y1, yQh, pkw]
      refine xUy hx hs ?_
      rw [if_neg (wQo hf hr hz)]
      simp [-Bool.exists_bool]
      exact h
    · rw [if_neg (by decide), if_neg (by decide)] at h
      simp [-Bool.exists_bool, y1, yQh, pkw]
      unfold zKc
      rw [zVk]
      unfold yX8 zZo
      have pk4 : ∀ a b c d : AV, pick [0, 1, 2, 3] (a :: b :: c :: d :: dAV []) = [a, b, c, d] := fun a b c d => rfl
      simp [-Bool.exists_bool, pk4]
      refine xVw hx hf hr hs hring ?_
      rw [hz]
      simp [-Bool.exists_bool]
      exact h
end
end Ev

namespace Ev
open PySem PySem.Spec PyProof.Rows L2
def Within (xs ys : List PyData) : Prop := ∀ d, d ∈ zZf → inB xs d = true → inB ys d = true
theorem xW2 {xs ys : List PyData} (s : Within xs ys) {d : PyData} (hd : d ∈ zZf) (h : inB ys d = false) : inB xs d = false := by
  cases e : inB xs d with
  | false => rfl
  | true => rw [s d hd e] at h; cases h
def xX0 (xs : List PyData) : Nat := if zYc xs = 0 then 99 else zYc xs
theorem ogM : en "old" "grey" ∈ zZf := enM (by decide) (by decide)
theorem owM : en "old" "white" ∈ zZf := enM (by decide) (by decide)
theorem lgM : en "load" "grey" ∈ zZf := enM (by decide) (by decide)
theorem xUw {xs ys : List PyData} (s : Within xs ys) : (zYc xs = 0 → zYc ys = 0) ∧ xX0 xs ≤ xX0 ys := by
  have h1 := s _ ogM
  have h2 := s _ owM
  have h3 := s _ lgM
  unfold xX0 zYc
  generalize inB xs (en "old" "grey") = a1 at *
  generalize inB ys (en "old" "grey") = b1 at *
  generalize inB xs (en "old" "white") = a2 at *
  generalize inB ys (en "old" "white") = b2 at *
  generalize inB xs (en "load" "grey") = a3 at *
  generalize inB ys (en "load" "grey") = b3 at *
  revert h1 h2 h3
  revert a1 a2 a3 b1 b2 b3
  decide
theorem wYr {ring : Int} {sc : Str} {p : Way × Str} (h : p ∈ vZh ring sc) : p.1.ne = [] := by
  unfold vZh at h
  split at h
  · simp only [List.mem_cons, List.not_mem_nil, or_false] at h
    rcases h with rfl | rfl <;> rfl
  · simp only [List.mem_cons, List.not_mem_nil, or_false] at h
    rcases h with rfl
    rfl
theorem wQ6 {xs ys : List PyData} {f r sc : Str} {ring : Int} (s : Within xs ys) (hr : ring ∈ xWi) (hs : sc ∈ zWm) (h : hasB ys f r "bounded" ring sc = true) : hasB xs f r "bounded" ring sc = true := by
  unfold hasB at *
  rw [List.any_eq_true] at *
  obtain ⟨p, hp, h⟩ := h
  have ok := (wJn (g := "bounded") (by decide) hr hs hp).1
  have ne : p.1.ne = [] := wYr hp
  refine ⟨p, hp, ?_⟩
  unfold xXn at *
  simp only [ne, List.all_nil, Bool.and_true, Bool.and_eq_true, Bool.not_eq_true', List.any_eq_false] at *
  exact ⟨h.1, fun d hd => by
    have := h.2 d hd
    have z := xW2 s (ok.ba d hd) (by simpa using this)
    simp [z]⟩
theorem wJe {ys : List PyData} {f r sc : Str} {ring : Int} (hf : f ∈ yJm) (nw : f ≠ "white") (hr : r ∈ zKf) (h : zYc ys = 0) : hasB ys f r "safe" ring sc = true := by
  have hl : f ∈ wQg := by
    simp only [yJm, wQg, List.mem_cons, List.not_mem_nil, or_false] at *
    rcases hf with e | e | e
    · exact absurd e nw
    · exact .inl e
    · exact .inr e
  have hb : r ∈ yW6 := hr
  unfold hasB
  rw [List.any_eq_true]
  show ∃ p ∈ xYl ring sc, _
  by_cases h1 : ring = 1
  · refine ⟨(⟨[], [], wQg, yW6⟩, "thread"), by rw [h1]; simp [xYl], ?_⟩
    simp [xXn, hl, hb]
  · unfold zYc at h
    cases og : inB ys (en "old" "grey") with
    | false => rw [og] at h; simp at h
    | true =>
      rw [og] at h
      cases lg : inB ys (en "load" "grey") with
      | true => exact ⟨(⟨[en "load" "grey"], [], wQg, yW6⟩, "registers"), by simp [xYl, h1, vQq], by simp [xXn, hl, hb, lg]⟩
      | false =>
        cases ow : inB ys (en "old" "white") with
        | true => exact ⟨(⟨[en "old" "white", en "old" "grey"], [], wQg, yW6⟩, "paths"), by simp [xYl, h1, vQq], by simp [xXn, hl, hb, og, ow]⟩
        | false => rw [lg, ow] at h; simp at h
theorem xUn {ys : List PyData} {f r sc : Str} {ring : Int} (h : hasB ys f r "safe" ring sc = true) : ∃ n : Str, xZx ys f r "safe" ring sc = .tuple [.str "yes", .str n] := by
  unfold xZx
  cases e : nmL ys f r "safe" ring sc with
  | nil => rw [wZ2 e] at h; cases h
  | cons n t => exact ⟨n, rfl⟩
end Ev

namespace Ev
open PySem PySem.Spec PyProof.Rows L2
section
variable {X : Exn → Mem → Prop} {xs ys : List PyData} {f r f' r' sc : Str} {ring : Int} {cs : List Ob} {E : EV → Mem → Prop}
def wiB (xs ys : List PyData) (f r f' r' : Str) : Bool := (decide (f = f') && decide (r = r')) && xs.all (inB ys)
theorem xHi (hx : xs.Sublist zZf) (hy : ys.Sublist zZf) (h : E (.d (.bool (wiB xs ys f r f' r'))) ⟨[], cs⟩) : W (zVt [.d (zJg xs f r), .d (zJg ys f' r')]) ⟨[], cs⟩ X E := by
  unfold zVt
  rw [zVk]
  unfold zG9 zZo
  have n1 : yKc "is_beside" (zZr (xJz xs f r)) = none := rfl
  have lx := sub_len hx
  unfold wiB at h
  simp [-Bool.exists_bool, zQ7, n1]
  show W (pD 2 0 2 [0, 1] [] zXg [.d (zJg xs f r), .d (zJg ys f' r')]) _ _ _
  rw [pD2]
  refine yUb ?_
  cases e : (decide (f = f') && decide (r = r')) with
  | false =>
    rw [e, Bool.false_and] at h
    simp [-Bool.exists_bool]
    exact h
  | true =>
    rw [e, Bool.true_and] at h
    simp [-Bool.exists_bool, zQ7, wVo, zG7]
    refine yWi (ds := xs) (fun _ => true) (fun d => .bool (inB ys d)) (by omega) (fun d hd => ?_) ?_
    · have q := xJf (yHc hy) (hx.subset hd)
      simp [-Bool.exists_bool, zQ7, wVo, q, zJ2]
    · simp [-Bool.exists_bool]
      exact h
theorem wKt (hx : xs.Sublist zZf) (s : Within xs ys) : wiB xs ys f r f r = true := by
  unfold wiB
  simp only [decide_true, Bool.and_self, Bool.true_and, List.all_eq_true]
  exact fun d hd => s d (hx.subset hd) ((yK9 (yHc hx) (hx.subset hd)).mpr hd)
theorem wZs (hx : xs.Sublist zZf) (h : E (.d (nD (xX0 xs))) ⟨[], cs⟩) : W (zU4 [.d (zJg xs f r)]) ⟨[], cs⟩ X E := by
  unfold zU4
  rw [zVk]
  unfold yXa zZo
  refine yG2 (if zYc xs = 0 then .none else nD (zYc xs)) ?_ ?_
  · simp [-Bool.exists_bool]
    refine yWp hx ?_
    simp [-Bool.exists_bool]
  unfold xX0 at h
  by_cases z : zYc xs = 0
  · simp only [z, if_true] at h ⊢
    simp [-Bool.exists_bool]
    exact h
  · simp only [z, if_false] at h ⊢
    simp [-Bool.exists_bool, nD] at h ⊢
    exact h
theorem wZw (hx : xs.Sublist zZf) (hf : f ∈ yJm) (hr : r ∈ zKf) (hs : sc ∈ zWm) (hg : ring ∈ xWi) (h : E (.d (if hasB xs f r "bounded" ring sc = true then .none else (xK2 xs f r ring sc).d)) ⟨[], cs⟩) :
    W (zKc [.d (zJg xs f r), .d (.int ring), .d (.str sc)]) ⟨[], cs⟩ X E := by
  have pk : ∀ a b c d : AV, pick [0, 1, 2, 3] (a :: b :: c :: d :: dAV []) = [a, b, c, d] := fun a b c d => rfl
  unfold zKc
  rw [zVk]
  unfold yX8 zZo
  simp [-Bool.exists_bool, pk]
  refine xVw hx hf hr hs hg ?_
  simp [-Bool.exists_bool]
  exact h
end
end Ev

namespace Ev
open PySem PySem.Spec PyProof.Rows L2
def xXu : List (Int × Str) := [(1, "whole"), (1, "fields"), (2, "whole"), (2, "fields")]
def wK0 (p : Int × Str) : PyData := .tuple [.int p.1, .str p.2]
theorem wX8 {p : Int × Str} (h : p ∈ xXu) : p.1 ∈ xWi ∧ p.2 ∈ zWm := by
  simp only [xXu, List.mem_cons, List.not_mem_nil, or_false] at h
  rcases h with rfl | rfl | rfl | rfl <;> exact ⟨by decide, by decide⟩
section
variable {X : Exn → Mem → Prop} {xs ys : List PyData} {f r sc : Str} {ring : Int} {cs : List Ob} {E : EV → Mem → Prop}
theorem pk4 {a b : AV} {c d : AV} : pick [0, 1, 2, 3] (a :: b :: c :: d :: dAV [.str "safe"]) = [a, b, c, d] := rfl
def xUz (xs : List PyData) (ring : Int) (sc : Str) : PyData := if zYc xs = 0 then .none else (xJm xs ring sc).d
def xY4 (xs : List PyData) (f r : Str) (ring : Int) (sc : Str) : PyData := if hasB xs f r "bounded" ring sc = true then .none else (xK2 xs f r ring sc).d
theorem xUx (xs : List PyData) (ring : Int) (sc : Str) : ∃ a : Bool, zG1 .Is (xUz xs ring sc) .none = some a ∧ zG1 .IsNot (xUz xs ring sc) .none = some (!a) ∧ (a = true ↔ zYc xs = 0) := by
  unfold xUz
  by_cases z : zYc xs = 0
  · exact ⟨true, by rw [if_pos z]; rfl, by rw [if_pos z]; rfl, by simp [z]⟩
  · exact ⟨false, by rw [if_neg z]; rfl, by rw [if_neg z]; rfl, by simp [z]⟩
theorem xY3 (xs : List PyData) (f r : Str) (ring : Int) (sc : Str) : ∃ a : Bool, zG1 .Is (xY4 xs f r ring sc) .none = some a ∧ zG1 .IsNot (xY4 xs f r ring sc) .none = some (!a) ∧ (a = true ↔ hasB xs f r "bounded" ring sc = true) := by
  unfold xY4
  by_cases z : hasB xs f r "bounded" ring sc = true
  · exact ⟨true, by rw [if_pos z]; rfl, by rw [if_pos z]; rfl, by simp [z]⟩
  · exact ⟨false, by rw [if_neg z]; rfl, by rw [if_neg z]; rfl, by simp [z]⟩
theorem ixj {a b : PyData} : ixS (.tuple [a, b]) (.int 0) = some a := rfl
theorem vJw {a b : PyData} : ixS (.list [a, b]) (.int 0) = some a := rfl
theorem vJv {a b : PyData} : ixS (.list [a, b]) (.int 1) = some b := rfl
theorem xZg (hx : xs.Sublist zZf) (hy : ys.Sublist zZf) (hf : f ∈ yJm) (hr : r ∈ zKf) (s : Within xs ys) (h : E (.d (.bool true)) ⟨[], cs⟩) : W (zZp [.d (zJg xs f r), .d (zJg ys f r)]) ⟨[], cs⟩ X E := by
  have n1 : yKc "within" (zZr (xJz xs f r)) = none := rfl
  have n2 : yKc "fresh" (zZr (xJz ys f r)) = none := rfl
  have pk : ∀ a b c : AV, pick [0, 1, 2] (a :: b :: c :: dAV []) = [a, b, c] := fun a b c => rfl
  have fm := xUw s
  unfold zZp
  rw [zVk]
  unfold zK9 zZo
  refine yZr (fun m => m = ⟨[some (.d (zJg xs f r)), some (.d (zJg ys f r)), none, none, none, none], cs⟩) ?_ ?_
  · simp [-Bool.exists_bool, zQ7, n1]
    show W (pD 2 0 2 [0, 1] [] zVt [.d (zJg xs f r), .d (zJg ys f r)]) _ _ _
    rw [pD2]
    refine xHi hx hy ?_
    rw [wKt hx s]
    simp [-Bool.exists_bool]
    refine wZs hx ?_
    simp [-Bool.exists_bool]
    refine wZs hy ?_
    have g : ¬ ((xX0 ys : Int) < (xX0 xs : Int)) := by have := fm.2; omega
    simp [-Bool.exists_bool, nD, g]
  rintro _ rfl
  simp [-Bool.exists_bool, zG7]
  have sg : zU9 [] ⟨[], cs⟩ = .ok (.new (.lst (xXu.map wK0))) ⟨[], cs⟩ := by kernel_rfl
  refine yJn sg ?_
  simp [-Bool.exists_bool, zG7, -List.map_cons]
  refine xXh (fun ds m => (∃ ps : List (Int × Str), ds = ps.map wK0 ∧ ∀ p ∈ ps, p ∈ xXu) ∧ ∃ v2 v3 v4 v5, m = ⟨[some (.d (zJg xs f r)), some (.d (zJg ys f r)), v2, v3, v4, v5], cs⟩) ⟨⟨xXu, rfl, fun _ z => z⟩, _, _, _, _, rfl⟩ ?_ ?_
  · rintro d ds m ⟨⟨ps, e, hp⟩, v2, v3, v4, v5, rfl⟩
    cases ps with
    | nil => cases e
    | cons p ps =>
      obtain ⟨rfl, rfl⟩ := List.cons.inj e
      obtain ⟨ring, sc⟩ := p
      obtain ⟨hg, hs⟩ := wX8 (hp _ (.head _))
      dsimp only at hg hs
      have hp' : ∀ p ∈ ps, p ∈ xXu := fun p z => hp p (.tail _ z)
      have c1 : ∀ {X' : Exn → Mem → Prop} {E' : EV → Mem → Prop}, E' (.d (xUz xs ring sc)) ⟨[], cs⟩ → W (zXq [.d (zJg xs f r), .d (.int ring), .d (.str sc)]) ⟨[], cs⟩ X' E' := fun q => xUy hx hs q
      have c2 : ∀ {X' : Exn → Mem → Prop} {E' : EV → Mem → Prop}, E' (.d (xUz ys ring sc)) ⟨[], cs⟩ → W (zXq [.d (zJg ys f r), .d (.int ring), .d (.str sc)]) ⟨[], cs⟩ X' E' := fun q => xUy hy hs q
      have c3 : ∀ {X' : Exn → Mem → Prop} {E' : EV → Mem → Prop}, E' (.d (xY4 xs f r ring sc)) ⟨[], cs⟩ → W (zKc [.d (zJg xs f r), .d (.int ring), .d (.str sc)]) ⟨[], cs⟩ X' E' := fun q => wZw hx hf hr hs hg q
      have c4 : ∀ {X' : Exn → Mem → Prop} {E' : EV → Mem → Prop}, E' (.d (xY4 ys f r ring sc)) ⟨[], cs⟩ → W (zKc [.d (zJg ys f r), .d (.int ring), .d (.str sc)]) ⟨[], cs⟩ X' E' := fun q => wZw hy hf hr hs hg q
      have c5 : ∀ {X' : Exn → Mem → Prop} {E' : EV → Mem → Prop}, E' (.d (xZx ys f r "safe" ring sc)) ⟨[], cs⟩ → W (yV9 [.d (zJg ys f r), .d (.str "safe"), .d (.int ring), .d (.str sc)]) ⟨[], cs⟩ X' E' := fun q => wVd hy hf hr (by decide) hs hg q
      have c6 : ∀ {X' : Exn → Mem → Prop} {E' : EV → Mem → Prop}, E' (.d (if hasB ys f r "safe" ring sc = true then .none else (xZv ys f r ring sc).d)) ⟨[], cs⟩ → W (zKd [.d (zJg ys f r), .d (.int ring), .d (.str sc)]) ⟨[], cs⟩ X' E' := fun q => xVv hy hr hs hg q
      obtain ⟨a1, d1, d2, d3⟩ := xUx xs ring sc
      obtain ⟨a2, d4, d5, d6⟩ := xUx ys ring sc
      obtain ⟨b1, o1, o2, o3⟩ := xY3 xs f r ring sc
      obtain ⟨b2, o4, o5, o6⟩ := xY3 ys f r ring sc
      have g1 : a1 = true → a2 = true := fun z => d6.mpr (fm.1 (d3.mp z))
      have g2 : b2 = true → b1 = true := fun z => o3.mpr (wQ6 s hg hs (o6.mp z))
      have fin : ∀ v2 v3 v4 v5, (∃ qs : List (Int × Str), ps.map wK0 = qs.map wK0 ∧ ∀ p ∈ qs, p ∈ xXu) ∧ ∃ w2 w3 w4 w5, (⟨[some (.d (zJg xs f r)), some (.d (zJg ys f r)), v2, v3, v4, v5], cs⟩ : Mem) = ⟨[some (.d (zJg xs f r)), some (.d (zJg ys f r)), w2, w3, w4, w5], cs⟩ := fun v2 v3 v4 v5 => ⟨⟨ps, rfl, hp'⟩, _, _, _, _, rfl⟩
      simp [-Bool.exists_bool, wK0, yZt, zKh, yKk, pk]
      refine c1 ?_
      simp [-Bool.exists_bool, pk]
      refine c2 ?_
      cases a1 <;> cases a2 <;> first
        | exact absurd (g1 rfl) (by decide)
        | cases b1 <;> cases b2 <;> first
          | exact absurd (g2 rfl) (by decide)
          | skip
      all_goals
        simp [-Bool.exists_bool, pk, vJw, vJv, d1, d2, d4, d5]
        refine c3 ?_
        simp [-Bool.exists_bool, pk]
        refine c4 ?_
        simp [-Bool.exists_bool, vJw, vJv, d1, d2, d4, d5, o1, o2, o4, o5, zQ7, n2, pD1]
      all_goals first
        | exact ⟨ps, rfl, fun a b z => hp' (a, b) z⟩
        | skip
      all_goals
        refine xV5 ?_
        by_cases wh : f = "white"
        · simp [-Bool.exists_bool, wh]
          exact ⟨ps, rfl, fun a b z => hp' (a, b) z⟩
        · have sf := wJe (ring := ring) (sc := sc) hf wh hr (d6.mp rfl)
          obtain ⟨n, jn⟩ := xUn sf
          simp [-Bool.exists_bool, wh, pk4]
          refine c5 ?_
          rw [jn]
          simp [-Bool.exists_bool, ixj, pk]
          refine c6 ?_
          rw [if_pos sf]
          simp [-Bool.exists_bool]
          exact ⟨ps, rfl, fun a b z => hp' (a, b) z⟩
  · rintro m ⟨_, v2, v3, v4, v5, rfl⟩
    simp [-Bool.exists_bool]
    exact h
end
end Ev

namespace Ev
open PySem PySem.Spec PyProof.Rows L2
def yZ4 (xs : List PyData) (f r : Str) : PyData := .tuple [.list xs, .str f, .str r]
theorem wYi {d : PyData} (h : d ∈ zZf) : ∃ p, d = prD p := by
  obtain ⟨a, _, h⟩ := List.mem_flatMap.mp h
  obtain ⟨b, _, rfl⟩ := List.mem_map.mp h
  exact ⟨(a, b), rfl⟩
theorem xU6 : ∀ {xs : List PyData}, yJo xs → ∃ ps : List (Str × Str), xs = ps.map prD
  | [], _ => ⟨[], rfl⟩
  | x :: xs, h => by
    obtain ⟨p, rfl⟩ := wYi (h x (.head _))
    obtain ⟨ps, rfl⟩ := xU6 (xs := xs) fun y hy => h y (.tail _ hy)
    exact ⟨p :: ps, rfl⟩
theorem xQs {x : Str × Str} : ∀ {ys : List (Str × Str)}, (yKj x ys).length ≤ ys.length + 1
  | [] => by simp [yKj]
  | y :: ys => by
    have := xQs (x := x) (ys := ys)
    rw [yKj]
    split
    · simp
    · split
      · simp
      · simp only [List.length_cons]; omega
theorem yGh : ∀ ps : List (Str × Str), (zG4 ps).length ≤ ps.length
  | [] => Nat.le_refl _
  | p :: ps => by
    have h1 := yGh ps
    have h2 := xQs (x := p) (ys := zG4 ps)
    show (yKj p (zG4 ps)).length ≤ ps.length + 1
    omega
theorem xHt {xs : List PyData} (h : yJo xs) (hl : xs.length < 64) : ∃ ys, xYi (.list xs) = some (.fresh ys) ∧ yJo ys ∧ ys.length ≤ xs.length := by
  obtain ⟨ps, rfl⟩ := xU6 h
  rw [List.length_map] at hl
  refine ⟨(zG4 ps).map prD, by rw [wJb, if_pos hl], fun d hd => ?_, by rw [List.length_map, List.length_map]; exact yGh ps⟩
  obtain ⟨p, hp, rfl⟩ := List.mem_map.mp hd
  exact h _ (List.mem_map.mpr ⟨p, yK4.mp hp, rfl⟩)
section
variable {X : Exn → Mem → Prop} {cs : List Ob} {E : EV → Mem → Prop}
theorem xWl : zHh [] ⟨[], cs⟩ = .ok (.new (.lst zZf)) ⟨[], cs⟩ := by kernel_rfl
def wQx : PyData → PyData
  | .int i => (atI zZf i).getD .none
  | _ => .none
theorem wXf {i : Int} (h : 0 ≤ i ∧ i < 12) : atI zZf i = some (wQx (.int i)) ∧ wQx (.int i) ∈ zZf := by
  obtain ⟨d, e, q⟩ := xGp (xs := zZf) h.1 h.2
  have z : wQx (.int i) = d := by show (atI zZf i).getD .none = d; rw [e]; rfl
  rw [z]
  exact ⟨e, q⟩
theorem wJp {i : Nat} {n : Int} {m : Mem} {xs : List PyData} (h : m.sl[i]? = some (some (.ob (.lst xs)))) (h0 : 0 ≤ n) (h1 : n < xs.length) (h2 : xs.length ≤ 1000) : wUf i (.d (.int n)) m = .ok .next (setM m i (.ob (.lst (xs.eraseIdx n.toNat)))) := by
  unfold wUf
  dsimp only
  rw [h]
  dsimp only
  rw [if_pos ⟨h0, by omega, by omega⟩]
def S1 (v : SV) : Prop := v = .own zZf ∨ v = .d (.list zZf)
def KC (cs : List Ob) (n : Nat) (w : Int) (m : Mem) : Prop := ∃ xs s1 s3 s5 s6 o, S1 s1 ∧ yJo xs ∧ xs.length ≤ 12 ∧ Pen n o ∧ m = ⟨[some (.cell 0), some s1, some (.d (.int w)), s3, some (.own xs), s5, s6], o :: cs⟩
def KD (cs : List Ob) (n : Nat) (w : Int) (m : Mem) : Prop := ∃ xs s1 s3 s5 s6 o, S1 s1 ∧ yJo xs ∧ xs.length ≤ 14 ∧ Pen n o ∧ m = ⟨[some (.cell 0), some s1, some (.d (.int w)), s3, some (.own xs), s5, s6], o :: cs⟩
def gI : Pg Bool := yQc (zHr (zVu (zQb (evC (.bool false)) (zQb (evC (.bool true)) (zQb (asV (zQ3 .Eq (zQ9 zZ6 (zZy 2 (zQb (zQg 0) (zQb (evC (.int 2)) (zQh))))) (evC (.int 0)))) (zQh))))) (zQg 2))
theorem wYp {n : Nat} {w : Int} {s3 s5 : Option SV} {xs : List PyData} {o : Ob} {F : EV → Mem → Prop} (ho : Pen (n + 18) o) (w0 : 0 ≤ w) (wl : w < 3)
    (h : ∀ acc o', yJo acc → acc.length ≤ 12 → Pen (n + 5) o' → F (.fresh acc) ⟨[some (.cell 0), some (.d (.list zZf)), some (.d (.int w)), s3, some (.own xs), s5, none], o' :: cs⟩) :
    W (yJl [6] (zXf 6) gI (zQg 6) zZf []) ⟨[some (.cell 0), some (.d (.list zZf)), some (.d (.int w)), s3, some (.own xs), s5, none], o :: cs⟩ X F := by
  refine yUz (fun ds acc m => ∃ pre o, zZf = pre ++ ds ∧ acc.length ≤ pre.length ∧ yJo acc ∧ Pen (n + 5 + ds.length) o ∧ m = ⟨[some (.cell 0), some (.d (.list zZf)), some (.d (.int w)), s3, some (.own xs), s5, none], o :: cs⟩) ⟨[], o, rfl, Nat.le_refl _, fun _ z => (by cases z), ho.le (by show n + 5 + 12 ≤ n + 18; omega), rfl⟩ ?_ ?_
  · clear ho
    rintro d ds acc m ⟨pre, o, e, la, ea, ho, rfl⟩
    have lp : pre.length + (ds.length + 1) = 12 := by
      have q := congrArg List.length e
      rw [List.length_append, List.length_cons] at q
      exact q.symm
    have e3 : zZf = (pre ++ [d]) ++ ds := by rw [e]; simp
    have hd : d ∈ zZf := by rw [e]; simp
    have ea' : yJo (acc ++ [d]) := fun x hx => (List.mem_append.mp hx).elim (ea x) fun z => by rw [List.mem_singleton.mp z]; exact hd
    unfold gI
    have w3 : w = 0 ∨ w = 1 ∨ w = 2 := by omega
    simp [-Bool.exists_bool]
    refine yXq (n := n + 5 + ds.length) (ho.le (by simp; omega)) (by decide) (by decide) fun y c3 y0 y1 q3 => ?_
    have lp' : (pre ++ [d]).length = pre.length + 1 := by simp
    have no : ∃ pre, zZf = pre ++ ds ∧ acc.length ≤ pre.length ∧ yJo acc ∧ Pen (n + 5 + ds.length) c3 := ⟨pre ++ [d], e3, by omega, ea, q3⟩
    have yes : acc.length < 16777216 ∧ ∃ pre, zZf = pre ++ ds ∧ acc.length + 1 ≤ pre.length ∧ yJo (acc ++ [d]) ∧ Pen (n + 5 + ds.length) c3 := ⟨by omega, pre ++ [d], e3, by omega, ea', q3⟩
    rcases w3 with rfl | rfl | rfl
    · simp [-Bool.exists_bool]
      exact no
    · simp [-Bool.exists_bool]
      exact yes
    · simp [-Bool.exists_bool]
      split
      · exact yes
      · exact no
  · clear ho
    rintro acc m ⟨pre, o, e, la, ea, ho, rfl⟩
    rw [List.append_nil] at e
    exact h acc o ea (by rw [← e] at la; exact la) ho
theorem xYu {n : Nat} {c : Ob} (hc : Pen (n + 20) c) (h : ∀ xs f r c', yJo xs → xs.length ≤ 14 → f ∈ yJm → r ∈ zKf → Pen n c' → E (.d (yZ4 xs f r)) ⟨[], c' :: cs⟩) : W (zU3 [.cell 0]) ⟨[], c :: cs⟩ X E := by
  unfold zU3
  rw [zVk]
  unfold yZ9 zZo
  refine yZr (fun m => m = ⟨[some (.cell 0), some (.own zZf), none, none, none, none, none], c :: cs⟩) ?_ ?_
  · simp [-Bool.exists_bool]
    refine yJn xWl ?_
    simp [-Bool.exists_bool]
  rintro _ rfl
  refine yZr (fun m => ∃ (w : Int) (o : Ob), 0 ≤ w ∧ w < (8 : Int) ∧ Pen (n + 19) o ∧ m = ⟨[some (.cell 0), some (.own zZf), some (.d (.int w)), none, none, none, none], o :: cs⟩) ?_ ?_
  · simp [-Bool.exists_bool]
    refine yXq hc (by decide) (by decide) fun v c1 v0 v1 q1 => ?_
    simp [-Bool.exists_bool]
    exact ⟨v, v0, v1, q1, rfl⟩
  clear hc
  rintro _ ⟨w, o, w0, w1, ho, rfl⟩
  refine yZr (fun m => ∃ (ns : List Int) (o : Ob), (∀ i ∈ ns, 0 ≤ i ∧ i < 12) ∧ ns.length ≤ 3 ∧ Pen (n + 18) o ∧ m = ⟨[some (.cell 0), some (.own zZf), some (.d (.int w)), some (.d (.list (ns.map .int))), none, none, none], o :: cs⟩) ?_ ?_
  · simp [-Bool.exists_bool]
    refine yXq ho (by decide) (by decide) fun v c1 v0 v1 q1 => ?_
    simp [-Bool.exists_bool]
    refine menu (xs := [PyData.list [], .list [.int 1], .list [.int 0, .int 4], .list [.int 3, .int 4], .list [.int 7, .int 8], .list [.int 7, .int 11], .list [.int 3, .int 4, .int 8], .list [.int 1, .int 4]]) v0 (by show v < 8; exact v1) fun p hp => ?_
    simp only [List.mem_cons, List.not_mem_nil, or_false] at hp
    rcases hp with rfl | rfl | rfl | rfl | rfl | rfl | rfl | rfl
    · exact ⟨[], by decide, by decide, q1, rfl⟩
    · exact ⟨[1], by decide, by decide, q1, rfl⟩
    · exact ⟨[0, 4], by decide, by decide, q1, rfl⟩
    · exact ⟨[3, 4], by decide, by decide, q1, rfl⟩
    · exact ⟨[7, 8], by decide, by decide, q1, rfl⟩
    · exact ⟨[7, 11], by decide, by decide, q1, rfl⟩
    · exact ⟨[3, 4, 8], by decide, by decide, q1, rfl⟩
    · exact ⟨[1, 4], by decide, by decide, q1, rfl⟩
  clear ho
  rintro _ ⟨ns, o, hn, ln, ho, rfl⟩
  refine yZr (KC cs (n + 18) w) ?_ ?_
  · simp [-Bool.exists_bool, zG7]
    refine yWi (ds := ns.map .int) (fun _ => true) wQx (by rw [List.length_map]; omega) (fun d hd => ?_) ?_
    · obtain ⟨i, hi, rfl⟩ := List.mem_map.mp hd
      obtain ⟨e1, e2⟩ := wXf (hn i hi)
      simp [-Bool.exists_bool, e1, zJ2]
    · simp [-Bool.exists_bool]
      refine ⟨_, _, _, _, _, _, .inl rfl, fun d hd => ?_, ?_, ho, rfl⟩
      · obtain ⟨x, hx, rfl⟩ := List.mem_map.mp hd
        obtain ⟨i, hi, rfl⟩ := List.mem_map.mp (List.mem_filter.mp hx).1
        exact (wXf (hn i hi)).2
      · have z := List.length_filter_le (fun _ => true) (ns.map PyData.int)
        rw [List.length_map] at z
        rw [List.length_map]
        omega
  clear ho
  rintro _ ⟨xs, s1, s3, s5, s6, o, h1, hx, lx, ho, rfl⟩
  refine yZr (KC cs (n + 5) w) ?_ ?_
  · by_cases wl : w < 3
    · rcases h1 with rfl | rfl
      · simp [-Bool.exists_bool, zG7, wl]
        refine wYp ho w0 wl fun acc o' a1 a2 a3 => ?_
        simp [-Bool.exists_bool]
        exact ⟨_, _, _, _, _, _, .inr rfl, a1, a2, a3, rfl⟩
      · simp [-Bool.exists_bool, zG7, wl]
        refine wYp ho w0 wl fun acc o' a1 a2 a3 => ?_
        simp [-Bool.exists_bool]
        exact ⟨_, _, _, _, _, _, .inr rfl, a1, a2, a3, rfl⟩
    · simp [-Bool.exists_bool, wl]
      exact ⟨_, _, _, _, _, _, h1, hx, lx, ho.le (by omega), rfl⟩
  clear ho hx lx h1
  rintro _ ⟨xs, s1, s3, s5, s6, o, h1, hx, lx, ho, rfl⟩
  refine yZr (KD cs (n + 3) w) ?_ ?_
  · obtain ⟨b, eb⟩ : ∃ b, zG1 .In (.int w) (.tuple [.int 3, .int 4]) = some b := by
      have w8 : w = 0 ∨ w = 1 ∨ w = 2 ∨ w = 3 ∨ w = 4 ∨ w = 5 ∨ w = 6 ∨ w = 7 := by omega
      rcases w8 with rfl | rfl | rfl | rfl | rfl | rfl | rfl | rfl <;> exact ⟨_, rfl⟩
    cases b with
    | false =>
      simp [-Bool.exists_bool, eb]
      exact ⟨_, _, _, _, _, _, h1, hx, Nat.le_trans lx (by decide), ho.le (by omega), rfl⟩
    | true =>
      rcases h1 with rfl | rfl
      all_goals
        simp [-Bool.exists_bool, eb]
        refine yXq (n := n + 4) ho (by decide) (by decide) fun v c1 v0 v1 q1 => ?_
        simp [-Bool.exists_bool]
        refine menu (xs := zZf) v0 (by show v < 12; exact v1) fun p hp => ?_
        first | simp [-Bool.exists_bool] | skip
        refine yXq (n := n + 3) q1 (by decide) (by decide) fun u c2 u0 u1 q2 => ?_
        first | simp [-Bool.exists_bool] | skip
        refine menu (xs := zZf) u0 (by show u < 12; exact u1) fun p' hp' => ?_
        first | simp [-Bool.exists_bool] | skip
        have lz : (xs ++ [p, p']).length = xs.length + 2 := by simp
        obtain ⟨ys, ey, ay, ly⟩ := xHt (xs := xs ++ [p, p']) (fun d hd => (List.mem_append.mp hd).elim (hx d) fun z => by
          rcases List.mem_cons.mp z with z | z
          · rw [z]; exact hp
          · rw [List.mem_singleton.mp z]; exact hp') (by omega)
        refine ⟨by omega, _, ey, ?_⟩
        simp [-Bool.exists_bool]
        refine ⟨_, _, _, _, _, _, ?_, ay, by omega, q2, rfl⟩
        first | exact .inl rfl | exact .inr rfl
  clear ho hx lx h1
  rintro _ ⟨xs, s1, s3, s5, s6, o, h1, hx, lx, ho, rfl⟩
  refine yZr (KD cs (n + 2) w) ?_ ?_
  · by_cases w5 : w = 5
    · subst w5
      cases xs with
      | nil =>
        simp [-Bool.exists_bool]
        exact ⟨_, _, _, _, _, _, h1, hx, lx, ho.le (by omega), rfl⟩
      | cons x t =>
        simp [-Bool.exists_bool]
        refine yXq (n := n + 2) (k := ((x :: t).length : Int)) ho (by simp only [List.length_cons]; omega) (by have := lx; omega) fun v c1 v0 v1 q1 => ?_
        refine yJn (wJp (xs := x :: t) rfl v0 v1 (by omega)) ?_
        refine ⟨(x :: t).eraseIdx v.toNat, s1, s3, s5, s6, c1, h1, fun d hd => hx d (List.mem_of_mem_eraseIdx hd), Nat.le_trans (List.length_eraseIdx_le ..) lx, q1, ?_⟩
        simp [setM]
    · simp [-Bool.exists_bool, w5]
      exact ⟨_, _, _, _, _, _, h1, hx, lx, ho.le (by omega), rfl⟩
  clear ho hx lx h1
  rintro _ ⟨xs, s1, s3, s5, s6, o, h1, hx, lx, ho, rfl⟩
  simp [-Bool.exists_bool]
  refine yXq ho (by decide) (by decide) fun v c1 v0 v1 q1 => ?_
  simp [-Bool.exists_bool]
  refine menu (xs := [PyData.str "white", .str "grey", .str "black"]) v0 (by show v < 3; exact v1) fun p hp => ?_
  refine yXq q1 (by decide) (by decide) fun u c2 u0 u1 q2 => ?_
  simp [-Bool.exists_bool]
  refine menu (xs := [PyData.str "once", .str "again"]) u0 (by show u < 2; exact u1) fun p' hp' => ?_
  simp only [List.mem_cons, List.not_mem_nil, or_false] at hp hp'
  rcases hp with rfl | rfl | rfl <;> rcases hp' with rfl | rfl <;> exact h _ _ _ _ hx lx (by decide) (by decide) q2
end
end Ev

namespace Ev
open PySem PySem.Spec PyProof.Rows L2
theorem vZr {X : Exn → Mem → Prop} {es es' : List PyData} {f r f' r' : Str} {cs : List Ob} {E : EV → Mem → Prop} (hx : yJo es) (hx' : yJo es') (hl : es.length ≤ 1000) (hk : ∀ x, x ∈ zZf → Kin x) (hf : f ∈ yJm) (hr : r ∈ zKf)
    (h : f = f' ∧ r = r' → E (.new (yGj (zJo (es.filter (inB es'))) f r)) ⟨[], cs⟩) (hn : ¬ (f = f' ∧ r = r') → X ⟨"Mismatch", []⟩ ⟨[], cs⟩) : W (zKx [.d (zJg es f r), .d (zJg es' f' r')]) ⟨[], cs⟩ X E := by
  unfold zKx
  rw [zVk]
  unfold zU7 zZo
  have n1 : yKc "need_beside" (zZr (xJz es f r)) = none := rfl
  have n2 : yKc "with_entries" (zZr (xJz es f r)) = none := rfl
  have p : pick [0, 1] (AV.d (zJg es f r) :: AV.d (zJg es' f' r') :: dAV []) = [.d (zJg es f r), .d (zJg es' f' r')] := rfl
  simp [-Bool.exists_bool, zQ7, n1, pD, p]
  refine yVp (fun q => ?_) hn
  simp [-Bool.exists_bool, zQ7, n2, wVo, zG7]
  refine yWi (ds := es) (inB es') (fun d => d) (by omega) (fun d hd => ?_) ?_
  · have q := xJf hx' (hx d hd)
    simp [-Bool.exists_bool, zQ7, wVo, q, zJ2]
  · simp [-Bool.exists_bool]
    refine ⟨fun _ => ?_, rfl⟩
    have p2 : pick [0, 1] (AV.d (zJg es f r) :: AV.d (.tuple (es.filter (inB es'))) :: dAV []) = [.d (zJg es f r), .d (.tuple (es.filter (inB es')))] := rfl
    rw [p2]
    exact wZf (fun x h => hx x (List.mem_filter.mp h).1) (Nat.le_trans (List.length_filter_le ..) hl) (fun x h => hk x (hx x (List.mem_filter.mp h).1)) hf hr (h q)
end Ev

namespace Ev
open PySem PySem.Spec PyProof.Rows L2
theorem xXt {X : Exn → Mem → Prop} {E : EV → Mem → Prop} {xs : List PyData} {f r : Str} {cs : List Ob} (hx : yJo xs) (hf : f ∈ yJm) (hr : r ∈ zKf) (h : E (.new (yGj (zJo xs) f r)) ⟨[], cs⟩) : W (zKe [.d (yZ4 xs f r)]) ⟨[], cs⟩ X E := by
  unfold zKe
  rw [zVk]
  unfold yQ7 zZo yZ4
  have p : pD 1 2 3 [0, 1, 2] [] zJ9 [.d (wQ1 "Table"), .d (.str f), .d (.str r)] = zJ9 [.d (wQ1 "Table"), .d (.str f), .d (.str r)] := rfl
  simp [-Bool.exists_bool, p]
  refine wVu hf hr ?_
  simp [-Bool.exists_bool, zG7]
  refine xXh (fun ds m => ∃ es v, yJo es ∧ es.length ≤ 12 ∧ ds.foldl wXn es = xs.foldl wXn [] ∧ yJo ds ∧ m = ⟨[some (.d (.tuple [.list xs, .str f, .str r])), some (.ob (yGj es f r)), v], cs⟩) ⟨[], none, (fun x h => absurd h (by simp)), by simp, rfl, hx, rfl⟩ ?_ ?_
  · rintro d ds m ⟨es, v, h1, h2, h3, h4, rfl⟩
    have hd := h4 d (List.mem_cons_self ..)
    simp [-Bool.exists_bool]
    refine wQa (xs := [d]) (fun x hx => by rw [List.mem_singleton.mp hx]; exact hd) (by simp) (fun x hx => by rw [List.mem_singleton.mp hx]; exact yQr d hd) hf hr ?_
    have q1 : (yJi (dOf (yGj es f r))).isSome = true := rfl
    have q2 : wKe [(("Table" : Str), pD 2 0 2 [0, 1] [] zXd)] (dOf (yGj es f r)) (dOf (yGj (zJo [d]) f r)) = some (pD 2 0 2 [0, 1] [] zXd) := rfl
    simp [-Bool.exists_bool, q1, q2]
    show W (pD 2 0 2 [0, 1] [] zXd [.d (zJg es f r), .d (zJg (zJo [d]) f r)]) _ _ _
    rw [pD2]
    refine vJl (fun x hx => (List.mem_append.mp hx).elim (h1 x) (zKk x)) (by have := yJc (xs := [d]); simp; omega) yQr hf hr (fun _ => ?_) (fun n => absurd ⟨rfl, rfl⟩ n)
    simp [-Bool.exists_bool]
    exact ⟨_, zKk, yJc, h3, fun x hx => h4 x (List.mem_cons_of_mem _ hx), rfl⟩
  · rintro m ⟨es, v, h1, h2, h3, h4, rfl⟩
    simp [-Bool.exists_bool]
    have h3 : es = zJo xs := by rw [show es = [].foldl wXn es from rfl, h3, wVb]
    subst h3
    exact h

theorem wYf {X : Exn → Mem → Prop} {E : EV → Mem → Prop} {f r : Str} {cs : List Ob} (hf : f ∈ yJm) (hr : r ∈ zKf) (h : E (.new (yGj zZf f r)) ⟨[], cs⟩) : W (zGr [.d (wQ1 "Table"), .d (.str f), .d (.str r)]) ⟨[], cs⟩ X E := by
  unfold zGr
  rw [zVk]
  unfold yQ8 zZo
  have e : (zYg : PyData) = .tuple zZf := rfl
  simp [-Bool.exists_bool, e, zG7]
  refine wQa (xs := zZf) (fun x hx => hx) (by decide) (fun x hx => yQr x hx) hf hr ?_
  have z : zJo zZf = zZf := xHn (List.Sublist.refl _)
  rw [z]
  simp [-Bool.exists_bool]
  exact h
theorem yH7 {xs : List PyData} : (zJo xs).Sublist zZf := List.filter_sublist
theorem xY5 {xs ys : List PyData} : Within (zJo xs) (zJo (zJo (zJo xs ++ zJo ys))) := fun d hd h => by
  rw [yJe hd, yJe hd, yUd, h, Bool.true_or]
theorem xWn {xs ys : List PyData} : Within (zJo ((zJo xs).filter (inB (zJo ys)))) (zJo xs) := fun d hd h => by
  rw [yJe hd, xWf zKk hd, Bool.and_eq_true] at h
  exact h.1
theorem xWo {xs : List PyData} : Within xs zZf := fun d hd _ => (yK9 (fun _ h => h) hd).mpr hd
theorem Within.trans {a b c : List PyData} (h1 : Within a b) (h2 : Within b c) : Within a c := fun d hd h => h2 d hd (h1 d hd h)
end Ev

namespace Ev
open PySem PySem.Spec PyProof.Rows L2
def J58 (ns : List Int) (n : Nat) (m : Mem) : Prop := ∃ s2 s3 s4 s5 s6 s7 o, Pen n o ∧ m = ⟨[some (.d (yJ6 ns)), some (.cell 0), s2, s3, s4, s5, s6, s7], [o]⟩
def T58 (ns : List Int) (i : Int) (n : Nat) (s4 s5 s6 s7 : Option SV) (m : Mem) : Prop := ∃ xs f r o, yJo xs ∧ xs.length ≤ 14 ∧ f ∈ yJm ∧ r ∈ zKf ∧ Pen n o ∧ m = ⟨[some (.d (yJ6 ns)), some (.cell 0), some (.d (.int i)), some (.d (yZ4 xs f r)), s4, s5, s6, s7], [o]⟩
def U58 (ns : List Int) (i : Int) (n : Nat) (xs : List PyData) (f r : Str) (s5 s6 s7 : Option SV) (m : Mem) : Prop := ∃ ys g q o, yJo ys ∧ ys.length ≤ 14 ∧ Pen n o ∧ m = ⟨[some (.d (yJ6 ns)), some (.cell 0), some (.d (.int i)), some (.d (yZ4 xs f r)), some (.d (yZ4 ys g q)), s5, s6, s7], [o]⟩
theorem wVf {h : Fn} {a b : List PyData} {f r : Str} : wKe [(("Table" : Str), h)] (zJg a f r) (zJg b f r) = some h := rfl
theorem wQl {a : List PyData} {f r : Str} : (yJi (zJg a f r)).isSome = true := rfl
theorem wW1 {h : Fn} {a b : List PyData} {f r : Str} : wKe [(("Table" : Str), h)] (dOf (yGj a f r)) (dOf (yGj b f r)) = some h := rfl
theorem wVh {a : List PyData} {f r : Str} : (yJi (dOf (yGj a f r))).isSome = true := rfl
theorem pD3 {g : Fn} {a b c : AV} : pD 1 2 3 [0, 1, 2] [] g [a, b, c] = g [a, b, c] := rfl
theorem law_true : vXq 63 xZ3 := wQi fun ns h1 h2 => by
  unfold xZ3
  rw [zVk]
  unfold xY1 zZo
  refine yZr (J58 ns 9999) ?_ ?_
  · simp [-Bool.exists_bool]
    refine vQe fun o0 ho0 => ?_
    simp [-Bool.exists_bool]
    exact ⟨_, _, _, _, _, _, o0, ho0.le (by omega), rfl⟩
  rintro m ⟨s2, s3, s4, s5, s6, s7, o, ho, rfl⟩
  refine yZr (J58 ns 0) ?_ ?_
  · rw [vZ7]
    simp [-Bool.exists_bool]
    refine xGv (fun i m => J58 ns (1000 - 100 * i.toNat) m) 3 0 ⟨s2, s3, s4, s5, s6, s7, o, ho.le (by simp), rfl⟩ ?_ ?_
    · clear ho
      rintro i m i0 i1 ⟨s2, s3, s4, s5, s6, s7, o, ho, rfl⟩
      have ep : 1000 - 100 * i.toNat = (1000 - 100 * (i + 1).toNat) + 100 := by omega
      rw [ep] at ho
      generalize en2 : 1000 - 100 * (i + 1).toNat = n at ho
      rw [wQ8]
      refine yZr (T58 ns i (n + 80) s4 s5 s6 s7) ?_ ?_
      · simp [-Bool.exists_bool]
        refine xYu (n := n + 80) ho fun xs f r c' a1 a2 a3 a4 a5 => ?_
        simp [-Bool.exists_bool]
        exact ⟨xs, f, r, c', a1, a2, a3, a4, a5, rfl⟩
      clear ho
      rintro _ ⟨xs, f, r, o, hx, lx, hf, hr, ho, rfl⟩
      refine yZr (U58 ns i (n + 60) xs f r s5 s6 s7) ?_ ?_
      · simp [-Bool.exists_bool]
        refine xYu (n := n + 60) ho fun xs f r c' a1 a2 a3 a4 a5 => ?_
        simp [-Bool.exists_bool]
        exact ⟨xs, f, r, c', a1, a2, a5, rfl⟩
      clear ho
      rintro _ ⟨ys, g, q, o, hy, ly, ho, rfl⟩
      have r0 : ∀ {a b : Str} {l : List PyData}, ixS (yZ4 l a b) (.int 0) = some (.list l) := rfl
      have r1 : ∀ {a b : Str} {l : List PyData}, ixS (yZ4 l a b) (.int 1) = some (.str a) := rfl
      have r2 : ∀ {a b : Str} {l : List PyData}, ixS (yZ4 l a b) (.int 2) = some (.str b) := rfl
      refine yZr (fun m => m = ⟨[some (.d (yJ6 ns)), some (.cell 0), some (.d (.int i)), some (.d (yZ4 xs f r)), some (.d (yZ4 ys g q)), some (.ob (yGj (zJo xs) f r)), s6, s7], [o]⟩) ?_ ?_
      · simp [-Bool.exists_bool]
        refine xXt hx hf hr ?_
        simp [-Bool.exists_bool]
      rintro _ rfl
      refine yZr (fun m => m = ⟨[some (.d (yJ6 ns)), some (.cell 0), some (.d (.int i)), some (.d (yZ4 xs f r)), some (.d (yZ4 ys g q)), some (.d (zJg (zJo xs) f r)), some (.ob (yGj (zJo (zJo (zJo xs ++ zJo ys))) f r)), s7], [o]⟩) ?_ ?_
      · simp [-Bool.exists_bool, r0, r1, r2]
        refine xXt (xs := ys) hy hf hr ?_
        simp [-Bool.exists_bool, wVh, wW1]
        rw [yUt, yUt, pD2]
        refine vJl (fun x hx => (List.mem_append.mp hx).elim (zKk x) (zKk x)) (by have h1 := yJc (xs := xs); have h2 := yJc (xs := ys); simp; omega) yQr hf hr (fun _ => ?_) (fun n => absurd ⟨rfl, rfl⟩ n)
        simp [-Bool.exists_bool]
      rintro _ rfl
      refine yZr (fun m => m = ⟨[some (.d (yJ6 ns)), some (.cell 0), some (.d (.int i)), some (.d (yZ4 xs f r)), some (.d (yZ4 ys g q)), some (.d (zJg (zJo xs) f r)), some (.ob (yGj (zJo (zJo (zJo xs ++ zJo ys))) f r)), some (.ob (yGj (zJo ((zJo xs).filter (inB (zJo ys)))) f r))], [o]⟩) ?_ ?_
      · simp [-Bool.exists_bool, r0, r1, r2]
        refine xXt (xs := ys) hy hf hr ?_
        simp [-Bool.exists_bool, wQl, wVf, yUt]
        rw [pD2]
        refine vZr zKk zKk (by have h1 := yJc (xs := xs); omega) yQr hf hr (fun _ => ?_) (fun n => absurd ⟨rfl, rfl⟩ n)
        simp [-Bool.exists_bool]
      rintro _ rfl
      have w1 : Within (zJo xs) (zJo (zJo (zJo xs ++ zJo ys))) := xY5
      have w2 : Within (zJo ((zJo xs).filter (inB (zJo ys)))) (zJo xs) := xWn
      have u1 : (zJo xs).Sublist zZf := yH7
      have u2 : (zJo (zJo (zJo xs ++ zJo ys))).Sublist zZf := yH7
      have u3 : (zJo ((zJo xs).filter (inB (zJo ys)))).Sublist zZf := yH7
      generalize zJo ((zJo xs).filter (inB (zJo ys))) = zs at *
      generalize zJo (zJo (zJo xs ++ zJo ys)) = vs at *
      generalize zJo xs = us at *
      refine yZr (fun m => m = ⟨[some (.d (yJ6 ns)), some (.cell 0), some (.d (.int i)), some (.d (yZ4 xs f r)), some (.d (yZ4 ys g q)), some (.d (zJg us f r)), some (.d (zJg vs f r)), some (.d (zJg zs f r))], [o]⟩) ?_ ?_
      · simp [-Bool.exists_bool]
        refine xZg u1 u2 hf hr w1 ?_
        simp [-Bool.exists_bool]
        refine xZg u3 u1 hf hr w2 ?_
        simp [-Bool.exists_bool]
        refine xZg u3 u2 hf hr (w2.trans w1) ?_
        simp [-Bool.exists_bool, yUt]
      rintro _ rfl
      simp [-Bool.exists_bool]
      refine xZg u1 u1 hf hr (fun _ _ z => z) ?_
      simp [-Bool.exists_bool, r1, r2]
      rw [pD3]
      refine wYf hf hr ?_
      simp [-Bool.exists_bool, yUt]
      refine xZg u2 (List.Sublist.refl _) hf hr xWo ?_
      simp [-Bool.exists_bool]
      exact ⟨_, _, _, _, _, _, o, ho.le (by omega), rfl⟩
    · clear ho
      rintro m ⟨s2, s3, s4, s5, s6, s7, o, ho, rfl⟩
      exact ⟨s2, s3, s4, s5, s6, s7, o, ho.le (by omega), rfl⟩
  clear ho
  rintro m ⟨s2, s3, s4, s5, s6, s7, o, ho, rfl⟩
  simp [-Bool.exists_bool]
end Ev

namespace Ev
open PySem PySem.Spec PyProof.Rows L2
def zQo (i : Nat) : Stmt := PySem.Challenge.pw_shadeguards_k58_whole_more_entries.main.body.getD i (.Pass ⟨0, 0, 0, 0⟩)
structure Top (w : World) (K : PySem.W.Frag) (mg : Str → Option Value) : Prop where
  b_list : mg "list" = none
  b_tuple : mg "tuple" = none
  b_isinstance : mg "isinstance" = none
  b_str : mg "str" = none
  b_len : mg "len" = none
  b_enumerate : mg "enumerate" = none
  b_abs : mg "abs" = none
  b_int : mg "int" = none
  b_sorted : mg "sorted" = none
  b_set : mg "set" = none
  b_all : mg "all" = none
  b_any : mg "any" = none
  b_range : mg "range" = none
  b_max : mg "max" = none
  zYg : GM K mg "ENTRIES" zYg
  yKh : GM K mg "COLORS" yKh
  yUv : GM K mg "KINDS" yUv
  zYp : GM K mg "WHOLE" zYp
  yUw : GM K mg "GOALS" yUw
  zKm : GM K mg "ONE_REGISTER" zKm
  zKl : GM K mg "STRONG_WHOLE" zKl
  zVw : GM K mg "STRONG_FIELDS" zVw
  yQu : GM K mg "LIT_WAYS" yQu
  zZz : GM K mg "SOURCE_BLACK" zZz
  zYf : GM K mg "SOURCE_GREY" zYf
  xXf : GM K mg "BOTH" xXf
  yQt : GM K mg "OF_WHITE" yQt
  yQs : GM K mg "SNAPSHOT" yQs
  xJq : GM K mg "ONE" xJq
  zQ4 : GM K mg "START_overruns" zQ4
  yUu : GM K mg "NONE" yUu
  zYr : GM K mg "LOAD_GREY" zYr
  zG2 : GM K mg "OLD_GREY" zG2
  zQ1 : GM K mg "START_losing" zQ1
  yZm : GM K mg "END" yZm
  zYq : GM K mg "NEW_BLACK" zYq
  xGl : GM K mg "YES" xGl
  wQ5 : GM K mg "NO" wQ5
  x0_Mismatch : vXt K mg "Mismatch"
  e_Mismatch : ExN K "Mismatch" []
  xi_InvalidEntry : XI K mg "InvalidEntry" "InvalidEntry.__init__" (zXz (zQo 8) 0) ["index"]
  e_InvalidEntry : ExN K "InvalidEntry" ["index"]
  xi_InvalidFresh : XI K mg "InvalidFresh" "InvalidFresh.__init__" (zXz (zQo 9) 0) ["value"]
  e_InvalidFresh : ExN K "InvalidFresh" ["value"]
  xi_InvalidRoots : XI K mg "InvalidRoots" "InvalidRoots.__init__" (zXz (zQo 10) 0) ["value"]
  e_InvalidRoots : ExN K "InvalidRoots" ["value"]
  xi_InvalidGoal : XI K mg "InvalidGoal" "InvalidGoal.__init__" (zXz (zQo 11) 0) ["value"]
  e_InvalidGoal : ExN K "InvalidGoal" ["value"]
  g_Table : GM K mg "Table" (wQ1 "Table")
  fl_Table_kept_fresh : wY4 K "Table" "kept_fresh"
  fl_Table_kept_roots : wY4 K "Table" "kept_roots"
  fl_Table_kept : wY4 K "Table" "kept"
  cn_Table_ROOTS : vXu K "Table" "ROOTS" (.tuple [.str "once", .str "again"])
  m_Table_is_beside : xWt K "Table" (yGg K "is_beside") (FFp K "is_beside" "Table.is_beside" (zXz (zQo 81) 11))
  m_Table___init__ : xWt K "Table" (RMk K mg "Table") (FFd K "__init__" "Table.__init__" (zXz (zQo 81) 2) [("fresh", .str "black"), ("roots", .str "once")])
  m_Table_need_beside : xWt K "Table" (yGg K "need_beside") (FFp K "need_beside" "Table.need_beside" (zXz (zQo 81) 13))
  m_Table_with_entries : xWt K "Table" (yGg K "with_entries") (FFp K "with_entries" "Table.with_entries" (zXz (zQo 81) 9))
  m_Table_empty : xWt K "Table" (wKn K "empty") (FFd K "empty" "Table.empty" (zXz (zQo 81) 3) [("fresh", .str "black"), ("roots", .str "once")])
  m_Table___or__ : xWt K "Table" (ROp K .BitOr) (FFp K "__or__" "Table.__or__" (zXz (zQo 81) 14))
  m_Table___contains__ : xWt K "Table" (wHm K) (FFp K "__contains__" "Table.__contains__" (zXz (zQo 81) 18))
  m_Table_fresh : xWt K "Table" (xWr K "fresh") (FFp K "fresh" "Table.fresh" (zXz (zQo 81) 7))
  m_Table_roots : xWt K "Table" (xWr K "roots") (FFp K "roots" "Table.roots" (zXz (zQo 81) 8))
  m_Table_within : xWt K "Table" (yGg K "within") (FFp K "within" "Table.within" (zXz (zQo 81) 12))
  m_Table___and__ : xWt K "Table" (ROp K .BitAnd) (FFp K "__and__" "Table.__and__" (zXz (zQo 81) 15))
  m_Table_full : xWt K "Table" (wKn K "full") (FFd K "full" "Table.full" (zXz (zQo 81) 4) [("fresh", .str "black"), ("roots", .str "once")])
  f__law_pen : FM K mg "_law_pen" (zQo 87) ["_law_script"]
  f_listed : FM K mg "listed" (zQo 68) ["entries"]
  f_is_color : FM K mg "is_color" (zQo 66) ["thing"]
  f_is_entry : FM K mg "is_entry" (zQo 67) ["thing"]
  f_sorted_entries : FMS K mg "sorted_entries" (zQo 69)
  f__law_entries : FM K mg "_law_entries" (zQo 89) []
  f__law_draw : FM K mg "_law_draw" (zQo 88) ["_law_pen_here", "_law_count"]
  f__law_rule : FM K mg "_law_rule" (zQo 90) ["_law_pen_here"]
  f__law_sheet : FM K mg "_law_sheet" (zQo 91) ["_law_rule_here"]
  f__law_settings : FM K mg "_law_settings" (zQo 93) []
  f_least_freeing : FM K mg "least_freeing" (zQo 3) ["table"]
  f__law_rank : FM K mg "_law_rank" (zQo 92) ["_law_sheet_here"]
  f_scan_of : FM K mg "scan_of" (zQo 4) ["x", "scanning"]
  f_freeing_run : FMD K mg "freeing_run" (zQo 5) [("registers", .int 2), ("scanning", .str "whole")]
  f_fits : FM K mg "fits" (zQo 38) ["table", "way"]
  f_need_goal : FM K mg "need_goal" (zQo 36) ["goal"]
  f_safe_ways : FM K mg "safe_ways" (zQo 34) ["registers", "scanning"]
  f_bounded_ways : FM K mg "bounded_ways" (zQo 35) ["registers", "scanning"]
  f_ways : FMD K mg "ways" (zQo 37) [("registers", .int 2), ("scanning", .str "whole")]
  f_has_property : FME K mg "has_property" (zQo 39) [.str "safe"] [("registers", .int 2), ("scanning", .str "whole")]
  f_again_black : FM K mg "again_black" (zQo 54) ["rounds", "places", "scanning"]
  f_again_grey : FM K mg "again_grey" (zQo 55) ["rounds", "places"]
  f_grey_ones : FM K mg "grey_ones" (zQo 56) ["rounds", "places", "scanning"]
  f_chained : FM K mg "chained" (zQo 57) ["rounds", "scanning"]
  f_steps_to_shade : FM K mg "steps_to_shade" (zQo 58) ["table"]
  f_lone_ones : FM K mg "lone_ones" (zQo 59) ["table", "rounds", "scanning"]
  f_longer_run : FMD K mg "longer_run" (zQo 60) [("registers", .int 2), ("scanning", .str "whole")]
  f_overrun : FMD K mg "overrun" (zQo 61) [("registers", .int 2), ("scanning", .str "whole")]
  f_case_of : FM K mg "case_of" (zQo 43) ["table"]
  f_run_between_fields : FM K mg "run_between_fields" (zQo 48) ["table"]
  f_scanned : FM K mg "scanned" (zQo 44) ["x", "scanning"]
  f_run_with_white : FM K mg "run_with_white" (zQo 45) ["table", "scanning"]
  f_run_with_two : FM K mg "run_with_two" (zQo 46) ["table", "scanning"]
  f_run_with_three : FM K mg "run_with_three" (zQo 47) ["table", "scanning"]
  f_losing_run : FMD K mg "losing_run" (zQo 49) [("registers", .int 2), ("scanning", .str "whole")]
  f_judge : FME K mg "judge" (zQo 85) [.str "safe"] [("registers", .int 2), ("scanning", .str "whole")]
  f__law_pair_right : FM K mg "_law_pair_right" (zQo 94) ["_law_few", "_law_more"]
  f_law : FM K mg "law" (zQo 95) ["_law_script"]
section
variable {P : Program} {w : World} {K : PySem.W.Frag} {mg : Str → Option Value} {base : Heap}
theorem yJv : (("_law_script" : Str) == ("__debug__" : Str)) = false := by decide
theorem yJt : (("_law_script" : Str) == ("__classdict__" : Str)) = false := by decide
theorem zXt : (("self" : Str) == ("__debug__" : Str)) = false := by decide
theorem zXs : (("self" : Str) == ("__classdict__" : Str)) = false := by decide
theorem zV2 : (("other" : Str) == ("__debug__" : Str)) = false := by decide
theorem zV0 : (("other" : Str) == ("__classdict__" : Str)) = false := by decide
theorem zUa : (("entry" : Str) == ("__debug__" : Str)) = false := by decide
theorem zY8 : (("entry" : Str) == ("__classdict__" : Str)) = false := by decide
theorem yQj : (("entries" : Str) == ("__debug__" : Str)) = false := by decide
theorem yQi : (("entries" : Str) == ("__classdict__" : Str)) = false := by decide
theorem zGi : (("thing" : Str) == ("__debug__" : Str)) = false := by decide
theorem zGg : (("thing" : Str) == ("__classdict__" : Str)) = false := by decide
theorem wQd : (("index" : Str) == ("__debug__" : Str)) = false := by decide
theorem wQc : (("index" : Str) == ("__classdict__" : Str)) = false := by decide
theorem yJb : (("fresh" : Str) == ("__debug__" : Str)) = false := by decide
theorem yJa : (("fresh" : Str) == ("__classdict__" : Str)) = false := by decide
theorem yZg : (("roots" : Str) == ("__debug__" : Str)) = false := by decide
theorem yZd : (("roots" : Str) == ("__classdict__" : Str)) = false := by decide
theorem xZu : (("_law_kind" : Str) == ("__debug__" : Str)) = false := by decide
theorem xZs : (("_law_kind" : Str) == ("__classdict__" : Str)) = false := by decide
theorem yH6 : (("_law_color" : Str) == ("__debug__" : Str)) = false := by decide
theorem yH3 : (("_law_color" : Str) == ("__classdict__" : Str)) = false := by decide
theorem yZi : (("_law_found" : Str) == ("__debug__" : Str)) = false := by decide
theorem yZf : (("_law_found" : Str) == ("__classdict__" : Str)) = false := by decide
theorem zQq : (("_law_pen_here" : Str) == ("__debug__" : Str)) = false := by decide
theorem zQp : (("_law_pen_here" : Str) == ("__classdict__" : Str)) = false := by decide
theorem zWl : (("_law_count" : Str) == ("__debug__" : Str)) = false := by decide
theorem zWk : (("_law_count" : Str) == ("__classdict__" : Str)) = false := by decide
theorem yH5 : (("_law_digit" : Str) == ("__debug__" : Str)) = false := by decide
theorem yH2 : (("_law_digit" : Str) == ("__classdict__" : Str)) = false := by decide
theorem zV3 : (("_law_at" : Str) == ("__debug__" : Str)) = false := by decide
theorem zV1 : (("_law_at" : Str) == ("__classdict__" : Str)) = false := by decide
theorem zHp : (("_law_cell" : Str) == ("__debug__" : Str)) = false := by decide
theorem zHo : (("_law_cell" : Str) == ("__classdict__" : Str)) = false := by decide
theorem yV2 : (("_law_great" : Str) == ("__debug__" : Str)) = false := by decide
theorem yVv : (("_law_great" : Str) == ("__classdict__" : Str)) = false := by decide
theorem yV0 : (("_law_mixed" : Str) == ("__debug__" : Str)) = false := by decide
theorem yVt : (("_law_mixed" : Str) == ("__classdict__" : Str)) = false := by decide
theorem xZt : (("_law_some" : Str) == ("__debug__" : Str)) = false := by decide
theorem xZr : (("_law_some" : Str) == ("__classdict__" : Str)) = false := by decide
theorem zGj : (("_law_every" : Str) == ("__debug__" : Str)) = false := by decide
theorem zGh : (("_law_every" : Str) == ("__classdict__" : Str)) = false := by decide
theorem yZh : (("_law_way" : Str) == ("__debug__" : Str)) = false := by decide
theorem yZe : (("_law_way" : Str) == ("__classdict__" : Str)) = false := by decide
theorem yV3 : (("_law_entry" : Str) == ("__debug__" : Str)) = false := by decide
theorem yVw : (("_law_entry" : Str) == ("__classdict__" : Str)) = false := by decide
theorem zUb : (("_law_chosen" : Str) == ("__debug__" : Str)) = false := by decide
theorem zY9 : (("_law_chosen" : Str) == ("__classdict__" : Str)) = false := by decide
theorem wZ4 : (("cls" : Str) == ("__debug__" : Str)) = false := by decide
theorem wZ3 : (("cls" : Str) == ("__classdict__" : Str)) = false := by decide
theorem zZe : (("_law_rule_here" : Str) == ("__debug__" : Str)) = false := by decide
theorem zZd : (("_law_rule_here" : Str) == ("__classdict__" : Str)) = false := by decide
theorem zQ6 : (("table" : Str) == ("__debug__" : Str)) = false := by decide
theorem zQ5 : (("table" : Str) == ("__classdict__" : Str)) = false := by decide
theorem yVy : (("_law_sheet_here" : Str) == ("__debug__" : Str)) = false := by decide
theorem yVr : (("_law_sheet_here" : Str) == ("__classdict__" : Str)) = false := by decide
theorem yV1 : (("_law_least" : Str) == ("__debug__" : Str)) = false := by decide
theorem yVu : (("_law_least" : Str) == ("__classdict__" : Str)) = false := by decide
theorem zQv : (("scanning" : Str) == ("__debug__" : Str)) = false := by decide
theorem zQu : (("scanning" : Str) == ("__classdict__" : Str)) = false := by decide
theorem wUm : (("x" : Str) == ("__debug__" : Str)) = false := by decide
theorem wUl : (("x" : Str) == ("__classdict__" : Str)) = false := by decide
theorem xVs : (("least" : Str) == ("__debug__" : Str)) = false := by decide
theorem xVo : (("least" : Str) == ("__classdict__" : Str)) = false := by decide
theorem zZl : (("registers" : Str) == ("__debug__" : Str)) = false := by decide
theorem zZk : (("registers" : Str) == ("__classdict__" : Str)) = false := by decide
theorem zU2 : (("places" : Str) == ("__debug__" : Str)) = false := by decide
theorem zU1 : (("places" : Str) == ("__classdict__" : Str)) = false := by decide
theorem xUf : (("cut" : Str) == ("__debug__" : Str)) = false := by decide
theorem xUd : (("cut" : Str) == ("__classdict__" : Str)) = false := by decide
theorem yK3 : (("scan" : Str) == ("__debug__" : Str)) = false := by decide
theorem yK2 : (("scan" : Str) == ("__classdict__" : Str)) = false := by decide
theorem zVc : (("steps" : Str) == ("__debug__" : Str)) = false := by decide
theorem zVb : (("steps" : Str) == ("__classdict__" : Str)) = false := by decide
theorem xVq : (("way" : Str) == ("__debug__" : Str)) = false := by decide
theorem xVm : (("way" : Str) == ("__classdict__" : Str)) = false := by decide
theorem xUe : (("needed" : Str) == ("__debug__" : Str)) = false := by decide
theorem xUc : (("needed" : Str) == ("__classdict__" : Str)) = false := by decide
theorem yY6 : (("barred" : Str) == ("__debug__" : Str)) = false := by decide
theorem yY4 : (("barred" : Str) == ("__classdict__" : Str)) = false := by decide
theorem zH6 : (("goal" : Str) == ("__debug__" : Str)) = false := by decide
theorem zH5 : (("goal" : Str) == ("__classdict__" : Str)) = false := by decide
theorem xVt : (("found" : Str) == ("__debug__" : Str)) = false := by decide
theorem xVp : (("found" : Str) == ("__classdict__" : Str)) = false := by decide
theorem zKj : (("rounds" : Str) == ("__debug__" : Str)) = false := by decide
theorem zKi : (("rounds" : Str) == ("__classdict__" : Str)) = false := by decide
theorem yVx : (("number" : Str) == ("__debug__" : Str)) = false := by decide
theorem yVq : (("number" : Str) == ("__classdict__" : Str)) = false := by decide
theorem wJ7 : (("mine" : Str) == ("__debug__" : Str)) = false := by decide
theorem wJ5 : (("mine" : Str) == ("__classdict__" : Str)) = false := by decide
theorem yXi : (("to_itself" : Str) == ("__debug__" : Str)) = false := by decide
theorem yXh : (("to_itself" : Str) == ("__classdict__" : Str)) = false := by decide
theorem wJ8 : (("many" : Str) == ("__debug__" : Str)) = false := by decide
theorem wJ6 : (("many" : Str) == ("__classdict__" : Str)) = false := by decide
theorem yH4 : (("case" : Str) == ("__debug__" : Str)) = false := by decide
theorem yH1 : (("case" : Str) == ("__classdict__" : Str)) = false := by decide
theorem xVr : (("names" : Str) == ("__debug__" : Str)) = false := by decide
theorem xVn : (("names" : Str) == ("__classdict__" : Str)) = false := by decide
theorem zJd : (("_law_few" : Str) == ("__debug__" : Str)) = false := by decide
theorem zJc : (("_law_few" : Str) == ("__classdict__" : Str)) = false := by decide
theorem zXp : (("_law_more" : Str) == ("__debug__" : Str)) = false := by decide
theorem zXo : (("_law_more" : Str) == ("__classdict__" : Str)) = false := by decide
theorem zJ7 : (("_law_places" : Str) == ("__debug__" : Str)) = false := by decide
theorem zJ6 : (("_law_places" : Str) == ("__classdict__" : Str)) = false := by decide
theorem zK1 : (("_law_mode" : Str) == ("__debug__" : Str)) = false := by decide
theorem zK0 : (("_law_mode" : Str) == ("__classdict__" : Str)) = false := by decide
theorem yJ5 : (("_law_one" : Str) == ("__debug__" : Str)) = false := by decide
theorem yJ4 : (("_law_one" : Str) == ("__classdict__" : Str)) = false := by decide
theorem yY7 : (("_law_two" : Str) == ("__debug__" : Str)) = false := by decide
theorem yY5 : (("_law_two" : Str) == ("__classdict__" : Str)) = false := by decide
theorem yVz : (("_law_other" : Str) == ("__debug__" : Str)) = false := by decide
theorem yVs : (("_law_other" : Str) == ("__classdict__" : Str)) = false := by decide
theorem yJu : (("_law_shared" : Str) == ("__debug__" : Str)) = false := by decide
theorem yJs : (("_law_shared" : Str) == ("__classdict__" : Str)) = false := by decide
theorem yU2 (T : Top w K mg) {k : Nat} (hk : 1 ≤ k) : ExX P w K mg base k "InvalidEntry" ["index"] := wGq T.xi_InvalidEntry hk ⟨rfl, rfl, rfl, by decide +kernel, rfl, by decide +kernel, by decide +kernel⟩ rfl rfl rfl (by decide) (by decide)
theorem yU1 (T : Top w K mg) {k : Nat} (hk : 1 ≤ k) : ExX P w K mg base k "InvalidFresh" ["value"] := wGq T.xi_InvalidFresh hk ⟨rfl, rfl, rfl, by decide +kernel, rfl, by decide +kernel, by decide +kernel⟩ rfl rfl rfl (by decide) (by decide)
theorem yU0 (T : Top w K mg) {k : Nat} (hk : 1 ≤ k) : ExX P w K mg base k "InvalidRoots" ["value"] := wGq T.xi_InvalidRoots hk ⟨rfl, rfl, rfl, by decide +kernel, rfl, by decide +kernel, by decide +kernel⟩ rfl rfl rfl (by decide) (by decide)
theorem yHa (T : Top w K mg) {k : Nat} (hk : 1 ≤ k) : ExX P w K mg base k "InvalidGoal" ["value"] := wGq T.xi_InvalidGoal hk ⟨rfl, rfl, rfl, by decide +kernel, rfl, by decide +kernel, by decide +kernel⟩ rfl rfl rfl (by decide) (by decide)
theorem xXx : FnScope ["_law_script"] ["_law_script"] (defScope (zQo 87)) := ⟨rfl, rfl, rfl, by decide +kernel, rfl, by decide +kernel, by decide +kernel⟩
theorem xX7 (T : Top w K mg) (sm : SM base) {f : Addr} {fd : FuncData} (F : Fun K "_law_pen" "_law_pen" (zQo 87) f fd) : FnG P w K mg base 1 f fd ["_law_script"] (spG K 1 (zQ2 1 yJ3)) :=
  zXk F xXx sm rfl rfl fun cdv A outer s H E B C po hr => zQj (zQn (zZs (zQa (zHn (xH8 C) rfl T.b_list rfl (zZm (wKz (zQd 0 rfl (.inl rfl) yJv yJt) (xYg) (xYf (zQe))) (zZ0))) (zQa (zQe) (zQa (zQe) (zQc))))))
theorem xWh (T : Top w K mg) (sm : SM base) {k : Nat} (hk : 1 ≤ k) : yVa P w K mg base k "_law_pen" ["_law_script"] yZl := zXy T.f__law_pen hk (xX7 T sm)
theorem yVh : FnScope ["self", "other"] ["self", "other"] (defScope (zXz (zQo 81) 11)) := ⟨rfl, rfl, rfl, by decide +kernel, rfl, by decide +kernel, by decide +kernel⟩
theorem yVm (T : Top w K mg) (sm : SM base) {f : Addr} {fd : FuncData} (F : Fun K "is_beside" "Table.is_beside" (zXz (zQo 81) 11) f fd) : FnG P w K mg base 1 f fd ["self", "other"] (spG K 2 (zQ2 2 zWa)) :=
  zXk F yVh sm rfl rfl fun cdv A outer s H E B C po hr => zQj (zQn (snd_and (yZw C (zVl (zQd 0 rfl (.inl rfl) zXt zXs) (yQo T.fl_Table_kept_fresh zJs)) (zVl (zQd 1 rfl (.inl rfl) zV2 zV0) (yQo T.fl_Table_kept_fresh zJs))) (yKn (yZw C (zVl (zQd 0 rfl (.inl rfl) zXt zXs) (yQo T.fl_Table_kept_roots zJs)) (zVl (zQd 1 rfl (.inl rfl) zV2 zV0) (yQo T.fl_Table_kept_roots zJs))))))
theorem vJ7 (T : Top w K mg) (sm : SM base) {k : Nat} (hk : 1 ≤ k) : yG4 P w K mg base k "Table" (yGg K "is_beside") [] (pD 2 0 2 [0, 1] [] zXg) := zU8 T.m_Table_is_beside (fun F => wQz (ps := ["self", "other"]) (yVm T sm) hk 2 [0, 1] rfl (fun _ _ _ _ _ _ us ws h1 h2 => match us, ws, h1, h2 with | [_, _], [], _, _ => rfl) F)
theorem yJf : FnScope ["self", "other"] ["self", "other"] (defScope (zXz (zQo 81) 13)) := ⟨rfl, rfl, rfl, by decide +kernel, rfl, by decide +kernel, by decide +kernel⟩
theorem yJg (T : Top w K mg) (sm : SM base) {f : Addr} {fd : FuncData} (F : Fun K "need_beside" "Table.need_beside" (zXz (zQo 81) 13) f fd) : FnG P w K mg base 2 f fd ["self", "other"] (spG K 2 (zQ2 2 zKg)) :=
  zXk F yJf sm rfl rfl fun cdv A outer s H E B C po hr => zQj (zZn (zVy (zX2 (zGe (zQd 0 rfl (.inl rfl) zXt zXs) (yV4 C (vJ7 T sm (k := 1) (by decide)) (hr.mono (by decide)) zGk) (zYx (zQa (zQd 1 rfl (.inl rfl) zV2 zV0) (zQc)) (zZj)) rfl rfl))) (zQj (xKs C T.x0_Mismatch rfl)) (zQy))
theorem vQ5 (T : Top w K mg) (sm : SM base) {k : Nat} (hk : 2 ≤ k) : yG4 P w K mg base k "Table" (yGg K "need_beside") [] (pD 2 0 2 [0, 1] [] zZ5) := zU8 T.m_Table_need_beside (fun F => wQz (ps := ["self", "other"]) (yJg T sm) hk 2 [0, 1] rfl (fun _ _ _ _ _ _ us ws h1 h2 => match us, ws, h1, h2 with | [_, _], [], _, _ => rfl) F)
theorem xYk : FnScope ["entries", "entry"] ["entries"] (defScope (zQo 68)) := ⟨rfl, rfl, rfl, by decide +kernel, rfl, by decide +kernel, by decide +kernel⟩
theorem xY8 (T : Top w K mg) (sm : SM base) {f : Addr} {fd : FuncData} (F : Fun K "listed" "listed" (zQo 68) f fd) : FnG P w K mg base 1 f fd ["entries"] (spG K 1 (zQ2 2 yYw)) :=
  zXk F xYk sm rfl rfl fun cdv A outer s H E B C po hr => zQj (zQn (zHn (yX9) rfl T.b_tuple rfl (zZm (yWk (own := [("entry", 1)]) C (yXs (by rfl)) (zZw) (xXj.e (zVa (zQt rfl T.zYg))) (fun s1 H1 K1 l1 p1 => zZc 1 (zXm C s1 H1 K1 l1 p1) rfl (.inl rfl) (by decide)) (fun s1 H1 K1 l1 p1 => yZx (zQs (zXm C s1 H1 K1 l1 p1) (zQd 1 rfl (.inl rfl) zUa zY8) (zQd 0 rfl (.inr (.inl rfl)) yQj yQi))) (fun s1 H1 K1 l1 p1 => zQd 1 rfl (.inl rfl) zUa zY8)) (zZ0))))
theorem xV3 (T : Top w K mg) (sm : SM base) {k : Nat} (hk : 1 ≤ k) : yVa P w K mg base k "listed" ["entries"] yXm := zXy T.f_listed hk (xY8 T sm)
theorem xXw : FnScope ["thing"] ["thing"] (defScope (zQo 66)) := ⟨rfl, rfl, rfl, by decide +kernel, rfl, by decide +kernel, by decide +kernel⟩
theorem xX6 (T : Top w K mg) (sm : SM base) {f : Addr} {fd : FuncData} (F : Fun K "is_color" "is_color" (zQo 66) f fd) : FnG P w K mg base 1 f fd ["thing"] (spG K 1 (zQ2 1 yJ2)) :=
  zXk F xXw sm rfl rfl fun cdv A outer s H E B C po hr => zQj (zQn (snd_and (yYk (zQd 0 rfl (.inl rfl) zGi zGg) rfl T.b_isinstance rfl rfl T.b_str rfl) (yKn (yZw C (zQd 0 rfl (.inl rfl) zGi zGg) (zQt rfl T.yKh)))))
theorem yGy (T : Top w K mg) (sm : SM base) {k : Nat} (hk : 1 ≤ k) : yVa P w K mg base k "is_color" ["thing"] zHg := zXy T.f_is_color hk (xX6 T sm)
theorem xXv : FnScope ["thing"] ["thing"] (defScope (zQo 67)) := ⟨rfl, rfl, rfl, by decide +kernel, rfl, by decide +kernel, by decide +kernel⟩
theorem xX5 (T : Top w K mg) (sm : SM base) {f : Addr} {fd : FuncData} (F : Fun K "is_entry" "is_entry" (zQo 67) f fd) : FnG P w K mg base 2 f fd ["thing"] (spG K 1 (zQ2 1 yJ1)) :=
  zXk F xXv sm rfl rfl fun cdv A outer s H E B C po hr => zQi (zZn (yWt.t (zYj (zVy (zX2 (yYk (zQd 0 rfl (.inl rfl) zGi zGg) rfl T.b_isinstance rfl rfl T.b_tuple rfl))) (zYj (zQs C (zG5 (xVj) rfl T.b_len rfl (zZm (zQd 0 rfl (.inl rfl) zGi zGg) (zZ0))) (zQe)) (zK4 (zVy (zX2 (yYk (zZx C (zQd 0 rfl (.inl rfl) zGi zGg) (zQe) zZh) rfl T.b_isinstance rfl rfl T.b_str rfl))))))) (zQj (zQn (zVx))) (zQy)) (zQj (zQn (snd_and (yZw C (zZx C (zQd 0 rfl (.inl rfl) zGi zGg) (zQe) zZh) (zQt rfl T.yUv)) (yKn (zQr C ⟨yGy T sm (by decide)⟩ rfl hr rfl (zQa (zZx C (zQd 0 rfl (.inl rfl) zGi zGg) (zQe) zZh) (zQc)))))))
theorem yGx (T : Top w K mg) (sm : SM base) {k : Nat} (hk : 2 ≤ k) : yVa P w K mg base k "is_entry" ["thing"] zHf := zXy T.f_is_entry hk (xX5 T sm)
theorem yKq : FnScope ["entries", "index", "entry"] ["entries"] (defScope (zQo 69)) := ⟨rfl, rfl, rfl, by decide +kernel, rfl, by decide +kernel, by decide +kernel⟩
theorem yKy (T : Top w K mg) (sm : SM base) {f : Addr} {fd : FuncData} (F : Fun K "sorted_entries" "sorted_entries" (zQo 69) f fd) : FnG P w K mg base 3 f fd ["entries"] (spG K 1 (zQ2 3 zYl)) :=
  zXk F yKq sm rfl rfl fun cdv A outer s H E B C po hr => zQi (yZv (is := [1, 2]) C po (xKt rfl T.b_enumerate (zQa (zQd 0 rfl (.inl rfl) yQj yQi) (zQc))) (yVf 2 C (zXr (zZc 1 C rfl (.inl rfl) (by decide)) (zXr (zZc 2 C rfl (.inl rfl) (by decide)) (yZ0)))) (xZp (zVz (zZw) (zVz (zZw) (yY3)))) (zQj (zZn (zVy (zX2 (zQr C ⟨yGx T sm (by decide)⟩ rfl hr rfl (zQa (zQd 2 rfl (.inl rfl) zUa zY8) (zQc))))) (zQj (yVd C (yU2 T (k := 1) (by decide)) (hr.mono (by decide)) (by decide) rfl (zQa (zQd 1 rfl (.inl rfl) wQd wQc) (zQc)))) (zQy)))) (zQj (zQn (zQr C ⟨xV3 T sm (by decide)⟩ rfl hr rfl (zQa (zQd 0 rfl (.inl rfl) yQj yQi) (zQc)))))
theorem yK5 (T : Top w K mg) (sm : SM base) {k : Nat} (hk : 3 ≤ k) : vXp P w K mg base k "sorted_entries" [] (pS true 0 0 1 [] [] zKb) := wWu T.f_sorted_entries (fun F => vQ3 (ps := []) (pv := "entries") (yKy T sm) hk 0 [] rfl (fun _ _ _ _ _ _ us ws rest h1 h2 h3 => match us, ws, rest, h1, h2, h3 with | [], [], [], _, _, _ => rfl | [], [], _ :: _, _, _, h => rfl) F)
theorem yKt : FnScope ["self", "fresh", "roots", "entries"] ["self", "fresh", "roots", "entries"] (defScope (zXz (zQo 81) 2)) := ⟨rfl, rfl, rfl, by decide +kernel, rfl, by decide +kernel, by decide +kernel⟩
theorem yK1 (T : Top w K mg) (sm : SM base) {f : Addr} {fd : FuncData} (F : Fun K "__init__" "Table.__init__" (zXz (zQo 81) 2) f fd) : FnG P w K mg base 4 f fd ["self", "fresh", "roots", "entries"] (spG K 4 (zQ2 4 zYm)) :=
  zXk F yKt sm rfl rfl fun cdv A outer s H E B C po hr => zQi (yHd (wX4 C (yK5 T sm (k := 3) (by decide)) (hr.mono (by decide)) rfl (yKo (zQd 3 rfl (.inl rfl) yQj yQi) zZj) rfl) (zQd 0 rfl (.inl rfl) zXt zXs) (yQo T.fl_Table_kept zJs)) (zQi (zZn (zVy (zX2 (zQr C ⟨yGy T sm (by decide)⟩ rfl hr rfl (zQa (zQd 1 rfl (.inl rfl) yJb yJa) (zQc))))) (zQj (yVd C (yU1 T (k := 1) (by decide)) (hr.mono (by decide)) (by decide) rfl (zQa (zQd 1 rfl (.inl rfl) yJb yJa) (zQc)))) (zQy)) (zQi (zZn (yWt.t (zYj (zVy (zX2 (yYk (zQd 2 rfl (.inl rfl) yZg yZd) rfl T.b_isinstance rfl rfl T.b_str rfl))) (zK4 (zQs C (zQd 2 rfl (.inl rfl) yZg yZd) (wX5 (zQd 0 rfl (.inl rfl) zXt zXs) (wYo T.cn_Table_ROOTS wQ0)))))) (zQj (yVd C (yU0 T (k := 1) (by decide)) (hr.mono (by decide)) (by decide) rfl (zQa (zQd 2 rfl (.inl rfl) yZg yZd) (zQc)))) (zQy)) (zQi (yHd (zQd 1 rfl (.inl rfl) yJb yJa) (zQd 0 rfl (.inl rfl) zXt zXs) (yQo T.fl_Table_kept_fresh zJs)) (zQj (yHd (zQd 2 rfl (.inl rfl) yZg yZd) (zQd 0 rfl (.inl rfl) zXt zXs) (yQo T.fl_Table_kept_roots zJs))))))
theorem wGx (T : Top w K mg) (sm : SM base) {k : Nat} (hk : 4 ≤ k) : yG4 P w K mg base k "Table" (RMk K mg "Table") ["fresh", "roots"] (pS true 1 2 4 [0, 1, 2] [] zZv) := zU8 T.m_Table___init__ (fun F => vYj (ps := ["self", "fresh", "roots"]) (pv := "entries") (yK1 T sm) hk 1 [] [0, 1, 2] [] (by simp) (by simp) (fun _ => .nil) rfl (fun _ _ _ _ _ _ us mv ws rest h1 h2 h3 h4 => match us, mv, ws, rest, h1, h2, h3, h4 with | [_], [], [_, _], [], _, _, _, _ => rfl | [_], [], [_, _], _ :: _, _, _, _, h => rfl) F)
theorem yZ2 : FnScope ["self", "entries"] ["self", "entries"] (defScope (zXz (zQo 81) 9)) := ⟨rfl, rfl, rfl, by decide +kernel, rfl, by decide +kernel, by decide +kernel⟩
theorem yXf (T : Top w K mg) (sm : SM base) {f : Addr} {fd : FuncData} (F : Fun K "with_entries" "Table.with_entries" (zXz (zQo 81) 9) f fd) : FnG P w K mg base 6 f fd ["self", "entries"] (spG K 2 (zQ2 2 zVo)) :=
  zXk F yZ2 sm rfl rfl fun cdv A outer s H E B C po hr => zQj (zQn (xJ5 C (wGx T sm (k := 4) (by decide)) (hr.mono (by decide)) rfl (yKo (zQd 1 rfl (.inl rfl) yQj yQi) (zQx (zVl (zQd 0 rfl (.inl rfl) zXt zXs) (yQo T.fl_Table_kept_fresh zJs)) (zQx (zVl (zQd 0 rfl (.inl rfl) zXt zXs) (yQo T.fl_Table_kept_roots zJs)) (zZj)))) rfl))
theorem vQ4 (T : Top w K mg) (sm : SM base) {k : Nat} (hk : 6 ≤ k) : yG4 P w K mg base k "Table" (yGg K "with_entries") [] (pD 2 0 2 [0, 1] [] zZu) := zU8 T.m_Table_with_entries (fun F => wQz (ps := ["self", "entries"]) (yXf T sm) hk 2 [0, 1] rfl (fun _ _ _ _ _ _ us ws h1 h2 => match us, ws, h1, h2 with | [_, _], [], _, _ => rfl) F)
theorem yYt : FnScope ["self", "other"] ["self", "other"] (defScope (zXz (zQo 81) 14)) := ⟨rfl, rfl, rfl, by decide +kernel, rfl, by decide +kernel, by decide +kernel⟩
theorem yY2 (T : Top w K mg) (sm : SM base) {f : Addr} {fd : FuncData} (F : Fun K "__or__" "Table.__or__" (zXz (zQo 81) 14) f fd) : FnG P w K mg base 7 f fd ["self", "other"] (spG K 2 (zQ2 2 zHa)) :=
  zXk F yYt sm rfl rfl fun cdv A outer s H E B C po hr => zQi (yYc (zGe (zQd 0 rfl (.inl rfl) zXt zXs) (yV4 C (vQ5 T sm (k := 2) (by decide)) (hr.mono (by decide)) zGk) (zYx (zQa (zQd 1 rfl (.inl rfl) zV2 zV0) (zQc)) (zZj)) rfl rfl)) (zQj (zQn (zGe (zQd 0 rfl (.inl rfl) zXt zXs) (yV4 C (vQ4 T sm (k := 6) (by decide)) (hr.mono (by decide)) zGk) (zYx (zQa (zQr C ⟨xV3 T sm (by decide)⟩ rfl hr rfl (zQa (zZb (zVl (zQd 0 rfl (.inl rfl) zXt zXs) (yQo T.fl_Table_kept zJs)) (zVl (zQd 1 rfl (.inl rfl) zV2 zV0) (yQo T.fl_Table_kept zJs))) (zQc))) (zQc)) (zZj)) rfl rfl)))
theorem vJ6 (T : Top w K mg) (sm : SM base) {k : Nat} (hk : 7 ≤ k) : yG4 P w K mg base k "Table" (ROp K .BitOr) [] (pD 2 0 2 [0, 1] [] zXd) := zU8 T.m_Table___or__ (fun F => wQz (ps := ["self", "other"]) (yY2 T sm) hk 2 [0, 1] rfl (fun _ _ _ _ _ _ us ws h1 h2 => match us, ws, h1, h2 with | [_, _], [], _, _ => rfl) F)
theorem yWx : FnScope ["self", "other", "entry"] ["self", "other"] (defScope (zXz (zQo 81) 15)) := ⟨rfl, rfl, rfl, by decide +kernel, rfl, by decide +kernel, by decide +kernel⟩
theorem yW0 (T : Top w K mg) (sm : SM base) {f : Addr} {fd : FuncData} (F : Fun K "__and__" "Table.__and__" (zXz (zQo 81) 15) f fd) : FnG P w K mg base 7 f fd ["self", "other"] (spG K 2 (zQ2 3 zU7)) :=
  zXk F yWx sm rfl rfl fun cdv A outer s H E B C po hr => zQi (yYc (zGe (zQd 0 rfl (.inl rfl) zXt zXs) (yV4 C (vQ5 T sm (k := 2) (by decide)) (hr.mono (by decide)) zGk) (zYx (zQa (zQd 1 rfl (.inr (.inl rfl)) zV2 zV0) (zQc)) (zZj)) rfl rfl)) (zQj (zQn (zGe (zQd 0 rfl (.inl rfl) zXt zXs) (yV4 C (vQ4 T sm (k := 6) (by decide)) (hr.mono (by decide)) zGk) (zYx (zQa (zHn (yX9) rfl T.b_tuple rfl (zZm (yWk (own := [("entry", 2)]) C (yXs (by rfl)) (zZw) (xXj.e (zVa (zVl (zQd 0 rfl (.inl rfl) zXt zXs) (yQo T.fl_Table_kept zJs)))) (fun s1 H1 K1 l1 p1 => zZc 2 (zXm C s1 H1 K1 l1 p1) rfl (.inl rfl) (by decide)) (fun s1 H1 K1 l1 p1 => yZx (zQs (zXm C s1 H1 K1 l1 p1) (zQd 2 rfl (.inl rfl) zUa zY8) (zVl (zQd 1 rfl (.inr (.inl rfl)) zV2 zV0) (yQo T.fl_Table_kept zJs)))) (fun s1 H1 K1 l1 p1 => zQd 2 rfl (.inl rfl) zUa zY8)) (zZ0))) (zQc)) (zZj)) rfl rfl)))
theorem vQ7 (T : Top w K mg) (sm : SM base) {k : Nat} (hk : 7 ≤ k) : yG4 P w K mg base k "Table" (ROp K .BitAnd) [] (pD 2 0 2 [0, 1] [] zKx) := zU8 T.m_Table___and__ (fun F => wQz (ps := ["self", "other"]) (yW0 T sm) hk 2 [0, 1] rfl (fun _ _ _ _ _ _ us ws h1 h2 => match us, ws, h1, h2 with | [_, _], [], _, _ => rfl) F)
theorem yYr : FnScope ["_law_found", "_law_kind", "_law_color"] [] (defScope (zQo 89)) := ⟨rfl, rfl, rfl, by decide +kernel, rfl, by decide +kernel, by decide +kernel⟩
theorem yY0 (T : Top w K mg) (sm : SM base) {f : Addr} {fd : FuncData} (F : Fun K "_law_entries" "_law_entries" (zQo 89) f fd) : FnG P w K mg base 1 f fd [] (spG K 0 (zQ2 3 yXb)) :=
  zXk F yYr sm rfl rfl fun cdv A outer s H E B C po hr => zQi (zZa 0 C rfl (.inl rfl) (zZs (zQc))) (zQi (yZv (is := [1]) C po (zVa (zQf (zQa (zQk) (zQa (zQk) (zQa (zQk) (zQa (zQk) (zQc))))))) (zZc 1 C rfl (.inr rfl) (by decide)) (zZw) (zQj (yHe 0 rfl (.inl rfl) (yWk (own := [("_law_color", 2)]) C (yXs (by rfl)) (zZw) (xXj.e (zVa (zQf (zQa (zQk) (zQa (zQk) (zQa (zQk) (zQc))))))) (fun s1 H1 K1 l1 p1 => zZc 2 (zXm C s1 H1 K1 l1 p1) rfl (.inl rfl) (by decide)) (fun s1 H1 K1 l1 p1 => yQd) (fun s1 H1 K1 l1 p1 => zQf (zQa (zQd 1 rfl (.inr (.inl rfl)) xZu xZs) (zQa (zQd 2 rfl (.inl rfl) yH6 yH3) (zQc)))))))) (zQj (zQn (zQd 0 rfl (.inl rfl) yZi yZf))))
theorem yGf (T : Top w K mg) (sm : SM base) {k : Nat} (hk : 1 ≤ k) : yVa P w K mg base k "_law_entries" [] zHh := zXy T.f__law_entries hk (yY0 T sm)
theorem yWw : FnScope ["self", "other", "entry"] ["self", "other"] (defScope (zXz (zQo 81) 16)) := ⟨rfl, rfl, rfl, by decide +kernel, rfl, by decide +kernel, by decide +kernel⟩
theorem xWx (T : Top w K mg) (sm : SM base) {f : Addr} {fd : FuncData} (F : Fun K "__sub__" "Table.__sub__" (zXz (zQo 81) 16) f fd) : FnG P w K mg base 7 f fd ["self", "other"] (spG K 2 (zQ2 3 yZp)) :=
  zXk F yWw sm rfl rfl fun cdv A outer s H E B C po hr => zQi (yYc (zGe (zQd 0 rfl (.inl rfl) zXt zXs) (yV4 C (vQ5 T sm (k := 2) (by decide)) (hr.mono (by decide)) zGk) (zYx (zQa (zQd 1 rfl (.inr (.inl rfl)) zV2 zV0) (zQc)) (zZj)) rfl rfl)) (zQj (zQn (zGe (zQd 0 rfl (.inl rfl) zXt zXs) (yV4 C (vQ4 T sm (k := 6) (by decide)) (hr.mono (by decide)) zGk) (zYx (zQa (zHn (yX9) rfl T.b_tuple rfl (zZm (yWk (own := [("entry", 2)]) C (yXs (by rfl)) (zZw) (xXj.e (zVa (zVl (zQd 0 rfl (.inl rfl) zXt zXs) (yQo T.fl_Table_kept zJs)))) (fun s1 H1 K1 l1 p1 => zZc 2 (zXm C s1 H1 K1 l1 p1) rfl (.inl rfl) (by decide)) (fun s1 H1 K1 l1 p1 => yZx (zQs (zXm C s1 H1 K1 l1 p1) (zQd 2 rfl (.inl rfl) zUa zY8) (zVl (zQd 1 rfl (.inr (.inl rfl)) zV2 zV0) (yQo T.fl_Table_kept zJs)))) (fun s1 H1 K1 l1 p1 => zQd 2 rfl (.inl rfl) zUa zY8)) (zZ0))) (zQc)) (zZj)) rfl rfl)))
theorem xQ6 : FnScope ["_law_pen_here", "_law_count", "_law_digit", "_law_at", "_law_cell", "_law_great", "_law_mixed"] ["_law_pen_here", "_law_count"] (defScope (zQo 88)) := ⟨rfl, rfl, rfl, by decide +kernel, rfl, by decide +kernel, by decide +kernel⟩
theorem xZo (T : Top w K mg) (sm : SM base) {f : Addr} {fd : FuncData} (F : Fun K "_law_draw" "_law_draw" (zQo 88) f fd) : FnG P w K mg base 1 f fd ["_law_pen_here", "_law_count"] (spG K 2 (zQ2 7 yXc)) :=
  zXk F xQ6 sm rfl rfl fun cdv A outer s H E B C po hr => zQi (zZn (zQs C (zZx C (zQd 0 rfl (.inl rfl) zQq zQp) (zQe) zZh) (zQe)) (zQi (zZa 2 C rfl (.inl rfl) (zZb (zZx C (zQd 0 rfl (.inl rfl) zQq zQp) (zQe) zZh) (zQd 1 rfl (.inl rfl) zWl zWk))) (zQi (yYi C (zZb (zZx C (zQd 0 rfl (.inl rfl) zQq zQp) (zQe) zZh) (zQd 1 rfl (.inl rfl) zWl zWk)) (zQd 0 rfl (.inl rfl) zQq zQp) (zQe)) (zQj (zQn (zQd 2 rfl (.inl rfl) yH5 yH2))))) (zQy)) (zQi (zZa 3 C rfl (.inl rfl) (zZx C (zQd 0 rfl (.inl rfl) zQq zQp) (zQe) zZh)) (zQi (yYi C (zZb (zQd 3 rfl (.inl rfl) zV3 zV1) (zQe)) (zQd 0 rfl (.inl rfl) zQq zQp) (zQe)) (zQi (zZa 4 C rfl (.inl rfl) (zZb (zZb (zQe) (zQd 3 rfl (.inl rfl) zV3 zV1)) (zQe))) (zQi (zZn (zQs C (zZx C (zQd 0 rfl (.inl rfl) zQq zQp) (zQe) zZh) (zZs (zQc))) (zQj (zZa 4 C rfl (.inl rfl) (zZx C (zZx C (zQd 0 rfl (.inl rfl) zQq zQp) (zQe) zZh) (zZb (zQd 3 rfl (.inl rfl) zV3 zV1) (zG5 (xVj) rfl T.b_len rfl (zZm (zZx C (zQd 0 rfl (.inl rfl) zQq zQp) (zQe) zZh) (zZ0)))) wWd))) (zQy)) (zQi (zZn (yWt.t (yQ1 (zQs C (zQd 3 rfl (.inl rfl) zV3 zV1) (zG5 (xVj) rfl T.b_len rfl (zZm (zZx C (zQd 0 rfl (.inl rfl) zQq zQp) (zQe) zZh) (zZ0)))) (zG6 (zQs C (zG5 (wZ1) rfl T.b_abs rfl (zZm (zQd 4 rfl (.inl rfl) zHp zHo) (zZ0))) (zZb (zQe) (zQe)))))) (zQi (zZa 5 C rfl (.inl rfl) (zZb (zZb (zQe) (zZb (zG5 (wZ1) rfl T.b_abs rfl (zZm (zQd 4 rfl (.inl rfl) zHp zHo) (zZ0))) (zZb (zQe) (zQe)))) (zHn (wWr) rfl T.b_int rfl (zZm (yZw C (zQd 4 rfl (.inl rfl) zHp zHo) (zQe)) (zZ0))))) (zQi (yYi C (zZb (zQd 5 rfl (.inl rfl) yV2 yVv) (zQd 1 rfl (.inl rfl) zWl zWk)) (zQd 0 rfl (.inl rfl) zQq zQp) (zQe)) (zQj (zQn (zZb (zQd 5 rfl (.inl rfl) yV2 yVv) (zQd 1 rfl (.inl rfl) zWl zWk)))))) (zQy)) (zQi (zZa 6 C rfl (.inl rfl) (zZb (zZb (zZb (zZb (zZb (zQd 4 rfl (.inl rfl) zHp zHo) (zQe)) (zZb (zQe) (zQd 3 rfl (.inl rfl) zV3 zV1))) (zQe)) (zQe)) (zQe))) (zQi (zZa 6 C rfl (.inl rfl) (zZb (zZb (zZb (zZb (zZb (zQd 6 rfl (.inl rfl) yV0 yVt) (zZb (zZb (zQe) (zQd 3 rfl (.inl rfl) zV3 zV1)) (zQe))) (zZb (zZb (zQe) (zQd 3 rfl (.inl rfl) zV3 zV1)) (zQd 3 rfl (.inl rfl) zV3 zV1))) (zQe)) (zQe)) (zQe))) (zQj (zQn (zZb (zZb (zQd 6 rfl (.inl rfl) yV0 yVt) (zQe)) (zQd 1 rfl (.inl rfl) zWl zWk)))))))))))
theorem zVs (T : Top w K mg) (sm : SM base) {k : Nat} (hk : 1 ≤ k) : yVa P w K mg base k "_law_draw" ["_law_pen_here", "_law_count"] zZ6 := zXy T.f__law_draw hk (xZo T sm)
theorem xQ4 : FnScope ["_law_pen_here", "_law_every", "_law_way", "_law_some", "_law_chosen", "_law_at", "_law_entry"] ["_law_pen_here"] (defScope (zQo 90)) := ⟨rfl, rfl, rfl, by decide +kernel, rfl, by decide +kernel, by decide +kernel⟩
theorem xZm (T : Top w K mg) (sm : SM base) {f : Addr} {fd : FuncData} (F : Fun K "_law_rule" "_law_rule" (zQo 90) f fd) : FnG P w K mg base 2 f fd ["_law_pen_here"] (spG K 1 (zQ2 7 yZ9)) :=
  zXk F xQ4 sm rfl rfl fun cdv A outer s H E B C po hr => zQi (zZa 1 C rfl (.inr rfl) (xQw C ⟨yGf T sm (by decide)⟩ hr rfl)) (zQi (zZa 2 C rfl (.inr rfl) (zQr C ⟨zVs T sm (by decide)⟩ rfl hr rfl (zQa (zQd 0 rfl (.inr (.inl rfl)) zQq zQp) (zQa (zQe) (zQc))))) (zQi (zZa 3 C rfl (.inl rfl) (zZx C (zZs (zQa (zZs (zQc)) (zQa (zZs (zQa (zQe) (zQc))) (zQa (zZs (zQa (zQe) (zQa (zQe) (zQc)))) (zQa (zZs (zQa (zQe) (zQa (zQe) (zQc)))) (zQa (zZs (zQa (zQe) (zQa (zQe) (zQc)))) (zQa (zZs (zQa (zQe) (zQa (zQe) (zQc)))) (zQa (zZs (zQa (zQe) (zQa (zQe) (zQa (zQe) (zQc))))) (zQa (zZs (zQa (zQe) (zQa (zQe) (zQc)))) (zQc)))))))))) (zQr C ⟨zVs T sm (by decide)⟩ rfl hr rfl (zQa (zQd 0 rfl (.inr (.inl rfl)) zQq zQp) (zQa (zQe) (zQc)))) yYu)) (zQi (yYj (own := [("_law_at", 5)]) 4 C rfl rfl (by rfl) (yXs (by rfl)) (zZw) (xXj.e (zVa (zQd 3 rfl (.inl rfl) xZt xZr))) (fun s1 H1 K1 l1 p1 => zZc 5 (zXm C s1 H1 K1 l1 p1) rfl (.inl rfl) (by decide)) (fun s1 H1 K1 l1 p1 => yQd) (fun s1 H1 K1 l1 p1 => zZx (zXm C s1 H1 K1 l1 p1) (zQd 1 rfl (.inr (.inl rfl)) zGj zGh) (zQd 5 rfl (.inl rfl) zV3 zV1) xYs)) (zQi (zZn (zQs C (zQd 2 rfl (.inr (.inl rfl)) yZh yZe) (zQe)) (zQj (yYj (own := [("_law_entry", 6)]) 4 C rfl rfl (by rfl) (yXs (by rfl)) (zZw) (xXj.e (zVa (zQd 1 rfl (.inr (.inl rfl)) zGj zGh))) (fun s2 H2 K2 l2 p2 => zZc 6 (zXm C s2 H2 K2 l2 p2) rfl (.inl rfl) (by decide)) (fun s2 H2 K2 l2 p2 => yZx (zX2 (zZx (zXm C s2 H2 K2 l2 p2) (zZs (zQa (zVx) (zQa (zVx) (zQa (yZw (zXm C s2 H2 K2 l2 p2) (zQr (zXm C s2 H2 K2 l2 p2) ⟨zVs T sm (by decide)⟩ rfl hr rfl (zQa (zQd 0 rfl (.inr (.inl rfl)) zQq zQp) (zQa (zQe) (zQc)))) (zQe)) (zQc))))) (zQd 2 rfl (.inr (.inl rfl)) yZh yZe) xYs))) (fun s2 H2 K2 l2 p2 => zQd 6 rfl (.inl rfl) yV3 yVw))) (zQy)) (zQi (zZn (zQs C (zQd 2 rfl (.inr (.inl rfl)) yZh yZe) (zQf (zQa (zQe) (zQa (zQe) (zQc))))) (zQj (zZa 4 C rfl (.inl rfl) (xXq C (zZb (zQd 4 rfl (.inl rfl) zUb zY9) (zZs (zQa (zZx C (zQd 1 rfl (.inr (.inl rfl)) zGj zGh) (zQr C ⟨zVs T sm (by decide)⟩ rfl hr rfl (zQa (zQd 0 rfl (.inr (.inl rfl)) zQq zQp) (zQa (zQe) (zQc)))) yYu) (zQa (zZx C (zQd 1 rfl (.inr (.inl rfl)) zGj zGh) (zQr C ⟨zVs T sm (by decide)⟩ rfl hr rfl (zQa (zQd 0 rfl (.inr (.inl rfl)) zQq zQp) (zQa (zQe) (zQc)))) yYu) (zQc))))) rfl T.b_sorted rfl rfl T.b_set rfl))) (zQy)) (zQi (zZn (yWt.t (yQ1 (zQs C (zQd 2 rfl (.inr (.inl rfl)) yZh yZe) (zQe)) (zG6 (zQs C (zQd 4 rfl (.inl rfl) zUb zY9) (zZs (zQc)))))) (zQj (xHr 4 rfl (.inl rfl) (zQr C ⟨zVs T sm (by decide)⟩ rfl hr rfl (zQa (zQd 0 rfl (.inr (.inl rfl)) zQq zQp) (zQa (zG5 (xVj) rfl T.b_len rfl (zZm (zQd 4 rfl (.inl rfl) zUb zY9) (zZ0))) (zQc)))))) (zQy)) (zQj (zQn (zQf (zQa (zQd 4 rfl (.inl rfl) zUb zY9) (zQa (zZx C (zZs (zQa (zQk) (zQa (zQk) (zQa (zQk) (zQc))))) (zQr C ⟨zVs T sm (by decide)⟩ rfl hr rfl (zQa (zQd 0 rfl (.inr (.inl rfl)) zQq zQp) (zQa (zQe) (zQc)))) yYu) (zQa (zZx C (zZs (zQa (zQk) (zQa (zQk) (zQc)))) (zQr C ⟨zVs T sm (by decide)⟩ rfl hr rfl (zQa (zQd 0 rfl (.inr (.inl rfl)) zQq zQp) (zQa (zQe) (zQc)))) yYu) (zQc)))))))))))))
theorem yUg (T : Top w K mg) (sm : SM base) {k : Nat} (hk : 2 ≤ k) : yVa P w K mg base k "_law_rule" ["_law_pen_here"] zU3 := zXy T.f__law_rule hk (xZm T sm)
theorem yU7 : FnScope ["cls", "fresh", "roots"] ["cls", "fresh", "roots"] (defScope (zXz (zQo 81) 3)) := ⟨rfl, rfl, rfl, by decide +kernel, rfl, by decide +kernel, by decide +kernel⟩
theorem yGc (T : Top w K mg) (sm : SM base) {f : Addr} {fd : FuncData} (F : Fun K "empty" "Table.empty" (zXz (zQo 81) 3) f fd) : FnG P w K mg base 6 f fd ["cls", "fresh", "roots"] (spG K 3 (zQ2 3 zH4)) :=
  zXk F yU7 sm rfl rfl fun cdv A outer s H E B C po hr => zQj (zQn (xJ8 (zQd 0 rfl (.inl rfl) wZ4 wZ3) (wXh C (wGx T sm (k := 4) (by decide)) (hr.mono (by decide)) xKe) (yYm (zQx (zQd 1 rfl (.inl rfl) yJb yJa) (zQx (zQd 2 rfl (.inl rfl) yZg yZd) (zZj)))) rfl))
theorem vYl (T : Top w K mg) (sm : SM base) {k : Nat} (hk : 6 ≤ k) : yG4 P w K mg base k "Table" (wKn K "empty") ["fresh", "roots"] (pD 1 2 3 [0, 1, 2] [] zJ9) := zU8 T.m_Table_empty (fun F => vJ5 (ps := ["cls", "fresh", "roots"]) (yGc T sm) hk 1 [] [0, 1, 2] [] (by simp) (by simp) (fun _ => .nil) rfl (fun _ _ _ _ _ _ us mv ws h1 h2 h3 => match us, mv, ws, h1, h2, h3 with | [_], [], [_, _], _, _, _ => rfl) F)
theorem yHl : FnScope ["_law_rule_here", "_law_found", "_law_entry"] ["_law_rule_here"] (defScope (zQo 91)) := ⟨rfl, rfl, rfl, by decide +kernel, rfl, by decide +kernel, by decide +kernel⟩
theorem yHx (T : Top w K mg) (sm : SM base) {f : Addr} {fd : FuncData} (F : Fun K "_law_sheet" "_law_sheet" (zQo 91) f fd) : FnG P w K mg base 8 f fd ["_law_rule_here"] (spG K 1 (zQ2 3 yQ7)) :=
  zXk F yHl sm rfl rfl fun cdv A outer s H E B C po hr => zQi (zZa 1 C rfl (.inl rfl) (xQv (zQt rfl T.g_Table) (xGe C (vYl T sm (k := 6) (by decide)) (hr.mono (by decide)) xXe) (yYm (zQx (zZx C (zQd 0 rfl (.inl rfl) zZe zZd) (zQe) zZh) (zQx (zZx C (zQd 0 rfl (.inl rfl) zZe zZd) (zQe) zZh) (zZj)))) rfl rfl)) (zQi (yZv (is := [2]) C po (zVa (zZx C (zQd 0 rfl (.inl rfl) zZe zZd) (zQe) zZh)) (zZc 2 C rfl (.inl rfl) (by decide)) (zZw) (zQj (zZa 1 C rfl (.inl rfl) (yHf (zQd 1 rfl (.inl rfl) yZi yZf) (xJ5 C (wGx T sm (k := 4) (by decide)) (hr.mono (by decide)) rfl (zYx (zQa (zQd 2 rfl (.inl rfl) yV3 yVw) (zQc)) (zQx (zZx C (zQd 0 rfl (.inl rfl) zZe zZd) (zQe) zZh) (zQx (zZx C (zQd 0 rfl (.inl rfl) zZe zZd) (zQe) zZh) (zZj)))) rfl) (wJu C (vJ6 T sm (k := 7) (by decide)) (hr.mono (by decide)) xX4))))) (zQj (zQn (zQd 1 rfl (.inl rfl) yZi yZf))))
theorem yXl (T : Top w K mg) (sm : SM base) {k : Nat} (hk : 8 ≤ k) : yVa P w K mg base k "_law_sheet" ["_law_rule_here"] zKe := zXy T.f__law_sheet hk (yHx T sm)
theorem yWv : FnScope [] [] (defScope (zQo 93)) := ⟨rfl, rfl, rfl, by decide +kernel, rfl, by decide +kernel, by decide +kernel⟩
theorem yWz (T : Top w K mg) (sm : SM base) {f : Addr} {fd : FuncData} (F : Fun K "_law_settings" "_law_settings" (zQo 93) f fd) : FnG P w K mg base 1 f fd [] (spG K 0 (zQ2 0 yZo)) :=
  zXk F yWv sm rfl rfl fun cdv A outer s H E B C po hr => zQj (zQn (zZs (zQa (zQf (zQa (zQe) (zQa (zQk) (zQc)))) (zQa (zQf (zQa (zQe) (zQa (zQk) (zQc)))) (zQa (zQf (zQa (zQe) (zQa (zQk) (zQc)))) (zQa (zQf (zQa (zQe) (zQa (zQk) (zQc)))) (zQc)))))))
theorem yUf (T : Top w K mg) (sm : SM base) {k : Nat} (hk : 1 ≤ k) : yVa P w K mg base k "_law_settings" [] zU9 := zXy T.f__law_settings hk (yWz T sm)
theorem yYs : FnScope ["self", "other", "entry"] ["self", "other"] (defScope (zXz (zQo 81) 12)) := ⟨rfl, rfl, rfl, by decide +kernel, rfl, by decide +kernel, by decide +kernel⟩
theorem yY1 (T : Top w K mg) (sm : SM base) {f : Addr} {fd : FuncData} (F : Fun K "within" "Table.within" (zXz (zQo 81) 12) f fd) : FnG P w K mg base 2 f fd ["self", "other"] (spG K 2 (zQ2 3 zG9)) :=
  zXk F yYs sm rfl rfl fun cdv A outer s H E B C po hr => zQj (zQn (snd_and (zGe (zQd 0 rfl (.inl rfl) zXt zXs) (yV4 C (vJ7 T sm (k := 1) (by decide)) (hr.mono (by decide)) zGk) (zYx (zQa (zQd 1 rfl (.inr (.inl rfl)) zV2 zV0) (zQc)) (zZj)) rfl rfl) (yKn (zG5 (ok_all C) rfl T.b_all rfl (zZm (yWk (own := [("entry", 2)]) C (yXs (by rfl)) (zZw) (xXj.e (zVa (zVl (zQd 0 rfl (.inl rfl) zXt zXs) (yQo T.fl_Table_kept zJs)))) (fun s1 H1 K1 l1 p1 => zZc 2 (zXm C s1 H1 K1 l1 p1) rfl (.inl rfl) (by decide)) (fun s1 H1 K1 l1 p1 => yQd) (fun s1 H1 K1 l1 p1 => yZw (zXm C s1 H1 K1 l1 p1) (zQd 2 rfl (.inl rfl) zUa zY8) (zVl (zQd 1 rfl (.inr (.inl rfl)) zV2 zV0) (yQo T.fl_Table_kept zJs)))) (zZ0))))))
theorem vYk (T : Top w K mg) (sm : SM base) {k : Nat} (hk : 2 ≤ k) : yG4 P w K mg base k "Table" (yGg K "within") [] (pD 2 0 2 [0, 1] [] zVt) := zU8 T.m_Table_within (fun F => wQz (ps := ["self", "other"]) (yY1 T sm) hk 2 [0, 1] rfl (fun _ _ _ _ _ _ us ws h1 h2 => match us, ws, h1, h2 with | [_, _], [], _, _ => rfl) F)
theorem yZ3 : FnScope ["self", "thing"] ["self", "thing"] (defScope (zXz (zQo 81) 18)) := ⟨rfl, rfl, rfl, by decide +kernel, rfl, by decide +kernel, by decide +kernel⟩
theorem yXg (T : Top w K mg) (sm : SM base) {f : Addr} {fd : FuncData} (F : Fun K "__contains__" "Table.__contains__" (zXz (zQo 81) 18) f fd) : FnG P w K mg base 3 f fd ["self", "thing"] (spG K 2 (zQ2 2 zVp)) :=
  zXk F yZ3 sm rfl rfl fun cdv A outer s H E B C po hr => zQj (zQn (snd_and (zQr C ⟨yGx T sm (by decide)⟩ rfl hr rfl (zQa (zQd 1 rfl (.inl rfl) zGi zGg) (zQc))) (yKn (yZw C (zQd 1 rfl (.inl rfl) zGi zGg) (zVl (zQd 0 rfl (.inl rfl) zXt zXs) (yQo T.fl_Table_kept zJs))))))
theorem xKd (T : Top w K mg) (sm : SM base) {k : Nat} (hk : 3 ≤ k) : yG4 P w K mg base k "Table" (wHm K) [] (pD 2 0 2 [0, 1] [] zQm) := zU8 T.m_Table___contains__ (fun F => wQz (ps := ["self", "thing"]) (yXg T sm) hk 2 [0, 1] rfl (fun _ _ _ _ _ _ us ws h1 h2 => match us, ws, h1, h2 with | [_, _], [], _, _ => rfl) F)
theorem yWu : FnScope ["table"] ["table"] (defScope (zQo 3)) := ⟨rfl, rfl, rfl, by decide +kernel, rfl, by decide +kernel, by decide +kernel⟩
theorem yWy (T : Top w K mg) (sm : SM base) {f : Addr} {fd : FuncData} (F : Fun K "least_freeing" "least_freeing" (zQo 3) f fd) : FnG P w K mg base 5 f fd ["table"] (spG K 1 (zQ2 1 zU6)) :=
  zXk F yWu sm rfl rfl fun cdv A outer s H E B C po hr => zQi (zZn (zJ3 C (hr.mono (by decide)) (zYe rfl (xKd T sm (k := 3) (by decide)) zVj) (zQf (zQa (zQk) (zQa (zQk) (zQc)))) (zQd 0 rfl (.inl rfl) zQ6 zQ5)) (zQj (zQn (zQe))) (zQy)) (zQj (zQn (zX0 (yWt.t (zYj (zJ3 C (hr.mono (by decide)) (zYe rfl (xKd T sm (k := 3) (by decide)) zVj) (zQf (zQa (zQk) (zQa (zQk) (zQc)))) (zQd 0 rfl (.inl rfl) zQ6 zQ5)) (zK4 (zJ3 C (hr.mono (by decide)) (zYe rfl (xKd T sm (k := 3) (by decide)) zVj) (zQf (zQa (zQk) (zQa (zQk) (zQc)))) (zQd 0 rfl (.inl rfl) zQ6 zQ5))))) (zQw) (zQe))))
theorem yXk (T : Top w K mg) (sm : SM base) {k : Nat} (hk : 5 ≤ k) : yVa P w K mg base k "least_freeing" ["table"] zJ4 := zXy T.f_least_freeing hk (yWy T sm)
theorem xQ5 : FnScope ["_law_sheet_here", "_law_least"] ["_law_sheet_here"] (defScope (zQo 92)) := ⟨rfl, rfl, rfl, by decide +kernel, rfl, by decide +kernel, by decide +kernel⟩
theorem xZn (T : Top w K mg) (sm : SM base) {f : Addr} {fd : FuncData} (F : Fun K "_law_rank" "_law_rank" (zQo 92) f fd) : FnG P w K mg base 6 f fd ["_law_sheet_here"] (spG K 1 (zQ2 2 yXa)) :=
  zXk F xQ5 sm rfl rfl fun cdv A outer s H E B C po hr => zQi (zZa 1 C rfl (.inl rfl) (zQr C ⟨yXk T sm (by decide)⟩ rfl hr rfl (zQa (zQd 0 rfl (.inl rfl) yVy yVr) (zQc)))) (zQj (zQn (zX0 (zQs C (zQd 1 rfl (.inl rfl) yV1 yVu) (zQw)) (zQe) (zQd 1 rfl (.inl rfl) yV1 yVu))))
theorem yUh (T : Top w K mg) (sm : SM base) {k : Nat} (hk : 6 ≤ k) : yVa P w K mg base k "_law_rank" ["_law_sheet_here"] zU4 := zXy T.f__law_rank hk (xZn T sm)
theorem xKv : FnScope ["x", "scanning"] ["x", "scanning"] (defScope (zQo 4)) := ⟨rfl, rfl, rfl, by decide +kernel, rfl, by decide +kernel, by decide +kernel⟩
theorem xK4 (T : Top w K mg) (sm : SM base) {f : Addr} {fd : FuncData} (F : Fun K "scan_of" "scan_of" (zQo 4) f fd) : FnG P w K mg base 1 f fd ["x", "scanning"] (spG K 2 (zQ2 2 yGp)) :=
  zXk F xKv sm rfl rfl fun cdv A outer s H E B C po hr => zQj (zQn (zX0 (zQs C (zQd 1 rfl (.inl rfl) zQv zQu) (zQt rfl T.zYp)) (zQf (zQa (zQk) (zQa (zQd 0 rfl (.inl rfl) wUm wUl) (zQc)))) (zQf (zQa (zQk) (zQa (zQd 0 rfl (.inl rfl) wUm wUl) (zQa (zQe) (zQc)))))))
theorem yQl (T : Top w K mg) (sm : SM base) {k : Nat} (hk : 1 ≤ k) : yVa P w K mg base k "scan_of" ["x", "scanning"] zJ8 := zXy T.f_scan_of hk (xK4 T sm)
theorem yU3 : FnScope ["table", "registers", "scanning", "least", "places", "cut", "scan", "steps"] ["table", "registers", "scanning"] (defScope (zQo 5)) := ⟨rfl, rfl, rfl, by decide +kernel, rfl, by decide +kernel, by decide +kernel⟩
theorem yU8 (T : Top w K mg) (sm : SM base) {f : Addr} {fd : FuncData} (F : Fun K "freeing_run" "freeing_run" (zQo 5) f fd) : FnG P w K mg base 6 f fd ["table", "registers", "scanning"] (spG K 3 (zQ2 8 zH1)) :=
  zXk F yU3 sm rfl rfl fun cdv A outer s H E B C po hr => zQi (zZa 3 C rfl (.inl rfl) (zQr C ⟨yXk T sm (by decide)⟩ rfl hr rfl (zQa (zQd 0 rfl (.inl rfl) zQ6 zQ5) (zQc)))) (zQi (zZn (zQs C (zQd 3 rfl (.inl rfl) xVs xVo) (zQw)) (zQj (zQn (zQw))) (zQy)) (zQi (zZa 4 C rfl (.inl rfl) (zX0 (zQs C (zQd 1 rfl (.inl rfl) zZl zZk) (zQe)) (zQf (zQa (zQe) (zQc))) (zQf (zQa (zQe) (zQa (zQw) (zQc)))))) (zQi (wX2 5 6 C rfl rfl rfl (by decide) rfl rfl (zQf (zQa (zQk) (zQa (zQe) (zQa (zQe) (zQa (zQw) (zQc)))))) (zQr C ⟨yQl T sm (by decide)⟩ rfl hr rfl (zQa (zQe) (zQa (zQd 2 rfl (.inl rfl) zQv zQu) (zQc)))) (by rfl)) (zQi (zZn (zQs C (zQd 3 rfl (.inl rfl) xVs xVo) (zQe)) (zQj (zQn (zQf (zQa (zQf (zQa (zQe) (zQa (zQf (zQa (zQf (zQa (zQe) (zQc))) (zQa (zQf (zQa (zQw) (zQc))) (zQc)))) (zQc)))) (zQa (zQd 4 rfl (.inl rfl) zU2 zU1) (zQa (zQf (zQa (zQf (zQa (zQk) (zQc))) (zQa (zQd 5 rfl (.inl rfl) xUf xUd) (zQa (zQd 6 rfl (.inl rfl) yK3 yK2) (zQa (zQf (zQa (zQk) (zQc))) (zQc)))))) (zQc))))))) (zQy)) (zQi (zZa 7 C rfl (.inl rfl) (zQf (zQa (zQf (zQa (zQk) (zQc))) (zQa (zQf (zQa (zQk) (zQa (zQe) (zQa (zQe) (zQa (zQe) (zQc)))))) (zQa (zQd 5 rfl (.inl rfl) xUf xUd) (zQa (zQd 6 rfl (.inl rfl) yK3 yK2) (zQa (zQr C ⟨yQl T sm (by decide)⟩ rfl hr rfl (zQa (zQe) (zQa (zQd 2 rfl (.inl rfl) zQv zQu) (zQc)))) (zQa (zQf (zQa (zQk) (zQc))) (zQc))))))))) (zQj (zQn (zQf (zQa (zQf (zQa (zQe) (zQa (zQf (zQa (zQf (zQa (zQe) (zQc))) (zQa (zQf (zQa (zQe) (zQc))) (zQa (zQf (zQa (zQw) (zQc))) (zQc))))) (zQc)))) (zQa (zQd 4 rfl (.inl rfl) zU2 zU1) (zQa (zQd 7 rfl (.inl rfl) zVc zVb) (zQc))))))))))))
theorem vQv (T : Top w K mg) (sm : SM base) {k : Nat} (hk : 6 ≤ k) : ∃ (f : Addr) (fd : FuncData) (dv : List Value) (dvs : List V), FnG P w K mg base k f fd ["table", "registers", "scanning"] (spG K (["table", "registers", "scanning"] : List Str).length zXq) ∧ mg "freeing_run" = some (.ref f) ∧ PySem.W.keepIn K (.ref f) = true ∧ Vals dvs dv ∧ (∀ F : Hp, RA K F [] dvs) ∧
    ∀ (s : Shared) (us ws : List Value), K.In s.heap → us.length = 1 → ws.length = (["registers", "scanning"] : List Str).length → BindsTo s fd ⟨us, (["registers", "scanning"] : List Str).zip ws⟩ ((["table", "registers", "scanning"] : List Str).zip (pick [0, 1, 2] (us ++ ws ++ dv))) :=
  yUe T.f_freeing_run hk (yU8 T sm) 1 ["registers", "scanning"] [] [0, 1, 2] [] (by simp) (by simp) (fun _ => .nil) fun _ _ _ _ _ _ us mv ws h1 h2 h3 => match us, mv, ws, h1, h2, h3 with | [_], [], [_, _], _, _, _ => rfl
theorem yU6 : FnScope ["self"] ["self"] (defScope (zXz (zQo 81) 7)) := ⟨rfl, rfl, rfl, by decide +kernel, rfl, by decide +kernel, by decide +kernel⟩
theorem yGb (T : Top w K mg) (sm : SM base) {f : Addr} {fd : FuncData} (F : Fun K "fresh" "Table.fresh" (zXz (zQo 81) 7) f fd) : FnG P w K mg base 1 f fd ["self"] (spG K 1 (zQ2 1 zH3)) :=
  zXk F yU6 sm rfl rfl fun cdv A outer s H E B C po hr => zQj (zQn (zVl (zQd 0 rfl (.inl rfl) zXt zXs) (yQo T.fl_Table_kept_fresh zJs)))
theorem wGw (T : Top w K mg) (sm : SM base) {k : Nat} (hk : 1 ≤ k) : yG4 P w K mg base k "Table" (xWr K "fresh") [] (pD 1 0 1 [0] [] zJf) := zU8 T.m_Table_fresh (fun F => wQz (ps := ["self"]) (yGb T sm) hk 1 [0] rfl (fun _ _ _ _ _ _ us ws h1 h2 => match us, ws, h1, h2 with | [_], [], _, _ => rfl) F)
theorem yU5 : FnScope ["self"] ["self"] (defScope (zXz (zQo 81) 8)) := ⟨rfl, rfl, rfl, by decide +kernel, rfl, by decide +kernel, by decide +kernel⟩
theorem yGa (T : Top w K mg) (sm : SM base) {f : Addr} {fd : FuncData} (F : Fun K "roots" "Table.roots" (zXz (zQo 81) 8) f fd) : FnG P w K mg base 1 f fd ["self"] (spG K 1 (zQ2 1 zH2)) :=
  zXk F yU5 sm rfl rfl fun cdv A outer s H E B C po hr => zQj (zQn (zVl (zQd 0 rfl (.inl rfl) zXt zXs) (yQo T.fl_Table_kept_roots zJs)))
theorem wKj (T : Top w K mg) (sm : SM base) {k : Nat} (hk : 1 ≤ k) : yG4 P w K mg base k "Table" (xWr K "roots") [] (pD 1 0 1 [0] [] zXb) := zU8 T.m_Table_roots (fun F => wQz (ps := ["self"]) (yGa T sm) hk 1 [0] rfl (fun _ _ _ _ _ _ us ws h1 h2 => match us, ws, h1, h2 with | [_], [], _, _ => rfl) F)
theorem wJd : FnScope ["table", "way", "needed", "barred", "fresh", "roots", "name", "entry"] ["table", "way"] (defScope (zQo 38)) := ⟨rfl, rfl, rfl, by decide +kernel, rfl, by decide +kernel, by decide +kernel⟩
theorem wJy (T : Top w K mg) (sm : SM base) {f : Addr} {fd : FuncData} (F : Fun K "fits" "fits" (zQo 38) f fd) : FnG P w K mg base 5 f fd ["table", "way"] (spG K 2 (zQ2 8 xX3)) :=
  zXk F wJd sm rfl rfl fun cdv A outer s H E B C po hr => zQi (xXr (is := [2, 3, 4, 5, 6]) (zQd 1 rfl (.inl rfl) xVq xVm) (yVf 5 C (zXr (zZc 2 C rfl (.inl rfl) (by decide)) (zXr (zZc 3 C rfl (.inl rfl) (by decide)) (zXr (zZc 4 C rfl (.inl rfl) (by decide)) (zXr (zZc 5 C rfl (.inl rfl) (by decide)) (zXr (zZc 6 C rfl (.inl rfl) (by decide)) (yZ0))))))) (xZp (zVz (zZw) (zVz (zZw) (zVz (zZw) (zVz (zZw) (zVz (zZw) (yY3)))))))) (zQi (zZn (yWt.t (zYj (zQs C (zYw C (zQd 0 rfl (.inr (.inl rfl)) zQ6 zQ5) (yJq (wGw T sm (k := 1) (by decide)) zY4) (hr.mono (by decide))) (zQd 4 rfl (.inl rfl) yJb yJa)) (zK4 (zQs C (zYw C (zQd 0 rfl (.inr (.inl rfl)) zQ6 zQ5) (yJq (wKj T sm (k := 1) (by decide)) zY4) (hr.mono (by decide))) (zQd 5 rfl (.inl rfl) yZg yZd))))) (zQj (zQn (zVx))) (zQy)) (zQj (zQn (snd_and (zG5 (ok_all C) rfl T.b_all rfl (zZm (yWk (own := [("entry", 7)]) C (yXs (by rfl)) (zZw) (xXj.e (zVa (zQd 2 rfl (.inl rfl) xUe xUc))) (fun s1 H1 K1 l1 p1 => zZc 7 (zXm C s1 H1 K1 l1 p1) rfl (.inl rfl) (by decide)) (fun s1 H1 K1 l1 p1 => yQd) (fun s1 H1 K1 l1 p1 => xJ6 (zXm C s1 H1 K1 l1 p1) (hr.mono (by decide)) (zYe rfl (xKd T sm (k := 3) (by decide)) zVj) (zQd 7 rfl (.inl rfl) zUa zY8) (zQd 0 rfl (.inr (.inl rfl)) zQ6 zQ5))) (zZ0))) (yKn (wX3 (zG5 (wZ0 C) rfl T.b_any rfl (zZm (yWk (own := [("entry", 7)]) C (yXs (by rfl)) (zZw) (xXj.e (zVa (zQd 3 rfl (.inl rfl) yY6 yY4))) (fun s2 H2 K2 l2 p2 => zZc 7 (zXm C s2 H2 K2 l2 p2) rfl (.inl rfl) (by decide)) (fun s2 H2 K2 l2 p2 => yQd) (fun s2 H2 K2 l2 p2 => xJ6 (zXm C s2 H2 K2 l2 p2) (hr.mono (by decide)) (zYe rfl (xKd T sm (k := 3) (by decide)) zVj) (zQd 7 rfl (.inl rfl) zUa zY8) (zQd 0 rfl (.inr (.inl rfl)) zQ6 zQ5))) (zZ0)))))))))
theorem wZ9 (T : Top w K mg) (sm : SM base) {k : Nat} (hk : 5 ≤ k) : yVa P w K mg base k "fits" ["table", "way"] yUk := zXy T.f_fits hk (wJy T sm)
theorem xQ1 : FnScope ["goal"] ["goal"] (defScope (zQo 36)) := ⟨rfl, rfl, rfl, by decide +kernel, rfl, by decide +kernel, by decide +kernel⟩
theorem xZj (T : Top w K mg) (sm : SM base) {f : Addr} {fd : FuncData} (F : Fun K "need_goal" "need_goal" (zQo 36) f fd) : FnG P w K mg base 3 f fd ["goal"] (spG K 1 (zQ2 1 yWn)) :=
  zXk F xQ1 sm rfl rfl fun cdv A outer s H E B C po hr => zQj (zZn (yWt.t (zYj (zVy (zX2 (yYk (zQd 0 rfl (.inl rfl) zH6 zH5) rfl T.b_isinstance rfl rfl T.b_str rfl))) (zK4 (zQs C (zQd 0 rfl (.inl rfl) zH6 zH5) (zQt rfl T.yUw))))) (zQj (yVd C (yHa T (k := 1) (by decide)) (hr.mono (by decide)) (by decide) rfl (zQa (zQd 0 rfl (.inl rfl) zH6 zH5) (zQc)))) (zQy))
theorem xJi (T : Top w K mg) (sm : SM base) {k : Nat} (hk : 3 ≤ k) : yVa P w K mg base k "need_goal" ["goal"] yWs := zXy T.f_need_goal hk (xZj T sm)
theorem xQ0 : FnScope ["registers", "scanning"] ["registers", "scanning"] (defScope (zQo 34)) := ⟨rfl, rfl, rfl, by decide +kernel, rfl, by decide +kernel, by decide +kernel⟩
theorem xZi (T : Top w K mg) (sm : SM base) {f : Addr} {fd : FuncData} (F : Fun K "safe_ways" "safe_ways" (zQo 34) f fd) : FnG P w K mg base 1 f fd ["registers", "scanning"] (spG K 2 (zQ2 2 yWm)) :=
  zXk F xQ0 sm rfl rfl fun cdv A outer s H E B C po hr => zQi (zZn (zQs C (zQd 0 rfl (.inl rfl) zZl zZk) (zQe)) (zQj (zQn (zQt rfl T.zKm))) (zQy)) (zQj (zQn (zZb (zX0 (zQs C (zQd 1 rfl (.inl rfl) zQv zQu) (zQt rfl T.zYp)) (zQt rfl T.zKl) (zQt rfl T.zVw)) (zQt rfl T.yQu))))
theorem xJh (T : Top w K mg) (sm : SM base) {k : Nat} (hk : 1 ≤ k) : yVa P w K mg base k "safe_ways" ["registers", "scanning"] yWr := zXy T.f_safe_ways hk (xZi T sm)
theorem yYq : FnScope ["registers", "scanning", "barred", "found"] ["registers", "scanning"] (defScope (zQo 35)) := ⟨rfl, rfl, rfl, by decide +kernel, rfl, by decide +kernel, by decide +kernel⟩
theorem yYz (T : Top w K mg) (sm : SM base) {f : Addr} {fd : FuncData} (F : Fun K "bounded_ways" "bounded_ways" (zQo 35) f fd) : FnG P w K mg base 1 f fd ["registers", "scanning"] (spG K 2 (zQ2 4 yZ8)) :=
  zXk F yYq sm rfl rfl fun cdv A outer s H E B C po hr => zQi (zZa 2 C rfl (.inl rfl) (zX0 (zQs C (zQd 1 rfl (.inl rfl) zQv zQu) (zQt rfl T.zYp)) (zQf (zQa (zQt rfl T.zZz) (zQc))) (zQf (zQa (zQt rfl T.zYf) (zQa (zQt rfl T.zZz) (zQc)))))) (zQi (zZa 3 C rfl (.inl rfl) (zQf (zQa (zQf (zQa (zQf (zQc)) (zQa (zQd 2 rfl (.inl rfl) yY6 yY4) (zQa (zQf (zQa (zQk) (zQc))) (zQa (zQt rfl T.xXf) (zQa (zQk) (zQc))))))) (zQc)))) (zQi (zZn (zQs C (zQd 0 rfl (.inl rfl) zZl zZk) (zQe)) (zQj (zQn (zQd 3 rfl (.inl rfl) xVt xVp))) (zQy)) (zQj (zQn (zZb (zQd 3 rfl (.inl rfl) xVt xVp) (zQf (zQa (zQf (zQa (zQf (zQc)) (zQa (zZb (zQt rfl T.yQt) (zQd 2 rfl (.inl rfl) yY6 yY4)) (zQa (zQf (zQa (zQk) (zQc))) (zQa (zQf (zQa (zQk) (zQc))) (zQa (zQk) (zQc))))))) (zQc))))))))
theorem yGe (T : Top w K mg) (sm : SM base) {k : Nat} (hk : 1 ≤ k) : yVa P w K mg base k "bounded_ways" ["registers", "scanning"] yXo := zXy T.f_bounded_ways hk (yYz T sm)
theorem wJc : FnScope ["goal", "registers", "scanning"] ["goal", "registers", "scanning"] (defScope (zQo 37)) := ⟨rfl, rfl, rfl, by decide +kernel, rfl, by decide +kernel, by decide +kernel⟩
theorem wJx (T : Top w K mg) (sm : SM base) {f : Addr} {fd : FuncData} (F : Fun K "ways" "ways" (zQo 37) f fd) : FnG P w K mg base 4 f fd ["goal", "registers", "scanning"] (spG K 3 (zQ2 3 xY0)) :=
  zXk F wJc sm rfl rfl fun cdv A outer s H E B C po hr => zQi (yYc (zQr C ⟨xJi T sm (by decide)⟩ rfl hr rfl (zQa (zQd 0 rfl (.inl rfl) zH6 zH5) (zQc)))) (zQi (zZn (zQs C (zQd 0 rfl (.inl rfl) zH6 zH5) (zQk)) (zQj (zQn (zQr C ⟨xJh T sm (by decide)⟩ rfl hr rfl (zQa (zQd 1 rfl (.inl rfl) zZl zZk) (zQa (zQd 2 rfl (.inl rfl) zQv zQu) (zQc)))))) (zQy)) (zQj (zQn (zX0 (zQs C (zQd 0 rfl (.inl rfl) zH6 zH5) (zQk)) (zQt rfl T.yQs) (zQr C ⟨yGe T sm (by decide)⟩ rfl hr rfl (zQa (zQd 1 rfl (.inl rfl) zZl zZk) (zQa (zQd 2 rfl (.inl rfl) zQv zQu) (zQc))))))))
theorem vJ0 (T : Top w K mg) (sm : SM base) {k : Nat} (hk : 4 ≤ k) : ∃ (f : Addr) (fd : FuncData) (dv : List Value) (dvs : List V), FnG P w K mg base k f fd ["goal", "registers", "scanning"] (spG K (["goal", "registers", "scanning"] : List Str).length xQh) ∧ mg "ways" = some (.ref f) ∧ PySem.W.keepIn K (.ref f) = true ∧ Vals dvs dv ∧ (∀ F : Hp, RA K F [] dvs) ∧
    ∀ (s : Shared) (us ws : List Value), K.In s.heap → us.length = 1 → ws.length = (["registers", "scanning"] : List Str).length → BindsTo s fd ⟨us, (["registers", "scanning"] : List Str).zip ws⟩ ((["goal", "registers", "scanning"] : List Str).zip (pick [0, 1, 2] (us ++ ws ++ dv))) :=
  yUe T.f_ways hk (wJx T sm) 1 ["registers", "scanning"] [] [0, 1, 2] [] (by simp) (by simp) (fun _ => .nil) fun _ _ _ _ _ _ us mv ws h1 h2 h3 => match us, mv, ws, h1, h2, h3 with | [_], [], [_, _], _, _, _ => rfl
theorem yYp : FnScope ["table", "goal", "registers", "scanning", "way"] ["table", "goal", "registers", "scanning"] (defScope (zQo 39)) := ⟨rfl, rfl, rfl, by decide +kernel, rfl, by decide +kernel, by decide +kernel⟩
theorem yXe (T : Top w K mg) (sm : SM base) {f : Addr} {fd : FuncData} (F : FunA K "has_property" "has_property" (zQo 39) f fd) : FnG P w K mg base 6 f fd ["table", "goal", "registers", "scanning"] (spG K 4 (zQ2 5 zG8)) :=
  wXb F yYp sm rfl rfl fun cdv A outer s H E B C po hr => zQj (zQn (zG5 (wZ0 C) rfl T.b_any rfl (zZm (yWk (own := [("way", 4)]) C (yXs (by rfl)) (zZw) (xXj.e (zVa (zX1 C ⟨vJ0 T sm (by decide)⟩ rfl rfl hr rfl (zQa (zQd 1 rfl (.inl rfl) zH6 zH5) (zQc)) (zQx (zQd 2 rfl (.inl rfl) zZl zZk) (zQx (zQd 3 rfl (.inl rfl) zQv zQu) (zZj)))))) (fun s1 H1 K1 l1 p1 => zZc 4 (zXm C s1 H1 K1 l1 p1) rfl (.inl rfl) (by decide)) (fun s1 H1 K1 l1 p1 => yQd) (fun s1 H1 K1 l1 p1 => zQr (zXm C s1 H1 K1 l1 p1) ⟨wZ9 T sm (by decide)⟩ rfl hr rfl (zQa (zQd 0 rfl (.inr (.inl rfl)) zQ6 zQ5) (zQa (zQd 4 rfl (.inl rfl) xVq xVm) (zQc))))) (zZ0))))
theorem vYb (T : Top w K mg) (sm : SM base) {k : Nat} (hk : 6 ≤ k) : ∃ (f : Addr) (fd : FuncData) (dv : List Value) (dvs : List V), FnG P w K mg base k f fd ["table", "goal", "registers", "scanning"] (spG K (["table", "goal", "registers", "scanning"] : List Str).length zJr) ∧ mg "has_property" = some (.ref f) ∧ PySem.W.keepIn K (.ref f) = true ∧ Vals dvs dv ∧ (∀ F : Hp, RA K F ([.str "safe"] ++ []) dvs) ∧
    ∀ (s : Shared) (us ws : List Value), K.In s.heap → us.length = 2 → ws.length = (["registers", "scanning"] : List Str).length → BindsTo s fd ⟨us, (["registers", "scanning"] : List Str).zip ws⟩ ((["table", "goal", "registers", "scanning"] : List Str).zip (pick [0, 1, 2, 3] (us ++ ws ++ dv))) :=
  xJg T.f_has_property hk (yXe T sm) 2 ["registers", "scanning"] [] [0, 1, 2, 3] [.str "safe"] [] (by simp) (by simp) (by simp) (fun _ => .cons (.str _) (.nil)) (fun _ => .nil) fun _ _ _ _ _ _ _ us its mv ws h1 h2 h3 h4 => match us, its, mv, ws, h1, h2, h3, h4 with | [_, _], [_], [], [_, _], _, _, _, _ => ⟨_, rfl, rfl⟩
theorem vW9 (T : Top w K mg) (sm : SM base) {k : Nat} (hk : 6 ≤ k) : ∃ (f : Addr) (fd : FuncData) (dv : List Value) (dvs : List V), FnG P w K mg base k f fd ["table", "goal", "registers", "scanning"] (spG K (["table", "goal", "registers", "scanning"] : List Str).length zJr) ∧ mg "has_property" = some (.ref f) ∧ PySem.W.keepIn K (.ref f) = true ∧ Vals dvs dv ∧ (∀ F : Hp, RA K F ([.str "safe"] ++ []) dvs) ∧
    ∀ (s : Shared) (us ws : List Value), K.In s.heap → us.length = 1 → ws.length = (["registers", "scanning"] : List Str).length → BindsTo s fd ⟨us, (["registers", "scanning"] : List Str).zip ws⟩ ((["table", "goal", "registers", "scanning"] : List Str).zip (pick [0, 3, 1, 2] (us ++ ws ++ dv))) :=
  xJg T.f_has_property hk (yXe T sm) 1 ["registers", "scanning"] [] [0, 3, 1, 2] [.str "safe"] [] (by simp) (by simp) (by simp) (fun _ => .cons (.str _) (.nil)) (fun _ => .nil) fun _ _ _ _ _ _ _ us its mv ws h1 h2 h3 h4 => match us, its, mv, ws, h1, h2, h3, h4 with | [_], [_], [], [_, _], _, _, _, _ => ⟨_, rfl, rfl⟩
theorem yU4 : FnScope ["rounds", "places", "scanning", "scan"] ["rounds", "places", "scanning"] (defScope (zQo 54)) := ⟨rfl, rfl, rfl, by decide +kernel, rfl, by decide +kernel, by decide +kernel⟩
theorem yU9 (T : Top w K mg) (sm : SM base) {f : Addr} {fd : FuncData} (F : Fun K "again_black" "again_black" (zQo 54) f fd) : FnG P w K mg base 2 f fd ["rounds", "places", "scanning"] (spG K 3 (zQ2 4 yJr)) :=
  zXk F yU4 sm rfl rfl fun cdv A outer s H E B C po hr => zQi (zZa 3 C rfl (.inl rfl) (zQr C ⟨yQl T sm (by decide)⟩ rfl hr rfl (zQa (zQe) (zQa (zQd 2 rfl (.inl rfl) zQv zQu) (zQc))))) (zQj (zQn (zQf (zQa (zQt rfl T.xJq) (zQa (zQf (zQa (zQe) (yQe (zQd 1 rfl (.inl rfl) zU2 zU1)))) (zQa (zQf (zQa (zQt rfl T.zQ4) (zQa (zQd 3 rfl (.inl rfl) yK3 yK2) (yQe (zZb (zQf (zQa (zQf (zQa (zQk) (zQa (zQe) (zQa (zQe) (zQa (zQw) (zQc)))))) (zQa (zQd 3 rfl (.inl rfl) yK3 yK2) (zQc)))) (zQd 0 rfl (.inl rfl) zKj zKi)))))) (zQc)))))))
theorem xQg (T : Top w K mg) (sm : SM base) {k : Nat} (hk : 2 ≤ k) : yVa P w K mg base k "again_black" ["rounds", "places", "scanning"] yQa := zXy T.f_again_black hk (yU9 T sm)
theorem yHk : FnScope ["rounds", "places", "scan"] ["rounds", "places"] (defScope (zQo 55)) := ⟨rfl, rfl, rfl, by decide +kernel, rfl, by decide +kernel, by decide +kernel⟩
theorem yHw (T : Top w K mg) (sm : SM base) {f : Addr} {fd : FuncData} (F : Fun K "again_grey" "again_grey" (zQo 55) f fd) : FnG P w K mg base 1 f fd ["rounds", "places"] (spG K 2 (zQ2 3 yVk)) :=
  zXk F yHk sm rfl rfl fun cdv A outer s H E B C po hr => zQi (zZa 2 C rfl (.inl rfl) (zQf (zQa (zQk) (zQa (zQe) (zQa (zQe) (zQc)))))) (zQj (zQn (zQf (zQa (zQf (zQa (zQe) (zQa (zQf (zQa (zQf (zQa (zQw) (zQa (zQw) (zQc)))) (zQc))) (zQc)))) (zQa (zQf (zQa (zQe) (yQe (zQd 1 rfl (.inl rfl) zU2 zU1)))) (zQa (zQf (zQa (zQt rfl T.zQ4) (zQa (zQd 2 rfl (.inl rfl) yK3 yK2) (yQe (zZb (zQf (zQa (zQf (zQa (zQk) (zQa (zQe) (zQa (zQe) (zQa (zQw) (zQc)))))) (zQa (zQd 2 rfl (.inl rfl) yK3 yK2) (zQc)))) (zQd 0 rfl (.inl rfl) zKj zKi)))))) (zQc)))))))
theorem xZ0 (T : Top w K mg) (sm : SM base) {k : Nat} (hk : 1 ≤ k) : yVa P w K mg base k "again_grey" ["rounds", "places"] yZk := zXy T.f_again_grey hk (yHw T sm)
theorem xQ3 : FnScope ["rounds", "places", "scanning", "steps", "number"] ["rounds", "places", "scanning"] (defScope (zQo 56)) := ⟨rfl, rfl, rfl, by decide +kernel, rfl, by decide +kernel, by decide +kernel⟩
theorem xZl (T : Top w K mg) (sm : SM base) {f : Addr} {fd : FuncData} (F : Fun K "grey_ones" "grey_ones" (zQo 56) f fd) : FnG P w K mg base 2 f fd ["rounds", "places", "scanning"] (spG K 3 (zQ2 5 yWo)) :=
  zXk F xQ3 sm rfl rfl fun cdv A outer s H E B C po hr => zQi (zZa 3 C rfl (.inl rfl) (zZs (zQa (zQt rfl T.zQ4) (zQc)))) (zQi (yZv (is := [4]) C po (yVe rfl T.b_range (zZm (zQd 0 rfl (.inl rfl) zKj zKi) (zZ0))) (zZc 4 C rfl (.inl rfl) (by decide)) (zZw) (zQj (yHe 3 rfl (.inl rfl) (zZs (zQa (zQf (zQa (zQk) (zQa (zQe) (zQc)))) (zQa (zQr C ⟨yQl T sm (by decide)⟩ rfl hr rfl (zQa (zQd 4 rfl (.inl rfl) yVx yVq) (zQa (zQd 2 rfl (.inl rfl) zQv zQu) (zQc)))) (zQc))))))) (zQj (zQn (zQf (zQa (zQt rfl T.yUu) (zQa (zQf (zQa (zQw) (yQe (zQd 1 rfl (.inl rfl) zU2 zU1)))) (zQa (zHn (yX9) rfl T.b_tuple rfl (zZm (zQd 3 rfl (.inl rfl) zVc zVb) (zZ0))) (zQc))))))))
theorem xJk (T : Top w K mg) (sm : SM base) {k : Nat} (hk : 2 ≤ k) : yVa P w K mg base k "grey_ones" ["rounds", "places", "scanning"] yXn := zXy T.f_grey_ones hk (xZl T sm)
theorem xKx : FnScope ["rounds", "scanning", "steps", "number", "mine", "other"] ["rounds", "scanning"] (defScope (zQo 57)) := ⟨rfl, rfl, rfl, by decide +kernel, rfl, by decide +kernel, by decide +kernel⟩
theorem xK6 (T : Top w K mg) (sm : SM base) {f : Addr} {fd : FuncData} (F : Fun K "chained" "chained" (zQo 57) f fd) : FnG P w K mg base 2 f fd ["rounds", "scanning"] (spG K 2 (zQ2 6 yGq)) :=
  zXk F xKx sm rfl rfl fun cdv A outer s H E B C po hr => zQi (zZa 2 C rfl (.inl rfl) (zZs (zQa (zQt rfl T.zQ4) (zQc)))) (zQi (yZv (is := [3]) C po (yVe rfl T.b_range (zZm (zQd 0 rfl (.inl rfl) zKj zKi) (zZ0))) (zZc 3 C rfl (.inl rfl) (by decide)) (zZw) (zQi (xXr (is := [4, 5]) (zX0 (zQs C (zZb (zQd 3 rfl (.inl rfl) yVx yVq) (zQe)) (zQe)) (zQf (zQa (zQe) (zQa (zQe) (zQc)))) (zQf (zQa (zQe) (zQa (zQe) (zQc))))) (yVf 2 C (zXr (zZc 4 C rfl (.inl rfl) (by decide)) (zXr (zZc 5 C rfl (.inl rfl) (by decide)) (yZ0)))) (xZp (zVz (zZw) (zVz (zZw) (yY3))))) (zQj (yHe 2 rfl (.inl rfl) (zZs (zQa (zQf (zQa (zQk) (zQa (zQd 5 rfl (.inl rfl) zV2 zV0) (zQc)))) (zQa (zQf (zQa (zQk) (zQa (zQd 4 rfl (.inl rfl) wJ7 wJ5) (zQa (zQe) (zQa (zQd 5 rfl (.inl rfl) zV2 zV0) (zQc)))))) (zQa (zQr C ⟨yQl T sm (by decide)⟩ rfl hr rfl (zQa (zQd 3 rfl (.inl rfl) yVx yVq) (zQa (zQd 1 rfl (.inl rfl) zQv zQu) (zQc)))) (zQc))))))))) (zQj (zQn (zQf (zQa (zQt rfl T.xJq) (zQa (zQf (zQa (zQe) (zQa (zQw) (zQc)))) (zQa (zHn (yX9) rfl T.b_tuple rfl (zZm (zQd 2 rfl (.inl rfl) zVc zVb) (zZ0))) (zQc))))))))
theorem xUu (T : Top w K mg) (sm : SM base) {k : Nat} (hk : 2 ≤ k) : yVa P w K mg base k "chained" ["rounds", "scanning"] yWb := zXy T.f_chained hk (xK6 T sm)
theorem yKp : FnScope ["table", "to_itself", "cut"] ["table"] (defScope (zQo 58)) := ⟨rfl, rfl, rfl, by decide +kernel, rfl, by decide +kernel, by decide +kernel⟩
theorem yKx (T : Top w K mg) (sm : SM base) {f : Addr} {fd : FuncData} (F : Fun K "steps_to_shade" "steps_to_shade" (zQo 58) f fd) : FnG P w K mg base 5 f fd ["table"] (spG K 1 (zQ2 3 zYk)) :=
  zXk F yKp sm rfl rfl fun cdv A outer s H E B C po hr => zQi (xXr (is := [1, 2]) (zQf (zQa (zQf (zQa (zQk) (zQa (zQe) (zQa (zQe) (zQa (zQe) (zQc)))))) (zQa (zQf (zQa (zQk) (zQa (zQe) (zQa (zQe) (zQa (zQw) (zQc)))))) (zQc)))) (yVf 2 C (zXr (zZc 1 C rfl (.inl rfl) (by decide)) (zXr (zZc 2 C rfl (.inl rfl) (by decide)) (yZ0)))) (xZp (zVz (zZw) (zVz (zZw) (yY3))))) (zQi (zZn (zQs C (zYw C (zQd 0 rfl (.inl rfl) zQ6 zQ5) (yJq (wKj T sm (k := 1) (by decide)) zY4) (hr.mono (by decide))) (zQk)) (zQj (zQn (zZs (zQa (zQf (zQa (zQk) (zQc))) (zQc))))) (zQy)) (zQi (zZn (yWt.t (zYj (zJ3 C (hr.mono (by decide)) (zYe rfl (xKd T sm (k := 3) (by decide)) zVj) (zQf (zQa (zQk) (zQa (zQk) (zQc)))) (zQd 0 rfl (.inl rfl) zQ6 zQ5)) (zK4 (zJ3 C (hr.mono (by decide)) (zYe rfl (xKd T sm (k := 3) (by decide)) zVj) (zQf (zQa (zQk) (zQa (zQk) (zQc)))) (zQd 0 rfl (.inl rfl) zQ6 zQ5))))) (zQj (zQn (zZs (zQa (zQd 1 rfl (.inl rfl) yXi yXh) (zQc))))) (zQy)) (zQj (zQn (zX0 (zJ3 C (hr.mono (by decide)) (zYe rfl (xKd T sm (k := 3) (by decide)) zVj) (zQf (zQa (zQk) (zQa (zQk) (zQc)))) (zQd 0 rfl (.inl rfl) zQ6 zQ5)) (zZs (zQa (zQd 1 rfl (.inl rfl) yXi yXh) (zQa (zQd 2 rfl (.inl rfl) xUf xUd) (zQc)))) (zZs (zQa (zQd 1 rfl (.inl rfl) yXi yXh) (zQa (zQf (zQa (zQk) (zQa (zQe) (zQa (zQe) (zQa (zQe) (zQc)))))) (zQc)))))))))
theorem yW2 (T : Top w K mg) (sm : SM base) {k : Nat} (hk : 5 ≤ k) : yVa P w K mg base k "steps_to_shade" ["table"] zKa := zXy T.f_steps_to_shade hk (yKx T sm)
theorem xQ2 : FnScope ["table", "rounds", "scanning", "steps", "number"] ["table", "rounds", "scanning"] (defScope (zQo 59)) := ⟨rfl, rfl, rfl, by decide +kernel, rfl, by decide +kernel, by decide +kernel⟩
theorem xZk (T : Top w K mg) (sm : SM base) {f : Addr} {fd : FuncData} (F : Fun K "lone_ones" "lone_ones" (zQo 59) f fd) : FnG P w K mg base 6 f fd ["table", "rounds", "scanning"] (spG K 3 (zQ2 5 yZ7)) :=
  zXk F xQ2 sm rfl rfl fun cdv A outer s H E B C po hr => zQi (zZa 3 C rfl (.inl rfl) (zZs (zQa (zQt rfl T.zQ4) (zQc)))) (zQi (yZv (is := [4]) C po (yVe rfl T.b_range (zZm (zQd 1 rfl (.inl rfl) zKj zKi) (zZ0))) (zZc 4 C rfl (.inl rfl) (by decide)) (zZw) (zQj (yHe 3 rfl (.inl rfl) (zZs (zQa (zQf (zQa (zQk) (zQa (zQe) (zQc)))) (yGk (zQr C ⟨yW2 T sm (by decide)⟩ rfl hr rfl (zQa (zQd 0 rfl (.inl rfl) zQ6 zQ5) (zQc))) (zQa (zQr C ⟨yQl T sm (by decide)⟩ rfl hr rfl (zQa (zQd 4 rfl (.inl rfl) yVx yVq) (zQa (zQd 2 rfl (.inl rfl) zQv zQu) (zQc)))) (zQc)))))))) (zQj (zQn (zQf (zQa (zQt rfl T.yUu) (zQa (zQf (zQa (zQw) (zQc))) (zQa (zHn (yX9) rfl T.b_tuple rfl (zZm (zQd 3 rfl (.inl rfl) zVc zVb) (zZ0))) (zQc))))))))
theorem xJj (T : Top w K mg) (sm : SM base) {k : Nat} (hk : 6 ≤ k) : yVa P w K mg base k "lone_ones" ["table", "rounds", "scanning"] zHq := zXy T.f_lone_ones hk (xZk T sm)
theorem yHj : FnScope ["table", "many", "registers", "scanning", "places", "rounds"] ["table", "many", "registers", "scanning"] (defScope (zQo 60)) := ⟨rfl, rfl, rfl, by decide +kernel, rfl, by decide +kernel, by decide +kernel⟩
theorem yHv (T : Top w K mg) (sm : SM base) {f : Addr} {fd : FuncData} (F : Fun K "longer_run" "longer_run" (zQo 60) f fd) : FnG P w K mg base 7 f fd ["table", "many", "registers", "scanning"] (spG K 4 (zQ2 6 yQ6)) :=
  zXk F yHj sm rfl rfl fun cdv A outer s H E B C po hr => zQi (zZn (zX2 (zX1 C ⟨vYb T sm (by decide)⟩ rfl rfl hr rfl (zQa (zQd 0 rfl (.inl rfl) zQ6 zQ5) (zQa (zQk) (zQc))) (zQx (zQd 2 rfl (.inl rfl) zZl zZk) (zQx (zQd 3 rfl (.inl rfl) zQv zQu) (zZj))))) (zQj (zQn (zQw))) (zQy)) (zQi (zZa 4 C rfl (.inl rfl) (zX0 (zQs C (zQd 2 rfl (.inl rfl) zZl zZk) (zQe)) (zQf (zQc)) (zQf (zQa (zQw) (zQc))))) (zQi (zZa 5 C rfl (.inl rfl) (zG5 (wWq C) rfl T.b_max rfl (zZm (zQd 1 rfl (.inl rfl) wJ8 wJ6) (zZm (zQe) (zZ0))))) (zQi (zZn (zJ3 C (hr.mono (by decide)) (zYe rfl (xKd T sm (k := 3) (by decide)) zVj) (zQf (zQa (zQk) (zQa (zQk) (zQc)))) (zQd 0 rfl (.inl rfl) zQ6 zQ5)) (zQj (zQn (zQr C ⟨xQg T sm (by decide)⟩ rfl hr rfl (zQa (zQd 5 rfl (.inl rfl) zKj zKi) (zQa (zQd 4 rfl (.inl rfl) zU2 zU1) (zQa (zQd 3 rfl (.inl rfl) zQv zQu) (zQc))))))) (zQy)) (zQi (zZn (yWt.t (yQ1 (zQs C (zQd 3 rfl (.inl rfl) zQv zQu) (zQt rfl T.zYp)) (zG6 (zJ3 C (hr.mono (by decide)) (zYe rfl (xKd T sm (k := 3) (by decide)) zVj) (zQf (zQa (zQk) (zQa (zQk) (zQc)))) (zQd 0 rfl (.inl rfl) zQ6 zQ5))))) (zQj (zQn (zQr C ⟨xZ0 T sm (by decide)⟩ rfl hr rfl (zQa (zQd 5 rfl (.inl rfl) zKj zKi) (zQa (zQd 4 rfl (.inl rfl) zU2 zU1) (zQc)))))) (zQy)) (zQi (zZn (zQs C (zYw C (zQd 0 rfl (.inl rfl) zQ6 zQ5) (yJq (wGw T sm (k := 1) (by decide)) zY4) (hr.mono (by decide))) (zQk)) (zQj (zQn (zQr C ⟨xJk T sm (by decide)⟩ rfl hr rfl (zQa (zQd 5 rfl (.inl rfl) zKj zKi) (zQa (zQd 4 rfl (.inl rfl) zU2 zU1) (zQa (zQd 3 rfl (.inl rfl) zQv zQu) (zQc))))))) (zQy)) (zQj (zQn (zX0 (zQs C (zQd 2 rfl (.inl rfl) zZl zZk) (zQe)) (zQr C ⟨xUu T sm (by decide)⟩ rfl hr rfl (zQa (zQd 5 rfl (.inl rfl) zKj zKi) (zQa (zQd 3 rfl (.inl rfl) zQv zQu) (zQc)))) (zQr C ⟨xJj T sm (by decide)⟩ rfl hr rfl (zQa (zQd 0 rfl (.inl rfl) zQ6 zQ5) (zQa (zQd 5 rfl (.inl rfl) zKj zKi) (zQa (zQd 3 rfl (.inl rfl) zQv zQu) (zQc)))))))))))))
theorem vYa (T : Top w K mg) (sm : SM base) {k : Nat} (hk : 7 ≤ k) : ∃ (f : Addr) (fd : FuncData) (dv : List Value) (dvs : List V), FnG P w K mg base k f fd ["table", "many", "registers", "scanning"] (spG K (["table", "many", "registers", "scanning"] : List Str).length zGq) ∧ mg "longer_run" = some (.ref f) ∧ PySem.W.keepIn K (.ref f) = true ∧ Vals dvs dv ∧ (∀ F : Hp, RA K F [] dvs) ∧
    ∀ (s : Shared) (us ws : List Value), K.In s.heap → us.length = 2 → ws.length = (["registers", "scanning"] : List Str).length → BindsTo s fd ⟨us, (["registers", "scanning"] : List Str).zip ws⟩ ((["table", "many", "registers", "scanning"] : List Str).zip (pick [0, 1, 2, 3] (us ++ ws ++ dv))) :=
  yUe T.f_longer_run hk (yHv T sm) 2 ["registers", "scanning"] [] [0, 1, 2, 3] [] (by simp) (by simp) (fun _ => .nil) fun _ _ _ _ _ _ us mv ws h1 h2 h3 => match us, mv, ws, h1, h2, h3 with | [_, _], [], [_, _], _, _, _ => rfl
theorem xKw : FnScope ["table", "registers", "scanning"] ["table", "registers", "scanning"] (defScope (zQo 61)) := ⟨rfl, rfl, rfl, by decide +kernel, rfl, by decide +kernel, by decide +kernel⟩
theorem xK5 (T : Top w K mg) (sm : SM base) {f : Addr} {fd : FuncData} (F : Fun K "overrun" "overrun" (zQo 61) f fd) : FnG P w K mg base 8 f fd ["table", "registers", "scanning"] (spG K 3 (zQ2 3 yX8)) :=
  zXk F xKw sm rfl rfl fun cdv A outer s H E B C po hr => zQj (zQn (zX1 C ⟨vYa T sm (by decide)⟩ rfl rfl hr rfl (zQa (zQd 0 rfl (.inl rfl) zQ6 zQ5) (zQa (zQe) (zQc))) (zQx (zQd 1 rfl (.inl rfl) zZl zZk) (zQx (zQd 2 rfl (.inl rfl) zQv zQu) (zZj)))))
theorem vQu (T : Top w K mg) (sm : SM base) {k : Nat} (hk : 8 ≤ k) : ∃ (f : Addr) (fd : FuncData) (dv : List Value) (dvs : List V), FnG P w K mg base k f fd ["table", "registers", "scanning"] (spG K (["table", "registers", "scanning"] : List Str).length zKc) ∧ mg "overrun" = some (.ref f) ∧ PySem.W.keepIn K (.ref f) = true ∧ Vals dvs dv ∧ (∀ F : Hp, RA K F [] dvs) ∧
    ∀ (s : Shared) (us ws : List Value), K.In s.heap → us.length = 1 → ws.length = (["registers", "scanning"] : List Str).length → BindsTo s fd ⟨us, (["registers", "scanning"] : List Str).zip ws⟩ ((["table", "registers", "scanning"] : List Str).zip (pick [0, 1, 2] (us ++ ws ++ dv))) :=
  yUe T.f_overrun hk (xK5 T sm) 1 ["registers", "scanning"] [] [0, 1, 2] [] (by simp) (by simp) (fun _ => .nil) fun _ _ _ _ _ _ us mv ws h1 h2 h3 => match us, mv, ws, h1, h2, h3 with | [_], [], [_, _], _, _, _ => rfl
theorem xKy : FnScope ["table"] ["table"] (defScope (zQo 43)) := ⟨rfl, rfl, rfl, by decide +kernel, rfl, by decide +kernel, by decide +kernel⟩
theorem xK7 (T : Top w K mg) (sm : SM base) {f : Addr} {fd : FuncData} (F : Fun K "case_of" "case_of" (zQo 43) f fd) : FnG P w K mg base 5 f fd ["table"] (spG K 1 (zQ2 1 yKv)) :=
  zXk F xKy sm rfl rfl fun cdv A outer s H E B C po hr => zQi (zZn (zQs C (zYw C (zQd 0 rfl (.inl rfl) zQ6 zQ5) (yJq (wGw T sm (k := 1) (by decide)) zY4) (hr.mono (by decide))) (zQk)) (zQj (zQn (zQe))) (zQy)) (zQj (zQn (zX0 (yWt.t (zYj (zJ3 C (hr.mono (by decide)) (zYe rfl (xKd T sm (k := 3) (by decide)) zVj) (zQt rfl T.zYr) (zQd 0 rfl (.inl rfl) zQ6 zQ5)) (zK4 (zJ3 C (hr.mono (by decide)) (zYe rfl (xKd T sm (k := 3) (by decide)) zVj) (zQt rfl T.zG2) (zQd 0 rfl (.inl rfl) zQ6 zQ5))))) (zQe) (zQe))))
theorem xZz (T : Top w K mg) (sm : SM base) {k : Nat} (hk : 5 ≤ k) : yVa P w K mg base k "case_of" ["table"] yQn := zXy T.f_case_of hk (xK7 T sm)
theorem yZ1 : FnScope ["table", "case", "steps"] ["table"] (defScope (zQo 48)) := ⟨rfl, rfl, rfl, by decide +kernel, rfl, by decide +kernel, by decide +kernel⟩
theorem yXd (T : Top w K mg) (sm : SM base) {f : Addr} {fd : FuncData} (F : Fun K "run_between_fields" "run_between_fields" (zQo 48) f fd) : FnG P w K mg base 6 f fd ["table"] (spG K 1 (zQ2 3 zVn)) :=
  zXk F yZ1 sm rfl rfl fun cdv A outer s H E B C po hr => zQi (zZa 1 C rfl (.inl rfl) (zQr C ⟨xZz T sm (by decide)⟩ rfl hr rfl (zQa (zQd 0 rfl (.inl rfl) zQ6 zQ5) (zQc)))) (zQi (zZn (zQs C (zQd 1 rfl (.inl rfl) yH4 yH1) (zQe)) (zQi (zZa 2 C rfl (.inl rfl) (zQf (zQa (zQt rfl T.zQ1) (zQa (zQf (zQa (zQk) (zQa (zQe) (zQa (zQe) (zQc))))) (zQa (zQf (zQa (zQk) (zQa (zQe) (zQc)))) (zQa (zQf (zQa (zQk) (zQa (zQe) (zQa (zQe) (zQa (zQe) (zQc)))))) (zQa (zQf (zQa (zQk) (zQa (zQe) (zQc)))) (zQa (zQf (zQa (zQk) (zQa (zQe) (zQa (zQe) (zQc))))) (zQa (zQt rfl T.yZm) (zQc)))))))))) (zQj (zQn (zQf (zQa (zQf (zQa (zQe) (zQa (zQf (zQa (zQf (zQa (zQw) (zQa (zQw) (zQc)))) (zQc))) (zQc)))) (zQa (zQf (zQa (zQe) (zQa (zQw) (zQc)))) (zQa (zQd 2 rfl (.inl rfl) zVc zVb) (zQc)))))))) (zQy)) (zQi (zZn (zQs C (zQd 1 rfl (.inl rfl) yH4 yH1) (zQe)) (zQi (zZa 2 C rfl (.inl rfl) (zQf (zQa (zQt rfl T.zQ1) (zQa (zQf (zQa (zQk) (zQa (zQe) (zQa (zQe) (zQc))))) (zQa (zQf (zQa (zQk) (zQa (zQe) (zQa (zQe) (zQa (zQe) (zQc)))))) (zQa (zQf (zQa (zQk) (zQa (zQe) (zQa (zQe) (zQa (zQw) (zQc)))))) (zQa (zQf (zQa (zQk) (zQa (zQe) (zQa (zQe) (zQa (zQe) (zQc)))))) (zQc)))))))) (zQj (zQn (zQf (zQa (zQf (zQa (zQe) (zQa (zQf (zQa (zQf (zQa (zQw) (zQa (zQe) (zQc)))) (zQa (zQf (zQa (zQw) (zQa (zQw) (zQc)))) (zQc)))) (zQc)))) (zQa (zQf (zQa (zQe) (zQa (zQw) (zQc)))) (zQa (zZb (zQd 2 rfl (.inl rfl) zVc zVb) (zQf (zQa (zQf (zQa (zQk) (zQa (zQe) (zQc)))) (zQa (zQf (zQa (zQk) (zQa (zQe) (zQa (zQe) (zQc))))) (zQa (zQt rfl T.yZm) (zQc)))))) (zQc)))))))) (zQy)) (zQi (zZa 2 C rfl (.inl rfl) (zQf (zQa (zQt rfl T.zQ1) (zQa (zQf (zQa (zQk) (zQa (zQe) (zQa (zQe) (zQa (zQe) (zQc)))))) (zQa (zQf (zQa (zQk) (zQa (zQe) (zQa (zQe) (zQa (zQe) (zQc)))))) (zQa (zQf (zQa (zQk) (zQa (zQe) (zQa (zQe) (zQa (zQw) (zQc)))))) (zQa (zQf (zQa (zQk) (zQa (zQe) (zQa (zQe) (zQc))))) (zQa (zQf (zQa (zQk) (zQa (zQe) (zQa (zQe) (zQc))))) (zQc))))))))) (zQi (zZa 2 C rfl (.inl rfl) (zZb (zQd 2 rfl (.inl rfl) zVc zVb) (zQf (zQa (zQf (zQa (zQk) (zQa (zQe) (zQa (zQe) (zQc))))) (zQa (zQf (zQa (zQk) (zQa (zQe) (zQa (zQe) (zQa (zQe) (zQc)))))) (zQa (zQf (zQa (zQk) (zQa (zQe) (zQc)))) (zQa (zQf (zQa (zQk) (zQa (zQe) (zQa (zQe) (zQc))))) (zQa (zQt rfl T.yZm) (zQc))))))))) (zQj (zQn (zQf (zQa (zQf (zQa (zQe) (zQa (zQf (zQa (zQf (zQa (zQe) (zQa (zQw) (zQc)))) (zQa (zQf (zQa (zQw) (zQa (zQe) (zQc)))) (zQa (zQf (zQa (zQw) (zQa (zQw) (zQc)))) (zQc))))) (zQc)))) (zQa (zQf (zQa (zQe) (zQa (zQw) (zQc)))) (zQa (zQd 2 rfl (.inl rfl) zVc zVb) (zQc)))))))))))
theorem yJj (T : Top w K mg) (sm : SM base) {k : Nat} (hk : 6 ≤ k) : yVa P w K mg base k "run_between_fields" ["table"] zJb := zXy T.f_run_between_fields hk (yXd T sm)
theorem xKu : FnScope ["x", "scanning"] ["x", "scanning"] (defScope (zQo 44)) := ⟨rfl, rfl, rfl, by decide +kernel, rfl, by decide +kernel, by decide +kernel⟩
theorem xK3 (T : Top w K mg) (sm : SM base) {f : Addr} {fd : FuncData} (F : Fun K "scanned" "scanned" (zQo 44) f fd) : FnG P w K mg base 1 f fd ["x", "scanning"] (spG K 2 (zQ2 2 yGo)) :=
  zXk F xKu sm rfl rfl fun cdv A outer s H E B C po hr => zQj (zQn (zX0 (zQs C (zQd 1 rfl (.inl rfl) zQv zQu) (zQt rfl T.zYp)) (zQf (zQa (zQf (zQa (zQk) (zQa (zQd 0 rfl (.inl rfl) wUm wUl) (zQc)))) (zQc))) (zQf (zQa (zQf (zQa (zQk) (zQa (zQd 0 rfl (.inl rfl) wUm wUl) (zQa (zQe) (zQc))))) (zQc)))))
theorem yV7 (T : Top w K mg) (sm : SM base) {k : Nat} (hk : 1 ≤ k) : yVa P w K mg base k "scanned" ["x", "scanning"] yQm := zXy T.f_scanned hk (xK3 T sm)
theorem yKr : FnScope ["table", "scanning", "steps"] ["table", "scanning"] (defScope (zQo 45)) := ⟨rfl, rfl, rfl, by decide +kernel, rfl, by decide +kernel, by decide +kernel⟩
theorem yKz (T : Top w K mg) (sm : SM base) {f : Addr} {fd : FuncData} (F : Fun K "run_with_white" "run_with_white" (zQo 45) f fd) : FnG P w K mg base 3 f fd ["table", "scanning"] (spG K 2 (zQ2 3 yQf)) :=
  zXk F yKr sm rfl rfl fun cdv A outer s H E B C po hr => zQi (zZn (zQs C (zYw C (zQd 0 rfl (.inl rfl) zQ6 zQ5) (yJq (wKj T sm (k := 1) (by decide)) zY4) (hr.mono (by decide))) (zQk)) (zQj (zQn (zQf (zQa (zQf (zQa (zQe) (zQa (zQf (zQc)) (zQc)))) (zQa (zQf (zQa (zQw) (zQa (zQw) (zQc)))) (zQa (zQf (zQa (zQt rfl T.zQ1) (zQa (zQf (zQa (zQk) (zQa (zQe) (zQc)))) (zQa (zQt rfl T.yZm) (zQc))))) (zQc))))))) (zQy)) (zQi (zZa 2 C rfl (.inl rfl) (zQf (zQa (zQt rfl T.zQ1) (yGk (zQr C ⟨yV7 T sm (by decide)⟩ rfl hr rfl (zQa (zQe) (zQa (zQd 1 rfl (.inl rfl) zQv zQu) (zQc)))) (zQa (zQf (zQa (zQk) (zQa (zQe) (zQc)))) (zQa (zQf (zQa (zQk) (zQa (zQe) (zQa (zQe) (zQa (zQe) (zQc)))))) (zQa (zQf (zQa (zQk) (zQa (zQe) (zQc)))) (zQa (zQt rfl T.yZm) (zQc))))))))) (zQj (zQn (zQf (zQa (zQf (zQa (zQe) (zQa (zQf (zQa (zQf (zQa (zQw) (zQc))) (zQc))) (zQc)))) (zQa (zQf (zQa (zQe) (zQa (zQw) (zQc)))) (zQa (zQd 2 rfl (.inl rfl) zVc zVb) (zQc))))))))
theorem yW3 (T : Top w K mg) (sm : SM base) {k : Nat} (hk : 3 ≤ k) : yVa P w K mg base k "run_with_white" ["table", "scanning"] zYn := zXy T.f_run_with_white hk (yKz T sm)
theorem yYo : FnScope ["table", "scanning", "steps"] ["table", "scanning"] (defScope (zQo 46)) := ⟨rfl, rfl, rfl, by decide +kernel, rfl, by decide +kernel, by decide +kernel⟩
theorem yYy (T : Top w K mg) (sm : SM base) {f : Addr} {fd : FuncData} (F : Fun K "run_with_two" "run_with_two" (zQo 46) f fd) : FnG P w K mg base 3 f fd ["table", "scanning"] (spG K 2 (zQ2 3 yZ6)) :=
  zXk F yYo sm rfl rfl fun cdv A outer s H E B C po hr => zQi (zZa 2 C rfl (.inl rfl) (zQf (zQa (zQt rfl T.zQ1) (zQa (zQf (zQa (zQk) (zQa (zQe) (zQa (zQe) (zQa (zQe) (zQc)))))) (zQa (zQf (zQa (zQk) (zQa (zQe) (zQa (zQe) (zQa (zQw) (zQc)))))) (yQe (zQr C ⟨yV7 T sm (by decide)⟩ rfl hr rfl (zQa (zQe) (zQa (zQd 1 rfl (.inl rfl) zQv zQu) (zQc)))))))))) (zQi (zZn (zQs C (zYw C (zQd 0 rfl (.inl rfl) zQ6 zQ5) (yJq (wKj T sm (k := 1) (by decide)) zY4) (hr.mono (by decide))) (zQk)) (zQj (zZa 2 C rfl (.inl rfl) (zZb (zQd 2 rfl (.inl rfl) zVc zVb) (zQf (zQa (zQf (zQa (zQk) (zQa (zQe) (zQa (zQe) (zQa (zQe) (zQc)))))) (zQa (zQf (zQa (zQk) (zQa (zQe) (zQc)))) (zQc))))))) (zQy)) (zQj (zQn (zQf (zQa (zQf (zQa (zQe) (zQa (zQf (zQa (zQf (zQa (zQe) (zQc))) (zQa (zQf (zQa (zQw) (zQc))) (zQc)))) (zQc)))) (zQa (zQf (zQa (zQe) (zQa (zQw) (zQc)))) (zQa (zZb (zQd 2 rfl (.inl rfl) zVc zVb) (zQf (zQa (zQt rfl T.yZm) (zQc)))) (zQc))))))))
theorem yGd (T : Top w K mg) (sm : SM base) {k : Nat} (hk : 3 ≤ k) : yVa P w K mg base k "run_with_two" ["table", "scanning"] zHe := zXy T.f_run_with_two hk (yYy T sm)
theorem yKs : FnScope ["table", "scanning", "steps"] ["table", "scanning"] (defScope (zQo 47)) := ⟨rfl, rfl, rfl, by decide +kernel, rfl, by decide +kernel, by decide +kernel⟩
theorem yK0 (T : Top w K mg) (sm : SM base) {f : Addr} {fd : FuncData} (F : Fun K "run_with_three" "run_with_three" (zQo 47) f fd) : FnG P w K mg base 3 f fd ["table", "scanning"] (spG K 2 (zQ2 3 yQg)) :=
  zXk F yKs sm rfl rfl fun cdv A outer s H E B C po hr => zQi (zZa 2 C rfl (.inl rfl) (zQf (zQa (zQt rfl T.zQ1) (zQa (zQf (zQa (zQk) (zQa (zQe) (zQa (zQe) (zQa (zQe) (zQc)))))) (zQa (zQf (zQa (zQk) (zQa (zQe) (zQa (zQe) (zQa (zQe) (zQc)))))) (zQa (zQf (zQa (zQk) (zQa (zQe) (zQa (zQe) (zQa (zQw) (zQc)))))) (zQc))))))) (zQi (zZa 2 C rfl (.inl rfl) (zZb (zZb (zQd 2 rfl (.inl rfl) zVc zVb) (zQr C ⟨yV7 T sm (by decide)⟩ rfl hr rfl (zQa (zQe) (zQa (zQd 1 rfl (.inl rfl) zQv zQu) (zQc))))) (zQr C ⟨yV7 T sm (by decide)⟩ rfl hr rfl (zQa (zQe) (zQa (zQd 1 rfl (.inl rfl) zQv zQu) (zQc)))))) (zQi (zZn (zQs C (zYw C (zQd 0 rfl (.inl rfl) zQ6 zQ5) (yJq (wKj T sm (k := 1) (by decide)) zY4) (hr.mono (by decide))) (zQk)) (zQj (zZa 2 C rfl (.inl rfl) (zZb (zQd 2 rfl (.inl rfl) zVc zVb) (zQf (zQa (zQf (zQa (zQk) (zQa (zQe) (zQa (zQe) (zQa (zQe) (zQc)))))) (zQa (zQf (zQa (zQk) (zQa (zQe) (zQc)))) (zQc))))))) (zQy)) (zQj (zQn (zQf (zQa (zQf (zQa (zQe) (zQa (zQf (zQa (zQf (zQa (zQe) (zQc))) (zQa (zQf (zQa (zQe) (zQc))) (zQa (zQf (zQa (zQw) (zQc))) (zQc))))) (zQc)))) (zQa (zQf (zQa (zQe) (zQa (zQw) (zQc)))) (zQa (zZb (zQd 2 rfl (.inl rfl) zVc zVb) (zQf (zQa (zQt rfl T.yZm) (zQc)))) (zQc)))))))))
theorem yW4 (T : Top w K mg) (sm : SM base) {k : Nat} (hk : 3 ≤ k) : yVa P w K mg base k "run_with_three" ["table", "scanning"] zYo := zXy T.f_run_with_three hk (yK0 T sm)
theorem yHi : FnScope ["table", "registers", "scanning", "case"] ["table", "registers", "scanning"] (defScope (zQo 49)) := ⟨rfl, rfl, rfl, by decide +kernel, rfl, by decide +kernel, by decide +kernel⟩
theorem yHu (T : Top w K mg) (sm : SM base) {f : Addr} {fd : FuncData} (F : Fun K "losing_run" "losing_run" (zQo 49) f fd) : FnG P w K mg base 7 f fd ["table", "registers", "scanning"] (spG K 3 (zQ2 4 yQ5)) :=
  zXk F yHi sm rfl rfl fun cdv A outer s H E B C po hr => zQi (zZn (zX2 (zX1 C ⟨vW9 T sm (by decide)⟩ rfl rfl hr rfl (zQa (zQd 0 rfl (.inl rfl) zQ6 zQ5) (zQc)) (zQx (zQd 1 rfl (.inl rfl) zZl zZk) (zQx (zQd 2 rfl (.inl rfl) zQv zQu) (zZj))))) (zQj (zQn (zQw))) (zQy)) (zQi (zZn (zQs C (zQd 1 rfl (.inl rfl) zZl zZk) (zQe)) (zQj (zQn (zQf (zQa (zQf (zQa (zQe) (zQa (zQf (zQc)) (zQc)))) (zQa (zQf (zQa (zQw) (zQc))) (zQa (zQf (zQa (zQt rfl T.zQ1) (zQa (zQf (zQa (zQk) (zQa (zQe) (zQc)))) (zQa (zQt rfl T.yZm) (zQc))))) (zQc))))))) (zQy)) (zQi (zZn (yWt.t (yQ1 (zQs C (zYw C (zQd 0 rfl (.inl rfl) zQ6 zQ5) (yJq (wKj T sm (k := 1) (by decide)) zY4) (hr.mono (by decide))) (zQk)) (zG6 (yWt.t (zYj (zJ3 C (hr.mono (by decide)) (zYe rfl (xKd T sm (k := 3) (by decide)) zVj) (zQt rfl T.zYq) (zQd 0 rfl (.inl rfl) zQ6 zQ5)) (zK4 (zJ3 C (hr.mono (by decide)) (zYe rfl (xKd T sm (k := 3) (by decide)) zVj) (zQt rfl T.zZz) (zQd 0 rfl (.inl rfl) zQ6 zQ5)))))))) (zQj (zQn (zQr C ⟨yJj T sm (by decide)⟩ rfl hr rfl (zQa (zQd 0 rfl (.inl rfl) zQ6 zQ5) (zQc))))) (zQy)) (zQi (zZa 3 C rfl (.inl rfl) (zQr C ⟨xZz T sm (by decide)⟩ rfl hr rfl (zQa (zQd 0 rfl (.inl rfl) zQ6 zQ5) (zQc)))) (zQi (zZn (zQs C (zQd 3 rfl (.inl rfl) yH4 yH1) (zQe)) (zQj (zQn (zQr C ⟨yW3 T sm (by decide)⟩ rfl hr rfl (zQa (zQd 0 rfl (.inl rfl) zQ6 zQ5) (zQa (zQd 2 rfl (.inl rfl) zQv zQu) (zQc)))))) (zQy)) (zQj (zQn (zX0 (zQs C (zQd 3 rfl (.inl rfl) yH4 yH1) (zQe)) (zQr C ⟨yGd T sm (by decide)⟩ rfl hr rfl (zQa (zQd 0 rfl (.inl rfl) zQ6 zQ5) (zQa (zQd 2 rfl (.inl rfl) zQv zQu) (zQc)))) (zQr C ⟨yW4 T sm (by decide)⟩ rfl hr rfl (zQa (zQd 0 rfl (.inl rfl) zQ6 zQ5) (zQa (zQd 2 rfl (.inl rfl) zQv zQu) (zQc)))))))))))
theorem vJz (T : Top w K mg) (sm : SM base) {k : Nat} (hk : 7 ≤ k) : ∃ (f : Addr) (fd : FuncData) (dv : List Value) (dvs : List V), FnG P w K mg base k f fd ["table", "registers", "scanning"] (spG K (["table", "registers", "scanning"] : List Str).length zKd) ∧ mg "losing_run" = some (.ref f) ∧ PySem.W.keepIn K (.ref f) = true ∧ Vals dvs dv ∧ (∀ F : Hp, RA K F [] dvs) ∧
    ∀ (s : Shared) (us ws : List Value), K.In s.heap → us.length = 1 → ws.length = (["registers", "scanning"] : List Str).length → BindsTo s fd ⟨us, (["registers", "scanning"] : List Str).zip ws⟩ ((["table", "registers", "scanning"] : List Str).zip (pick [0, 1, 2] (us ++ ws ++ dv))) :=
  yUe T.f_losing_run hk (yHu T sm) 1 ["registers", "scanning"] [] [0, 1, 2] [] (by simp) (by simp) (fun _ => .nil) fun _ _ _ _ _ _ us mv ws h1 h2 h3 => match us, mv, ws, h1, h2, h3 with | [_], [], [_, _], _, _, _ => rfl
theorem xHw : FnScope ["table", "goal", "registers", "scanning", "names", "way"] ["table", "goal", "registers", "scanning"] (defScope (zQo 85)) := ⟨rfl, rfl, rfl, by decide +kernel, rfl, by decide +kernel, by decide +kernel⟩
theorem xH9 (T : Top w K mg) (sm : SM base) {f : Addr} {fd : FuncData} (F : FunA K "judge" "judge" (zQo 85) f fd) : FnG P w K mg base 9 f fd ["table", "goal", "registers", "scanning"] (spG K 4 (zQ2 6 yHt)) :=
  wXb F xHw sm rfl rfl fun cdv A outer s H E B C po hr => zQi (yYj (own := [("way", 5)]) 4 C rfl rfl (by rfl) (yXs (by rfl)) (zZw) (xXj.e (zVa (zX1 C ⟨vJ0 T sm (by decide)⟩ rfl rfl hr rfl (zQa (zQd 1 rfl (.inl rfl) zH6 zH5) (zQc)) (zQx (zQd 2 rfl (.inl rfl) zZl zZk) (zQx (zQd 3 rfl (.inl rfl) zQv zQu) (zZj)))))) (fun s1 H1 K1 l1 p1 => zZc 5 (zXm C s1 H1 K1 l1 p1) rfl (.inl rfl) (by decide)) (fun s1 H1 K1 l1 p1 => yZx (zX2 (zQr (zXm C s1 H1 K1 l1 p1) ⟨wZ9 T sm (by decide)⟩ rfl hr rfl (zQa (zQd 0 rfl (.inr (.inl rfl)) zQ6 zQ5) (zQa (zQd 5 rfl (.inl rfl) xVq xVm) (zQc)))))) (fun s1 H1 K1 l1 p1 => zZx (zXm C s1 H1 K1 l1 p1) (zQd 5 rfl (.inl rfl) xVq xVm) (zQe) zZh)) (zQi (zZn (zQs C (zQd 4 rfl (.inl rfl) xVr xVn) (zZs (zQc))) (zQj (zQn (zQf (zQa (zQt rfl T.xGl) (zQa (zZx C (zQd 4 rfl (.inl rfl) xVr xVn) (zQe) zZh) (zQc)))))) (zQy)) (zQi (zZn (zQs C (zQd 1 rfl (.inl rfl) zH6 zH5) (zQk)) (zQj (zQn (zQf (zQa (zQt rfl T.wQ5) (zQa (zX1 C ⟨vJz T sm (by decide)⟩ rfl rfl hr rfl (zQa (zQd 0 rfl (.inr (.inl rfl)) zQ6 zQ5) (zQc)) (zQx (zQd 2 rfl (.inl rfl) zZl zZk) (zQx (zQd 3 rfl (.inl rfl) zQv zQu) (zZj)))) (zQc)))))) (zQy)) (zQi (zZn (zQs C (zQd 1 rfl (.inl rfl) zH6 zH5) (zQk)) (zQj (zQn (zQf (zQa (zQt rfl T.wQ5) (zQa (zX1 C ⟨vQv T sm (by decide)⟩ rfl rfl hr rfl (zQa (zQd 0 rfl (.inr (.inl rfl)) zQ6 zQ5) (zQc)) (zQx (zQd 2 rfl (.inl rfl) zZl zZk) (zQx (zQd 3 rfl (.inl rfl) zQv zQu) (zZj)))) (zQc)))))) (zQy)) (zQj (zQn (zQf (zQa (zQt rfl T.wQ5) (zQa (zX1 C ⟨vQu T sm (by decide)⟩ rfl rfl hr rfl (zQa (zQd 0 rfl (.inr (.inl rfl)) zQ6 zQ5) (zQc)) (zQx (zQd 2 rfl (.inl rfl) zZl zZk) (zQx (zQd 3 rfl (.inl rfl) zQv zQu) (zZj)))) (zQc)))))))))
theorem vW8 (T : Top w K mg) (sm : SM base) {k : Nat} (hk : 9 ≤ k) : ∃ (f : Addr) (fd : FuncData) (dv : List Value) (dvs : List V), FnG P w K mg base k f fd ["table", "goal", "registers", "scanning"] (spG K (["table", "goal", "registers", "scanning"] : List Str).length yV9) ∧ mg "judge" = some (.ref f) ∧ PySem.W.keepIn K (.ref f) = true ∧ Vals dvs dv ∧ (∀ F : Hp, RA K F ([.str "safe"] ++ []) dvs) ∧
    ∀ (s : Shared) (us ws : List Value), K.In s.heap → us.length = 2 → ws.length = (["registers", "scanning"] : List Str).length → BindsTo s fd ⟨us, (["registers", "scanning"] : List Str).zip ws⟩ ((["table", "goal", "registers", "scanning"] : List Str).zip (pick [0, 1, 2, 3] (us ++ ws ++ dv))) :=
  xJg T.f_judge hk (xH9 T sm) 2 ["registers", "scanning"] [] [0, 1, 2, 3] [.str "safe"] [] (by simp) (by simp) (by simp) (fun _ => .cons (.str _) (.nil)) (fun _ => .nil) fun _ _ _ _ _ _ _ us its mv ws h1 h2 h3 h4 => match us, its, mv, ws, h1, h2, h3, h4 with | [_, _], [_], [], [_, _], _, _, _, _ => ⟨_, rfl, rfl⟩
theorem yVg : FnScope ["_law_few", "_law_more", "_law_places", "_law_mode", "_law_one", "_law_two"] ["_law_few", "_law_more"] (defScope (zQo 94)) := ⟨rfl, rfl, rfl, by decide +kernel, rfl, by decide +kernel, by decide +kernel⟩
theorem yVl (T : Top w K mg) (sm : SM base) {f : Addr} {fd : FuncData} (F : Fun K "_law_pair_right" "_law_pair_right" (zQo 94) f fd) : FnG P w K mg base 10 f fd ["_law_few", "_law_more"] (spG K 2 (zQ2 6 zK9)) :=
  zXk F yVg sm rfl rfl fun cdv A outer s H E B C po hr => zQi (zZn (yWt.t (zYj (zVy (zX2 (zGe (zQd 0 rfl (.inl rfl) zJd zJc) (yV4 C (vYk T sm (k := 2) (by decide)) (hr.mono (by decide)) zGk) (zYx (zQa (zQd 1 rfl (.inl rfl) zXp zXo) (zQc)) (zZj)) rfl rfl))) (zK4 (zQs C (zQr C ⟨yUh T sm (by decide)⟩ rfl hr rfl (zQa (zQd 0 rfl (.inl rfl) zJd zJc) (zQc))) (zQr C ⟨yUh T sm (by decide)⟩ rfl hr rfl (zQa (zQd 1 rfl (.inl rfl) zXp zXo) (zQc))))))) (zQj (zQn (zVx))) (zQy)) (zQi (yZv (is := [2, 3]) C po (zVa (xQw C ⟨yUf T sm (by decide)⟩ hr rfl)) (yVf 2 C (zXr (zZc 2 C rfl (.inl rfl) (by decide)) (zXr (zZc 3 C rfl (.inl rfl) (by decide)) (yZ0)))) (xZp (zVz (zZw) (zVz (zZw) (yY3)))) (zQi (zZa 4 C rfl (.inl rfl) (zZs (zQa (zX1 C ⟨vQv T sm (by decide)⟩ rfl rfl hr rfl (zQa (zQd 0 rfl (.inl rfl) zJd zJc) (zQc)) (zQx (zQd 2 rfl (.inl rfl) zJ7 zJ6) (zQx (zQd 3 rfl (.inl rfl) zK1 zK0) (zZj)))) (zQa (zX1 C ⟨vQv T sm (by decide)⟩ rfl rfl hr rfl (zQa (zQd 1 rfl (.inl rfl) zXp zXo) (zQc)) (zQx (zQd 2 rfl (.inl rfl) zJ7 zJ6) (zQx (zQd 3 rfl (.inl rfl) zK1 zK0) (zZj)))) (zQc))))) (zQi (zZn (yWt.t (yQ1 (zQs C (zZx C (zQd 4 rfl (.inl rfl) yJ5 yJ4) (zQe) zZh) (zQw)) (zG6 (zQs C (zZx C (zQd 4 rfl (.inl rfl) yJ5 yJ4) (zQe) zZh) (zQw))))) (zQj (zQn (zVx))) (zQy)) (zQi (zZa 5 C rfl (.inl rfl) (zZs (zQa (zX1 C ⟨vQu T sm (by decide)⟩ rfl rfl hr rfl (zQa (zQd 0 rfl (.inl rfl) zJd zJc) (zQc)) (zQx (zQd 2 rfl (.inl rfl) zJ7 zJ6) (zQx (zQd 3 rfl (.inl rfl) zK1 zK0) (zZj)))) (zQa (zX1 C ⟨vQu T sm (by decide)⟩ rfl rfl hr rfl (zQa (zQd 1 rfl (.inl rfl) zXp zXo) (zQc)) (zQx (zQd 2 rfl (.inl rfl) zJ7 zJ6) (zQx (zQd 3 rfl (.inl rfl) zK1 zK0) (zZj)))) (zQc))))) (zQi (zZn (yWt.t (yQ1 (zQs C (zZx C (zQd 5 rfl (.inl rfl) yY7 yY5) (zQe) zZh) (zQw)) (zG6 (zQs C (zZx C (zQd 5 rfl (.inl rfl) yY7 yY5) (zQe) zZh) (zQw))))) (zQj (zQn (zVx))) (zQy)) (zQj (zZn (yWt.t (yQ1 (zQs C (zZx C (zQd 4 rfl (.inl rfl) yJ5 yJ4) (zQe) zZh) (zQw)) (zG6 (zQs C (zYw C (zQd 1 rfl (.inl rfl) zXp zXo) (yJq (wGw T sm (k := 1) (by decide)) zY4) (hr.mono (by decide))) (zQk))))) (zQi (zZn (zQs C (zZx C (zX1 C ⟨vW8 T sm (by decide)⟩ rfl rfl hr rfl (zQa (zQd 1 rfl (.inl rfl) zXp zXo) (zQa (zQk) (zQc))) (zQx (zQd 2 rfl (.inl rfl) zJ7 zJ6) (zQx (zQd 3 rfl (.inl rfl) zK1 zK0) (zZj)))) (zQe) zZh) (zQk)) (zQj (zQn (zVx))) (zQy)) (zQj (zZn (zQs C (zX1 C ⟨vJz T sm (by decide)⟩ rfl rfl hr rfl (zQa (zQd 1 rfl (.inl rfl) zXp zXo) (zQc)) (zQx (zQd 2 rfl (.inl rfl) zJ7 zJ6) (zQx (zQd 3 rfl (.inl rfl) zK1 zK0) (zZj)))) (zQw)) (zQj (zQn (zVx))) (zQy)))) (zQy)))))))) (zQj (zQn (zVx))))
theorem zJq (T : Top w K mg) (sm : SM base) {k : Nat} (hk : 10 ≤ k) : yVa P w K mg base k "_law_pair_right" ["_law_few", "_law_more"] zZp := zXy T.f__law_pair_right hk (yVl T sm)
theorem yHm : FnScope ["cls", "fresh", "roots"] ["cls", "fresh", "roots"] (defScope (zXz (zQo 81) 4)) := ⟨rfl, rfl, rfl, by decide +kernel, rfl, by decide +kernel, by decide +kernel⟩
theorem yHy (T : Top w K mg) (sm : SM base) {f : Addr} {fd : FuncData} (F : Fun K "full" "Table.full" (zXz (zQo 81) 4) f fd) : FnG P w K mg base 6 f fd ["cls", "fresh", "roots"] (spG K 3 (zQ2 3 yQ8)) :=
  zXk F yHm sm rfl rfl fun cdv A outer s H E B C po hr => zQj (zQn (xJ8 (zQd 0 rfl (.inl rfl) wZ4 wZ3) (wXh C (wGx T sm (k := 4) (by decide)) (hr.mono (by decide)) xKe) (yKo (zQt rfl T.zYg) (zQx (zQd 1 rfl (.inl rfl) yJb yJa) (zQx (zQd 2 rfl (.inl rfl) yZg yZd) (zZj)))) rfl))
theorem vQ6 (T : Top w K mg) (sm : SM base) {k : Nat} (hk : 6 ≤ k) : yG4 P w K mg base k "Table" (wKn K "full") ["fresh", "roots"] (pD 1 2 3 [0, 1, 2] [] zGr) := zU8 T.m_Table_full (fun F => vJ5 (ps := ["cls", "fresh", "roots"]) (yHy T sm) hk 1 [] [0, 1, 2] [] (by simp) (by simp) (fun _ => .nil) rfl (fun _ _ _ _ _ _ us mv ws h1 h2 h3 => match us, mv, ws, h1, h2, h3 with | [_], [], [_, _], _, _, _ => rfl) F)
theorem wK1 : FnScope ["_law_script", "_law_pen_here", "_law_turn", "_law_rule_here", "_law_other", "_law_few", "_law_more", "_law_shared"] ["_law_script"] (defScope (zQo 95)) := ⟨rfl, rfl, rfl, by decide +kernel, rfl, by decide +kernel, by decide +kernel⟩
theorem wZz (T : Top w K mg) (sm : SM base) {f : Addr} {fd : FuncData} (F : Fun K "law" "law" (zQo 95) f fd) : FnG P w K mg base 11 f fd ["_law_script"] (spG K 1 (zQ2 8 xY1)) :=
  zXk F wK1 sm rfl rfl fun cdv A outer s H E B C po hr => zQi (xHq 1 C rfl (.inl rfl) (zQr C ⟨xWh T sm (by decide)⟩ rfl hr rfl (zQa (zQd 0 rfl (.inl rfl) yJv yJt) (zQc)))) (zQi (yZv (is := [2]) C po (yVe rfl T.b_range (zZm (zQe) (zZ0))) (zZc 2 C rfl (.inl rfl) (by decide)) (zZw) (zQi (zZa 3 C rfl (.inl rfl) (zQr C ⟨yUg T sm (by decide)⟩ rfl hr rfl (zQa (zQd 1 rfl (.inl rfl) zQq zQp) (zQc)))) (zQi (zZa 4 C rfl (.inl rfl) (zQr C ⟨yUg T sm (by decide)⟩ rfl hr rfl (zQa (zQd 1 rfl (.inl rfl) zQq zQp) (zQc)))) (zQi (zZa 5 C rfl (.inl rfl) (zQr C ⟨yXl T sm (by decide)⟩ rfl hr rfl (zQa (zQd 3 rfl (.inl rfl) zZe zZd) (zQc)))) (zQi (zZa 6 C rfl (.inl rfl) (yHf (zQd 5 rfl (.inl rfl) zJd zJc) (zQr C ⟨yXl T sm (by decide)⟩ rfl hr rfl (zQa (zQf (zQa (zZx C (zQd 4 rfl (.inl rfl) yVz yVs) (zQe) zZh) (zQa (zZx C (zQd 3 rfl (.inl rfl) zZe zZd) (zQe) zZh) (zQa (zZx C (zQd 3 rfl (.inl rfl) zZe zZd) (zQe) zZh) (zQc))))) (zQc))) (wJu C (vJ6 T sm (k := 7) (by decide)) (hr.mono (by decide)) xX4))) (zQi (zZa 7 C rfl (.inl rfl) (yHf (zQd 5 rfl (.inl rfl) zJd zJc) (zQr C ⟨yXl T sm (by decide)⟩ rfl hr rfl (zQa (zQf (zQa (zZx C (zQd 4 rfl (.inl rfl) yVz yVs) (zQe) zZh) (zQa (zZx C (zQd 3 rfl (.inl rfl) zZe zZd) (zQe) zZh) (zQa (zZx C (zQd 3 rfl (.inl rfl) zZe zZd) (zQe) zZh) (zQc))))) (zQc))) (wJu C (vQ7 T sm (k := 7) (by decide)) (hr.mono (by decide)) xX4))) (zQi (zZn (yWt.t (zYj (zVy (zX2 (zQr C ⟨zJq T sm (by decide)⟩ rfl hr rfl (zQa (zQd 5 rfl (.inl rfl) zJd zJc) (zQa (zQd 6 rfl (.inl rfl) zXp zXo) (zQc)))))) (zYj (zVy (zX2 (zQr C ⟨zJq T sm (by decide)⟩ rfl hr rfl (zQa (zQd 7 rfl (.inl rfl) yJu yJs) (zQa (zQd 5 rfl (.inl rfl) zJd zJc) (zQc)))))) (zK4 (zVy (zX2 (zQr C ⟨zJq T sm (by decide)⟩ rfl hr rfl (zQa (zQd 7 rfl (.inl rfl) yJu yJs) (zQa (zQd 6 rfl (.inl rfl) zXp zXo) (zQc)))))))))) (zQj (zQn (zVx))) (zQy)) (zQj (zZn (yWt.t (zYj (zVy (zX2 (zQr C ⟨zJq T sm (by decide)⟩ rfl hr rfl (zQa (zQd 5 rfl (.inl rfl) zJd zJc) (zQa (zQd 5 rfl (.inl rfl) zJd zJc) (zQc)))))) (zK4 (zVy (zX2 (zQr C ⟨zJq T sm (by decide)⟩ rfl hr rfl (zQa (zQd 6 rfl (.inl rfl) zXp zXo) (zQa (xQv (zQt rfl T.g_Table) (xGe C (vQ6 T sm (k := 6) (by decide)) (hr.mono (by decide)) xXe) (yYm (zQx (zZx C (zQd 3 rfl (.inl rfl) zZe zZd) (zQe) zZh) (zQx (zZx C (zQd 3 rfl (.inl rfl) zZe zZd) (zQe) zZh) (zZj)))) rfl rfl) (zQc))))))))) (zQj (zQn (zVx))) (zQy)))))))))) (zQj (zQn (zVx))))
theorem vYc (T : Top w K mg) (sm : SM base) {k : Nat} (hk : 11 ≤ k) : yVa P w K mg base k "law" ["_law_script"] xZ3 := zXy T.f_law hk (wZz T sm)
end
theorem all_mk {w : World} {K : PySem.W.Frag} {h : Heap} {mg : Str → Option Value} {fa : Addr} (X : K.In h) (G : h.Ns mainGlobals mg) (hfa : mg "law" = some (.ref fa))
    (xJt : PySem.W.nsIn K mainGlobals "list" = some none)
    (yG5 : PySem.W.nsIn K mainGlobals "tuple" = some none)
    (zHm : PySem.W.nsIn K mainGlobals "isinstance" = some none)
    (xG5 : PySem.W.nsIn K mainGlobals "str" = some none)
    (xG8 : PySem.W.nsIn K mainGlobals "len" = some none)
    (yQy : PySem.W.nsIn K mainGlobals "enumerate" = some none)
    (xHc : PySem.W.nsIn K mainGlobals "abs" = some none)
    (xG9 : PySem.W.nsIn K mainGlobals "int" = some none)
    (yW8 : PySem.W.nsIn K mainGlobals "sorted" = some none)
    (xG6 : PySem.W.nsIn K mainGlobals "set" = some none)
    (xHb : PySem.W.nsIn K mainGlobals "all" = some none)
    (xHa : PySem.W.nsIn K mainGlobals "any" = some none)
    (yG6 : PySem.W.nsIn K mainGlobals "range" = some none)
    (xG7 : PySem.W.nsIn K mainGlobals "max" = some none)
    {v_ENTRIES : Value} (yVc : PySem.W.nsIn K mainGlobals "ENTRIES" = some (some v_ENTRIES)) (yVj : rdK K 9 v_ENTRIES = some zYg)
    {v_COLORS : Value} (yW9 : PySem.W.nsIn K mainGlobals "COLORS" = some (some v_COLORS)) (yYf : rdK K 9 v_COLORS = some yKh)
    {v_KINDS : Value} (yG8 : PySem.W.nsIn K mainGlobals "KINDS" = some (some v_KINDS)) (yHp : rdK K 9 v_KINDS = some yUv)
    {t_WHOLE : Nat} (yG7 : PySem.W.nsIn K mainGlobals "WHOLE" = some (some (.str "whole" t_WHOLE)))
    {v_GOALS : Value} (yG9 : PySem.W.nsIn K mainGlobals "GOALS" = some (some v_GOALS)) (yHq : rdK K 9 v_GOALS = some yUw)
    {v_ONE_REGISTER : Value} (zYv : PySem.W.nsIn K mainGlobals "ONE_REGISTER" = some (some v_ONE_REGISTER)) (zY2 : rdK K 9 v_ONE_REGISTER = some zKm)
    {v_STRONG_WHOLE : Value} (zYs : PySem.W.nsIn K mainGlobals "STRONG_WHOLE" = some (some v_STRONG_WHOLE)) (zYz : rdK K 9 v_STRONG_WHOLE = some zKl)
    {v_STRONG_FIELDS : Value} (zK3 : PySem.W.nsIn K mainGlobals "STRONG_FIELDS" = some (some v_STRONG_FIELDS)) (zK5 : rdK K 9 v_STRONG_FIELDS = some zVw)
    {v_LIT_WAYS : Value} (yXz : PySem.W.nsIn K mainGlobals "LIT_WAYS" = some (some v_LIT_WAYS)) (yX5 : rdK K 9 v_LIT_WAYS = some yQu)
    {v_SOURCE_BLACK : Value} (zYu : PySem.W.nsIn K mainGlobals "SOURCE_BLACK" = some (some v_SOURCE_BLACK)) (zY1 : rdK K 9 v_SOURCE_BLACK = some zZz)
    {v_SOURCE_GREY : Value} (zGd : PySem.W.nsIn K mainGlobals "SOURCE_GREY" = some (some v_SOURCE_GREY)) (zGf : rdK K 9 v_SOURCE_GREY = some zYf)
    {v_BOTH : Value} (xJv : PySem.W.nsIn K mainGlobals "BOTH" = some (some v_BOTH)) (xVf : rdK K 9 v_BOTH = some xXf)
    {v_OF_WHITE : Value} (yXy : PySem.W.nsIn K mainGlobals "OF_WHITE" = some (some v_OF_WHITE)) (yX4 : rdK K 9 v_OF_WHITE = some yQt)
    {v_SNAPSHOT : Value} (yXw : PySem.W.nsIn K mainGlobals "SNAPSHOT" = some (some v_SNAPSHOT)) (yX2 : rdK K 9 v_SNAPSHOT = some yQs)
    {v_ONE : Value} (xHe : PySem.W.nsIn K mainGlobals "ONE" = some (some v_ONE)) (xHz : rdK K 9 v_ONE = some xJq)
    {v_START_overruns : Value} (zKn : PySem.W.nsIn K mainGlobals "START_overruns" = some (some v_START_overruns)) (zKo : rdK K 9 v_START_overruns = some zQ4)
    {v_NONE : Value} (xJu : PySem.W.nsIn K mainGlobals "NONE" = some (some v_NONE)) (xVe : rdK K 9 v_NONE = some yUu)
    {v_LOAD_GREY : Value} (yQ0 : PySem.W.nsIn K mainGlobals "LOAD_GREY" = some (some v_LOAD_GREY)) (yQ3 : rdK K 9 v_LOAD_GREY = some zYr)
    {v_OLD_GREY : Value} (yXx : PySem.W.nsIn K mainGlobals "OLD_GREY" = some (some v_OLD_GREY)) (yX3 : rdK K 9 v_OLD_GREY = some zG2)
    {v_START_losing : Value} (zYt : PySem.W.nsIn K mainGlobals "START_losing" = some (some v_START_losing)) (zY0 : rdK K 9 v_START_losing = some zQ1)
    {v_END : Value} (xHf : PySem.W.nsIn K mainGlobals "END" = some (some v_END)) (xH0 : rdK K 9 v_END = some yZm)
    {v_NEW_BLACK : Value} (yQz : PySem.W.nsIn K mainGlobals "NEW_BLACK" = some (some v_NEW_BLACK)) (yQ2 : rdK K 9 v_NEW_BLACK = some zYq)
    {t_YES : Nat} (xHd : PySem.W.nsIn K mainGlobals "YES" = some (some (.str "yes" t_YES)))
    {t_NO : Nat} (wY5 : PySem.W.nsIn K mainGlobals "NO" = some (some (.str "no" t_NO)))
    {Ck_Mismatch : Addr} (zYi : PySem.W.nsIn K mainGlobals "Mismatch" = some (some (.ref Ck_Mismatch)))
    {Ck_InvalidEntry : Addr} (zJn : PySem.W.nsIn K mainGlobals "InvalidEntry" = some (some (.ref Ck_InvalidEntry)))
    {Ck_InvalidFresh : Addr} (zJm : PySem.W.nsIn K mainGlobals "InvalidFresh" = some (some (.ref Ck_InvalidFresh)))
    {Ck_InvalidRoots : Addr} (zJl : PySem.W.nsIn K mainGlobals "InvalidRoots" = some (some (.ref Ck_InvalidRoots)))
    {Ck_InvalidGoal : Addr} (zJ5 : PySem.W.nsIn K mainGlobals "InvalidGoal" = some (some (.ref Ck_InvalidGoal)))
    (yZb : vQ2 K Ck_Mismatch = true)
    (yZc : wVp K Ck_Mismatch [] = true)
    {odx_InvalidEntry anx_InvalidEntry : Option Addr} {slx_InvalidEntry : Array (Option Value)} {fx_InvalidEntry : Addr} {ocx_InvalidEntry kVx_InvalidEntry dcx_InvalidEntry pmx_InvalidEntry cdx_InvalidEntry ctx_InvalidEntry : Value}
    (zWd : wJ0 K Ck_InvalidEntry = true) (zYa : PySem.W.findIn K (.ref Ck_InvalidEntry) "__init__" = some (some (.ref fx_InvalidEntry))) (zWj : xWe K Ck_InvalidEntry fx_InvalidEntry ["index"] = true)
    (zWx : K.lookup fx_InvalidEntry = some ⟨ocx_InvalidEntry, odx_InvalidEntry, .func (PySem.W.fnOf "__init__" "InvalidEntry.__init__" (defArgs (zXz (zQo 8) 0)) (defBody (zXz (zQo 8) 0)) (defScope (zXz (zQo 8) 0)) .none kVx_InvalidEntry dcx_InvalidEntry pmx_InvalidEntry anx_InvalidEntry cdx_InvalidEntry ctx_InvalidEntry), slx_InvalidEntry⟩) (zK8 : PySem.W.codeIn K cdx_InvalidEntry "InvalidEntry.__init__" = true) (zW0 : PySem.W.keepIn K (.ref fx_InvalidEntry) = true)
    (zWg : wVp K Ck_InvalidEntry ["index"] = true)
    {odx_InvalidFresh anx_InvalidFresh : Option Addr} {slx_InvalidFresh : Array (Option Value)} {fx_InvalidFresh : Addr} {ocx_InvalidFresh kVx_InvalidFresh dcx_InvalidFresh pmx_InvalidFresh cdx_InvalidFresh ctx_InvalidFresh : Value}
    (zWc : wJ0 K Ck_InvalidFresh = true) (zW9 : PySem.W.findIn K (.ref Ck_InvalidFresh) "__init__" = some (some (.ref fx_InvalidFresh))) (zWi : xWe K Ck_InvalidFresh fx_InvalidFresh ["value"] = true)
    (zWw : K.lookup fx_InvalidFresh = some ⟨ocx_InvalidFresh, odx_InvalidFresh, .func (PySem.W.fnOf "__init__" "InvalidFresh.__init__" (defArgs (zXz (zQo 9) 0)) (defBody (zXz (zQo 9) 0)) (defScope (zXz (zQo 9) 0)) .none kVx_InvalidFresh dcx_InvalidFresh pmx_InvalidFresh anx_InvalidFresh cdx_InvalidFresh ctx_InvalidFresh), slx_InvalidFresh⟩) (zK7 : PySem.W.codeIn K cdx_InvalidFresh "InvalidFresh.__init__" = true) (zWz : PySem.W.keepIn K (.ref fx_InvalidFresh) = true)
    (zWf : wVp K Ck_InvalidFresh ["value"] = true)
    {odx_InvalidRoots anx_InvalidRoots : Option Addr} {slx_InvalidRoots : Array (Option Value)} {fx_InvalidRoots : Addr} {ocx_InvalidRoots kVx_InvalidRoots dcx_InvalidRoots pmx_InvalidRoots cdx_InvalidRoots ctx_InvalidRoots : Value}
    (zWb : wJ0 K Ck_InvalidRoots = true) (zW8 : PySem.W.findIn K (.ref Ck_InvalidRoots) "__init__" = some (some (.ref fx_InvalidRoots))) (zWh : xWe K Ck_InvalidRoots fx_InvalidRoots ["value"] = true)
    (zWv : K.lookup fx_InvalidRoots = some ⟨ocx_InvalidRoots, odx_InvalidRoots, .func (PySem.W.fnOf "__init__" "InvalidRoots.__init__" (defArgs (zXz (zQo 10) 0)) (defBody (zXz (zQo 10) 0)) (defScope (zXz (zQo 10) 0)) .none kVx_InvalidRoots dcx_InvalidRoots pmx_InvalidRoots anx_InvalidRoots cdx_InvalidRoots ctx_InvalidRoots), slx_InvalidRoots⟩) (zK6 : PySem.W.codeIn K cdx_InvalidRoots "InvalidRoots.__init__" = true) (zWy : PySem.W.keepIn K (.ref fx_InvalidRoots) = true)
    (zWe : wVp K Ck_InvalidRoots ["value"] = true)
    {odx_InvalidGoal anx_InvalidGoal : Option Addr} {slx_InvalidGoal : Array (Option Value)} {fx_InvalidGoal : Addr} {ocx_InvalidGoal kVx_InvalidGoal dcx_InvalidGoal pmx_InvalidGoal cdx_InvalidGoal ctx_InvalidGoal : Value}
    (zY5 : wJ0 K Ck_InvalidGoal = true) (zUv : PySem.W.findIn K (.ref Ck_InvalidGoal) "__init__" = some (some (.ref fx_InvalidGoal))) (zY7 : xWe K Ck_InvalidGoal fx_InvalidGoal ["value"] = true)
    (zUp : K.lookup fx_InvalidGoal = some ⟨ocx_InvalidGoal, odx_InvalidGoal, .func (PySem.W.fnOf "__init__" "InvalidGoal.__init__" (defArgs (zXz (zQo 11) 0)) (defBody (zXz (zQo 11) 0)) (defScope (zXz (zQo 11) 0)) .none kVx_InvalidGoal dcx_InvalidGoal pmx_InvalidGoal anx_InvalidGoal cdx_InvalidGoal ctx_InvalidGoal), slx_InvalidGoal⟩) (zY3 : PySem.W.codeIn K cdx_InvalidGoal "InvalidGoal.__init__" = true) (zUq : PySem.W.keepIn K (.ref fx_InvalidGoal) = true)
    (zY6 : wVp K Ck_InvalidGoal ["value"] = true)
    {Ck_Table : Addr} (zZ8 : PySem.W.nsIn K mainGlobals "Table" = some (some (.ref Ck_Table))) (zZ4 : PySem.W.plainGet K Ck_Table Str.empty = true) (zZ3 : PySem.W.hasDictIn K Ck_Table = true) (zZ2 : PySem.W.plainOver K Ck_Table = true) (zZ1 : PySem.W.findIn K (.ref Ck_Table) "__setattr__" = some (some (.builtin "object.__setattr__")))
    (zJ0 : PySem.W.findIn K (.ref Ck_Table) "kept_fresh" = some none)
    (zJz : PySem.W.findIn K (.ref Ck_Table) "kept_roots" = some none)
    (zGs : PySem.W.findIn K (.ref Ck_Table) "kept" = some none)
    {uc_Table_ROOTS : Value} (zUr : PySem.W.findIn K (.ref Ck_Table) "ROOTS" = some (some uc_Table_ROOTS)) (zYy : rdK K 9 uc_Table_ROOTS = some (.tuple [.str "once", .str "again"])) (zUw : PySem.W.specialIn K uc_Table_ROOTS "__get__" = some none)
    {od_Table_is_beside an_Table_is_beside : Option Addr} {sl_Table_is_beside : Array (Option Value)} {f_Table_is_beside : Addr} {oc_Table_is_beside kV_Table_is_beside dc_Table_is_beside pm_Table_is_beside cd_Table_is_beside ct_Table_is_beside : Value}
    (zVd : K.lookup f_Table_is_beside = some ⟨oc_Table_is_beside, od_Table_is_beside, .func (PySem.W.fnOf "is_beside" "Table.is_beside" (defArgs (zXz (zQo 81) 11)) (defBody (zXz (zQo 81) 11)) (defScope (zXz (zQo 81) 11)) .none kV_Table_is_beside dc_Table_is_beside pm_Table_is_beside an_Table_is_beside cd_Table_is_beside ct_Table_is_beside), sl_Table_is_beside⟩) (zJx : PySem.W.codeIn K cd_Table_is_beside "Table.is_beside" = true) (zX5 : PySem.W.keepIn K (.ref f_Table_is_beside) = true)
    (zJy : PySem.W.isFn K (.ref f_Table_is_beside) = true)
    (zVf : PySem.W.findIn K (.ref Ck_Table) "is_beside" = some (some (.ref f_Table_is_beside)))
    {od_Table___init__ an_Table___init__ : Option Addr} {sl_Table___init__ : Array (Option Value)} {f_Table___init__ : Addr} {oc_Table___init__ dc_Table___init__ pm_Table___init__ cd_Table___init__ ct_Table___init__ : Value} {D_Table___init__ : Addr}
    (zV4 : K.lookup f_Table___init__ = some ⟨oc_Table___init__, od_Table___init__, .func (PySem.W.fnOf "__init__" "Table.__init__" (defArgs (zXz (zQo 81) 2)) (defBody (zXz (zQo 81) 2)) (defScope (zXz (zQo 81) 2)) .none (.ref D_Table___init__) dc_Table___init__ pm_Table___init__ an_Table___init__ cd_Table___init__ ct_Table___init__), sl_Table___init__⟩) (zVe : PySem.W.codeIn K cd_Table___init__ "Table.__init__" = true) (zV5 : PySem.W.keepIn K (.ref f_Table___init__) = true)
    (zVi : PySem.W.isFn K (.ref f_Table___init__) = true)
    {mt_Table___init___fresh : Nat} (zXj : PySem.W.nsIn K D_Table___init__ "fresh" = some (some (.str "black" mt_Table___init___fresh)))
    {mt_Table___init___roots : Nat} (zXi : PySem.W.nsIn K D_Table___init__ "roots" = some (some (.str "once" mt_Table___init___roots)))
    (zV7 : PySem.W.findIn K (.ref Ck_Table) "__init__" = some (some (.ref f_Table___init__)))
    (zVg : PySem.W.makesIn K Ck_Table = true) (zVh : PySem.W.keepIn K (.ref Ck_Table) = true)
    {od_Table_need_beside an_Table_need_beside : Option Addr} {sl_Table_need_beside : Array (Option Value)} {f_Table_need_beside : Addr} {oc_Table_need_beside kV_Table_need_beside dc_Table_need_beside pm_Table_need_beside cd_Table_need_beside ct_Table_need_beside : Value}
    (zJh : K.lookup f_Table_need_beside = some ⟨oc_Table_need_beside, od_Table_need_beside, .func (PySem.W.fnOf "need_beside" "Table.need_beside" (defArgs (zXz (zQo 81) 13)) (defBody (zXz (zQo 81) 13)) (defScope (zXz (zQo 81) 13)) .none kV_Table_need_beside dc_Table_need_beside pm_Table_need_beside an_Table_need_beside cd_Table_need_beside ct_Table_need_beside), sl_Table_need_beside⟩) (zX7 : PySem.W.codeIn K cd_Table_need_beside "Table.need_beside" = true) (zXh : PySem.W.keepIn K (.ref f_Table_need_beside) = true)
    (zJa : PySem.W.isFn K (.ref f_Table_need_beside) = true)
    (zJk : PySem.W.findIn K (.ref Ck_Table) "need_beside" = some (some (.ref f_Table_need_beside)))
    {od_Table_with_entries an_Table_with_entries : Option Addr} {sl_Table_with_entries : Array (Option Value)} {f_Table_with_entries : Addr} {oc_Table_with_entries kV_Table_with_entries dc_Table_with_entries pm_Table_with_entries cd_Table_with_entries ct_Table_with_entries : Value}
    (zX3 : K.lookup f_Table_with_entries = some ⟨oc_Table_with_entries, od_Table_with_entries, .func (PySem.W.fnOf "with_entries" "Table.with_entries" (defArgs (zXz (zQo 81) 9)) (defBody (zXz (zQo 81) 9)) (defScope (zXz (zQo 81) 9)) .none kV_Table_with_entries dc_Table_with_entries pm_Table_with_entries an_Table_with_entries cd_Table_with_entries ct_Table_with_entries), sl_Table_with_entries⟩) (zXu : PySem.W.codeIn K cd_Table_with_entries "Table.with_entries" = true) (zXc : PySem.W.keepIn K (.ref f_Table_with_entries) = true)
    (zXw : PySem.W.isFn K (.ref f_Table_with_entries) = true)
    (zX8 : PySem.W.findIn K (.ref Ck_Table) "with_entries" = some (some (.ref f_Table_with_entries)))
    {od_Table_empty an_Table_empty : Option Addr} {sl_Table_empty : Array (Option Value)} {f_Table_empty : Addr} {oc_Table_empty dc_Table_empty pm_Table_empty cd_Table_empty ct_Table_empty : Value} {D_Table_empty : Addr}
    (zUh : K.lookup f_Table_empty = some ⟨oc_Table_empty, od_Table_empty, .func (PySem.W.fnOf "empty" "Table.empty" (defArgs (zXz (zQo 81) 3)) (defBody (zXz (zQo 81) 3)) (defScope (zXz (zQo 81) 3)) .none (.ref D_Table_empty) dc_Table_empty pm_Table_empty an_Table_empty cd_Table_empty ct_Table_empty), sl_Table_empty⟩) (zWs : PySem.W.codeIn K cd_Table_empty "Table.empty" = true) (zUk : PySem.W.keepIn K (.ref f_Table_empty) = true)
    {p_Table_empty : Addr} {rs_Table_empty : List Value} (zUe : PySem.W.recIn K p_Table_empty "classmethod" = some (.ref f_Table_empty :: rs_Table_empty)) (zW7 : PySem.W.fnIn K f_Table_empty = true)
    {mt_Table_empty_fresh : Nat} (zJj : PySem.W.nsIn K D_Table_empty "fresh" = some (some (.str "black" mt_Table_empty_fresh)))
    {mt_Table_empty_roots : Nat} (zJi : PySem.W.nsIn K D_Table_empty "roots" = some (some (.str "once" mt_Table_empty_roots)))
    {mc_Table_empty : Value} (zH7 : PySem.W.typeIn K (.ref Ck_Table) = some mc_Table_empty) (zW4 : PySem.W.readsIn K Ck_Table mc_Table_empty = true) (zW3 : PySem.W.specialIn K (.ref Ck_Table) "__getattribute__" = some (some (.builtin "type.__getattribute__"))) (zUo : PySem.W.findCls K (.ref Ck_Table) mc_Table_empty "empty" = some (.get (.builtin "classmethod.__get__") (.ref p_Table_empty) .none (.ref Ck_Table)))
    {od_Table___or__ an_Table___or__ : Option Addr} {sl_Table___or__ : Array (Option Value)} {f_Table___or__ : Addr} {oc_Table___or__ kV_Table___or__ dc_Table___or__ pm_Table___or__ cd_Table___or__ ct_Table___or__ : Value}
    (zWo : K.lookup f_Table___or__ = some ⟨oc_Table___or__, od_Table___or__, .func (PySem.W.fnOf "__or__" "Table.__or__" (defArgs (zXz (zQo 81) 14)) (defBody (zXz (zQo 81) 14)) (defScope (zXz (zQo 81) 14)) .none kV_Table___or__ dc_Table___or__ pm_Table___or__ an_Table___or__ cd_Table___or__ ct_Table___or__), sl_Table___or__⟩) (zKs : PySem.W.codeIn K cd_Table___or__ "Table.__or__" = true) (zWp : PySem.W.keepIn K (.ref f_Table___or__) = true)
    (zKw : PySem.W.isFn K (.ref f_Table___or__) = true)
    (zWu : PySem.W.findIn K (.ref Ck_Table) "__or__" = some (some (.ref f_Table___or__)))
    (zKu : PySem.W.selfFirst K Ck_Table = true)
    {od_Table___contains__ an_Table___contains__ : Option Addr} {sl_Table___contains__ : Array (Option Value)} {f_Table___contains__ : Addr} {oc_Table___contains__ kV_Table___contains__ dc_Table___contains__ pm_Table___contains__ cd_Table___contains__ ct_Table___contains__ : Value}
    (zX4 : K.lookup f_Table___contains__ = some ⟨oc_Table___contains__, od_Table___contains__, .func (PySem.W.fnOf "__contains__" "Table.__contains__" (defArgs (zXz (zQo 81) 18)) (defBody (zXz (zQo 81) 18)) (defScope (zXz (zQo 81) 18)) .none kV_Table___contains__ dc_Table___contains__ pm_Table___contains__ an_Table___contains__ cd_Table___contains__ ct_Table___contains__), sl_Table___contains__⟩) (zXv : PySem.W.codeIn K cd_Table___contains__ "Table.__contains__" = true) (zX6 : PySem.W.keepIn K (.ref f_Table___contains__) = true)
    (zXx : PySem.W.isFn K (.ref f_Table___contains__) = true)
    (zX9 : PySem.W.findIn K (.ref Ck_Table) "__contains__" = some (some (.ref f_Table___contains__)))
    {od_Table_fresh an_Table_fresh : Option Addr} {sl_Table_fresh : Array (Option Value)} {f_Table_fresh : Addr} {oc_Table_fresh kV_Table_fresh dc_Table_fresh pm_Table_fresh cd_Table_fresh ct_Table_fresh : Value}
    (zUg : K.lookup f_Table_fresh = some ⟨oc_Table_fresh, od_Table_fresh, .func (PySem.W.fnOf "fresh" "Table.fresh" (defArgs (zXz (zQo 81) 7)) (defBody (zXz (zQo 81) 7)) (defScope (zXz (zQo 81) 7)) .none kV_Table_fresh dc_Table_fresh pm_Table_fresh an_Table_fresh cd_Table_fresh ct_Table_fresh), sl_Table_fresh⟩) (zWr : PySem.W.codeIn K cd_Table_fresh "Table.fresh" = true) (zUj : PySem.W.keepIn K (.ref f_Table_fresh) = true)
    {p_Table_fresh : Addr} {rs_Table_fresh : List Value} (zUd : PySem.W.recIn K p_Table_fresh "property" = some (.ref f_Table_fresh :: rs_Table_fresh)) (zW6 : PySem.W.specialIn K (.ref p_Table_fresh) "__get__" = some (some (.builtin "property.__get__"))) (zW2 : PySem.W.takesIn K (.ref p_Table_fresh) = some true)
    (zUn : PySem.W.findIn K (.ref Ck_Table) "fresh" = some (some (.ref p_Table_fresh)))
    {od_Table_roots an_Table_roots : Option Addr} {sl_Table_roots : Array (Option Value)} {f_Table_roots : Addr} {oc_Table_roots kV_Table_roots dc_Table_roots pm_Table_roots cd_Table_roots ct_Table_roots : Value}
    (zUf : K.lookup f_Table_roots = some ⟨oc_Table_roots, od_Table_roots, .func (PySem.W.fnOf "roots" "Table.roots" (defArgs (zXz (zQo 81) 8)) (defBody (zXz (zQo 81) 8)) (defScope (zXz (zQo 81) 8)) .none kV_Table_roots dc_Table_roots pm_Table_roots an_Table_roots cd_Table_roots ct_Table_roots), sl_Table_roots⟩) (zWq : PySem.W.codeIn K cd_Table_roots "Table.roots" = true) (zUi : PySem.W.keepIn K (.ref f_Table_roots) = true)
    {p_Table_roots : Addr} {rs_Table_roots : List Value} (zUc : PySem.W.recIn K p_Table_roots "property" = some (.ref f_Table_roots :: rs_Table_roots)) (zW5 : PySem.W.specialIn K (.ref p_Table_roots) "__get__" = some (some (.builtin "property.__get__"))) (zW1 : PySem.W.takesIn K (.ref p_Table_roots) = some true)
    (zUm : PySem.W.findIn K (.ref Ck_Table) "roots" = some (some (.ref p_Table_roots)))
    {od_Table_within an_Table_within : Option Addr} {sl_Table_within : Array (Option Value)} {f_Table_within : Addr} {oc_Table_within kV_Table_within dc_Table_within pm_Table_within cd_Table_within ct_Table_within : Value}
    (zWn : K.lookup f_Table_within = some ⟨oc_Table_within, od_Table_within, .func (PySem.W.fnOf "within" "Table.within" (defArgs (zXz (zQo 81) 12)) (defBody (zXz (zQo 81) 12)) (defScope (zXz (zQo 81) 12)) .none kV_Table_within dc_Table_within pm_Table_within an_Table_within cd_Table_within ct_Table_within), sl_Table_within⟩) (zKr : PySem.W.codeIn K cd_Table_within "Table.within" = true) (zVr : PySem.W.keepIn K (.ref f_Table_within) = true)
    (zKv : PySem.W.isFn K (.ref f_Table_within) = true)
    (zWt : PySem.W.findIn K (.ref Ck_Table) "within" = some (some (.ref f_Table_within)))
    {od_Table___and__ an_Table___and__ : Option Addr} {sl_Table___and__ : Array (Option Value)} {f_Table___and__ : Addr} {oc_Table___and__ kV_Table___and__ dc_Table___and__ pm_Table___and__ cd_Table___and__ ct_Table___and__ : Value}
    (zKp : K.lookup f_Table___and__ = some ⟨oc_Table___and__, od_Table___and__, .func (PySem.W.fnOf "__and__" "Table.__and__" (defArgs (zXz (zQo 81) 15)) (defBody (zXz (zQo 81) 15)) (defScope (zXz (zQo 81) 15)) .none kV_Table___and__ dc_Table___and__ pm_Table___and__ an_Table___and__ cd_Table___and__ ct_Table___and__), sl_Table___and__⟩) (zV6 : PySem.W.codeIn K cd_Table___and__ "Table.__and__" = true) (zKq : PySem.W.keepIn K (.ref f_Table___and__) = true)
    (zV9 : PySem.W.isFn K (.ref f_Table___and__) = true)
    (zKt : PySem.W.findIn K (.ref Ck_Table) "__and__" = some (some (.ref f_Table___and__)))
    (zV8 : PySem.W.selfFirst K Ck_Table = true)
    {od_Table_full an_Table_full : Option Addr} {sl_Table_full : Array (Option Value)} {f_Table_full : Addr} {oc_Table_full dc_Table_full pm_Table_full cd_Table_full ct_Table_full : Value} {D_Table_full : Addr}
    (zGm : K.lookup f_Table_full = some ⟨oc_Table_full, od_Table_full, .func (PySem.W.fnOf "full" "Table.full" (defArgs (zXz (zQo 81) 4)) (defBody (zXz (zQo 81) 4)) (defScope (zXz (zQo 81) 4)) .none (.ref D_Table_full) dc_Table_full pm_Table_full an_Table_full cd_Table_full ct_Table_full), sl_Table_full⟩) (zUl : PySem.W.codeIn K cd_Table_full "Table.full" = true) (zGn : PySem.W.keepIn K (.ref f_Table_full) = true)
    {p_Table_full : Addr} {rs_Table_full : List Value} (zGl : PySem.W.recIn K p_Table_full "classmethod" = some (.ref f_Table_full :: rs_Table_full)) (zUu : PySem.W.fnIn K f_Table_full = true)
    {mt_Table_full_fresh : Nat} (zJw : PySem.W.nsIn K D_Table_full "fresh" = some (some (.str "black" mt_Table_full_fresh)))
    {mt_Table_full_roots : Nat} (zJv : PySem.W.nsIn K D_Table_full "roots" = some (some (.str "once" mt_Table_full_roots)))
    {mc_Table_full : Value} (yZj : PySem.W.typeIn K (.ref Ck_Table) = some mc_Table_full) (zUt : PySem.W.readsIn K Ck_Table mc_Table_full = true) (zUs : PySem.W.specialIn K (.ref Ck_Table) "__getattribute__" = some (some (.builtin "type.__getattribute__"))) (zGo : PySem.W.findCls K (.ref Ck_Table) mc_Table_full "full" = some (.get (.builtin "classmethod.__get__") (.ref p_Table_full) .none (.ref Ck_Table)))
    {od0 an0 : Option Addr} {sl0 : Array (Option Value)} {f0 : Addr} {oc0 kV0 dc0 pm0 cd0 ct0 : Value}
    (a0 : PySem.W.nsIn K mainGlobals "_law_pen" = some (some (.ref f0))) (l0 : K.lookup f0 = some ⟨oc0, od0, .func (PySem.W.fnOf "_law_pen" "_law_pen" (defArgs (zQo 87)) (defBody (zQo 87)) (defScope (zQo 87)) .none kV0 dc0 pm0 an0 cd0 ct0), sl0⟩) (c0 : PySem.W.codeIn K cd0 "_law_pen" = true) (k0 : PySem.W.keepIn K (.ref f0) = true)
    {od1 an1 : Option Addr} {sl1 : Array (Option Value)} {f1 : Addr} {oc1 kV1 dc1 pm1 cd1 ct1 : Value}
    (a1 : PySem.W.nsIn K mainGlobals "listed" = some (some (.ref f1))) (l1 : K.lookup f1 = some ⟨oc1, od1, .func (PySem.W.fnOf "listed" "listed" (defArgs (zQo 68)) (defBody (zQo 68)) (defScope (zQo 68)) .none kV1 dc1 pm1 an1 cd1 ct1), sl1⟩) (c1 : PySem.W.codeIn K cd1 "listed" = true) (k1 : PySem.W.keepIn K (.ref f1) = true)
    {od2 an2 : Option Addr} {sl2 : Array (Option Value)} {f2 : Addr} {oc2 kV2 dc2 pm2 cd2 ct2 : Value}
    (a2 : PySem.W.nsIn K mainGlobals "is_color" = some (some (.ref f2))) (l2 : K.lookup f2 = some ⟨oc2, od2, .func (PySem.W.fnOf "is_color" "is_color" (defArgs (zQo 66)) (defBody (zQo 66)) (defScope (zQo 66)) .none kV2 dc2 pm2 an2 cd2 ct2), sl2⟩) (c2 : PySem.W.codeIn K cd2 "is_color" = true) (k2 : PySem.W.keepIn K (.ref f2) = true)
    {od3 an3 : Option Addr} {sl3 : Array (Option Value)} {f3 : Addr} {oc3 kV3 dc3 pm3 cd3 ct3 : Value}
    (a3 : PySem.W.nsIn K mainGlobals "is_entry" = some (some (.ref f3))) (l3 : K.lookup f3 = some ⟨oc3, od3, .func (PySem.W.fnOf "is_entry" "is_entry" (defArgs (zQo 67)) (defBody (zQo 67)) (defScope (zQo 67)) .none kV3 dc3 pm3 an3 cd3 ct3), sl3⟩) (c3 : PySem.W.codeIn K cd3 "is_entry" = true) (k3 : PySem.W.keepIn K (.ref f3) = true)
    {od4 an4 : Option Addr} {sl4 : Array (Option Value)} {f4 : Addr} {oc4 kV4 dc4 pm4 cd4 ct4 : Value}
    (a4 : PySem.W.nsIn K mainGlobals "sorted_entries" = some (some (.ref f4))) (l4 : K.lookup f4 = some ⟨oc4, od4, .func (PySem.W.fnOf "sorted_entries" "sorted_entries" (defArgs (zQo 69)) (defBody (zQo 69)) (defScope (zQo 69)) .none kV4 dc4 pm4 an4 cd4 ct4), sl4⟩) (c4 : PySem.W.codeIn K cd4 "sorted_entries" = true) (k4 : PySem.W.keepIn K (.ref f4) = true)
    {od5 an5 : Option Addr} {sl5 : Array (Option Value)} {f5 : Addr} {oc5 kV5 dc5 pm5 cd5 ct5 : Value}
    (a5 : PySem.W.nsIn K mainGlobals "_law_entries" = some (some (.ref f5))) (l5 : K.lookup f5 = some ⟨oc5, od5, .func (PySem.W.fnOf "_law_entries" "_law_entries" (defArgs (zQo 89)) (defBody (zQo 89)) (defScope (zQo 89)) .none kV5 dc5 pm5 an5 cd5 ct5), sl5⟩) (c5 : PySem.W.codeIn K cd5 "_law_entries" = true) (k5 : PySem.W.keepIn K (.ref f5) = true)
    {od6 an6 : Option Addr} {sl6 : Array (Option Value)} {f6 : Addr} {oc6 kV6 dc6 pm6 cd6 ct6 : Value}
    (a6 : PySem.W.nsIn K mainGlobals "_law_draw" = some (some (.ref f6))) (l6 : K.lookup f6 = some ⟨oc6, od6, .func (PySem.W.fnOf "_law_draw" "_law_draw" (defArgs (zQo 88)) (defBody (zQo 88)) (defScope (zQo 88)) .none kV6 dc6 pm6 an6 cd6 ct6), sl6⟩) (c6 : PySem.W.codeIn K cd6 "_law_draw" = true) (k6 : PySem.W.keepIn K (.ref f6) = true)
    {od7 an7 : Option Addr} {sl7 : Array (Option Value)} {f7 : Addr} {oc7 kV7 dc7 pm7 cd7 ct7 : Value}
    (a7 : PySem.W.nsIn K mainGlobals "_law_rule" = some (some (.ref f7))) (l7 : K.lookup f7 = some ⟨oc7, od7, .func (PySem.W.fnOf "_law_rule" "_law_rule" (defArgs (zQo 90)) (defBody (zQo 90)) (defScope (zQo 90)) .none kV7 dc7 pm7 an7 cd7 ct7), sl7⟩) (c7 : PySem.W.codeIn K cd7 "_law_rule" = true) (k7 : PySem.W.keepIn K (.ref f7) = true)
    {od8 an8 : Option Addr} {sl8 : Array (Option Value)} {f8 : Addr} {oc8 kV8 dc8 pm8 cd8 ct8 : Value}
    (a8 : PySem.W.nsIn K mainGlobals "_law_sheet" = some (some (.ref f8))) (l8 : K.lookup f8 = some ⟨oc8, od8, .func (PySem.W.fnOf "_law_sheet" "_law_sheet" (defArgs (zQo 91)) (defBody (zQo 91)) (defScope (zQo 91)) .none kV8 dc8 pm8 an8 cd8 ct8), sl8⟩) (c8 : PySem.W.codeIn K cd8 "_law_sheet" = true) (k8 : PySem.W.keepIn K (.ref f8) = true)
    {od9 an9 : Option Addr} {sl9 : Array (Option Value)} {f9 : Addr} {oc9 kV9 dc9 pm9 cd9 ct9 : Value}
    (a9 : PySem.W.nsIn K mainGlobals "_law_settings" = some (some (.ref f9))) (l9 : K.lookup f9 = some ⟨oc9, od9, .func (PySem.W.fnOf "_law_settings" "_law_settings" (defArgs (zQo 93)) (defBody (zQo 93)) (defScope (zQo 93)) .none kV9 dc9 pm9 an9 cd9 ct9), sl9⟩) (c9 : PySem.W.codeIn K cd9 "_law_settings" = true) (k9 : PySem.W.keepIn K (.ref f9) = true)
    {od10 an10 : Option Addr} {sl10 : Array (Option Value)} {f10 : Addr} {oc10 kV10 dc10 pm10 cd10 ct10 : Value}
    (a10 : PySem.W.nsIn K mainGlobals "least_freeing" = some (some (.ref f10))) (l10 : K.lookup f10 = some ⟨oc10, od10, .func (PySem.W.fnOf "least_freeing" "least_freeing" (defArgs (zQo 3)) (defBody (zQo 3)) (defScope (zQo 3)) .none kV10 dc10 pm10 an10 cd10 ct10), sl10⟩) (c10 : PySem.W.codeIn K cd10 "least_freeing" = true) (k10 : PySem.W.keepIn K (.ref f10) = true)
    {od11 an11 : Option Addr} {sl11 : Array (Option Value)} {f11 : Addr} {oc11 kV11 dc11 pm11 cd11 ct11 : Value}
    (a11 : PySem.W.nsIn K mainGlobals "_law_rank" = some (some (.ref f11))) (l11 : K.lookup f11 = some ⟨oc11, od11, .func (PySem.W.fnOf "_law_rank" "_law_rank" (defArgs (zQo 92)) (defBody (zQo 92)) (defScope (zQo 92)) .none kV11 dc11 pm11 an11 cd11 ct11), sl11⟩) (c11 : PySem.W.codeIn K cd11 "_law_rank" = true) (k11 : PySem.W.keepIn K (.ref f11) = true)
    {od12 an12 : Option Addr} {sl12 : Array (Option Value)} {f12 : Addr} {oc12 kV12 dc12 pm12 cd12 ct12 : Value}
    (a12 : PySem.W.nsIn K mainGlobals "scan_of" = some (some (.ref f12))) (l12 : K.lookup f12 = some ⟨oc12, od12, .func (PySem.W.fnOf "scan_of" "scan_of" (defArgs (zQo 4)) (defBody (zQo 4)) (defScope (zQo 4)) .none kV12 dc12 pm12 an12 cd12 ct12), sl12⟩) (c12 : PySem.W.codeIn K cd12 "scan_of" = true) (k12 : PySem.W.keepIn K (.ref f12) = true)
    {od13 an13 : Option Addr} {sl13 : Array (Option Value)} {f13 : Addr} {oc13 dc13 pm13 cd13 ct13 : Value} {D13 : Addr}
    (a13 : PySem.W.nsIn K mainGlobals "freeing_run" = some (some (.ref f13))) (l13 : K.lookup f13 = some ⟨oc13, od13, .func (PySem.W.fnOf "freeing_run" "freeing_run" (defArgs (zQo 5)) (defBody (zQo 5)) (defScope (zQo 5)) .none (.ref D13) dc13 pm13 an13 cd13 ct13), sl13⟩) (c13 : PySem.W.codeIn K cd13 "freeing_run" = true) (k13 : PySem.W.keepIn K (.ref f13) = true)
    {t13_registers : Nat} (zG0 : PySem.W.nsIn K D13 "registers" = some (some (.int 2 t13_registers)))
    {t13_scanning : Nat} (zHy : PySem.W.nsIn K D13 "scanning" = some (some (.str "whole" t13_scanning)))
    {od14 an14 : Option Addr} {sl14 : Array (Option Value)} {f14 : Addr} {oc14 kV14 dc14 pm14 cd14 ct14 : Value}
    (a14 : PySem.W.nsIn K mainGlobals "fits" = some (some (.ref f14))) (l14 : K.lookup f14 = some ⟨oc14, od14, .func (PySem.W.fnOf "fits" "fits" (defArgs (zQo 38)) (defBody (zQo 38)) (defScope (zQo 38)) .none kV14 dc14 pm14 an14 cd14 ct14), sl14⟩) (c14 : PySem.W.codeIn K cd14 "fits" = true) (k14 : PySem.W.keepIn K (.ref f14) = true)
    {od15 an15 : Option Addr} {sl15 : Array (Option Value)} {f15 : Addr} {oc15 kV15 dc15 pm15 cd15 ct15 : Value}
    (a15 : PySem.W.nsIn K mainGlobals "need_goal" = some (some (.ref f15))) (l15 : K.lookup f15 = some ⟨oc15, od15, .func (PySem.W.fnOf "need_goal" "need_goal" (defArgs (zQo 36)) (defBody (zQo 36)) (defScope (zQo 36)) .none kV15 dc15 pm15 an15 cd15 ct15), sl15⟩) (c15 : PySem.W.codeIn K cd15 "need_goal" = true) (k15 : PySem.W.keepIn K (.ref f15) = true)
    {od16 an16 : Option Addr} {sl16 : Array (Option Value)} {f16 : Addr} {oc16 kV16 dc16 pm16 cd16 ct16 : Value}
    (a16 : PySem.W.nsIn K mainGlobals "safe_ways" = some (some (.ref f16))) (l16 : K.lookup f16 = some ⟨oc16, od16, .func (PySem.W.fnOf "safe_ways" "safe_ways" (defArgs (zQo 34)) (defBody (zQo 34)) (defScope (zQo 34)) .none kV16 dc16 pm16 an16 cd16 ct16), sl16⟩) (c16 : PySem.W.codeIn K cd16 "safe_ways" = true) (k16 : PySem.W.keepIn K (.ref f16) = true)
    {od17 an17 : Option Addr} {sl17 : Array (Option Value)} {f17 : Addr} {oc17 kV17 dc17 pm17 cd17 ct17 : Value}
    (a17 : PySem.W.nsIn K mainGlobals "bounded_ways" = some (some (.ref f17))) (l17 : K.lookup f17 = some ⟨oc17, od17, .func (PySem.W.fnOf "bounded_ways" "bounded_ways" (defArgs (zQo 35)) (defBody (zQo 35)) (defScope (zQo 35)) .none kV17 dc17 pm17 an17 cd17 ct17), sl17⟩) (c17 : PySem.W.codeIn K cd17 "bounded_ways" = true) (k17 : PySem.W.keepIn K (.ref f17) = true)
    {od18 an18 : Option Addr} {sl18 : Array (Option Value)} {f18 : Addr} {oc18 dc18 pm18 cd18 ct18 : Value} {D18 : Addr}
    (a18 : PySem.W.nsIn K mainGlobals "ways" = some (some (.ref f18))) (l18 : K.lookup f18 = some ⟨oc18, od18, .func (PySem.W.fnOf "ways" "ways" (defArgs (zQo 37)) (defBody (zQo 37)) (defScope (zQo 37)) .none (.ref D18) dc18 pm18 an18 cd18 ct18), sl18⟩) (c18 : PySem.W.codeIn K cd18 "ways" = true) (k18 : PySem.W.keepIn K (.ref f18) = true)
    {t18_registers : Nat} (zGz : PySem.W.nsIn K D18 "registers" = some (some (.int 2 t18_registers)))
    {t18_scanning : Nat} (zHx : PySem.W.nsIn K D18 "scanning" = some (some (.str "whole" t18_scanning)))
    {od19 an19 : Option Addr} {sl19 : Array (Option Value)} {f19 : Addr} {oc19 dc19 pm19 cd19 ct19 : Value} {D19 : Addr} {T19 : Addr} {tp19_0 : Nat}
    (a19 : PySem.W.nsIn K mainGlobals "has_property" = some (some (.ref f19))) (l19 : K.lookup f19 = some ⟨oc19, od19, .func (PySem.W.fnOf "has_property" "has_property" (defArgs (zQo 39)) (defBody (zQo 39)) (defScope (zQo 39)) (.ref T19) (.ref D19) dc19 pm19 an19 cd19 ct19), sl19⟩) (c19 : PySem.W.codeIn K cd19 "has_property" = true) (k19 : PySem.W.keepIn K (.ref f19) = true)
    {t19_registers : Nat} (zGy : PySem.W.nsIn K D19 "registers" = some (some (.int 2 t19_registers)))
    {t19_scanning : Nat} (zHw : PySem.W.nsIn K D19 "scanning" = some (some (.str "whole" t19_scanning)))
    {oT19 : Value} {dT19 : Option Addr} {nT19 : Nat} {sT19 : Array (Option Value)} (wUp : K.lookup T19 = some ⟨oT19, dT19, .seq #[.str "safe" tp19_0] nT19, sT19⟩)
    {od20 an20 : Option Addr} {sl20 : Array (Option Value)} {f20 : Addr} {oc20 kV20 dc20 pm20 cd20 ct20 : Value}
    (a20 : PySem.W.nsIn K mainGlobals "again_black" = some (some (.ref f20))) (l20 : K.lookup f20 = some ⟨oc20, od20, .func (PySem.W.fnOf "again_black" "again_black" (defArgs (zQo 54)) (defBody (zQo 54)) (defScope (zQo 54)) .none kV20 dc20 pm20 an20 cd20 ct20), sl20⟩) (c20 : PySem.W.codeIn K cd20 "again_black" = true) (k20 : PySem.W.keepIn K (.ref f20) = true)
    {od21 an21 : Option Addr} {sl21 : Array (Option Value)} {f21 : Addr} {oc21 kV21 dc21 pm21 cd21 ct21 : Value}
    (a21 : PySem.W.nsIn K mainGlobals "again_grey" = some (some (.ref f21))) (l21 : K.lookup f21 = some ⟨oc21, od21, .func (PySem.W.fnOf "again_grey" "again_grey" (defArgs (zQo 55)) (defBody (zQo 55)) (defScope (zQo 55)) .none kV21 dc21 pm21 an21 cd21 ct21), sl21⟩) (c21 : PySem.W.codeIn K cd21 "again_grey" = true) (k21 : PySem.W.keepIn K (.ref f21) = true)
    {od22 an22 : Option Addr} {sl22 : Array (Option Value)} {f22 : Addr} {oc22 kV22 dc22 pm22 cd22 ct22 : Value}
    (a22 : PySem.W.nsIn K mainGlobals "grey_ones" = some (some (.ref f22))) (l22 : K.lookup f22 = some ⟨oc22, od22, .func (PySem.W.fnOf "grey_ones" "grey_ones" (defArgs (zQo 56)) (defBody (zQo 56)) (defScope (zQo 56)) .none kV22 dc22 pm22 an22 cd22 ct22), sl22⟩) (c22 : PySem.W.codeIn K cd22 "grey_ones" = true) (k22 : PySem.W.keepIn K (.ref f22) = true)
    {od23 an23 : Option Addr} {sl23 : Array (Option Value)} {f23 : Addr} {oc23 kV23 dc23 pm23 cd23 ct23 : Value}
    (a23 : PySem.W.nsIn K mainGlobals "chained" = some (some (.ref f23))) (l23 : K.lookup f23 = some ⟨oc23, od23, .func (PySem.W.fnOf "chained" "chained" (defArgs (zQo 57)) (defBody (zQo 57)) (defScope (zQo 57)) .none kV23 dc23 pm23 an23 cd23 ct23), sl23⟩) (c23 : PySem.W.codeIn K cd23 "chained" = true) (k23 : PySem.W.keepIn K (.ref f23) = true)
    {od24 an24 : Option Addr} {sl24 : Array (Option Value)} {f24 : Addr} {oc24 kV24 dc24 pm24 cd24 ct24 : Value}
    (a24 : PySem.W.nsIn K mainGlobals "steps_to_shade" = some (some (.ref f24))) (l24 : K.lookup f24 = some ⟨oc24, od24, .func (PySem.W.fnOf "steps_to_shade" "steps_to_shade" (defArgs (zQo 58)) (defBody (zQo 58)) (defScope (zQo 58)) .none kV24 dc24 pm24 an24 cd24 ct24), sl24⟩) (c24 : PySem.W.codeIn K cd24 "steps_to_shade" = true) (k24 : PySem.W.keepIn K (.ref f24) = true)
    {od25 an25 : Option Addr} {sl25 : Array (Option Value)} {f25 : Addr} {oc25 kV25 dc25 pm25 cd25 ct25 : Value}
    (a25 : PySem.W.nsIn K mainGlobals "lone_ones" = some (some (.ref f25))) (l25 : K.lookup f25 = some ⟨oc25, od25, .func (PySem.W.fnOf "lone_ones" "lone_ones" (defArgs (zQo 59)) (defBody (zQo 59)) (defScope (zQo 59)) .none kV25 dc25 pm25 an25 cd25 ct25), sl25⟩) (c25 : PySem.W.codeIn K cd25 "lone_ones" = true) (k25 : PySem.W.keepIn K (.ref f25) = true)
    {od26 an26 : Option Addr} {sl26 : Array (Option Value)} {f26 : Addr} {oc26 dc26 pm26 cd26 ct26 : Value} {D26 : Addr}
    (a26 : PySem.W.nsIn K mainGlobals "longer_run" = some (some (.ref f26))) (l26 : K.lookup f26 = some ⟨oc26, od26, .func (PySem.W.fnOf "longer_run" "longer_run" (defArgs (zQo 60)) (defBody (zQo 60)) (defScope (zQo 60)) .none (.ref D26) dc26 pm26 an26 cd26 ct26), sl26⟩) (c26 : PySem.W.codeIn K cd26 "longer_run" = true) (k26 : PySem.W.keepIn K (.ref f26) = true)
    {t26_registers : Nat} (zGx : PySem.W.nsIn K D26 "registers" = some (some (.int 2 t26_registers)))
    {t26_scanning : Nat} (zHv : PySem.W.nsIn K D26 "scanning" = some (some (.str "whole" t26_scanning)))
    {od27 an27 : Option Addr} {sl27 : Array (Option Value)} {f27 : Addr} {oc27 dc27 pm27 cd27 ct27 : Value} {D27 : Addr}
    (a27 : PySem.W.nsIn K mainGlobals "overrun" = some (some (.ref f27))) (l27 : K.lookup f27 = some ⟨oc27, od27, .func (PySem.W.fnOf "overrun" "overrun" (defArgs (zQo 61)) (defBody (zQo 61)) (defScope (zQo 61)) .none (.ref D27) dc27 pm27 an27 cd27 ct27), sl27⟩) (c27 : PySem.W.codeIn K cd27 "overrun" = true) (k27 : PySem.W.keepIn K (.ref f27) = true)
    {t27_registers : Nat} (zGw : PySem.W.nsIn K D27 "registers" = some (some (.int 2 t27_registers)))
    {t27_scanning : Nat} (zHu : PySem.W.nsIn K D27 "scanning" = some (some (.str "whole" t27_scanning)))
    {od28 an28 : Option Addr} {sl28 : Array (Option Value)} {f28 : Addr} {oc28 kV28 dc28 pm28 cd28 ct28 : Value}
    (a28 : PySem.W.nsIn K mainGlobals "case_of" = some (some (.ref f28))) (l28 : K.lookup f28 = some ⟨oc28, od28, .func (PySem.W.fnOf "case_of" "case_of" (defArgs (zQo 43)) (defBody (zQo 43)) (defScope (zQo 43)) .none kV28 dc28 pm28 an28 cd28 ct28), sl28⟩) (c28 : PySem.W.codeIn K cd28 "case_of" = true) (k28 : PySem.W.keepIn K (.ref f28) = true)
    {od29 an29 : Option Addr} {sl29 : Array (Option Value)} {f29 : Addr} {oc29 kV29 dc29 pm29 cd29 ct29 : Value}
    (a29 : PySem.W.nsIn K mainGlobals "run_between_fields" = some (some (.ref f29))) (l29 : K.lookup f29 = some ⟨oc29, od29, .func (PySem.W.fnOf "run_between_fields" "run_between_fields" (defArgs (zQo 48)) (defBody (zQo 48)) (defScope (zQo 48)) .none kV29 dc29 pm29 an29 cd29 ct29), sl29⟩) (c29 : PySem.W.codeIn K cd29 "run_between_fields" = true) (k29 : PySem.W.keepIn K (.ref f29) = true)
    {od30 an30 : Option Addr} {sl30 : Array (Option Value)} {f30 : Addr} {oc30 kV30 dc30 pm30 cd30 ct30 : Value}
    (a30 : PySem.W.nsIn K mainGlobals "scanned" = some (some (.ref f30))) (l30 : K.lookup f30 = some ⟨oc30, od30, .func (PySem.W.fnOf "scanned" "scanned" (defArgs (zQo 44)) (defBody (zQo 44)) (defScope (zQo 44)) .none kV30 dc30 pm30 an30 cd30 ct30), sl30⟩) (c30 : PySem.W.codeIn K cd30 "scanned" = true) (k30 : PySem.W.keepIn K (.ref f30) = true)
    {od31 an31 : Option Addr} {sl31 : Array (Option Value)} {f31 : Addr} {oc31 kV31 dc31 pm31 cd31 ct31 : Value}
    (a31 : PySem.W.nsIn K mainGlobals "run_with_white" = some (some (.ref f31))) (l31 : K.lookup f31 = some ⟨oc31, od31, .func (PySem.W.fnOf "run_with_white" "run_with_white" (defArgs (zQo 45)) (defBody (zQo 45)) (defScope (zQo 45)) .none kV31 dc31 pm31 an31 cd31 ct31), sl31⟩) (c31 : PySem.W.codeIn K cd31 "run_with_white" = true) (k31 : PySem.W.keepIn K (.ref f31) = true)
    {od32 an32 : Option Addr} {sl32 : Array (Option Value)} {f32 : Addr} {oc32 kV32 dc32 pm32 cd32 ct32 : Value}
    (a32 : PySem.W.nsIn K mainGlobals "run_with_two" = some (some (.ref f32))) (l32 : K.lookup f32 = some ⟨oc32, od32, .func (PySem.W.fnOf "run_with_two" "run_with_two" (defArgs (zQo 46)) (defBody (zQo 46)) (defScope (zQo 46)) .none kV32 dc32 pm32 an32 cd32 ct32), sl32⟩) (c32 : PySem.W.codeIn K cd32 "run_with_two" = true) (k32 : PySem.W.keepIn K (.ref f32) = true)
    {od33 an33 : Option Addr} {sl33 : Array (Option Value)} {f33 : Addr} {oc33 kV33 dc33 pm33 cd33 ct33 : Value}
    (a33 : PySem.W.nsIn K mainGlobals "run_with_three" = some (some (.ref f33))) (l33 : K.lookup f33 = some ⟨oc33, od33, .func (PySem.W.fnOf "run_with_three" "run_with_three" (defArgs (zQo 47)) (defBody (zQo 47)) (defScope (zQo 47)) .none kV33 dc33 pm33 an33 cd33 ct33), sl33⟩) (c33 : PySem.W.codeIn K cd33 "run_with_three" = true) (k33 : PySem.W.keepIn K (.ref f33) = true)
    {od34 an34 : Option Addr} {sl34 : Array (Option Value)} {f34 : Addr} {oc34 dc34 pm34 cd34 ct34 : Value} {D34 : Addr}
    (a34 : PySem.W.nsIn K mainGlobals "losing_run" = some (some (.ref f34))) (l34 : K.lookup f34 = some ⟨oc34, od34, .func (PySem.W.fnOf "losing_run" "losing_run" (defArgs (zQo 49)) (defBody (zQo 49)) (defScope (zQo 49)) .none (.ref D34) dc34 pm34 an34 cd34 ct34), sl34⟩) (c34 : PySem.W.codeIn K cd34 "losing_run" = true) (k34 : PySem.W.keepIn K (.ref f34) = true)
    {t34_registers : Nat} (zGv : PySem.W.nsIn K D34 "registers" = some (some (.int 2 t34_registers)))
    {t34_scanning : Nat} (zHt : PySem.W.nsIn K D34 "scanning" = some (some (.str "whole" t34_scanning)))
    {od35 an35 : Option Addr} {sl35 : Array (Option Value)} {f35 : Addr} {oc35 dc35 pm35 cd35 ct35 : Value} {D35 : Addr} {T35 : Addr} {tp35_0 : Nat}
    (a35 : PySem.W.nsIn K mainGlobals "judge" = some (some (.ref f35))) (l35 : K.lookup f35 = some ⟨oc35, od35, .func (PySem.W.fnOf "judge" "judge" (defArgs (zQo 85)) (defBody (zQo 85)) (defScope (zQo 85)) (.ref T35) (.ref D35) dc35 pm35 an35 cd35 ct35), sl35⟩) (c35 : PySem.W.codeIn K cd35 "judge" = true) (k35 : PySem.W.keepIn K (.ref f35) = true)
    {t35_registers : Nat} (zGu : PySem.W.nsIn K D35 "registers" = some (some (.int 2 t35_registers)))
    {t35_scanning : Nat} (zHs : PySem.W.nsIn K D35 "scanning" = some (some (.str "whole" t35_scanning)))
    {oT35 : Value} {dT35 : Option Addr} {nT35 : Nat} {sT35 : Array (Option Value)} (wUo : K.lookup T35 = some ⟨oT35, dT35, .seq #[.str "safe" tp35_0] nT35, sT35⟩)
    {od36 an36 : Option Addr} {sl36 : Array (Option Value)} {f36 : Addr} {oc36 kV36 dc36 pm36 cd36 ct36 : Value}
    (a36 : PySem.W.nsIn K mainGlobals "_law_pair_right" = some (some (.ref f36))) (l36 : K.lookup f36 = some ⟨oc36, od36, .func (PySem.W.fnOf "_law_pair_right" "_law_pair_right" (defArgs (zQo 94)) (defBody (zQo 94)) (defScope (zQo 94)) .none kV36 dc36 pm36 an36 cd36 ct36), sl36⟩) (c36 : PySem.W.codeIn K cd36 "_law_pair_right" = true) (k36 : PySem.W.keepIn K (.ref f36) = true)
    {od37 an37 : Option Addr} {sl37 : Array (Option Value)} {f37 : Addr} {oc37 kV37 dc37 pm37 cd37 ct37 : Value}
    (a37 : PySem.W.nsIn K mainGlobals "law" = some (some (.ref f37))) (l37 : K.lookup f37 = some ⟨oc37, od37, .func (PySem.W.fnOf "law" "law" (defArgs (zQo 95)) (defBody (zQo 95)) (defScope (zQo 95)) .none kV37 dc37 pm37 an37 cd37 ct37), sl37⟩) (c37 : PySem.W.codeIn K cd37 "law" = true) (k37 : PySem.W.keepIn K (.ref f37) = true)
    : ∃ fd : FuncData, (∀ (s : Shared) (v : Value), BindsTo s fd ⟨[v], []⟩ [("_law_script", v)]) ∧ ∀ base : Heap, K.In base → base.Ns mainGlobals mg → SM base → TabG K mg base → FnG PySem.Challenge.rw_shadeguards_k58_whole_more_entries.prog w K mg base 11 fa fd ["_law_script"] (spG K 1 xZ3) := by
  have e := hfa.symm.trans (PySem.W.mg_of X G a37)
  cases e
  have T : Top w K mg := ⟨PySem.W.mg_none_of X G xJt, PySem.W.mg_none_of X G yG5, PySem.W.mg_none_of X G zHm, PySem.W.mg_none_of X G xG5, PySem.W.mg_none_of X G xG8, PySem.W.mg_none_of X G yQy, PySem.W.mg_none_of X G xHc, PySem.W.mg_none_of X G xG9, PySem.W.mg_none_of X G yW8, PySem.W.mg_none_of X G xG6, PySem.W.mg_none_of X G xHb, PySem.W.mg_none_of X G xHa, PySem.W.mg_none_of X G yG6, PySem.W.mg_none_of X G xG7, zH9 (PySem.W.mg_of X G yVc) yVj, zH9 (PySem.W.mg_of X G yW9) yYf, zH9 (PySem.W.mg_of X G yG8) yHp, xUv (PySem.W.mg_of X G yG7), zH9 (PySem.W.mg_of X G yG9) yHq, zH9 (PySem.W.mg_of X G zYv) zY2, zH9 (PySem.W.mg_of X G zYs) zYz, zH9 (PySem.W.mg_of X G zK3) zK5, zH9 (PySem.W.mg_of X G yXz) yX5, zH9 (PySem.W.mg_of X G zYu) zY1, zH9 (PySem.W.mg_of X G zGd) zGf, zH9 (PySem.W.mg_of X G xJv) xVf, zH9 (PySem.W.mg_of X G yXy) yX4, zH9 (PySem.W.mg_of X G yXw) yX2, zH9 (PySem.W.mg_of X G xHe) xHz, zH9 (PySem.W.mg_of X G zKn) zKo, zH9 (PySem.W.mg_of X G xJu) xVe, zH9 (PySem.W.mg_of X G yQ0) yQ3, zH9 (PySem.W.mg_of X G yXx) yX3, zH9 (PySem.W.mg_of X G zYt) zY0, zH9 (PySem.W.mg_of X G xHf) xH0, zH9 (PySem.W.mg_of X G yQz) yQ2, xUv (PySem.W.mg_of X G xHd), xUv (PySem.W.mg_of X G wY5), wHq (PySem.W.mg_of X G zYi) zYi yZb, xZ6 zYi yZc, xHg (PySem.W.mg_of X G zJn) zJn zWd zYa zWj zWx zK8 zW0 (fun _ _ _ _ _ _ us hl => match us, hl with | [_, _], _ => rfl), xZ6 zJn zWg, xHg (PySem.W.mg_of X G zJm) zJm zWc zW9 zWi zWw zK7 zWz (fun _ _ _ _ _ _ us hl => match us, hl with | [_, _], _ => rfl), xZ6 zJm zWf, xHg (PySem.W.mg_of X G zJl) zJl zWb zW8 zWh zWv zK6 zWy (fun _ _ _ _ _ _ us hl => match us, hl with | [_, _], _ => rfl), xZ6 zJl zWe, xHg (PySem.W.mg_of X G zJ5) zJ5 zY5 zUv zY7 zUp zY3 zUq (fun _ _ _ _ _ _ us hl => match us, hl with | [_, _], _ => rfl), xZ6 zJ5 zY6, wW7 (PySem.W.mg_of X G zZ8) zZ8, xU0 zZ8 (zGc zZ4 zZ3 zZ2 zZ1) zJ0, xU0 zZ8 (zGc zZ4 zZ3 zZ2 zZ1) zJz, xU0 zZ8 (zGc zZ4 zZ3 zZ2 zZ1) zGs, wYn zZ8 (zGc zZ4 zZ3 zZ2 zZ1) zUr zYy zUw (by decide), ⟨_, _, _, zZ8, (zGc zZ4 zZ3 zZ2 zZ1), yYe zVf zJy zX5, yKb zVd zJx zX5⟩, ⟨_, _, _, zZ8, (zGc zZ4 zZ3 zZ2 zZ1), wK7 zV7 zVi zVg zVh (PySem.W.mg_of X G zZ8), xU2 zV4 zVe zV5 (zJp ⟨_, zXj, ⟨_, rfl⟩⟩ (zJp ⟨_, zXi, ⟨_, rfl⟩⟩ (yJw)))⟩, ⟨_, _, _, zZ8, (zGc zZ4 zZ3 zZ2 zZ1), yYe zJk zJa zXh, yKb zJh zX7 zXh⟩, ⟨_, _, _, zZ8, (zGc zZ4 zZ3 zZ2 zZ1), yYe zX8 zXw zXc, yKb zX3 zXu zXc⟩, ⟨_, _, _, zZ8, (zGc zZ4 zZ3 zZ2 zZ1), xYr zW4 zW3 zUo zUe zW7, xU2 zUh zWs zUk (zJp ⟨_, zJj, ⟨_, rfl⟩⟩ (zJp ⟨_, zJi, ⟨_, rfl⟩⟩ (yJw)))⟩, ⟨_, _, _, zZ8, (zGc zZ4 zZ3 zZ2 zZ1), wZn zWu zKw zKu, yKb zWo zKs zWp⟩, ⟨_, _, _, zZ8, (zGc zZ4 zZ3 zZ2 zZ1), wJl zX9 zXx, yKb zX4 zXv zX6⟩, ⟨_, _, _, zZ8, (zGc zZ4 zZ3 zZ2 zZ1), xVb zUn zUd zW6 zW2, yKb zUg zWr zUj⟩, ⟨_, _, _, zZ8, (zGc zZ4 zZ3 zZ2 zZ1), xVb zUm zUc zW5 zW1, yKb zUf zWq zUi⟩, ⟨_, _, _, zZ8, (zGc zZ4 zZ3 zZ2 zZ1), yYe zWt zKv zVr, yKb zWn zKr zVr⟩, ⟨_, _, _, zZ8, (zGc zZ4 zZ3 zZ2 zZ1), wZn zKt zV9 zV8, yKb zKp zV6 zKq⟩, ⟨_, _, _, zZ8, (zGc zZ4 zZ3 zZ2 zZ1), xYr zUt zUs zGo zGl zUu, xU2 zGm zUl zGn (zJp ⟨_, zJw, ⟨_, rfl⟩⟩ (zJp ⟨_, zJv, ⟨_, rfl⟩⟩ (yJw)))⟩, zK2 (PySem.W.mg_of X G a0) l0 c0 k0 fun _ _ _ _ _ _ us hl => match us, hl with | [_], _ => rfl, zK2 (PySem.W.mg_of X G a1) l1 c1 k1 fun _ _ _ _ _ _ us hl => match us, hl with | [_], _ => rfl, zK2 (PySem.W.mg_of X G a2) l2 c2 k2 fun _ _ _ _ _ _ us hl => match us, hl with | [_], _ => rfl, zK2 (PySem.W.mg_of X G a3) l3 c3 k3 fun _ _ _ _ _ _ us hl => match us, hl with | [_], _ => rfl, wYg (PySem.W.mg_of X G a4) l4 c4 k4, zK2 (PySem.W.mg_of X G a5) l5 c5 k5 fun _ _ _ _ _ _ us hl => match us, hl with | [], _ => rfl, zK2 (PySem.W.mg_of X G a6) l6 c6 k6 fun _ _ _ _ _ _ us hl => match us, hl with | [_, _], _ => rfl, zK2 (PySem.W.mg_of X G a7) l7 c7 k7 fun _ _ _ _ _ _ us hl => match us, hl with | [_], _ => rfl, zK2 (PySem.W.mg_of X G a8) l8 c8 k8 fun _ _ _ _ _ _ us hl => match us, hl with | [_], _ => rfl, zK2 (PySem.W.mg_of X G a9) l9 c9 k9 fun _ _ _ _ _ _ us hl => match us, hl with | [], _ => rfl, zK2 (PySem.W.mg_of X G a10) l10 c10 k10 fun _ _ _ _ _ _ us hl => match us, hl with | [_], _ => rfl, zK2 (PySem.W.mg_of X G a11) l11 c11 k11 fun _ _ _ _ _ _ us hl => match us, hl with | [_], _ => rfl, zK2 (PySem.W.mg_of X G a12) l12 c12 k12 fun _ _ _ _ _ _ us hl => match us, hl with | [_, _], _ => rfl, xZ4 (PySem.W.mg_of X G a13) l13 c13 k13 (zJp ⟨_, zG0, ⟨_, rfl⟩⟩ (zJp ⟨_, zHy, ⟨_, rfl⟩⟩ (yJw))), zK2 (PySem.W.mg_of X G a14) l14 c14 k14 fun _ _ _ _ _ _ us hl => match us, hl with | [_, _], _ => rfl, zK2 (PySem.W.mg_of X G a15) l15 c15 k15 fun _ _ _ _ _ _ us hl => match us, hl with | [_], _ => rfl, zK2 (PySem.W.mg_of X G a16) l16 c16 k16 fun _ _ _ _ _ _ us hl => match us, hl with | [_, _], _ => rfl, zK2 (PySem.W.mg_of X G a17) l17 c17 k17 fun _ _ _ _ _ _ us hl => match us, hl with | [_, _], _ => rfl, xZ4 (PySem.W.mg_of X G a18) l18 c18 k18 (zJp ⟨_, zGz, ⟨_, rfl⟩⟩ (zJp ⟨_, zHx, ⟨_, rfl⟩⟩ (yJw))), wXc (PySem.W.mg_of X G a19) l19 c19 k19 (by simp) wUp rfl (.cons (⟨_, rfl⟩) (.nil)) (zJp ⟨_, zGy, ⟨_, rfl⟩⟩ (zJp ⟨_, zHw, ⟨_, rfl⟩⟩ (yJw))), zK2 (PySem.W.mg_of X G a20) l20 c20 k20 fun _ _ _ _ _ _ us hl => match us, hl with | [_, _, _], _ => rfl, zK2 (PySem.W.mg_of X G a21) l21 c21 k21 fun _ _ _ _ _ _ us hl => match us, hl with | [_, _], _ => rfl, zK2 (PySem.W.mg_of X G a22) l22 c22 k22 fun _ _ _ _ _ _ us hl => match us, hl with | [_, _, _], _ => rfl, zK2 (PySem.W.mg_of X G a23) l23 c23 k23 fun _ _ _ _ _ _ us hl => match us, hl with | [_, _], _ => rfl, zK2 (PySem.W.mg_of X G a24) l24 c24 k24 fun _ _ _ _ _ _ us hl => match us, hl with | [_], _ => rfl, zK2 (PySem.W.mg_of X G a25) l25 c25 k25 fun _ _ _ _ _ _ us hl => match us, hl with | [_, _, _], _ => rfl, xZ4 (PySem.W.mg_of X G a26) l26 c26 k26 (zJp ⟨_, zGx, ⟨_, rfl⟩⟩ (zJp ⟨_, zHv, ⟨_, rfl⟩⟩ (yJw))), xZ4 (PySem.W.mg_of X G a27) l27 c27 k27 (zJp ⟨_, zGw, ⟨_, rfl⟩⟩ (zJp ⟨_, zHu, ⟨_, rfl⟩⟩ (yJw))), zK2 (PySem.W.mg_of X G a28) l28 c28 k28 fun _ _ _ _ _ _ us hl => match us, hl with | [_], _ => rfl, zK2 (PySem.W.mg_of X G a29) l29 c29 k29 fun _ _ _ _ _ _ us hl => match us, hl with | [_], _ => rfl, zK2 (PySem.W.mg_of X G a30) l30 c30 k30 fun _ _ _ _ _ _ us hl => match us, hl with | [_, _], _ => rfl, zK2 (PySem.W.mg_of X G a31) l31 c31 k31 fun _ _ _ _ _ _ us hl => match us, hl with | [_, _], _ => rfl, zK2 (PySem.W.mg_of X G a32) l32 c32 k32 fun _ _ _ _ _ _ us hl => match us, hl with | [_, _], _ => rfl, zK2 (PySem.W.mg_of X G a33) l33 c33 k33 fun _ _ _ _ _ _ us hl => match us, hl with | [_, _], _ => rfl, xZ4 (PySem.W.mg_of X G a34) l34 c34 k34 (zJp ⟨_, zGv, ⟨_, rfl⟩⟩ (zJp ⟨_, zHt, ⟨_, rfl⟩⟩ (yJw))), wXc (PySem.W.mg_of X G a35) l35 c35 k35 (by simp) wUo rfl (.cons (⟨_, rfl⟩) (.nil)) (zJp ⟨_, zGu, ⟨_, rfl⟩⟩ (zJp ⟨_, zHs, ⟨_, rfl⟩⟩ (yJw))), zK2 (PySem.W.mg_of X G a36) l36 c36 k36 fun _ _ _ _ _ _ us hl => match us, hl with | [_, _], _ => rfl, zK2 (PySem.W.mg_of X G a37) l37 c37 k37 fun _ _ _ _ _ _ us hl => match us, hl with | [_], _ => rfl⟩
  exact ⟨PySem.W.fnOf "law" "law" (defArgs (zQo 95)) (defBody (zQo 95)) (defScope (zQo 95)) .none kV37 dc37 pm37 an37 cd37 ct37, fun s v => .of_eq rfl, fun base _ _ sm tg => wZz T sm (fun_mk (st := zQo 95) l37 c37 k37)⟩
end Ev

open PySem PySem.W PyProof.Rows
set_option maxHeartbeats 0 in
theorem PySem.Challenge.cw_shadeguards_k58_whole_more_entries_holds : PySem.Challenge.rw_shadeguards_k58_whole_more_entries.Holds := by
  w_on; o_law
  refine Ev.wW6 (r := Ev.hq9R) (q := Ev.hq9V) (K := Ev.hq9S.heap_1) (as := Ev.hq9A) (ek := Ev.hq9E) (M := 40000) (loose := Ev.hq9N) (d := HandSHeadRun.topDef Ev.hq9R.prog 95) (kwd := []) (Ev.vJx _) (by kernel_rfl) (fun s => by kernel_rfl) (Ev.wKx "special-get-raises" Ev.hq9_false Ev.hq9_true) (by kernel_rfl) (by kernel_rfl) (by kernel_rfl) (by rfl) (by first | assumption | decide +kernel) (by decide +kernel) ⟨rfl, rfl, rfl, rfl, rfl, by decide +kernel⟩ ?hw ?hc
  case hw => w_witness2
  k_fill
  refine Ev.wKu (l := PySem.Challenge.rw_shadeguards_k58_whole_more_entries) (n := 63) (k := 11) (x := "_law_script") (g := Ev.xZ3) rfl rfl (by decide) rfl ⟨rfl, by decide, by decide⟩ (fun w h Y => by first | exact PySem.W.kIn_of Y | exact PySem.W.km_in_of Y) ?hd ?ho ?F Ev.law_true
  case hd => intro w; kernel_rfl
  case ho => intro w; kernel_rfl
  case F =>
    intro w mg fa h KX G hmg
    refine' Ev.all_mk KX G hmg (xJt := ?xJt) (yG5 := ?yG5) (zHm := ?zHm) (xG5 := ?xG5) (xG8 := ?xG8) (yQy := ?yQy) (xHc := ?xHc) (xG9 := ?xG9) (yW8 := ?yW8) (xG6 := ?xG6) (xHb := ?xHb) (xHa := ?xHa) (yG6 := ?yG6) (xG7 := ?xG7) (yVc := ?yVc) (yVj := ?yVj) (yW9 := ?yW9) (yYf := ?yYf) (yG8 := ?yG8) (yHp := ?yHp) (yG7 := ?yG7) (yG9 := ?yG9) (yHq := ?yHq) (zYv := ?zYv) (zY2 := ?zY2) (zYs := ?zYs) (zYz := ?zYz) (zK3 := ?zK3) (zK5 := ?zK5) (yXz := ?yXz) (yX5 := ?yX5) (zYu := ?zYu) (zY1 := ?zY1) (zGd := ?zGd) (zGf := ?zGf) (xJv := ?xJv) (xVf := ?xVf) (yXy := ?yXy) (yX4 := ?yX4) (yXw := ?yXw) (yX2 := ?yX2) (xHe := ?xHe) (xHz := ?xHz) (zKn := ?zKn) (zKo := ?zKo) (xJu := ?xJu) (xVe := ?xVe) (yQ0 := ?yQ0) (yQ3 := ?yQ3) (yXx := ?yXx) (yX3 := ?yX3) (zYt := ?zYt) (zY0 := ?zY0) (xHf := ?xHf) (xH0 := ?xH0) (yQz := ?yQz) (yQ2 := ?yQ2) (xHd := ?xHd) (wY5 := ?wY5) (zYi := ?zYi) (zJn := ?zJn) (zJm := ?zJm) (zJl := ?zJl) (zJ5 := ?zJ5) (yZb := ?yZb) (yZc := ?yZc) (zWd := ?zWd) (zYa := ?zYa) (zWj := ?zWj) (zWx := ?zWx) (zK8 := ?zK8) (zW0 := ?zW0) (zWg := ?zWg) (zWc := ?zWc) (zW9 := ?zW9) (zWi := ?zWi) (zWw := ?zWw) (zK7 := ?zK7) (zWz := ?zWz) (zWf := ?zWf) (zWb := ?zWb) (zW8 := ?zW8) (zWh := ?zWh) (zWv := ?zWv) (zK6 := ?zK6) (zWy := ?zWy) (zWe := ?zWe) (zY5 := ?zY5) (zUv := ?zUv) (zY7 := ?zY7) (zUp := ?zUp) (zY3 := ?zY3) (zUq := ?zUq) (zY6 := ?zY6) (zZ8 := ?zZ8) (zZ4 := ?zZ4) (zZ3 := ?zZ3) (zZ2 := ?zZ2) (zZ1 := ?zZ1) (zJ0 := ?zJ0) (zJz := ?zJz) (zGs := ?zGs) (zUr := ?zUr) (zYy := ?zYy) (zUw := ?zUw) (zVf := ?zVf) (zJy := ?zJy) (zVd := ?zVd) (zJx := ?zJx) (zX5 := ?zX5) (zV7 := ?zV7) (zVi := ?zVi) (zV4 := ?zV4) (zVe := ?zVe) (zV5 := ?zV5) (zXj := ?zXj) (zXi := ?zXi) (zVg := ?zVg) (zVh := ?zVh) (zJk := ?zJk) (zJa := ?zJa) (zJh := ?zJh) (zX7 := ?zX7) (zXh := ?zXh) (zX8 := ?zX8) (zXw := ?zXw) (zX3 := ?zX3) (zXu := ?zXu) (zXc := ?zXc) (zH7 := ?zH7) (zW4 := ?zW4) (zW3 := ?zW3) (zUo := ?zUo) (zUe := ?zUe) (zW7 := ?zW7) (zUh := ?zUh) (zWs := ?zWs) (zUk := ?zUk) (zJj := ?zJj) (zJi := ?zJi) (zWu := ?zWu) (zKw := ?zKw) (zWo := ?zWo) (zKs := ?zKs) (zWp := ?zWp) (zKu := ?zKu) (zX9 := ?zX9) (zXx := ?zXx) (zX4 := ?zX4) (zXv := ?zXv) (zX6 := ?zX6) (zUn := ?zUn) (zUd := ?zUd) (zW6 := ?zW6) (zW2 := ?zW2) (zUg := ?zUg) (zWr := ?zWr) (zUj := ?zUj) (zUm := ?zUm) (zUc := ?zUc) (zW5 := ?zW5) (zW1 := ?zW1) (zUf := ?zUf) (zWq := ?zWq) (zUi := ?zUi) (zWt := ?zWt) (zKv := ?zKv) (zWn := ?zWn) (zKr := ?zKr) (zVr := ?zVr) (zKt := ?zKt) (zV9 := ?zV9) (zKp := ?zKp) (zV6 := ?zV6) (zKq := ?zKq) (zV8 := ?zV8) (yZj := ?yZj) (zUt := ?zUt) (zUs := ?zUs) (zGo := ?zGo) (zGl := ?zGl) (zUu := ?zUu) (zGm := ?zGm) (zUl := ?zUl) (zGn := ?zGn) (zJw := ?zJw) (zJv := ?zJv) (a0 := ?a0) (l0 := ?l0) (c0 := ?c0) (k0 := ?k0) (a1 := ?a1) (l1 := ?l1) (c1 := ?c1) (k1 := ?k1) (a2 := ?a2) (l2 := ?l2) (c2 := ?c2) (k2 := ?k2) (a3 := ?a3) (l3 := ?l3) (c3 := ?c3) (k3 := ?k3) (a4 := ?a4) (l4 := ?l4) (c4 := ?c4) (k4 := ?k4) (a5 := ?a5) (l5 := ?l5) (c5 := ?c5) (k5 := ?k5) (a6 := ?a6) (l6 := ?l6) (c6 := ?c6) (k6 := ?k6) (a7 := ?a7) (l7 := ?l7) (c7 := ?c7) (k7 := ?k7) (a8 := ?a8) (l8 := ?l8) (c8 := ?c8) (k8 := ?k8) (a9 := ?a9) (l9 := ?l9) (c9 := ?c9) (k9 := ?k9) (a10 := ?a10) (l10 := ?l10) (c10 := ?c10) (k10 := ?k10) (a11 := ?a11) (l11 := ?l11) (c11 := ?c11) (k11 := ?k11) (a12 := ?a12) (l12 := ?l12) (c12 := ?c12) (k12 := ?k12) (a13 := ?a13) (l13 := ?l13) (c13 := ?c13) (k13 := ?k13) (zG0 := ?zG0) (zHy := ?zHy) (a14 := ?a14) (l14 := ?l14) (c14 := ?c14) (k14 := ?k14) (a15 := ?a15) (l15 := ?l15) (c15 := ?c15) (k15 := ?k15) (a16 := ?a16) (l16 := ?l16) (c16 := ?c16) (k16 := ?k16) (a17 := ?a17) (l17 := ?l17) (c17 := ?c17) (k17 := ?k17) (a18 := ?a18) (l18 := ?l18) (c18 := ?c18) (k18 := ?k18) (zGz := ?zGz) (zHx := ?zHx) (a19 := ?a19) (l19 := ?l19) (c19 := ?c19) (k19 := ?k19) (zGy := ?zGy) (zHw := ?zHw) (wUp := ?wUp) (a20 := ?a20) (l20 := ?l20) (c20 := ?c20) (k20 := ?k20) (a21 := ?a21) (l21 := ?l21) (c21 := ?c21) (k21 := ?k21) (a22 := ?a22) (l22 := ?l22) (c22 := ?c22) (k22 := ?k22) (a23 := ?a23) (l23 := ?l23) (c23 := ?c23) (k23 := ?k23) (a24 := ?a24) (l24 := ?l24) (c24 := ?c24) (k24 := ?k24) (a25 := ?a25) (l25 := ?l25) (c25 := ?c25) (k25 := ?k25) (a26 := ?a26) (l26 := ?l26) (c26 := ?c26) (k26 := ?k26) (zGx := ?zGx) (zHv := ?zHv) (a27 := ?a27) (l27 := ?l27) (c27 := ?c27) (k27 := ?k27) (zGw := ?zGw) (zHu := ?zHu) (a28 := ?a28) (l28 := ?l28) (c28 := ?c28) (k28 := ?k28) (a29 := ?a29) (l29 := ?l29) (c29 := ?c29) (k29 := ?k29) (a30 := ?a30) (l30 := ?l30) (c30 := ?c30) (k30 := ?k30) (a31 := ?a31) (l31 := ?l31) (c31 := ?c31) (k31 := ?k31) (a32 := ?a32) (l32 := ?l32) (c32 := ?c32) (k32 := ?k32) (a33 := ?a33) (l33 := ?l33) (c33 := ?c33) (k33 := ?k33) (a34 := ?a34) (l34 := ?l34) (c34 := ?c34) (k34 := ?k34) (zGv := ?zGv) (zHt := ?zHt) (a35 := ?a35) (l35 := ?l35) (c35 := ?c35) (k35 := ?k35) (zGu := ?zGu) (zHs := ?zHs) (wUo := ?wUo) (a36 := ?a36) (l36 := ?l36) (c36 := ?c36) (k36 := ?k36) (a37 := ?a37) (l37 := ?l37) (c37 := ?c37) (k37 := ?k37)
    (case xJt => k_is); (case yG5 => k_is); (case zHm => k_is); (case xG5 => k_is); (case xG8 => k_is); (case yQy => k_is); (case xHc => k_is); (case xG9 => k_is); (case yW8 => k_is); (case xG6 => k_is); (case xHb => k_is); (case xHa => k_is); (case yG6 => k_is); (case xG7 => k_is); (case yVc => k_is); (case yVj => rfl); (case yW9 => k_is); (case yYf => rfl); (case yG8 => k_is); (case yHp => rfl); (case yG7 => k_is); (case yG9 => k_is); (case yHq => rfl); (case zYv => k_is); (case zY2 => rfl); (case zYs => k_is); (case zYz => rfl); (case zK3 => k_is); (case zK5 => rfl); (case yXz => k_is); (case yX5 => rfl); (case zYu => k_is); (case zY1 => rfl); (case zGd => k_is); (case zGf => rfl); (case xJv => k_is); (case xVf => rfl); (case yXy => k_is); (case yX4 => rfl); (case yXw => k_is); (case yX2 => rfl); (case xHe => k_is); (case xHz => rfl); (case zKn => k_is); (case zKo => rfl); (case xJu => k_is); (case xVe => rfl); (case yQ0 => k_is); (case yQ3 => rfl); (case yXx => k_is); (case yX3 => rfl); (case zYt => k_is); (case zY0 => rfl); (case xHf => k_is); (case xH0 => rfl); (case yQz => k_is); (case yQ2 => rfl); (case xHd => k_is); (case wY5 => k_is); (case zYi => k_is); (case zJn => k_is); (case zJm => k_is); (case zJl => k_is); (case zJ5 => k_is); (case yZb => kernel_rfl); (case yZc => kernel_rfl); (case zWd => kernel_rfl); (case zYa => k_is); (case zWj => kernel_rfl); (case zWx => k_is); (case zK8 => k_is); (case zW0 => k_is); (case zWg => kernel_rfl); (case zWc => kernel_rfl); (case zW9 => k_is); (case zWi => kernel_rfl); (case zWw => k_is); (case zK7 => k_is); (case zWz => k_is); (case zWf => kernel_rfl); (case zWb => kernel_rfl); (case zW8 => k_is); (case zWh => kernel_rfl); (case zWv => k_is); (case zK6 => k_is); (case zWy => k_is); (case zWe => kernel_rfl); (case zY5 => kernel_rfl); (case zUv => k_is); (case zY7 => kernel_rfl); (case zUp => k_is); (case zY3 => k_is); (case zUq => k_is); (case zY6 => kernel_rfl); (case zZ8 => k_is); (case zZ4 => first | kernel_rfl | k_is); (case zZ3 => first | kernel_rfl | k_is); (case zZ2 => first | kernel_rfl | k_is); (case zZ1 => first | kernel_rfl | k_is); (case zJ0 => k_is); (case zJz => k_is); (case zGs => k_is); (case zUr => k_is); (case zYy => rfl); (case zUw => first | kernel_rfl | k_is); (case zVf => k_is); (case zJy => first | kernel_rfl | k_is); (case zVd => k_is); (case zJx => k_is); (case zX5 => k_is); (case zV7 => k_is); (case zVi => first | kernel_rfl | k_is); (case zV4 => k_is); (case zVe => k_is); (case zV5 => k_is); (case zXj => k_is); (case zXi => k_is); (case zVg => first | kernel_rfl | k_is); (case zVh => first | kernel_rfl | k_is); (case zJk => k_is); (case zJa => first | kernel_rfl | k_is); (case zJh => k_is); (case zX7 => k_is); (case zXh => k_is); (case zX8 => k_is); (case zXw => first | kernel_rfl | k_is); (case zX3 => k_is); (case zXu => k_is); (case zXc => k_is); (case zH7 => k_is); (case zW4 => first | kernel_rfl | k_is); (case zW3 => first | kernel_rfl | k_is); (case zUo => k_is); (case zUe => k_is); (case zW7 => first | kernel_rfl | k_is); (case zUh => k_is); (case zWs => k_is); (case zUk => k_is); (case zJj => k_is); (case zJi => k_is); (case zWu => k_is); (case zKw => first | kernel_rfl | k_is); (case zWo => k_is); (case zKs => k_is); (case zWp => k_is); (case zKu => first | kernel_rfl | k_is); (case zX9 => k_is); (case zXx => first | kernel_rfl | k_is); (case zX4 => k_is); (case zXv => k_is); (case zX6 => k_is); (case zUn => k_is); (case zUd => k_is); (case zW6 => first | kernel_rfl | k_is); (case zW2 => first | kernel_rfl | k_is); (case zUg => k_is); (case zWr => k_is); (case zUj => k_is); (case zUm => k_is); (case zUc => k_is); (case zW5 => first | kernel_rfl | k_is); (case zW1 => first | kernel_rfl | k_is); (case zUf => k_is); (case zWq => k_is); (case zUi => k_is); (case zWt => k_is); (case zKv => first | kernel_rfl | k_is); (case zWn => k_is); (case zKr => k_is); (case zVr => k_is); (case zKt => k_is); (case zV9 => first | kernel_rfl | k_is); (case zKp => k_is); (case zV6 => k_is); (case zKq => k_is); (case zV8 => first | kernel_rfl | k_is); (case yZj => k_is); (case zUt => first | kernel_rfl | k_is); (case zUs => first | kernel_rfl | k_is); (case zGo => k_is); (case zGl => k_is); (case zUu => first | kernel_rfl | k_is); (case zGm => k_is); (case zUl => k_is); (case zGn => k_is); (case zJw => k_is); (case zJv => k_is); (case a0 => k_is); (case l0 => k_is); (case c0 => k_is); (case k0 => k_is); (case a1 => k_is); (case l1 => k_is); (case c1 => k_is); (case k1 => k_is); (case a2 => k_is); (case l2 => k_is); (case c2 => k_is); (case k2 => k_is); (case a3 => k_is); (case l3 => k_is); (case c3 => k_is); (case k3 => k_is); (case a4 => k_is); (case l4 => k_is); (case c4 => k_is); (case k4 => k_is); (case a5 => k_is); (case l5 => k_is); (case c5 => k_is); (case k5 => k_is); (case a6 => k_is); (case l6 => k_is); (case c6 => k_is); (case k6 => k_is); (case a7 => k_is); (case l7 => k_is); (case c7 => k_is); (case k7 => k_is); (case a8 => k_is); (case l8 => k_is); (case c8 => k_is); (case k8 => k_is); (case a9 => k_is); (case l9 => k_is); (case c9 => k_is); (case k9 => k_is); (case a10 => k_is); (case l10 => k_is); (case c10 => k_is); (case k10 => k_is); (case a11 => k_is); (case l11 => k_is); (case c11 => k_is); (case k11 => k_is); (case a12 => k_is); (case l12 => k_is); (case c12 => k_is); (case k12 => k_is); (case a13 => k_is); (case l13 => k_is); (case c13 => k_is); (case k13 => k_is); (case zG0 => k_is); (case zHy => k_is); (case a14 => k_is); (case l14 => k_is); (case c14 => k_is); (case k14 => k_is); (case a15 => k_is); (case l15 => k_is); (case c15 => k_is); (case k15 => k_is); (case a16 => k_is); (case l16 => k_is); (case c16 => k_is); (case k16 => k_is); (case a17 => k_is); (case l17 => k_is); (case c17 => k_is); (case k17 => k_is); (case a18 => k_is); (case l18 => k_is); (case c18 => k_is); (case k18 => k_is); (case zGz => k_is); (case zHx => k_is); (case a19 => k_is); (case l19 => k_is); (case c19 => k_is); (case k19 => k_is); (case zGy => k_is); (case zHw => k_is); (case wUp => k_is); (case a20 => k_is); (case l20 => k_is); (case c20 => k_is); (case k20 => k_is); (case a21 => k_is); (case l21 => k_is); (case c21 => k_is); (case k21 => k_is); (case a22 => k_is); (case l22 => k_is); (case c22 => k_is); (case k22 => k_is); (case a23 => k_is); (case l23 => k_is); (case c23 => k_is); (case k23 => k_is); (case a24 => k_is); (case l24 => k_is); (case c24 => k_is); (case k24 => k_is); (case a25 => k_is); (case l25 => k_is); (case c25 => k_is); (case k25 => k_is); (case a26 => k_is); (case l26 => k_is); (case c26 => k_is); (case k26 => k_is); (case zGx => k_is); (case zHv => k_is); (case a27 => k_is); (case l27 => k_is); (case c27 => k_is); (case k27 => k_is); (case zGw => k_is); (case zHu => k_is); (case a28 => k_is); (case l28 => k_is); (case c28 => k_is); (case k28 => k_is); (case a29 => k_is); (case l29 => k_is); (case c29 => k_is); (case k29 => k_is); (case a30 => k_is); (case l30 => k_is); (case c30 => k_is); (case k30 => k_is); (case a31 => k_is); (case l31 => k_is); (case c31 => k_is); (case k31 => k_is); (case a32 => k_is); (case l32 => k_is); (case c32 => k_is); (case k32 => k_is); (case a33 => k_is); (case l33 => k_is); (case c33 => k_is); (case k33 => k_is); (case a34 => k_is); (case l34 => k_is); (case c34 => k_is); (case k34 => k_is); (case zGv => k_is); (case zHt => k_is); (case a35 => k_is); (case l35 => k_is); (case c35 => k_is); (case k35 => k_is); (case zGu => k_is); (case zHs => k_is); (case wUo => k_is); (case a36 => k_is); (case l36 => k_is); (case c36 => k_is); (case k36 => k_is); (case a37 => k_is); (case l37 => k_is); (case c37 => k_is); (case k37 => k_is)
