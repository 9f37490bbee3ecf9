import PyProof.Rows.All
import Wide.All
import OpenK.AllK
import Wide.FinOn
import KE.OsRun
import HandS.Head2
import HandS.ForMost
import HandS.ForExc
import HandS.TupAny
import HandS.TupMul
import HandS.IsInst
import HandS.Deep
import HandS.Flow
import HandS.Style
import KE.KDictKeyed
import HandS.Lambda
import HandS.EndTab
import HandS.RaiseFrom
import HandS.SuiteRaise
import HandS.ExcInitHot
import HandS.Star
import HandS.WordsExc
import HandS.TupLe
import HandS.RaiseMore
import PyProof.RowDictHeap
import HandS.Defaults
import HandS.TryOnly
import HandS.Small
import HandS.Codes
import HandS.Dict
import HandS.EndBits
import HandS.SortInts
import HandS.More
import HandS.MakeKwOnly
import HandS.SetFor
import HandS.Strs
import HandS.Conv
import HandS.Zip
import HandS.Zip0
import HandS.Text
import HandS.ExcInit
import HandS.ExcIs
import HandS.ExcField
import HandS.ExcValue
import KE.KTryMore
import KE.KExcInit
import KE.KExcIs
import KE.GoesMore
import KE.GoesEnum
import KE.KStar
import HandS.Property
import HandS.ClsMeth
import HandS.SlotsOwn
import PyProof.InstNe
import KE.KCallOwn
import HandS.FStr
import HandS.Wide
import HandS.ExcOwn
import KE.KUnpackStar
import PyProof.ListNew
import HandS.ListItems
import KE.KWithOwn
import HandS.HotCalls
import KE.KSuper
import KE.KBoundM
import HandS.TupSets
import HandS.SortOrd
import HandS.GenList
import KE.KDictDisplayH
import HandS.DictComp
import HandS.TupLen
import KE.KDictPairs
import PySem.Challenge.RW_shadeguards_k01_errors_and_their_fields
set_option Elab.async false
set_option linter.all false
set_option maxRecDepth 100000
set_option maxHeartbeats 40000000
namespace Ev
open PySem PySem.W PySem.Calls PyProof.Rows
/-! ### the head by one run of the top, told by the kernel for each answer of one row -/
/-- the hook is this one (a word for unification) -/
def wGn (_ : Hook) : Prop := True
theorem wUn (H : Hook) : wGn H := trivial
/-- the run's equation -/
def xX9 (r : OpenRow) (q : Program) (K : Params → Frag) (as : List Addr) (M : Nat) (loose : List PySem.Str) (w : World) : Prop :=
  ∀ os : OsState, (HeadRun.endF (HeadRun.stepQ (HeadRun.denQ HeadRun.tabQ) r.prog w) M r.prog w os).map (fun s => (HeadRun.looksF r.prog (boot_heap w.params) s.abs, HeadRun.seenQ q loose (importedModules r.prog.main.body) (fun s => xlAt q [] s && recOk r.toRowW.records s) s.abs, as.map (HeadRun.getT s))) = some (true, openGood q loose, (K w.params).map fun x => some x.2)
theorem wQu {r : OpenRow} {q : Program} {K : Params → Frag} {as : List Addr} {M : Nat} {loose : List PySem.Str} (row : String) (hf : ∀ w : World, xX9 r q K as M loose (w.withFollow row false)) (ht : ∀ w : World, xX9 r q K as M loose (w.withFollow row true)) (w : World) : xX9 r q K as M loose w :=
  byRow2 row (P := xX9 r q K as M loose) hf ht w
theorem wZz {r : OpenRow} {q : Program} {K : Params → Frag} {as : List Addr} {ek : ∀ P, as = (K P).map (·.1)} {M : Nat} {loose : List PySem.Str} {d : DefRec} {kwd : List (PySem.Str × PySem.Expr)} (_ : wGn (kHook K as ek))
    (e : opening r.prog = plainProg r.prog.main.scope.names) (f : ∀ s, fenceModules? r.prog s = some s) (run : ∀ w, xX9 r q K as M loose w)
    (hdef : defOf q r.name = some (d, kwd)) (hp : r.prog.theDef r.name = some (d.params, d.body, d.scope)) (hk : kwWritten? d.params.kwonlyargs d.params.kw_defaults = some kwd)
    (hwr : (!r.writes || r.records.isEmpty) = true) (k1 : r.wellSaid = true) (ok : (chainsOk q && opensWell r.prog && (frees r.toRowW && r.within.isEmpty)) = true) (hb : r.prog.bare) (hw : r.toRowW.promised)
    (call : WalkO q loose (XL q []) (kHook K as ek).says r.toRowW d kwd fun f vs => PySem.call f vs) : r.Holds := by
  have left : LeftO r.prog q loose (fun s => xlAt q [] s && recOk r.toRowW.records s) (kHook K as ek).obs (kHook K as ek).val (M + 600) true :=
    HeadRun.left_oneK (M := M) e (Nat.ble_eq_true_of_le (by omega)) f (Nat.ble_eq_true_of_le (by omega)) fun w os => run w os
  exact holds_open (r := r) (q := q) (loose := loose) (XP := XL q []) (YP := (kHook K as ek).says) (d := d) (kwd := kwd) left (kHook K as ek).of (kHook K as ek).keeps (fun s z => xl_of s (Bool.and_eq_true_iff.mp z).1) XL.keeps hdef hp hk (fun s z => recFacts_of (Bool.and_eq_true_iff.mp z).2) hwr k1 ok hb hw call
end Ev

section
open PySem PySem.W PySem.Calls PyProof.Rows
local macro_rules | `(tactic| o_head $H) => `(tactic| (have _z := Ev.wUn $H; contradiction))
theorem Ev.hq9S (_ : False) : OpenRow.Holds (OpenLaw.row PySem.Challenge.rw_shadeguards_k01_errors_and_their_fields) := by
  k_head
end
namespace Ev
open PySem PySem.W PySem.Calls PyProof.Rows
abbrev hq9R : OpenRow := OpenLaw.row PySem.Challenge.rw_shadeguards_k01_errors_and_their_fields
abbrev hq9V : Program := view hq9R.prog [31]
def hq9N0 : List PySem.Str := ["ShadeError", "InvalidEntry", "InvalidFresh", "InvalidRoots", "InvalidHeap", "InvalidRegisters", "InvalidThreads", "InvalidState", "InvalidStep", "InvalidCertificate", "InvalidChange", "InvalidGoal", "ParseError", "UnknownCommand", "Started", "Mismatch", "NoObject", "NoInvariant", "NothingToUndo", "TooMany"]
def hq9N1 : List PySem.Str := ["_law_pen", "_law_draw", "_law_thing", "_law_kinds", "_law_bases", "_law_placed", "_law_named", "_law_fields", "_law_due_bases"]
def hq9N : List PySem.Str := hq9N0 ++ hq9N1
noncomputable def hq9A : List Addr := (hq9S.heap_1 { strHash := fun _ => 0, shareClass := fun _ => 0, mergeTok := id, idOf := fun _ => 0, idOfShared := fun _ _ => 0, followText := fun _ => false, idOfImm := fun _ => 0 }).map (·.1)
theorem hq9E (P : Params) : hq9A = (hq9S.heap_1 P).map (·.1) := by kernel_rfl
theorem hq9_false (w : World) : xX9 hq9R hq9V hq9S.heap_1 hq9A 40000 hq9N (w.withFollow "special-get-raises" false) := by
  intro os
  kernel_rfl
theorem hq9_true (w : World) : xX9 hq9R hq9V hq9S.heap_1 hq9A 40000 hq9N (w.withFollow "special-get-raises" true) := by
  intro os
  kernel_rfl
end Ev
namespace Ev
open PySem PySem.Spec PyProof.Rows L2
structure Cl (p : Prop) : Prop where
  go : p

def zU7 (fs : List (Str × PyData)) : List (PyData × PyData) := fs.map fun p => (.str p.1, p.2)
def xXq (c : Str) (fs : List (Str × PyData)) : PyData := .dict ((.none, .str c) :: zU7 fs)
def yGv (c : Str) (fs : List (Str × PyData)) : PyData := .dict ((.none, .int 0) :: (.none, .str c) :: zU7 fs)
inductive Ob where
  | lst (xs : List PyData)
  | dic (es : List (PyData × PyData))
  | ins (c : Str) (fs : List (Str × PyData))
    | dit (W : World) (es : List (PyData × PyData))
def dOf : Ob → PyData
  | .lst xs => .list xs
  | .dic es => .dict es
  | .ins c fs => xXq c fs
  | .dit _ es => .dict ((.none, .int 2) :: es)
structure Thk where
  f : Nat
  c : Nat
  q : Str
  P : L2.Hp → List Addr → Prop
  mono : ∀ F F' ro ro', (∀ b o, F b = some o → F' b = some o) → (∃ t, ro' = ro ++ t) → P F ro → P F' ro'
inductive SV where
  | d (x : PyData)
  | ob (o : Ob)
  | cell (n : Nat)
  | thk (t : Thk)
abbrev SV.own (xs : List PyData) : SV := .ob (.lst xs)
inductive EV where
  | d (x : PyData)
  | new (o : Ob)
  | pk (i : Nat) (o : Ob)
  | cell (n : Nat)
abbrev EV.fresh (xs : List PyData) : EV := .new (.lst xs)
structure Mem where
  sl : List (Option SV)
  cs : List Ob
structure Exn where
  cls : Str
  fs : List (Str × PyData)
inductive Res (α : Type) where
  | ok (a : α) (m : Mem)
  | thr (x : Exn) (m : Mem)
  | bad
abbrev Pg (α : Type) := Mem → Res α
def Res.wp {α : Type} (r : Res α) (Q : α → Mem → Prop) (E : Exn → Mem → Prop) : Prop :=
  match r with
  | .ok a m => Q a m
  | .thr x m => E x m
  | .bad => False
def Pg.bind {α β : Type} (f : Pg α) (g : α → Pg β) : Pg β := fun m =>
  match f m with
  | .ok a m' => g a m'
  | .thr x m' => .thr x m'
  | .bad => .bad
def Pg.ret {α : Type} (a : α) : Pg α := fun m => .ok a m
def Pg.stuck {α : Type} : Pg α := fun _ => .bad
theorem wp_bind {α β : Type} {f : Pg α} {g : α → Pg β} {m : Mem} {Q : β → Mem → Prop} {E : Exn → Mem → Prop} (h : (Pg.bind f g m).wp Q E) : (f m).wp (fun a m' => (g a m').wp Q E) E := by
  unfold Pg.bind at h
  cases e : f m with
  | ok a m' => rw [e] at h; exact h
  | thr x m' => rw [e] at h; exact h
  | bad => rw [e] at h; exact h
theorem Res.wp.imp {α : Type} {r : Res α} {Q Q' : α → Mem → Prop} {E E' : Exn → Mem → Prop} (h : r.wp Q E) (hQ : ∀ a m, Q a m → Q' a m) (hE : ∀ a m, E a m → E' a m) : r.wp Q' E' := by
  cases r with
  | ok a m => exact hQ a m h
  | thr x m => exact hE x m h
  | bad => exact h
def yGd {α : Type} : Option α → Pg α
  | some a => .ret a
  | none => .stuck
def xQb {α : Type} (f : Pg α) : Pg α := fun m =>
  match f m with
  | .ok a m' => .ok a m'
  | .thr _ _ => .bad
  | .bad => .bad
theorem yH3 {α : Type} {f : Pg α} {m : Mem} {Q : α → Mem → Prop} {E : Exn → Mem → Prop} (h : (xQb f m).wp Q E) : (f m).wp Q fun _ _ => False := by
  unfold xQb at h
  cases e : f m with
  | ok a m' => rw [e] at h; exact h
  | thr x m' => rw [e] at h; exact h
  | bad => rw [e] at h; exact h
end Ev

namespace Ev
open PySem PySem.Spec PyProof.Rows L2
mutual
def yG2 : PyData → Option NestedKey
  | .none => some .none
  | .int i => some (.num i)
  | .str x => some (.text x)
  | .tuple ds => (xZ5 ds).map NestedKey.tup
  | _ => none
def xZ5 : List PyData → Option (List NestedKey)
  | [] => some []
  | d :: ds => (yG2 d).bind fun k => (xZ5 ds).map (k :: ·)
end
mutual
theorem wKz {h : Heap} : ∀ (d : PyData) (k : NestedKey) (v : Value) (as : List Addr), yG2 d = some k → Reads h v d as → NestedIs h k v
  | .none, k, v, as, e, r => by
    cases e
    cases r
    exact .none
  | .int i, k, v, as, e, r => by
    cases e
    cases r
    exact .int _ _
  | .str x, k, v, as, e, r => by
    cases e
    cases r
    exact .text _ _
  | .tuple ds, k, v, as, e, r => by
    rw [yG2] at e
    obtain ⟨ks, e1, rfl⟩ := Option.map_eq_some_iff.mp e
    cases r with
    | tuple ho hc hd ha => exact .tup ho hc hd (xUp ds ks _ _ e1 ha)
  | .bool _, k, v, as, e, r => by simp [yG2] at e
  | .list _, k, v, as, e, r => by simp [yG2] at e
  | .dict _, k, v, as, e, r => by simp [yG2] at e
theorem xUp {h : Heap} : ∀ (ds : List PyData) (ks : List NestedKey) (vs : List Value) (as : List Addr), xZ5 ds = some ks → ReadsAll h vs ds as → NestedAll h ks vs
  | [], ks, vs, as, e, r => by
    cases e
    cases r
    exact .nil
  | d :: ds, ks, vs, as, e, r => by
    rw [xZ5] at e
    obtain ⟨k, e1, e2⟩ := Option.bind_eq_some_iff.mp e
    obtain ⟨ks', e3, rfl⟩ := Option.map_eq_some_iff.mp e2
    cases r with
    | cons r1 r2 => exact .cons (wKz d k _ _ e1 r1) (xUp ds ks' _ _ e3 r2)
end
mutual
theorem xGy : ∀ (d : PyData) (k : NestedKey), yG2 d = some k → k.data = d
  | .none, k, e => by cases e; rfl
  | .int i, k, e => by cases e; rfl
  | .str x, k, e => by cases e; rfl
  | .tuple ds, k, e => by
    rw [yG2] at e
    obtain ⟨ks, e1, rfl⟩ := Option.map_eq_some_iff.mp e
    rw [NestedKey.data, xJo ds ks e1]
  | .bool _, k, e => by simp [yG2] at e
  | .list _, k, e => by simp [yG2] at e
  | .dict _, k, e => by simp [yG2] at e
theorem xJo : ∀ (ds : List PyData) (ks : List NestedKey), xZ5 ds = some ks → NestedKey.datas ks = ds
  | [], ks, e => by cases e; rfl
  | d :: ds, ks, e => by
    rw [xZ5] at e
    obtain ⟨k, e1, e2⟩ := Option.bind_eq_some_iff.mp e
    obtain ⟨ks', e3, rfl⟩ := Option.map_eq_some_iff.mp e2
    rw [NestedKey.datas, xGy d k e1, xJo ds ks' e3]
end
def wZ6 (w : World) (x : NestedKey × Addr × Value) : DictEntry := ⟨x.1.hash w, .ref x.2.1, x.2.2⟩
def wYk (p : NestedKey × Addr × V) (q : NestedKey × Addr × Value) : Prop := p.1 = q.1 ∧ p.2.1 = q.2.1 ∧ RelV p.2.2 q.2.2
def ntD (w : World) (a : Addr) (kvs : List (NestedKey × Addr × V)) : HO := .ext fun h => ∃ xs : List (NestedKey × Addr × Value), Paired wYk kvs xs ∧ (a == sysModules) = false ∧ kvs.length ≤ sizeLine ∧ (xs.map (·.1)).Nodup ∧
  ∃ o es ep, h.get? a = some o ∧ o.ExactDict ∧ o.data = .dict es ep ∧ es.toList = xs.map (wZ6 w)
end Ev

namespace Ev
open PySem PySem.Spec PyProof.Rows L2

def xQf : Key → PyData
  | .inl i => .int i
  | .inr s => .str s

theorem xQ2 {K : PySem.W.Frag} {F F' : Hp} (e : Same F F') {a : Addr} {xs : List V} (h : SqT K F a xs) : SqT K F' a xs := by
  rcases h with (h | ⟨o, h⟩) | h
  · exact Or.inl (Or.inl (e _ _ h))
  · exact Or.inl (Or.inr ⟨o, e _ _ h⟩)
  · exact Or.inr h

def mkC (n : Nat) : HO := .rng (n : Int) (-1)
theorem xG4 {n m : Nat} (h : mkC n = mkC m) : n = m := by
  unfold mkC at h
  injection h with h _
  exact Int.ofNat.inj h
def yKz (F H : Hp) : Prop := ∀ a o, F a = some o → (∀ n, o ≠ mkC n) → H a = some o
theorem xof {F H : Hp} (s : Same F H) : yKz F H := fun a o e _ => s a o e
theorem zXs {K : PySem.W.Frag} {F F' : Hp} (e : yKz F F') {a : Addr} {xs : List V} (h : SqT K F a xs) : SqT K F' a xs := by
  rcases h with (h | ⟨o, h⟩) | h
  · exact Or.inl (Or.inl (e _ _ h (by intro n z; cases z)))
  · exact Or.inl (Or.inr ⟨o, e _ _ h (by intro n z; cases z)⟩)
  · exact Or.inr h
def LQ (K : PySem.W.Frag) (H : Hp) (a : Addr) (xs : List V) : Prop :=
  Rd H a (.lst xs) ∨ ∃ (its : List Value) (n : Nat), K.lookup a = some { cls := .type "list", data := .seq its.toArray n } ∧ its.length ≤ sizeLine ∧ Vals xs its
theorem LQ.of {K : PySem.W.Frag} {H : Hp} {a : Addr} {xs : List V} (h : H a = some (.lst xs)) : LQ K H a xs := .inl (.inl h)
theorem LQ.mono {K : PySem.W.Frag} {F F' : Hp} (e : Same F F') {a : Addr} {xs : List V} (h : LQ K F a xs) : LQ K F' a xs := by
  rcases h with (h | ⟨o, h⟩) | h
  · exact Or.inl (Or.inl (e _ _ h))
  · exact Or.inl (Or.inr ⟨o, e _ _ h⟩)
  · exact Or.inr h
theorem LQ.mox {K : PySem.W.Frag} {F F' : Hp} (e : yKz F F') {a : Addr} {xs : List V} (h : LQ K F a xs) : LQ K F' a xs := by
  rcases h with (h | ⟨o, h⟩) | h
  · exact Or.inl (Or.inl (e _ _ h (by intro n z; cases z)))
  · exact Or.inl (Or.inr ⟨o, e _ _ h (by intro n z; cases z)⟩)
  · exact Or.inr h
theorem LQ.sq {K : PySem.W.Frag} {H : Hp} {a : Addr} {xs : List V} (h : LQ K H a xs) : SqL K H a xs := by
  rcases h with h | ⟨its, n, h1, h2, h3⟩
  · exact Or.inl h
  · exact Or.inr ⟨_, its.toArray, n, h1, rfl, rfl, rfl, by simpa using h2, by simpa using h3⟩
theorem LQ.at {X : Cx} {pins : List (Addr × Obj)} {sg : L2.St} {H : Hp} {s : Shared} {a : Addr} {xs : List V} (h : LQ X.K H a xs) (I : L2.Inv X pins sg H s) :
    xs.length ≤ sizeLine ∧ ∃ (its : List Value) (n : Nat), Vals xs its ∧ xs.length = its.length ∧ s.heap.get? a = some { cls := .type "list", data := .seq its.toArray n } := by
  rcases h with h | ⟨its, n, h1, h2, h3⟩
  · obtain ⟨z, its, n, r, e⟩ := h.ok I.hok
    exact ⟨z, its, n, r, r.length, e⟩
  · exact ⟨by rw [h3.length]; exact h2, its, n, h3, h3.length, I.kIn a _ h1⟩

def yG4 (K : PySem.W.Frag) (c : Str) (C : Addr) : Prop := PySem.W.nsIn K mainGlobals c = some (some (.ref C))
theorem yG4.one {K : PySem.W.Frag} {c : Str} {C D : Addr} (h : yG4 K c C) (g : yG4 K c D) : C = D := by
  unfold yG4 at h g
  rw [h] at g
  cases g
  rfl
def excO (a : Addr) (cls : Value) (d : Option Addr) : HO := .ext fun h => ∃ oe vs, h.get? a = some oe ∧ Zc cls d oe ∧ oe.data = .fields vs
theorem xG2 {a : Addr} {c : Value} {d : Option Addr} : ∀ n, excO a c d ≠ mkC n := fun n z => by unfold excO at z; cases z
mutual
inductive R (K : PySem.W.Frag) (F : Hp) : PyData → V → Prop
  | non : R K F .none .non
  | bl (b : Bool) : R K F (.bool b) (.bl b)
  | int (i : Int) : R K F (.int i) (.int i)
  | str (x : Str) : R K F (.str x) (.str x)
  | lst {a : Addr} {vs : List V} {ds : List PyData} : LQ K F a vs → RA K F ds vs → R K F (.list ds) (.ref a)
  | tup {a : Addr} {vs : List V} {ds : List PyData} : SqT K F a vs → RA K F ds vs → R K F (.tuple ds) (.ref a)
  | dic {a : Addr} {kvs : List (Key × V)} {es : List (PyData × PyData)} : F a = some (.dK kvs) → RK K F es kvs → R K F (.dict es) (.ref a)
  | ins {a dx C : Addr} {c : Str} {fs : List (PyData × PyData)} {vs : List (Str × V)} : yG4 K c C → F a = some (.ins C dx vs) → F dx = some (.own a) → RF K F fs vs → R K F (.dict ((.none, .str c) :: fs)) (.ref a)
  | cls {C : Addr} {c : Str} : yG4 K c C → R K F (.dict ((.none, .bool true) :: (.none, .str c) :: [])) (.ref C)
  | exn0 {a C : Addr} {c : Str} : yG4 K c C → F a = some (excO a (.ref C) none) → R K F (.dict ((.none, .int 0) :: (.none, .str c) :: [])) (.ref a)
  | exn {a d C : Addr} {c : Str} {fs : List (PyData × PyData)} {vs : List (Str × V)} : yG4 K c C → F a = some (excO a (.ref C) (some d)) → F d = some (.xd vs) → RF K F fs vs → R K F (.dict ((.none, .int 0) :: (.none, .str c) :: fs)) (.ref a)
  | cell {a : Addr} {n : Nat} : F a = some (mkC n) → R K F (.dict ((.none, .int 1) :: (.none, .int n) :: [])) (.ref a)
  | dit {W : World} {a : Addr} {kvs : List (NestedKey × Addr × V)} {es : List (PyData × PyData)} : F a = some (ntD W a kvs) → RNk K F es kvs → R K F (.dict ((.none, .int 2) :: es)) (.ref a)
inductive RA (K : PySem.W.Frag) (F : Hp) : List PyData → List V → Prop
  | nil : RA K F [] []
  | cons {d : PyData} {ds : List PyData} {v : V} {vs : List V} : R K F d v → RA K F ds vs → RA K F (d :: ds) (v :: vs)
inductive RK (K : PySem.W.Frag) (F : Hp) : List (PyData × PyData) → List (Key × V) → Prop
  | nil : RK K F [] []
  | cons {k : Key} {d : PyData} {es : List (PyData × PyData)} {v : V} {kvs : List (Key × V)} : R K F d v → RK K F es kvs → RK K F ((xQf k, d) :: es) ((k, v) :: kvs)
inductive RF (K : PySem.W.Frag) (F : Hp) : List (PyData × PyData) → List (Str × V) → Prop
  | nil : RF K F [] []
  | cons {k : Str} {d : PyData} {es : List (PyData × PyData)} {v : V} {kvs : List (Str × V)} : R K F d v → RF K F es kvs → RF K F ((.str k, d) :: es) ((k, v) :: kvs)
inductive RNk (K : PySem.W.Frag) (F : Hp) : List (PyData × PyData) → List (NestedKey × Addr × V) → Prop
  | nil : RNk K F [] []
  | cons {k : NestedKey} {d x : PyData} {b : Addr} {es : List (PyData × PyData)} {v : V} {kvs : List (NestedKey × Addr × V)} : yG2 d = some k → k.depth ≤ 8 → R K F d (.ref b) → R K F x v → RNk K F es kvs → RNk K F ((d, x) :: es) ((k, b, v) :: kvs)
end

section
variable {K : PySem.W.Frag} {F F' H : Hp}
mutual
theorem R.mono (e : Same F F') : ∀ {d : PyData} {v : V}, R K F d v → R K F' d v
  | _, _, .non => .non
  | _, _, .bl b => .bl b
  | _, _, .int i => .int i
  | _, _, .str x => .str x
  | _, _, .lst h a => .lst (h.mono e) (RA.mono e a)
  | _, _, .tup h a => .tup (xQ2 e h) (RA.mono e a)
  | _, _, .dic h a => .dic (e _ _ h) (RK.mono e a)
  | _, _, .ins n h1 h2 a => .ins n (e _ _ h1) (e _ _ h2) (RF.mono e a)
  | _, _, .cls n => .cls n
  | _, _, .exn0 n h1 => .exn0 n (e _ _ h1)
  | _, _, .exn n h1 h2 a => .exn n (e _ _ h1) (e _ _ h2) (RF.mono e a)
  | _, _, .cell h1 => .cell (e _ _ h1)
  | _, _, .dit h1 a => .dit (e _ _ h1) (RNk.mono e a)
theorem RA.mono (e : Same F F') : ∀ {ds : List PyData} {vs : List V}, RA K F ds vs → RA K F' ds vs
  | _, _, .nil => .nil
  | _, _, .cons h a => .cons (R.mono e h) (RA.mono e a)
theorem RK.mono (e : Same F F') : ∀ {es : List (PyData × PyData)} {kvs : List (Key × V)}, RK K F es kvs → RK K F' es kvs
  | _, _, .nil => .nil
  | _, _, .cons h a => .cons (R.mono e h) (RK.mono e a)
theorem RF.mono (e : Same F F') : ∀ {es : List (PyData × PyData)} {kvs : List (Str × V)}, RF K F es kvs → RF K F' es kvs
  | _, _, .nil => .nil
  | _, _, .cons h a => .cons (R.mono e h) (RF.mono e a)
theorem RNk.mono (e : Same F F') : ∀ {es : List (PyData × PyData)} {kvs : List (NestedKey × Addr × V)}, RNk K F es kvs → RNk K F' es kvs
  | _, _, .nil => .nil
  | _, _, .cons h1 h2 h3 h4 a => .cons h1 h2 (R.mono e h3) (R.mono e h4) (RNk.mono e a)
end
theorem RA.len : ∀ {ds : List PyData} {vs : List V}, RA K F ds vs → ds.length = vs.length
  | _, _, .nil => rfl
  | _, _, .cons _ a => congrArg (· + 1) (RA.len a)
theorem RA.app : ∀ {ds es : List PyData} {vs ws : List V}, RA K F ds vs → RA K F es ws → RA K F (ds ++ es) (vs ++ ws)
  | _, _, _, _, .nil, b => b
  | _, _, _, _, .cons h a, b => .cons h (RA.app a b)
theorem RA.take : ∀ {ds : List PyData} {vs : List V} (n : Nat), RA K F ds vs → RA K F (ds.take n) (vs.take n)
  | _, _, 0, _ => by rw [List.take_zero, List.take_zero]; exact .nil
  | _, _, n + 1, .nil => by rw [List.take_nil, List.take_nil]; exact .nil
  | _, _, n + 1, .cons h a => .cons h (RA.take n a)
theorem RA.drop : ∀ {ds : List PyData} {vs : List V} (n : Nat), RA K F ds vs → RA K F (ds.drop n) (vs.drop n)
  | _, _, 0, a => a
  | _, _, n + 1, .nil => by rw [List.drop_nil, List.drop_nil]; exact .nil
  | _, _, n + 1, .cons h a => RA.drop n a
theorem RA.get : ∀ {ds : List PyData} {vs : List V} {i : Nat} {d : PyData}, RA K F ds vs → ds[i]? = some d → ∃ v, vs[i]? = some v ∧ R K F d v
  | _, _, _, _, .nil, e => by simp at e
  | _, _, 0, _, .cons h _, e => by
    simp at e
    subst e
    exact ⟨_, rfl, h⟩
  | _, _, i + 1, d, .cons _ a, e => by
    obtain ⟨v, h1, h2⟩ := RA.get (i := i) (d := d) a (by simpa using e)
    exact ⟨v, by simpa using h1, h2⟩
theorem RA.set : ∀ {ds : List PyData} {vs : List V} (i : Nat) {d : PyData} {v : V}, RA K F ds vs → R K F d v → RA K F (ds.set i d) (vs.set i v)
  | _, _, _, _, _, .nil, _ => .nil
  | _, _, 0, _, _, .cons _ a, h => .cons h a
  | _, _, i + 1, _, _, .cons h' a, h => .cons h' (RA.set i a h)
theorem RA.rep {ds : List PyData} {vs : List V} (a : RA K F ds vs) : ∀ n : Nat, RA K F (List.replicate n ds).flatten (List.replicate n vs).flatten
  | 0 => .nil
  | n + 1 => by
    rw [List.replicate_succ, List.replicate_succ, List.flatten_cons, List.flatten_cons]
    exact a.app (RA.rep a n)
theorem RA.one {d : PyData} {v : V} (h : R K F d v) : RA K F [d] [v] := .cons h .nil
theorem RA.ints : ∀ ns : List Int, RA K F (ns.map PyData.int) (ns.map V.int)
  | [] => .nil
  | n :: ns => .cons (.int n) (RA.ints ns)

mutual
theorem R.dp (e : yKz F H) : ∀ {d : PyData} {v : V}, R K F d v → d.canLay0 = true → Dp K H v d
  | _, _, .non, _ => .non
  | _, _, .bl b, _ => .bl b
  | _, _, .int i, _ => .int i
  | _, _, .str x, _ => .str x
  | _, _, .lst h a, c => .lst (h.mox e).sq (RA.dp e a (by simpa [PyData.canLay0] using c))
  | _, _, .tup h a, c => .tup (zXs e h) (RA.dp e a (by simpa [PyData.canLay0] using c))
  | _, _, .dic h a, c => by simp [PyData.canLay0] at c
  | _, _, .ins _ _ _ _, c => by simp [PyData.canLay0] at c
  | _, _, .cls _, c => by simp [PyData.canLay0] at c
  | _, _, .exn0 _ _, c => by simp [PyData.canLay0] at c
  | _, _, .exn _ _ _ _, c => by simp [PyData.canLay0] at c
  | _, _, .cell _, c => by simp [PyData.canLay0] at c
  | _, _, .dit _ _, c => by simp [PyData.canLay0] at c
theorem RA.dp (e : yKz F H) : ∀ {ds : List PyData} {vs : List V}, RA K F ds vs → PyData.canLayAll0 ds = true → DpAll K H vs ds
  | _, _, .nil, _ => .nil
  | _, _, .cons h a, c => by
    simp only [PyData.canLayAll0, Bool.and_eq_true] at c
    exact .cons (R.dp e h c.1) (RA.dp e a c.2)
end
theorem RF.get : ∀ {fs : List (Str × PyData)} {vs : List (Str × V)}, RF K F (zU7 fs) vs → ∀ (x : Str), (∀ d, fs.lookup x = some d → ∃ v, vs.lookup x = some v ∧ R K F d v) ∧ (fs.lookup x = none → vs.lookup x = none)
  | [], _, .nil, x => ⟨fun d h => by simp at h, fun _ => rfl⟩
  | (k, d) :: fs, _, .cons h t, x => by
    obtain ⟨h1, h2⟩ := RF.get (fs := fs) t x
    rw [List.lookup_cons, List.lookup_cons]
    cases e : x == k with
    | true => exact ⟨fun d' z => by cases z; exact ⟨_, rfl, h⟩, fun z => by cases z⟩
    | false => exact ⟨h1, h2⟩
theorem RF.len : ∀ {fs : List (PyData × PyData)} {vs : List (Str × V)}, RF K F fs vs → fs.length = vs.length
  | _, _, .nil => rfl
  | _, _, .cons _ a => congrArg (· + 1) (RF.len a)
theorem RK.len : ∀ {fs : List (PyData × PyData)} {vs : List (Key × V)}, RK K F fs vs → fs.length = vs.length
  | _, _, .nil => rfl
  | _, _, .cons _ a => congrArg (· + 1) (RK.len a)
def yVs : PyData → Bool
  | .int _ => true
  | .str _ => true
  | _ => false
def zZ5 (es : List (PyData × PyData)) : Bool := es.all fun p => yVs p.1
theorem RK.plain : ∀ {es : List (PyData × PyData)} {kvs : List (Key × V)}, RK K F es kvs → zZ5 es = true
  | _, _, .nil => rfl
  | _, _, .cons (k := k) _ a => by
    have := RK.plain a
    unfold zZ5 at this ⊢
    rw [List.all_cons, this]
    cases k <;> rfl
theorem R.dict {es : List (PyData × PyData)} {v : V} (h : R K F (.dict es) v) (p : zZ5 es = true) : ∃ a kvs, v = .ref a ∧ F a = some (.dK kvs) ∧ RK K F es kvs := by
  cases h with
  | dic h1 h2 => exact ⟨_, _, rfl, h1, h2⟩
  | ins _ _ _ _ => simp [zZ5, yVs] at p
  | cls _ => simp [zZ5, yVs] at p
  | exn0 _ _ => simp [zZ5, yVs] at p
  | exn _ _ _ _ => simp [zZ5, yVs] at p
  | cell _ => simp [zZ5, yVs] at p
  | dit _ _ => simp [zZ5, yVs] at p
def OH (K : PySem.W.Frag) (F H : Hp) (Z : Addr → Prop) (a : Addr) : Ob → Prop
  | .lst xs => ∃ vs, H a = some (.lst vs) ∧ RA K F xs vs
  | .dic es => ∃ kvs, H a = some (.dK kvs) ∧ RK K F es kvs
  | .ins c fs => ∃ C dx vs, H a = some (.ins C dx vs) ∧ H dx = some (.own a) ∧ ¬ Z dx ∧ yG4 K c C ∧ RF K F (zU7 fs) vs
  | .dit W es => ∃ kvs, H a = some (ntD W a kvs) ∧ RNk K F es kvs
theorem OH.live {Z : Addr → Prop} {a : Addr} {o : Ob} (h : OH K F H Z a o) : ∃ u, H a = some u := by
  cases o with
  | lst xs => obtain ⟨vs, h, _⟩ := h; exact ⟨_, h⟩
  | dic xs => obtain ⟨vs, h, _⟩ := h; exact ⟨_, h⟩
  | ins c fs => obtain ⟨C, dx, vs, h, _⟩ := h; exact ⟨_, h⟩
  | dit W es => obtain ⟨vs, h, _⟩ := h; exact ⟨_, h⟩
theorem OH.noOwn {Z : Addr → Prop} {a b : Addr} {o : Ob} (h : OH K F H Z a o) : H a ≠ some (.own b) := by
  cases o with
  | lst xs => obtain ⟨vs, h, _⟩ := h; rw [h]; simp
  | dic xs => obtain ⟨vs, h, _⟩ := h; rw [h]; simp
  | ins c fs => obtain ⟨C, dx, vs, h, _⟩ := h; rw [h]; simp
  | dit W es => obtain ⟨vs, h, _⟩ := h; rw [h]; simp [ntD]
theorem OH.keep {H' : Hp} {Z Z' : Addr → Prop} {a : Addr} {o : Ob} (h : OH K F H Z a o) (e : Same F F') (ha : ∀ u, H a = some u → H' a = some u) (hd : ∀ d, H d = some (.own a) → H' d = some (.own a)) (hz : ∀ d, H d = some (.own a) → Z' d → Z d) : OH K F' H' Z' a o := by
  cases o with
  | lst xs => obtain ⟨vs, h1, h2⟩ := h; exact ⟨vs, ha _ h1, h2.mono e⟩
  | dic xs => obtain ⟨vs, h1, h2⟩ := h; exact ⟨vs, ha _ h1, h2.mono e⟩
  | ins c fs => obtain ⟨C, dx, vs, h1, h2, h3, h4, h5⟩ := h; exact ⟨C, dx, vs, ha _ h1, hd _ h2, fun z => h3 (hz _ h2 z), h4, h5.mono e⟩
  | dit W es => obtain ⟨vs, h1, h2⟩ := h; exact ⟨vs, ha _ h1, h2.mono e⟩
end
end Ev

namespace Ev
open PySem PySem.Spec PyProof.Rows L2

theorem OH.ntbl {K : PySem.W.Frag} {F H : Hp} {Z : Addr → Prop} {a : Addr} {o : Ob} (h : OH K F H Z a o) {u : HO} (e : H a = some u) : ∀ ps, u ≠ .tbl ps := fun ps z => by
  subst z
  cases o with
  | lst xs => obtain ⟨vs, h1, _⟩ := h; rw [e] at h1; cases h1
  | dic xs => obtain ⟨vs, h1, _⟩ := h; rw [e] at h1; cases h1
  | ins c fs => obtain ⟨C, dx, vs, h1, _⟩ := h; rw [e] at h1; cases h1
  | dit W es => obtain ⟨vs, h1, _⟩ := h; rw [e] at h1; cases h1
def xH1 (φ : Heap → Prop) : Prop := ∃ a, ∀ h, φ h → ∃ o es ep, h.get? a = some o ∧ o.data = .dict es ep
def wXq : HO → Prop
  | .tbl _ => True
  | .ext φ => ¬ xH1 φ
  | _ => False
theorem OH.soft {K : PySem.W.Frag} {F H : Hp} {Z : Addr → Prop} {a : Addr} {o : Ob} (h : OH K F H Z a o) : ∃ u, H a = some u ∧ ¬ wXq u := by
  cases o with
  | lst xs => obtain ⟨vs, h1, _⟩ := h; exact ⟨_, h1, fun z => z⟩
  | dic xs => obtain ⟨vs, h1, _⟩ := h; exact ⟨_, h1, fun z => z⟩
  | ins c fs => obtain ⟨C, dx, vs, h1, _⟩ := h; exact ⟨_, h1, fun z => z⟩
  | dit W es => obtain ⟨vs, h1, _⟩ := h; exact ⟨_, h1, fun z => z ⟨a, fun g ⟨_, _, _, _, _, o, es, ep, e1, _, e2, _⟩ => ⟨o, es, ep, e1, e2⟩⟩⟩
structure HInv where
  P : Hp → Prop
  st : ∀ H H' : Hp, P H → (∀ b o, H b = some o → wXq o → H' b = some o) → P H'
def HInv.and (A B : HInv) : HInv := ⟨fun H => A.P H ∧ B.P H, fun H H' h e => ⟨A.st H H' h.1 e, B.st H H' h.2 e⟩⟩
structure CInv where
  P : Hp → Prop
  st : ∀ H H' : Hp, P H → (∀ b p, H b = some (.ext p) → ¬ xH1 p → H' b = some (.ext p)) → P H'
def CInv.toH (T : CInv) : HInv := ⟨T.P, fun H H' h e => T.st H H' h fun b p q n => e b _ q n⟩
theorem xHl (c : Addr) (q : Str) {φ : Heap → Prop} (e : LamX.CodeO c q = .ext φ) : ¬ xH1 φ := by
  unfold LamX.CodeO at e
  injection e with e
  subst e
  rintro ⟨a, h⟩
  let ob : Obj := { cls := .type "code", data := .fields #[.none, .str q 0] }
  let g : Heap := { objs := Array.replicate (c + 1) ob }
  have hg : ∀ b, b < c + 1 → g.get? b = some ob := fun b hb => by
    unfold Heap.get?
    have : g.objs[b]? = some ob := by
      show (Array.replicate (c + 1) ob)[b]? = _
      rw [Array.getElem?_replicate, if_pos hb]
    rw [this]
  obtain ⟨o, es, ep, h1, h2⟩ := h g ⟨ob, _, 0, hg c (Nat.lt_succ_self c), rfl, rfl⟩
  by_cases hb : a < c + 1
  · rw [hg a hb] at h1
    cases h1
    cases h2
  · have : g.get? a = none := by
      unfold Heap.get?
      have : g.objs[a]? = none := by
        show (Array.replicate (c + 1) ob)[a]? = _
        rw [Array.getElem?_replicate, if_neg hb]
      rw [this]
    rw [this] at h1
    cases h1
def CInv.and (A B : CInv) : CInv := ⟨fun H => A.P H ∧ B.P H, fun H H' h e => ⟨A.st H H' h.1 e, B.st H H' h.2 e⟩⟩
def T0 : CInv := ⟨fun _ => True, fun _ _ _ _ => trivial⟩
theorem HInv.go (T : HInv) {H H' : Hp} (h : T.P H) (e : ∀ b o, H b = some o → H' b = some o) : T.P H' := T.st H H' h fun b o q _ => e b o q
theorem HInv.up (T : HInv) {H : Hp} {a : Addr} {o u : HO} (h : T.P H) (e : H a = some o) (n : ¬ wXq o) : T.P (upd H a u) := T.st H _ h fun b v q k => by
  by_cases z : b = a
  · subst z
    rw [e] at q
    cases q
    exact absurd k n
  · rw [upd_ne z]
    exact q
theorem HInv.us (T : HInv) {H : Hp} {a : Addr} {u : HO} (h : T.P H) (e : ∃ o, H a = some o ∧ ¬ wXq o) : T.P (upd H a u) := by
  obtain ⟨o, e1, e2⟩ := e
  exact T.up h e1 e2
structure Wd where
  F : Hp
  ro : List Addr
  m : Mem
  sg : L2.St
  H : Hp
  Z : Addr → Prop
  T : CInv
def Own (w : Wd) (a : Addr) : Prop := ∃ (i : Nat) (o : Ob), w.m.sl[i]? = some (some (SV.ob o)) ∧ w.sg[i]? = some (some (V.ref a))
def RS (K : PySem.W.Frag) (w : Wd) : SV → V → Prop
  | .d x, v => R K w.F x v
  | .ob o, v => ∃ a, v = .ref a ∧ OH K w.F w.H w.Z a o ∧ w.F a = none ∧ a ∉ w.ro ∧ ¬ w.Z a
  | .cell n, v => ∃ a, v = .ref a ∧ w.ro[n]? = some a
  | .thk t, v => v = .ref t.f ∧ t.P w.F w.ro ∧ ∀ H, w.T.P H → H t.c = some (LamX.CodeO t.c t.q)
def yKw : List Str := ["law", "_law_names_right", "_law_right", "_law_asks", "_law_prices_right", "_law_told", "_law_tried_right", "_law_at_right", "_law_did", "_law_unlike_right", "_law_trials_right", "_law_left_out_right", "_law_back", "_law_tabled", "_law_place_right", "_law_wish_right", "_law_deed", "_law_due", "_law_wide_right", "_law_begun", "_law_kept_right", "_law_call_right", "_law_run_right"]
def wUk (x : Str) : Str := x ++ ".<locals>." ++ "<lambda>"
def xVk (K : PySem.W.Frag) : List (Addr × Str) := yKw.filterMap fun x => (PySem.W.tabIn K x).map fun p => (p.2, wUk x)
def TOf (K : PySem.W.Frag) : HInv := ⟨fun H => LamX.Tabs (xVk K) H, fun H H' h e p hp => by
  obtain ⟨ps, h1, h2, h3⟩ := h p hp
  refine ⟨ps, e _ _ h1 trivial, h2, fun pos cv hc => ?_⟩
  obtain ⟨c, e1, e2⟩ := h3 pos cv hc
  exact ⟨c, e1, e _ _ e2 (xHl c _ rfl)⟩⟩
def TK (K : PySem.W.Frag) (w : Wd) : HInv := w.T.toH.and (TOf K)
def TB (K : PySem.W.Frag) (w : Wd) : Prop := (TK K w).P w.H ∧ (∀ b ps, w.F b ≠ some (.tbl ps)) ∧ ∀ b ps, w.H b = some (.tbl ps) → ∃ q, (b, q) ∈ xVk K
theorem xQ1 {K : PySem.W.Frag} {H : Hp} {a : Addr} {u : HO} (h : ∀ b ps, H b = some (.tbl ps) → ∃ q, (b, q) ∈ xVk K) (n : ∀ ps, u ≠ .tbl ps) : ∀ b ps, upd H a u b = some (.tbl ps) → ∃ q, (b, q) ∈ xVk K := fun b ps e => by
  by_cases z : b = a
  · subst z
    rw [upd_same] at e
    exact absurd (Option.some.inj e) (n ps)
  · rw [upd_ne z] at e
    exact h b ps e
theorem xZu {t : Thk} {F F' : Hp} {ro ro' : List Addr} (h : t.P F ro) (s : Same F F') (p : ∃ u, ro' = ro ++ u := by exact ⟨[], (List.append_nil _).symm⟩) : t.P F' ro' := t.mono F F' ro ro' (fun b o e => s b o e) p h
theorem xG1 {xs : List V} : ∀ n, HO.lst xs ≠ mkC n := fun n z => by cases z
theorem xJp {xs : List (Key × V)} : ∀ n, HO.dK xs ≠ mkC n := fun n z => by cases z
theorem xKn {C d : Addr} {xs : List (Str × V)} : ∀ n, HO.ins C d xs ≠ mkC n := fun n z => by cases z
theorem xG0 {d : Addr} : ∀ n, HO.own d ≠ mkC n := fun n z => by cases z
theorem xUr {xs : List (Str × V)} : ∀ n, HO.xd xs ≠ mkC n := fun n z => by cases z
theorem wZm {W : World} {a : Addr} {xs : List (NestedKey × Addr × V)} : ∀ n, ntD W a xs ≠ mkC n := fun n z => by cases z
structure Rep (K : PySem.W.Frag) (w : Wd) : Prop where
  sub : yKz w.F w.H
  le : w.m.sl.length ≤ w.sg.length
  sl : ∀ (i : Nat) (v : SV), w.m.sl[i]? = some (some v) → ∃ x, w.sg[i]? = some (some x) ∧ RS K w v x
  cs : ∀ (n : Nat) (o : Ob), w.m.cs[n]? = some o → ∃ a, w.ro[n]? = some a ∧ OH K w.F w.H (fun _ => False) a o
  ln : w.m.cs.length = w.ro.length
  rf : ∀ n a, w.ro[n]? = some a → w.F a = some (mkC n) ∨ w.F a = none ∧ ∃ c fs, w.m.cs[n]? = some (.ins c fs)
  rk : ∀ n a, w.F a = some (mkC n) → w.ro[n]? = some a
  nd : w.ro.Nodup
  ow : ∀ (i j : Nat) (xs ys : Ob) (x : V), w.m.sl[i]? = some (some (SV.ob xs)) → w.m.sl[j]? = some (some (SV.ob ys)) → w.sg[i]? = some (some x) → w.sg[j]? = some (some x) → i = j
  zl : ∀ a, w.Z a → w.H a ≠ none
  oo : ∀ d a, w.H d = some (.own a) → ∃ C vs, w.H a = some (.ins C d vs)
  tb : TB K w
theorem Rep.roLive {K : PySem.W.Frag} {w : Wd} (r : Rep K w) {a : Addr} (h : a ∈ w.ro) : w.H a ≠ none := by
  obtain ⟨n, hn⟩ := List.mem_iff_getElem?.mp h
  have hl : n < w.m.cs.length := by
    rw [r.ln]
    exact (List.getElem?_eq_some_iff.mp hn).1
  obtain ⟨b, h1, h2⟩ := r.cs n _ (List.getElem?_eq_getElem hl)
  rw [hn] at h1
  cases h1
  obtain ⟨u, hu⟩ := h2.live
  rw [hu]
  simp
theorem Rep.ownAt {K : PySem.W.Frag} {w : Wd} (r : Rep K w) {a : Addr} (h : Own w a) : w.H a ≠ none ∧ w.F a = none ∧ a ∉ w.ro ∧ ¬ w.Z a := by
  obtain ⟨i, xs, h1, h2⟩ := h
  obtain ⟨x, h3, b, h4, h5, h6, h7, h8⟩ := r.sl i _ h1
  rw [h2] at h3
  cases h3
  cases h4
  obtain ⟨u, hu⟩ := h5.live
  exact ⟨by rw [hu]; simp, h6, h7, h8⟩
theorem Rep.noOwnDict {K : PySem.W.Frag} {w : Wd} (r : Rep K w) {a d : Addr} (h : w.H d = some (.own a)) : d ∉ w.ro ∧ ¬ Own w d := by
  refine ⟨fun hm => ?_, fun ⟨i, xs, h1, h2⟩ => ?_⟩
  · obtain ⟨n, hn⟩ := List.mem_iff_getElem?.mp hm
    have hl : n < w.m.cs.length := by
      rw [r.ln]
      exact (List.getElem?_eq_some_iff.mp hn).1
    obtain ⟨b, h1, h2⟩ := r.cs n _ (List.getElem?_eq_getElem hl)
    rw [hn] at h1
    cases h1
    exact h2.noOwn h
  · obtain ⟨x, h3, b, h4, h5, _⟩ := r.sl i _ h1
    rw [h2] at h3
    cases h3
    cases h4
    exact h5.noOwn h

structure FolE (w w' : Wd) : Prop where
  z : w'.Z = w.Z
  t : w'.T = w.T
  ext : Same w.F w'.F
  pre : ∃ t, w'.ro = w.ro ++ t
  frm : ∀ a o, w.H a = some o → a ∉ w.ro → (∀ ps, o ≠ .tbl ps) → w'.H a = some o
  new : ∀ a, a ∈ w'.ro → a ∈ w.ro ∨ w.H a = none
  liv : ∀ a, w.H a ≠ none → w'.H a ≠ none
  grow : ∀ a, w'.F a ≠ none → w.F a ≠ none ∨ ¬ w.Z a
  own : ∀ a, Own w' a → Own w a
structure FolS (w w' : Wd) : Prop where
  z : w'.Z = w.Z
  t : w'.T = w.T
  ext : Same w.F w'.F
  pre : ∃ t, w'.ro = w.ro ++ t
  frm : ∀ a o, w.H a = some o → a ∉ w.ro → w.Z a → (∀ ps, o ≠ .tbl ps) → w'.H a = some o
  new : ∀ a, a ∈ w'.ro → a ∈ w.ro ∨ ¬ w.Z a
  liv : ∀ a, w.H a ≠ none → w'.H a ≠ none
  grow : ∀ a, w'.F a ≠ none → w.F a ≠ none ∨ ¬ w.Z a
theorem FolE.s {K : PySem.W.Frag} {w w' : Wd} (r : Rep K w) (f : FolE w w') : FolS w w' := ⟨f.z, f.t, f.ext, f.pre, fun a o h n _ k => f.frm a o h n k, fun a h => (f.new a h).imp id fun q z => r.zl a z q, f.liv, f.grow⟩
theorem FolE.refl (w : Wd) : FolE w w := ⟨rfl, rfl, Same.refl _, ⟨[], (List.append_nil _).symm⟩, fun _ _ h _ _ => h, fun _ h => .inl h, fun _ h => h, fun _ h => .inl h, fun _ h => h⟩
theorem FolS.refl (w : Wd) : FolS w w := ⟨rfl, rfl, Same.refl _, ⟨[], (List.append_nil _).symm⟩, fun _ _ h _ _ _ => h, fun _ h => .inl h, fun _ h => h, fun _ h => .inl h⟩
theorem yHm {α : Type} {o : Option α} {a : α} (h : o = some a) : o ≠ none := by
  rw [h]
  simp
theorem FolE.trans {w w1 w2 : Wd} (f : FolE w w1) (g : FolE w1 w2) : FolE w w2 := by
  have nr : ∀ a, w.H a ≠ none → a ∉ w.ro → a ∉ w1.ro := fun a h n q => (f.new a q).elim n h
  refine ⟨g.z.trans f.z, g.t.trans f.t, f.ext.trans g.ext, ?_, fun a o h n k => g.frm a o (f.frm a o h n k) (nr a (yHm h) n) k, fun a h => ?_, fun a h => g.liv a (f.liv a h), fun a h => ?_, fun a h => f.own a (g.own a h)⟩
  · obtain ⟨t, e⟩ := f.pre
    obtain ⟨u, e2⟩ := g.pre
    exact ⟨t ++ u, by rw [e2, e, List.append_assoc]⟩
  · rcases g.new a h with q | q
    · exact f.new a q
    · exact .inr (Classical.byContradiction fun z => f.liv a z q)
  · rcases g.grow a h with q | q
    · exact f.grow a q
    · rw [f.z] at q
      exact .inr q
theorem FolS.trans {w w1 w2 : Wd} (f : FolS w w1) (g : FolS w1 w2) : FolS w w2 := by
  refine ⟨g.z.trans f.z, g.t.trans f.t, f.ext.trans g.ext, ?_, fun a o h n z k => g.frm a o (f.frm a o h n z k) (fun q => (f.new a q).elim n fun k => k z) (by rw [f.z]; exact z) k, fun a h => ?_, fun a h => g.liv a (f.liv a h), fun a h => ?_⟩
  · obtain ⟨t, e⟩ := f.pre
    obtain ⟨u, e2⟩ := g.pre
    exact ⟨t ++ u, by rw [e2, e, List.append_assoc]⟩
  · rcases g.new a h with q | q
    · exact f.new a q
    · rw [f.z] at q
      exact .inr q
  · rcases g.grow a h with q | q
    · exact f.grow a q
    · rw [f.z] at q
      exact .inr q
theorem FolE.at {w w' : Wd} (f : FolE w w') {n : Nat} {a : Addr} (h : w.ro[n]? = some a) : w'.ro[n]? = some a := by
  obtain ⟨t, e⟩ := f.pre
  rw [e, List.getElem?_append_left (List.getElem?_eq_some_iff.mp h).1]
  exact h
theorem FolS.at {w w' : Wd} (f : FolS w w') {n : Nat} {a : Addr} (h : w.ro[n]? = some a) : w'.ro[n]? = some a := by
  obtain ⟨t, e⟩ := f.pre
  rw [e, List.getElem?_append_left (List.getElem?_eq_some_iff.mp h).1]
  exact h

def RE (K : PySem.W.Frag) (w : Wd) : EV → V → Prop
  | .d x, v => R K w.F x v
  | .new o, v => ∃ a, v = .ref a ∧ OH K w.F w.H w.Z a o ∧ w.F a = none ∧ a ∉ w.ro ∧ ¬ w.Z a ∧ ¬ Own w a
  | .pk i o, v => w.m.sl[i]? = some (some (SV.ob o)) ∧ w.sg[i]? = some (some v)
  | .cell n, v => ∃ a, v = .ref a ∧ w.ro[n]? = some a
inductive OV where
  | d (x : PyData)
  | cell (n : Nat)
def yGn : EV → OV
  | .d x => .d x
  | .new o => .d (dOf o)
  | .pk _ o => .d (dOf o)
  | .cell n => .cell n
def RO (K : PySem.W.Frag) (w : Wd) : OV → V → Prop
  | .d x, v => R K w.F x v ∨ ∃ a o, x = dOf o ∧ v = .ref a ∧ OH K w.F w.H (fun _ => False) a o ∧ a ∉ w.ro
  | .cell n, v => ∃ a, v = .ref a ∧ w.ro[n]? = some a
theorem OH.any {K : PySem.W.Frag} {F H : Hp} {Z : Addr → Prop} {a : Addr} {o : Ob} (h : OH K F H Z a o) : OH K F H (fun _ => False) a o := h.keep (Same.refl _) (fun _ z => z) (fun _ z => z) fun _ _ z => z.elim
theorem RE.ro {K : PySem.W.Frag} {w : Wd} (r : Rep K w) : ∀ {v : EV} {x : V}, RE K w v x → RO K w (yGn v) x
  | .d _, _, h => .inl h
  | .new o, _, ⟨a, e, h, _, n, _, _⟩ => .inr ⟨a, o, rfl, e, h.any, n⟩
  | .pk i o, _, ⟨h1, h2⟩ => by
    obtain ⟨x, h3, a, e, h, _, n, _⟩ := r.sl i _ h1
    rw [h2] at h3
    cases h3
    exact .inr ⟨a, o, rfl, e, h.any, n⟩
  | .cell _, _, h => h
theorem RO.fol {K : PySem.W.Frag} {w w' : Wd} (r : Rep K w) (f : FolE w w') : ∀ {v : OV} {x : V}, RO K w v x → RO K w' v x
  | .d _, _, .inl h => .inl (h.mono f.ext)
  | .d _, _, .inr ⟨a, o, e1, e2, h, n⟩ => .inr ⟨a, o, e1, e2, h.keep f.ext (fun u z => f.frm _ _ z n (h.ntbl z)) (fun d z => f.frm _ _ z (r.noOwnDict z).1 (by intro _ q; cases q)) (fun _ _ z => z), fun q => (f.new a q).elim n (by obtain ⟨u, hu⟩ := h.live; exact yHm hu)⟩
  | .cell _, _, ⟨a, e, h⟩ => ⟨a, e, f.at h⟩
def lk : OV → Mem → Option PyData
  | .d x, _ => some x
  | .cell n, m => m.cs[n]?.map dOf
def look {α : Type} (o : OV) (k : PyData → Pg α) : Pg α := fun m => match lk o m with
  | some x => k x m
  | none => .bad
def RN (K : PySem.W.Frag) (w : Wd) (x : PyData) (v : V) : Prop := R K w.F x v ∨ ∃ a o, x = dOf o ∧ v = .ref a ∧ OH K w.F w.H (fun _ => False) a o
theorem RO.rn {K : PySem.W.Frag} {w : Wd} (r : Rep K w) : ∀ {o : OV} {v : V} {x : PyData}, RO K w o v → lk o w.m = some x → RN K w x v
  | .d y, v, x, h, e => by
    cases e
    rcases h with h | ⟨a, o, e1, e2, h, _⟩
    · exact .inl h
    · exact .inr ⟨a, o, e1, e2, h⟩
  | .cell n, v, x, ⟨a, e1, e2⟩, e => by
    have e : w.m.cs[n]?.map dOf = some x := e
    cases ec : w.m.cs[n]? with
    | none =>
      rw [ec] at e
      cases e
    | some o =>
      rw [ec] at e
      cases e
      obtain ⟨b, h1, h2⟩ := r.cs n o ec
      rw [e2] at h1
      cases h1
      exact .inr ⟨a, o, rfl, e1, h2⟩
theorem yJr {α : Type} {o : OV} {k : PyData → Pg α} {m : Mem} {P : α → Mem → Prop} {E : Exn → Mem → Prop} (h : (look o k m).wp P E) : ∃ x, lk o m = some x ∧ (k x m).wp P E := by
  unfold look at h
  cases e : lk o m with
  | none =>
    rw [e] at h
    exact h.elim
  | some x =>
    rw [e] at h
    exact ⟨x, rfl, h⟩
theorem xQh : ∀ {fs gs : List (Str × PyData)}, zU7 fs = zU7 gs → fs = gs
  | [], [], _ => rfl
  | [], _ :: _, h => by simp [zU7] at h
  | _ :: _, [], h => by simp [zU7] at h
  | (k, d) :: fs, (k', d') :: gs, h => by
    simp only [zU7, List.map_cons, List.cons.injEq, Prod.mk.injEq, PyData.str.injEq] at h
    obtain ⟨⟨e1, e2⟩, h⟩ := h
    rw [e1, e2, xQh h]
section
variable {K : PySem.W.Frag} {w : Wd} {v : V}
theorem RN.non (h : RN K w .none v) : v = .non := by
  rcases h with h | ⟨_, o, e, _⟩
  · cases h; rfl
  · cases o <;> cases e
theorem RN.bl {b : Bool} (h : RN K w (.bool b) v) : v = .bl b := by
  rcases h with h | ⟨_, o, e, _⟩
  · cases h; rfl
  · cases o <;> cases e
theorem RN.int {i : Int} (h : RN K w (.int i) v) : v = .int i := by
  rcases h with h | ⟨_, o, e, _⟩
  · cases h; rfl
  · cases o <;> cases e
theorem RN.str {i : Str} (h : RN K w (.str i) v) : v = .str i := by
  rcases h with h | ⟨_, o, e, _⟩
  · cases h; rfl
  · cases o <;> cases e
theorem RN.tup {xs : List PyData} (h : RN K w (.tuple xs) v) : ∃ a vs, v = .ref a ∧ SqT K w.F a vs ∧ RA K w.F xs vs := by
  rcases h with h | ⟨_, o, e, _⟩
  · cases h with
    | tup h a => exact ⟨_, _, rfl, h, a⟩
  · cases o <;> cases e
theorem RN.lst {xs : List PyData} (s : yKz w.F w.H) (h : RN K w (.list xs) v) : ∃ a vs, v = .ref a ∧ LQ K w.H a vs ∧ RA K w.F xs vs := by
  rcases h with h | ⟨a, o, e, ev, h⟩
  · cases h with
    | lst h a => exact ⟨_, _, rfl, h.mox s, a⟩
  · cases o with
    | lst ys =>
      cases e
      obtain ⟨vs, h1, h2⟩ := h
      exact ⟨a, vs, ev, .of h1, h2⟩
    | dic es => cases e
    | ins c fs => cases e
    | dit W es => cases e
theorem RN.dic {es : List (PyData × PyData)} (s : yKz w.F w.H) (h : RN K w (.dict es) v) (p : zZ5 es = true) : ∃ a kvs, v = .ref a ∧ w.H a = some (.dK kvs) ∧ RK K w.F es kvs := by
  rcases h with h | ⟨a, o, e, ev, h⟩
  · obtain ⟨a, kvs, e, h1, h2⟩ := h.dict p
    exact ⟨a, kvs, e, s _ _ h1 xJp, h2⟩
  · cases o with
    | lst ys => cases e
    | dic es =>
      cases e
      obtain ⟨vs, h1, h2⟩ := h
      exact ⟨a, vs, ev, h1, h2⟩
    | ins c fs =>
      cases e
      simp [zZ5, yVs] at p
    | dit W es =>
      cases e
      simp [zZ5, yVs] at p
theorem RN.ins {c : Str} {fs : List (Str × PyData)} (s : yKz w.F w.H) (h : RN K w (xXq c fs) v) : ∃ a C dx vs, v = .ref a ∧ yG4 K c C ∧ w.H a = some (.ins C dx vs) ∧ RF K w.F (zU7 fs) vs := by
  rcases h with h | ⟨a, o, e, ev, h⟩
  · unfold xXq at h
    cases h with
    | dic h1 h2 =>
      have := h2.plain
      simp [zZ5, yVs] at this
    | ins n h1 h2 h3 => exact ⟨_, _, _, _, rfl, n, s _ _ h1 xKn, h3⟩
  · cases o with
    | lst ys => cases e
    | dic es =>
      obtain ⟨vs, h1, h2⟩ := h
      have e : xXq c fs = .dict es := e
      unfold xXq at e
      cases e
      have := h2.plain
      simp [zZ5, yVs] at this
    | ins c' fs' =>
      have e : xXq c fs = xXq c' fs' := e
      unfold xXq at e
      simp only [PyData.dict.injEq, List.cons.injEq, Prod.mk.injEq, PyData.str.injEq, true_and] at e
      obtain ⟨e1, e2⟩ := e
      have e2 := xQh e2
      subst e1 e2
      obtain ⟨C, dx, vs, h1, h2, h3, h4, h5⟩ := h
      exact ⟨a, C, dx, vs, ev, h4, h1, h5⟩
    | dit W es =>
      have e : xXq c fs = .dict ((.none, .int 2) :: es) := e
      unfold xXq at e
      cases e
end

abbrev XBt := Exn → Wd → Prop
def XW (K : PySem.W.Frag) (B : XBt) (w : Wd) : Exn → Mem → Prop := fun x m' => ∀ w' : Wd, w'.m = m' → FolS w w' → Rep K w' → B x w'
theorem XW.fol {K : PySem.W.Frag} {B : XBt} {w w1 : Wd} (f : FolS w w1) {x : Exn} {m : Mem} (h : XW K B w x m) : XW K B w1 x m := fun w' e g r => h w' e (f.trans g) r
def WE (X : Cx) (e : Expr) : TE := fun sg H Q => Cl (∀ (pins : List (Addr × Obj)) (s : Shared), L2.Inv X pins sg H s → wpAny (model X.prog X.w) X.A (eval e X.env) (EP X pins sg Q) X.xe s)
def WT (X : Cx) (e : Expr) : TT := fun sg H Q => Cl (∀ (pins : List (Addr × Obj)) (s : Shared), L2.Inv X pins sg H s → wpAny (model X.prog X.w) X.A (isTrue e X.env (eval e X.env)) (TP X pins sg Q) X.xe s)
def WA (X : Cx) (es : List Expr) : TA := fun sg H Q => Cl (∀ (pos : Pos) (pins : List (Addr × Obj)) (s : Shared), L2.Inv X pins sg H s → wpAny (model X.prog X.w) X.A (spliced (backTo pos (starEach es X.env))) (AP X pins sg Q) X.xe s)
def WS (X : Cx) (st : Stmt) : TS := fun D sg H => Cl (∀ (pins : List (Addr × Obj)) (s : Shared), L2.Inv X pins sg H s → wpAny (model X.prog X.w) X.A (exec st X.env) (SP X pins D) X.xe s)
def WB (X : Cx) (sts : List Stmt) : TS := fun D sg H => Cl (∀ (pins : List (Addr × Obj)) (s : Shared), L2.Inv X pins sg H s → wpAny (model X.prog X.w) X.A (execs sts X.env) (SP X pins D) X.xe s)
theorem yG1 {X : Cx} {e : Expr} : PE X e (WE X e) := ⟨fun pins s _ _ _ I h => h.go pins s I⟩
theorem xGp {X : Cx} {e : Expr} : PT X e (WT X e) := ⟨fun pins s _ _ _ I h => h.go pins s I⟩
theorem xYf {X : Cx} {es : List Expr} : PA X es (WA X es) := ⟨fun pos pins s _ _ _ I h => h.go pos pins s I⟩
theorem wY7 {X : Cx} {st : Stmt} : PS X st (WS X st) := ⟨fun pins s _ _ _ I h => h.go pins s I⟩
theorem wQ8 {X : Cx} {sts : List Stmt} : PSs X sts (WB X sts) := ⟨fun pins s _ _ _ I h => h.go pins s I⟩
theorem yYq {X : Cx} {e : Expr} {t : TE} (h : PE X e t) {sg : L2.St} {H : Hp} {Q : VK} (q : t sg H Q) : WE X e sg H Q := ⟨fun pins s I => h.run pins s sg H Q I q⟩
theorem wQm {X : Cx} {e : Expr} {t : TT} (h : PT X e t) {sg : L2.St} {H : Hp} {Q : Bool → Hp → Prop} (q : t sg H Q) : WT X e sg H Q := ⟨fun pins s I => h.run pins s sg H Q I q⟩
theorem xW0 {X : Cx} {es : List Expr} {t : TA} (h : PA X es t) {sg : L2.St} {H : Hp} {Q : List V → Hp → Prop} (q : t sg H Q) : WA X es sg H Q := ⟨fun pos pins s I => h.run pos pins s sg H Q I q⟩
theorem xZs {X : Cx} {st : Stmt} {t : TS} (h : PS X st t) {D : Ends} {sg : L2.St} {H : Hp} (q : t D sg H) : WS X st D sg H := ⟨fun pins s I => h.run pins s sg H D I q⟩
theorem xU7 {X : Cx} {sts : List Stmt} {t : TS} (h : PSs X sts t) {D : Ends} {sg : L2.St} {H : Hp} (q : t D sg H) : WB X sts D sg H := ⟨fun pins s I => h.run pins s sg H D I q⟩

def yYt (K : PySem.W.Frag) (w : Wd) (Q : VK) : EV → Mem → Prop := fun v m' => ∀ (w' : Wd) (x : V), w'.m = m' → w'.sg = w.sg → FolE w w' → Rep K w' → RE K w' v x → Q x w'.H
def xHz (K : PySem.W.Frag) (w : Wd) (Q : Bool → Hp → Prop) : Bool → Mem → Prop := fun b m' => ∀ (w' : Wd), w'.m = m' → w'.sg = w.sg → FolE w w' → Rep K w' → Q b w'.H
def Snd (X : Cx) (B : XBt) (e : Expr) (f : Pg EV) : Prop := ∀ (w : Wd) (Q : VK), Rep X.K w → (f w.m).wp (yYt X.K w Q) (XW X.K B w) → WE X e w.sg w.H Q
def xWg (X : Cx) (B : XBt) (e : Expr) (f : Pg Bool) : Prop := ∀ (w : Wd) (Q : Bool → Hp → Prop), Rep X.K w → (f w.m).wp (xHz X.K w Q) (XW X.K B w) → WT X e w.sg w.H Q
def wXp (K : PySem.W.Frag) (w : Wd) (Q : List V → Hp → Prop) : List OV → Mem → Prop := fun vs m' => ∀ (w' : Wd) (xs : List V), w'.m = m' → w'.sg = w.sg → FolE w w' → Rep K w' → Paired (RO K w') vs xs → Q xs w'.H
def xU1 (X : Cx) (B : XBt) (es : List Expr) (f : Pg (List OV)) : Prop := ∀ (w : Wd) (Q : List V → Hp → Prop), Rep X.K w → (f w.m).wp (wXp X.K w Q) (XW X.K B w) → WA X es w.sg w.H Q
inductive AV where
  | d (x : PyData)
  | cell (n : Nat)
def RV (K : PySem.W.Frag) (w : Wd) : AV → V → Prop
  | .d x, v => R K w.F x v
  | .cell n, v => ∃ a, v = .ref a ∧ w.ro[n]? = some a
theorem RV.fol {K : PySem.W.Frag} {w w' : Wd} (f : FolE w w') : ∀ {v : AV} {x : V}, RV K w v x → RV K w' v x
  | .d _, _, h => R.mono f.ext h
  | .cell _, _, ⟨a, e, h⟩ => ⟨a, e, f.at h⟩
def xUe (K : PySem.W.Frag) (w : Wd) (Q : List V → Hp → Prop) : List AV → Mem → Prop := fun vs m' => ∀ (w' : Wd) (xs : List V), w'.m = m' → w'.sg = w.sg → FolE w w' → Rep K w' → Paired (RV K w') vs xs → Q xs w'.H
def xUd (X : Cx) (B : XBt) (es : List Expr) (f : Pg (List AV)) : Prop := ∀ (w : Wd) (Q : List V → Hp → Prop), Rep X.K w → (f w.m).wp (xUe X.K w Q) (XW X.K B w) → WA X es w.sg w.H Q
inductive Fl where
  | next
  | brk
  | cont
  | ret (v : EV)
def yG3 (K : PySem.W.Frag) (w : Wd) (D : Ends) : Fl → Mem → Prop := fun f m' => ∀ (w' : Wd), w'.m = m' → FolS w w' → Rep K w' → match f with
  | .next => D.nx w'.sg w'.H
  | .brk => D.bk w'.sg w'.H
  | .cont => D.ct w'.sg w'.H
  | .ret v => ∀ x, RE K w' v x → D.rt x w'.H
def xWp (X : Cx) (B : XBt) (st : Stmt) (f : Pg Fl) : Prop := ∀ (w : Wd) (D : Ends), Rep X.K w → (f w.m).wp (yG3 X.K w D) (XW X.K B w) → WS X st D w.sg w.H
def xUc (X : Cx) (B : XBt) (sts : List Stmt) (f : Pg Fl) : Prop := ∀ (w : Wd) (D : Ends), Rep X.K w → (f w.m).wp (yG3 X.K w D) (XW X.K B w) → WB X sts D w.sg w.H

theorem zZx {X : Cx} {B : XBt} {e : Expr} {f : Pg EV} {α : Type} {g : EV → Pg α} {P : α → Mem → Prop} {w : Wd} {Q : VK} (h : Snd X B e f) (r : Rep X.K w) (hw : (Pg.bind f g w.m).wp P (XW X.K B w))
    (next : ∀ (v : EV) (w' : Wd) (x : V), w'.sg = w.sg → FolE w w' → Rep X.K w' → RE X.K w' v x → (g v w'.m).wp P (XW X.K B w') → Q x w'.H) : WE X e w.sg w.H Q := by
  refine h w Q r ((wp_bind hw).imp (fun v m' q w' x e1 e2 f r' re => ?_) fun _ _ q => q)
  subst e1
  exact next v w' x e2 f r' re (q.imp (fun _ _ z => z) fun _ _ z => z.fol (f.s r))
theorem yG6 {X : Cx} {B : XBt} {e : Expr} {f : Pg Bool} {α : Type} {g : Bool → Pg α} {P : α → Mem → Prop} {w : Wd} {Q : Bool → Hp → Prop} (h : xWg X B e f) (r : Rep X.K w) (hw : (Pg.bind f g w.m).wp P (XW X.K B w))
    (next : ∀ (v : Bool) (w' : Wd), w'.sg = w.sg → FolE w w' → Rep X.K w' → (g v w'.m).wp P (XW X.K B w') → Q v w'.H) : WT X e w.sg w.H Q := by
  refine h w Q r ((wp_bind hw).imp (fun v m' q w' e1 e2 f r' => ?_) fun _ _ q => q)
  subst e1
  exact next v w' e2 f r' (q.imp (fun _ _ z => z) fun _ _ z => z.fol (f.s r))
theorem yH6 {X : Cx} {B : XBt} {es : List Expr} {f : Pg (List OV)} {α : Type} {g : List OV → Pg α} {P : α → Mem → Prop} {w : Wd} {Q : List V → Hp → Prop} (h : xU1 X B es f) (r : Rep X.K w) (hw : (Pg.bind f g w.m).wp P (XW X.K B w))
    (next : ∀ (v : List OV) (w' : Wd) (xs : List V), w'.sg = w.sg → FolE w w' → Rep X.K w' → Paired (RO X.K w') v xs → (g v w'.m).wp P (XW X.K B w') → Q xs w'.H) : WA X es w.sg w.H Q := by
  refine h w Q r ((wp_bind hw).imp (fun v m' q w' x e1 e2 f r' re => ?_) fun _ _ q => q)
  subst e1
  exact next v w' x e2 f r' re (q.imp (fun _ _ z => z) fun _ _ z => z.fol (f.s r))
theorem yGb {X : Cx} {B : XBt} {es : List Expr} {f : Pg (List AV)} {α : Type} {g : List AV → Pg α} {P : α → Mem → Prop} {w : Wd} {Q : List V → Hp → Prop} (h : xUd X B es f) (r : Rep X.K w) (hw : (Pg.bind f g w.m).wp P (XW X.K B w))
    (next : ∀ (v : List AV) (w' : Wd) (xs : List V), w'.sg = w.sg → FolE w w' → Rep X.K w' → Paired (RV X.K w') v xs → (g v w'.m).wp P (XW X.K B w') → Q xs w'.H) : WA X es w.sg w.H Q := by
  refine h w Q r ((wp_bind hw).imp (fun v m' q w' x e1 e2 f r' re => ?_) fun _ _ q => q)
  subst e1
  exact next v w' x e2 f r' re (q.imp (fun _ _ z => z) fun _ _ z => z.fol (f.s r))
end Ev

namespace Ev
open PySem PySem.Spec PyProof.Rows L2

theorem OH.lay {K : PySem.W.Frag} {F H : Hp} {Z : Addr → Prop} {a p : Addr} {o : Ob} {u : HO} (h : OH K F H Z a o) (hp : H p = none) : OH K F (upd H p u) Z a o :=
  h.keep (Same.refl _) (fun u z => by rw [upd_ne (ne_of_none z hp)]; exact z) (fun d z => by rw [upd_ne (ne_of_none z hp)]; exact z) fun _ _ z => z
theorem lay {K : PySem.W.Frag} {w : Wd} (r : Rep K w) {p : Addr} (hp : w.H p = none) (o : HO) (hno : ∀ a, o ≠ .own a := by intro _ z; first | cases z | (unfold excO at z; cases z)) (hnt : ∀ ps, o ≠ .tbl ps := by intro _ z; first | cases z | (unfold excO at z; cases z)) : Rep K { w with H := upd w.H p o } ∧ FolE w { w with H := upd w.H p o } := by
  have up : ∀ {a : Addr} {u : HO}, w.H a = some u → upd w.H p o a = some u := fun {a u} h => by
    rw [upd_ne (ne_of_none h hp)]
    exact h
  have liv : ∀ a, w.H a ≠ none → upd w.H p o a ≠ none := fun a h => by
    cases e : w.H a with
    | none => exact absurd e h
    | some u =>
      rw [up e]
      simp
  refine ⟨⟨fun a u h n => up (r.sub a u h n), r.le, fun i v h => ?_, fun n xs h => ?_, r.ln, r.rf, r.rk, r.nd, r.ow, fun a h => liv a (r.zl a h), fun d a h => ?_, ⟨(TK _ w).go r.tb.1 fun _ _ e => up e, r.tb.2.1, xQ1 r.tb.2.2 hnt⟩⟩, ⟨rfl, rfl, Same.refl _, ⟨[], (List.append_nil _).symm⟩, fun a u h _ _ => up h, fun a h => .inl h, liv, fun a h => .inl h, fun a h => h⟩⟩
  · obtain ⟨x, h1, h2⟩ := r.sl i v h
    refine ⟨x, h1, ?_⟩
    cases v with
    | d y => exact h2
    | ob ys =>
      obtain ⟨a, e, h, q⟩ := h2
      exact ⟨a, e, h.lay hp, q⟩
    | cell n => exact h2
    | thk t => exact h2
  · obtain ⟨a, h1, h2⟩ := r.cs n xs h
    exact ⟨a, h1, h2.lay hp⟩
  · have h : upd w.H p o d = some (.own a) := h
    by_cases q : d = p
    · rw [q, upd_same] at h
      exact absurd (Option.some.inj h) (hno a)
    · rw [upd_ne q] at h
      obtain ⟨C, vs, e⟩ := r.oo d a h
      exact ⟨C, vs, up e⟩
theorem yG7 {F H : Hp} {a : Addr} {u : HO} (s : yKz F H) (h : H a = some u) (hm : ∀ n, F a ≠ some (mkC n)) (hu : ∀ n, u ≠ mkC n) : Same F (upd F a u) ∧ yKz (upd F a u) H ∧ ∀ b n, upd F a u b = some (mkC n) → F b = some (mkC n) := by
  refine ⟨fun b v e => ?_, fun b v e n => ?_, fun b n e => ?_⟩
  · by_cases q : b = a
    · subst q
      have := s _ _ e fun n z => hm n (by rw [show F b = some v from e, z])
      rw [h] at this
      rw [upd_same]
      exact this
    · rw [upd_ne q]
      exact e
  · by_cases q : b = a
    · subst q
      rw [upd_same] at e
      rw [h]
      exact e
    · rw [upd_ne q] at e
      exact s _ _ e n
  · by_cases q : b = a
    · subst q
      rw [upd_same] at e
      exact absurd (Option.some.inj e) (hu n)
    · rw [upd_ne q] at e
      exact e
theorem OH.frozen {K : PySem.W.Frag} {F H : Hp} {Z : Addr → Prop} {a : Addr} {o : Ob} (s : yKz F H) (h : OH K F H Z a o) (hz : ¬ Z a) (hm : ∀ b n, F b = some (mkC n) → b ≠ a ∧ ∀ c, H b ≠ some (.own c)) :
    ∃ F' : Hp, Same F F' ∧ yKz F' H ∧ R K F' (dOf o) (.ref a) ∧ (∀ b, F' b ≠ none → F b ≠ none ∨ ¬ Z b) ∧ (∀ b, F b = none → b ≠ a → (∀ c, H b ≠ some (.own c)) → F' b = none) ∧ (∀ b ps, F' b = some (.tbl ps) → F b = some (.tbl ps)) ∧ ∀ b n, F' b = some (mkC n) → F b = some (mkC n) := by
  have ma : ∀ n, F a ≠ some (mkC n) := fun n z => (hm a n z).1 rfl
  have one : ∀ {u : HO}, H a = some u → (∀ b, upd F a u b ≠ none → F b ≠ none ∨ ¬ Z b) ∧ ∀ b, F b = none → b ≠ a → upd F a u b = none := fun {u} hu => by
    refine ⟨fun b e => ?_, fun b e n => ?_⟩
    · by_cases q : b = a
      · subst q
        exact .inr hz
      · rw [upd_ne q] at e
        exact .inl e
    · rw [upd_ne n]
      exact e
  have nt : ∀ {G : Hp} {p : Addr} {v : HO} {b : Addr} {ps : Array Value}, (∀ qs, v ≠ .tbl qs) → upd G p v b = some (.tbl ps) → G b = some (.tbl ps) := fun {G p v b ps} hv e => by
    by_cases z : b = p
    · subst z
      rw [upd_same] at e
      exact absurd (Option.some.inj e) (hv ps)
    · rw [upd_ne z] at e
      exact e
  cases o with
  | lst xs =>
    obtain ⟨vs, h1, h2⟩ := h
    obtain ⟨s1, s2, s3⟩ := yG7 s h1 ma xG1
    exact ⟨_, s1, s2, .lst (.of upd_same) (h2.mono s1), (one h1).1, fun b e n _ => (one h1).2 b e n, fun b ps e => nt (by intro _ z; cases z) e, s3⟩
  | dic xs =>
    obtain ⟨vs, h1, h2⟩ := h
    obtain ⟨s1, s2, s3⟩ := yG7 s h1 ma xJp
    exact ⟨_, s1, s2, .dic upd_same (h2.mono s1), (one h1).1, fun b e n _ => (one h1).2 b e n, fun b ps e => nt (by intro _ z; cases z) e, s3⟩
  | dit W es =>
    obtain ⟨vs, h1, h2⟩ := h
    obtain ⟨s1, s2, s3⟩ := yG7 s h1 ma wZm
    exact ⟨_, s1, s2, .dit upd_same (h2.mono s1), (one h1).1, fun b e n _ => (one h1).2 b e n, fun b ps e => nt (by intro _ z; cases z) e, s3⟩
  | ins c fs =>
    obtain ⟨C, dx, vs, h1, h2, h3, h4, h5⟩ := h
    obtain ⟨s1, s2, s5⟩ := yG7 s h1 ma xKn
    obtain ⟨s3, s4, s6⟩ := yG7 s2 h2 (fun n z => (hm dx n (s5 dx n z)).2 a h2) xG0
    have ne : a ≠ dx := fun z => by rw [z, h2] at h1; cases h1
    refine ⟨_, fun b u e => s3 _ _ (s1 _ _ e), s4, .ins h4 (s3 _ _ upd_same) upd_same (h5.mono fun b u e => s3 _ _ (s1 _ _ e)), fun b e => ?_, fun b e n q => ?_, fun b ps e => nt (by intro _ z; cases z) (nt (by intro _ z; cases z) e), fun b n e => s5 b n (s6 b n e)⟩
    · by_cases q : b = dx
      · rw [q]
        exact .inr h3
      · rw [upd_ne q] at e
        exact (one h1).1 b e
    · rw [upd_ne (fun z => q a (by rw [z]; exact h2))]
      exact (one h1).2 b e n
theorem Rep.mk_ne {K : PySem.W.Frag} {w : Wd} (r : Rep K w) {p : Addr} (hr : p ∉ w.ro) : ∀ b n, w.F b = some (mkC n) → b ≠ p ∧ ∀ c, w.H b ≠ some (.own c) := fun b n e => by
  have m := List.mem_of_getElem? (r.rk n b e)
  exact ⟨fun z => hr (z ▸ m), fun c z => (r.noOwnDict z).1 m⟩
theorem Rep.rf_up {K : PySem.W.Frag} {w : Wd} (r : Rep K w) {F' : Hp} (s : Same w.F F') (g : ∀ b, b ∈ w.ro → w.F b = none → F' b = none) : ∀ n a, w.ro[n]? = some a → F' a = some (mkC n) ∨ F' a = none ∧ ∃ c fs, w.m.cs[n]? = some (.ins c fs) := fun n a e => by
  rcases r.rf n a e with q | ⟨q, z⟩
  · exact .inl (s _ _ q)
  · exact .inr ⟨g a (List.mem_of_getElem? e) q, z⟩
theorem fix {K : PySem.W.Frag} {w : Wd} (r : Rep K w) {p : Addr} {o : Ob} (h : OH K w.F w.H w.Z p o) (hf : w.F p = none) (hr : p ∉ w.ro) (hz : ¬ w.Z p) (ho : ¬ Own w p) :
    ∃ F', Rep K { w with F := F' } ∧ FolE w { w with F := F' } ∧ R K F' (dOf o) (.ref p) := by
  obtain ⟨F', s1, s2, rd, g1, g2, g3, g4⟩ := h.frozen r.sub hz (r.mk_ne hr)
  refine ⟨F', ⟨s2, r.le, fun i v h => ?_, fun n xs h => ?_, r.ln, r.rf_up s1 fun a e hn => ?_, fun n a e => r.rk n a (g4 a n e), r.nd, r.ow, r.zl, r.oo, ⟨r.tb.1, fun b ps e => r.tb.2.1 b ps (g3 b ps e), r.tb.2.2⟩⟩, ⟨rfl, rfl, s1, ⟨[], (List.append_nil _).symm⟩, fun a u h _ _ => h, fun a h => .inl h, fun a h => h, g1, fun a h => h⟩, rd⟩
  · obtain ⟨x, h1, h2⟩ := r.sl i v h
    refine ⟨x, h1, ?_⟩
    cases v with
    | d y => exact R.mono s1 h2
    | ob ys =>
      obtain ⟨a, e, h3, h5, h6, h7⟩ := h2
      refine ⟨a, e, h3.keep s1 (fun _ z => z) (fun _ z => z) (fun _ _ z => z), ?_, h6, h7⟩
      subst e
      have oa : Own w a := ⟨i, ys, h, h1⟩
      exact g2 a h5 (fun q => ho (q ▸ oa)) fun c z => (r.noOwnDict z).2 oa
    | cell n => exact h2
    | thk t => exact ⟨h2.1, xZu h2.2.1 s1, h2.2.2⟩
  · obtain ⟨a, h1, h2⟩ := r.cs n xs h
    exact ⟨a, h1, h2.keep s1 (fun _ z => z) (fun _ z => z) (fun _ _ z => z)⟩
  · exact g2 a hn (fun q => hr (q ▸ e)) fun c z => (r.noOwnDict z).1 e
theorem Rep.noF {K : PySem.W.Frag} {w : Wd} (r : Rep K w) {p : Addr} (hp : w.H p = none) : w.F p = none := by
  cases e : w.F p with
  | none => rfl
  | some u =>
    have := r.sub p u e fun n z => r.roLive (List.mem_of_getElem? (r.rk n p (by rw [e, z]))) hp
    rw [hp] at this
    cases this
theorem xQc {K : PySem.W.Frag} {w : Wd} (r : Rep K w) {p : Addr} (hp : w.H p = none) (o : HO) (hno : ∀ a, o ≠ .own a := by intro _ z; first | cases z | (unfold excO at z; cases z)) (hnt : ∀ ps, o ≠ .tbl ps := by intro _ z; first | cases z | (unfold excO at z; cases z)) (hnm : ∀ n, o ≠ mkC n := by intro _ z; first | cases z | (unfold excO at z; cases z)) : Rep K { w with F := upd w.F p o, H := upd w.H p o } ∧ FolE w { w with F := upd w.F p o, H := upd w.H p o } := by
  obtain ⟨r1, f1⟩ := lay r hp o hno hnt
  have no : ¬ Own w p := fun h => (r.ownAt h).1 hp
  have nf := r.noF hp
  have sm : Same w.F (upd w.F p o) := fun a u e => by
    rw [upd_ne (ne_of_none e nf)]
    exact e
  refine ⟨⟨fun a u e n => ?_, r1.le, fun i v h => ?_, fun n xs h => ?_, r1.ln, r.rf_up sm fun a e hn => ?_, fun n a e => r.rk n a ?_, r1.nd, r1.ow, r1.zl, r1.oo, ⟨r1.tb.1, fun b ps e => ?_, r1.tb.2.2⟩⟩, ⟨rfl, rfl, sm, f1.pre, f1.frm, f1.new, f1.liv, fun a e => ?_, f1.own⟩⟩
  · have e : upd w.F p o a = some u := e
    show upd w.H p o a = some u
    by_cases q : a = p
    · subst q
      rw [upd_same] at e ⊢
      exact e
    · rw [upd_ne q] at e ⊢
      exact r.sub a u e n
  · obtain ⟨x, h1, h2⟩ := r1.sl i v h
    refine ⟨x, h1, ?_⟩
    cases v with
    | d y => exact R.mono sm h2
    | ob ys =>
      obtain ⟨a, e, h3, h5, h6⟩ := h2
      refine ⟨a, e, h3.keep sm (fun _ z => z) (fun _ z => z) (fun _ _ z => z), ?_, h6⟩
      show upd w.F p o a = none
      rw [upd_ne (fun q => no (by subst e q; exact ⟨i, ys, h, h1⟩))]
      exact h5
    | cell n => exact h2
    | thk t => exact ⟨h2.1, xZu h2.2.1 sm, h2.2.2⟩
  · obtain ⟨a, h1, h2⟩ := r1.cs n xs h
    exact ⟨a, h1, h2.keep sm (fun _ z => z) (fun _ z => z) (fun _ _ z => z)⟩
  · show upd w.F p o a = none
    rw [upd_ne (fun q : a = p => r.roLive (by rw [← q]; exact e) hp)]
    exact hn
  · have e : upd w.F p o a = some (mkC n) := e
    by_cases q : a = p
    · subst q
      rw [upd_same] at e
      exact absurd (Option.some.inj e) (hnm n)
    · rw [upd_ne q] at e
      exact e
  · have e : upd w.F p o b = some (.tbl ps) := e
    by_cases q : b = p
    · subst q
      rw [upd_same] at e
      exact hnt ps (Option.some.inj e)
    · rw [upd_ne q] at e
      exact r.tb.2.1 b ps e
  · have e : upd w.F p o a ≠ none := e
    by_cases q : a = p
    · subst q
      exact .inr fun z => r.zl _ z hp
    · rw [upd_ne q] at e
      exact .inl e
theorem xKq {K : PySem.W.Frag} {w : Wd} (r : Rep K w) {p : Addr} (hp : w.H p = none) {u : HO} {o : Ob} (h : OH K w.F (upd w.H p u) w.Z p o) : RE K { w with H := upd w.H p u } (.new o) (.ref p) :=
  ⟨p, rfl, h, r.noF hp, fun h => r.roLive h hp, fun h => r.zl p h hp, fun h => (r.ownAt h).1 hp⟩
theorem xZ8 {K : PySem.W.Frag} {w : Wd} (r : Rep K w) {p : Addr} (hp : w.H p = none) {xs : List PyData} {vs : List V} (h : RA K w.F xs vs) : RE K { w with H := upd w.H p (.lst vs) } (.fresh xs) (.ref p) := xKq r hp ⟨vs, upd_same, h⟩
theorem xG7 {K : PySem.W.Frag} {w : Wd} (r : Rep K w) {p : Addr} (hp : w.H p = none) {xs : List (PyData × PyData)} {vs : List (Key × V)} (h : RK K w.F xs vs) : RE K { w with H := upd w.H p (.dK vs) } (.new (.dic xs)) (.ref p) := xKq r hp ⟨vs, upd_same, h⟩
theorem xQw {K : PySem.W.Frag} {w : Wd} (r : Rep K w) {p : Addr} (hp : w.H p = none) {xs : List PyData} {vs : List V} (h : RA K w.F xs vs) : RE K { w with F := upd w.F p (.tup vs), H := upd w.H p (.tup vs) } (.d (.tuple xs)) (.ref p) := by
  have f := (xQc r hp (.tup vs)).2
  exact R.tup (.inl (.inl upd_same)) (h.mono f.ext)

def yUv (m : Mem) (i : Nat) (x : PyData) : Mem := { m with sl := m.sl.set i (some (.d x)) }
def toA : EV → Pg AV
  | .d x => .ret (.d x)
  | .new o => .ret (.d (dOf o))
  | .pk i o => fun m => .ok (.d (dOf o)) (yUv m i (dOf o))
  | .cell n => .ret (.cell n)
theorem xQ3 {α : Type} {l : List α} {i j : Nat} {x y : α} (h : (l.set i x)[j]? = some y) : (j = i ∧ y = x) ∨ (j ≠ i ∧ l[j]? = some y) := by
  by_cases e : i = j
  · subst e
    refine .inl ⟨rfl, ?_⟩
    by_cases q : i < l.length
    · rw [List.getElem?_set_self q] at h
      exact (Option.some.inj h).symm
    · rw [List.getElem?_eq_none (by rw [List.length_set]; omega)] at h
      cases h
  · rw [List.getElem?_set_ne e] at h
    exact .inr ⟨fun q => e q.symm, h⟩
theorem xXd {K : PySem.W.Frag} {w : Wd} (r : Rep K w) {i : Nat} {o : Ob} {x : V} (h1 : w.m.sl[i]? = some (some (SV.ob o))) (h2 : w.sg[i]? = some (some x)) :
    ∃ w' : Wd, w'.m = yUv w.m i (dOf o) ∧ w'.sg = w.sg ∧ w'.H = w.H ∧ FolE w w' ∧ Rep K w' ∧ R K w'.F (dOf o) x := by
  obtain ⟨y, h3, a, e, hO, hF, hro, hz⟩ := r.sl i _ h1
  rw [h2] at h3
  cases h3
  subst e
  obtain ⟨F', s1, s2, rd, g1, g2, g3, g4⟩ := hO.frozen r.sub hz (r.mk_ne hro)
  have sl' : ∀ (j : Nat) (v : SV), (yUv w.m i (dOf o)).sl[j]? = some (some v) → (j = i ∧ v = .d (dOf o)) ∨ (j ≠ i ∧ w.m.sl[j]? = some (some v)) := fun j v h => by
    rcases xQ3 (show (w.m.sl.set i (some (.d (dOf o))))[j]? = some (some v) from h) with ⟨q1, q2⟩ | q
    · exact .inl ⟨q1, Option.some.inj q2⟩
    · exact .inr q
  refine ⟨{ w with F := F', m := yUv w.m i (dOf o) }, rfl, rfl, rfl, ⟨rfl, rfl, s1, ⟨[], (List.append_nil _).symm⟩, fun b u h _ _ => h, fun b h => .inl h, fun b h => h, g1, fun b ⟨j, ys, q1, q2⟩ => ?_⟩,
    ⟨s2, ?_, fun j v h => ?_, fun n ys h => ?_, r.ln, r.rf_up s1 fun b hb hn => ?_, fun n b e => r.rk n b (g4 b n e), r.nd, fun j k ys zs v p1 p2 p3 p4 => ?_, r.zl, r.oo, ⟨r.tb.1, fun b ps e => r.tb.2.1 b ps (g3 b ps e), r.tb.2.2⟩⟩, rd⟩
  · rcases sl' j _ q1 with ⟨_, q⟩ | ⟨_, q⟩
    · cases q
    · exact ⟨j, ys, q, q2⟩
  · show (w.m.sl.set i _).length ≤ _
    rw [List.length_set]
    exact r.le
  · rcases sl' j v h with ⟨q1, q2⟩ | ⟨q1, q2⟩
    · subst q1 q2
      exact ⟨.ref a, h2, rd⟩
    · obtain ⟨y, p1, p2⟩ := r.sl j v q2
      refine ⟨y, p1, ?_⟩
      cases v with
      | d z => exact R.mono s1 p2
      | ob zs =>
        obtain ⟨b, e, k1, k3, k4⟩ := p2
        refine ⟨b, e, k1.keep s1 (fun _ z => z) (fun _ z => z) (fun _ _ z => z), ?_, k4⟩
        subst e
        exact g2 b k3 (fun z => q1 (r.ow j i _ _ _ q2 h1 p1 (by rw [z]; exact h2))) fun c z => (r.noOwnDict z).2 ⟨j, zs, q2, p1⟩
      | cell n => exact p2
      | thk t => exact ⟨p2.1, xZu p2.2.1 s1, p2.2.2⟩
  · obtain ⟨b, k1, k2⟩ := r.cs n ys h
    exact ⟨b, k1, k2.keep s1 (fun _ z => z) (fun _ z => z) (fun _ _ z => z)⟩
  · exact g2 b hn (fun z => hro (z ▸ hb)) fun c z => (r.noOwnDict z).1 hb
  · rcases sl' j _ p1 with ⟨_, q⟩ | ⟨_, q⟩
    · cases q
    · rcases sl' k _ p2 with ⟨_, q'⟩ | ⟨_, q'⟩
      · cases q'
      · exact r.ow j k _ _ _ q q' p3 p4
theorem yG5 {K : PySem.W.Frag} {w : Wd} (r : Rep K w) : ∀ {v : EV} {x : V}, RE K w v x → ∃ (a : AV) (w' : Wd), toA v w.m = .ok a w'.m ∧ w'.sg = w.sg ∧ w'.H = w.H ∧ FolE w w' ∧ Rep K w' ∧ RV K w' a x
  | .d y, x, h => ⟨.d y, w, rfl, rfl, rfl, FolE.refl w, r, h⟩
  | .cell n, x, h => ⟨.cell n, w, rfl, rfl, rfl, FolE.refl w, r, h⟩
  | .new o, x, ⟨a, e, h1, h3, h4, h5, h6⟩ => by
    obtain ⟨F', r1, f1, rd⟩ := fix r h1 h3 h4 h5 h6
    subst e
    exact ⟨.d (dOf o), { w with F := F' }, rfl, rfl, rfl, f1, r1, rd⟩
  | .pk i o, x, ⟨h1, h2⟩ => by
    obtain ⟨w', e1, e2, e3, f, r', h⟩ := xXd r h1 h2
    exact ⟨.d (dOf o), w', by rw [e1]; rfl, e2, e3, f, r', h⟩
def yHc : AV → Pg PyData
  | .d x => .ret x
  | .cell _ => .stuck

section
variable {X : Cx} {B : XBt} {e : Expr} {es : List Expr} {f : Pg EV} {pos : Pos}
def zZa {α : Type} : Pg (List α) := .ret []
def zQc (f : Pg EV) (g : Pg (List AV)) : Pg (List AV) := .bind f fun v => .bind (toA v) fun a => .bind g fun r => .ret (a :: r)
def yJq (f : Pg EV) (g : Pg (List OV)) : Pg (List OV) := .bind f fun v => .bind g fun r => .ret (yGn v :: r)
theorem zQu : xUd X B [] zZa := fun w Q r h => xW0 pa_nil (h w [] rfl rfl (FolE.refl w) r .nil)
theorem yZl : xU1 X B [] zZa := fun w Q r h => xW0 pa_nil (h w [] rfl rfl (FolE.refl w) r .nil)
theorem xV8 {K : PySem.W.Frag} {w w' : Wd} (f : FolE w w') : ∀ {vs : List AV} {xs : List V}, Paired (RV K w) vs xs → Paired (RV K w') vs xs
  | _, _, .nil => .nil
  | _, _, .cons h t => .cons (h.fol f) (xV8 f t)
theorem zQb {g : Pg (List AV)} (h1 : Snd X B e f) (h2 : xUd X B es g) (hs : starEach (e :: es) X.env = (false, eval e X.env) :: starEach es X.env := by rfl) : xUd X B (e :: es) (zQc f g) := by
  intro w Q r h
  refine xW0 (pa_cons yG1 xYf hs) ?_
  refine zZx h1 r h fun v w1 x e1 f1 r1 re h' => ?_
  obtain ⟨a, w2, ea, e2, e3, f2, r2, rv⟩ := yG5 r1 re
  have h'' := wp_bind h'
  rw [ea] at h''
  rw [← e1, ← e2, ← e3]
  have h3 : (Pg.bind g (fun r => Pg.ret (a :: r)) w2.m).wp (xUe X.K w Q) (XW X.K B w2) := Res.wp.imp h'' (fun _ _ q => q) fun _ _ q => q.fol (f2.s r1)
  refine yGb h2 r2 h3 fun vs w3 xs e4 f3 r3 rvs q => ?_
  exact q w3 (x :: xs) rfl (e4.trans (e2.trans e1)) (f1.trans (f2.trans f3)) r3 (.cons (rv.fol f3) rvs)
theorem zWl {g : Pg (List OV)} (h1 : Snd X B e f) (h2 : xU1 X B es g) (hs : starEach (e :: es) X.env = (false, eval e X.env) :: starEach es X.env := by rfl) : xU1 X B (e :: es) (yJq f g) := by
  intro w Q r h
  refine xW0 (pa_cons yG1 xYf hs) ?_
  refine zZx h1 r h fun v w1 x e1 f1 r1 re h' => ?_
  rw [← e1]
  refine yH6 h2 r1 h' fun vs w3 xs e4 f3 r3 rvs q => ?_
  exact q w3 (x :: xs) rfl (e4.trans e1) (f1.trans f3) r3 (.cons ((re.ro r1).fol r1 f3) rvs)
def dataOf : List AV → Option (List PyData)
  | [] => some []
  | .d x :: r => match dataOf r with
    | some xs => some (x :: xs)
    | none => none
  | .cell _ :: _ => none
theorem yHl {K : PySem.W.Frag} {w : Wd} : ∀ {vs : List AV} {xs : List V} {ds : List PyData}, Paired (RV K w) vs xs → dataOf vs = some ds → RA K w.F ds xs
  | [], _, _, .nil, e => by
    cases e
    exact .nil
  | .d x :: r, _, ds, .cons h t, e => by
    unfold dataOf at e
    cases q : dataOf r with
    | none =>
      rw [q] at e
      cases e
    | some zs =>
      rw [q] at e
      cases e
      exact .cons h (yHl t q)
  | .cell _ :: _, _, _, .cons _ _, e => by cases e
def xX1 (xs : List PyData) : Bool := decide (xs.length ≤ 16777216)
theorem xJq {K : PySem.W.Frag} {F : Hp} {xs : List PyData} {vs : List V} (h : xX1 xs = true) (a : RA K F xs vs) : vs.length ≤ sizeLine := by
  rw [← a.len, sizeLine_eq]
  exact of_decide_eq_true h
def xKo (vs : List AV) : Option EV := match dataOf vs with
  | some xs => if xX1 xs then some (.d (.tuple xs)) else none
  | none => none
def xKp (vs : List AV) : Option EV := match dataOf vs with
  | some xs => if xX1 xs then some (.fresh xs) else none
  | none => none
def yHj (g : Pg (List AV)) : Pg EV := .bind g fun vs => yGd (xKo vs)
def zV5 (g : Pg (List AV)) : Pg EV := .bind g fun vs => yGd (xKp vs)
theorem yVo {α : Type} {o : Option α} {m : Mem} {P : α → Mem → Prop} {E : Exn → Mem → Prop} (h : (yGd o m).wp P E) : ∃ a, o = some a ∧ P a m := by
  cases o with
  | none => exact h.elim
  | some a => exact ⟨a, rfl, h⟩
theorem yK2 {g : Pg (List AV)} {k : Nat} (h : xUd X B es g) : Snd X B (.Tuple es k pos) (yHj g) := by
  intro w Q r hw
  refine yYq (pe_tup xYf) ?_
  refine yGb h r hw fun vs w1 xs e1 f1 r1 rv q => ?_
  obtain ⟨v, ev, q⟩ := yVo q
  unfold xKo at ev
  cases ed : dataOf vs with
  | none =>
    rw [ed] at ev
    cases ev
  | some ds =>
    rw [ed] at ev
    dsimp only at ev
    split at ev
    · rename_i hl
      cases ev
      have ra := yHl rv ed
      refine ⟨xJq hl ra, fun p hp => ?_⟩
      obtain ⟨r2, f2⟩ := xQc r1 hp (.tup xs)
      exact q { w1 with F := upd w1.F p (.tup xs), H := upd w1.H p (.tup xs) } _ rfl e1 (f1.trans f2) r2 (xQw r1 hp ra)
    · cases ev
theorem zZw {g : Pg (List AV)} (h : xUd X B es g) : Snd X B (.List es pos) (zV5 g) := by
  intro w Q r hw
  refine yYq (pe_lst xYf) ?_
  refine yGb h r hw fun vs w1 xs e1 f1 r1 rv q => ?_
  obtain ⟨v, ev, q⟩ := yVo q
  unfold xKp at ev
  cases ed : dataOf vs with
  | none =>
    rw [ed] at ev
    cases ev
  | some ds =>
    rw [ed] at ev
    dsimp only at ev
    split at ev
    · rename_i hl
      cases ev
      have ra := yHl rv ed
      refine ⟨xJq hl ra, fun p hp => ?_⟩
      obtain ⟨r2, f2⟩ := lay r1 hp (.lst xs)
      exact q { w1 with H := upd w1.H p (.lst xs) } _ rfl e1 (f1.trans f2) r2 (xZ8 r1 hp ra)
    · cases ev

def evC (d : PyData) : Pg EV := .ret (.d d)
theorem xW6 {j} : Snd X B (.Constant .none j pos) (evC .none) := fun w Q r h => yYq pe_non (h w .non rfl rfl (FolE.refl w) r .non)
theorem zU9 {b j} : Snd X B (.Constant (.bool b) j pos) (evC (.bool b)) := fun w Q r h => yYq pe_bl (h w (.bl b) rfl rfl (FolE.refl w) r (.bl b))
theorem zQ3 {i j} : Snd X B (.Constant (.int i) j pos) (evC (.int i)) := fun w Q r h => yYq pe_int (h w (.int i) rfl rfl (FolE.refl w) r (.int i))
theorem yHn {x j} : Snd X B (.Constant (.str x) j pos) (evC (.str x)) := fun w Q r h => yYq pe_str (h w (.str x) rfl rfl (FolE.refl w) r (.str x))
def xXt (i : Nat) : Option (Option SV) → Option EV
  | some (some (.d x)) => some (.d x)
  | some (some (.ob o)) => some (.pk i o)
  | some (some (.cell n)) => some (.cell n)
  | _ => none
def zQ9 (i : Nat) : Pg EV := fun m => yGd (xXt i m.sl[i]?) m
theorem zQd {x : Str} (i : Nat) (hN : X.N[i]? = some x) (hv : Vis X.env.scope x) (hd : (x == ("__debug__" : Str)) = false := by decide) (hcd : (x == ("__classdict__" : Str)) = false := by decide) : Snd X B (.Name x pos) (zQ9 i) := by
  intro w Q r h
  refine yYq (pe_var hN hv hd hcd) ?_
  obtain ⟨v, ev, q⟩ := yVo (show (yGd (xXt i w.m.sl[i]?) w.m).wp _ _ from h)
  cases es : w.m.sl[i]? with
  | none =>
    rw [es] at ev
    cases ev
  | some o =>
    cases o with
    | none =>
      rw [es] at ev
      cases ev
    | some sv =>
      obtain ⟨x, h1, h2⟩ := r.sl i sv es
      refine ⟨x, h1, q w x rfl rfl (FolE.refl w) r ?_⟩
      rw [es] at ev
      cases sv with
      | d y =>
        cases ev
        exact h2
      | ob ys =>
        cases ev
        exact ⟨es, h1⟩
      | cell n =>
        cases ev
        exact h2
      | thk t => cases ev
end
end Ev

namespace Ev
open PySem PySem.Spec PyProof.Rows L2

def anyR (X : Cx) (f : Value → Value → Sem Value) : R2 := fun x y H Q => ∃ r, OpR X f r ∧ r x y H Q
theorem xKg {X : Cx} {f : Value → Value → Sem Value} : OpR X f (anyR X f) := by
  intro pins s sg H x y v u Q I rx ry h
  obtain ⟨r, ho, q⟩ := h
  exact ho pins s sg H x y v u Q I rx ry q

theorem xGl (t : Addr) (items : Array Value) (n : Nat) (dd : Option Addr) (sl : Array (Option Value)) (x : Int) (u : Tok) (c0 : (decide (x < -(2 ^ 63)) || decide (x ≥ 2 ^ 63)) = false) (c1 : (items.isEmpty || x == 1) = true) :
    Meets (Builtin.«tuple.__mul__» ⟨[.ref t, .int x u], []⟩) (fun _ R s => s.heap.get? t = some { cls := .type "tuple", dict := dd, data := .seq items n, slots := sl } ∧ R (.ok (.ret (Value.ref t))) s) :=
  .of_wp fun prog w A R s h => by
    obtain ⟨hp, g, d, tk, os⟩ := s
    obtain ⟨hl, h⟩ := h
    have f1 := AutoSeq1.idx_int
    wp_walk using wpAny_loadPart' hl
    repeat (first
      | (refine wpAny_ite_false (decide_eq_false (by rw [c0]; exact Bool.false_ne_true)) ?_; wp_walk using wpAny_loadPart' hl)
      | (refine wpAny_ite_true (decide_eq_true c1) ?_; wp_walk using wpAny_loadPart' hl))
    exact ⟨_, rfl, h⟩
theorem xYd (t : Addr) (items : Array Value) (n : Nat) (dd : Option Addr) (sl : Array (Option Value)) (x : Int) (u : Tok) (c0 : (decide (x < -(2 ^ 63)) || decide (x ≥ 2 ^ 63)) = false) (c1 : (items.isEmpty || x == 1) = false) (c2 : (decide (x ≤ 0) || items.isEmpty) = true) :
    Meets (Builtin.«tuple.__mul__» ⟨[.ref t, .int x u], []⟩) (fun _ R s => s.heap.get? t = some { cls := .type "tuple", dict := dd, data := .seq items n, slots := sl } ∧
      R (.ok (.ret (Value.ref s.heap.objs.size))) { s with heap := s.heap.push { cls := Value.type "tuple", data := Data.seq #[] }, toks := s.toks }) :=
  .of_wp fun prog w A R s h => by
    obtain ⟨hp, g, d, tk, os⟩ := s
    obtain ⟨hl, h⟩ := h
    have f1 := AutoSeq1.idx_int
    wp_walk using wpAny_loadPart' hl
    repeat (first
      | (refine wpAny_ite_false (decide_eq_false (by rw [c0]; exact Bool.false_ne_true)) ?_; wp_walk using wpAny_loadPart' hl)
      | (refine wpAny_ite_false (decide_eq_false (by rw [c1]; exact Bool.false_ne_true)) ?_; wp_walk using wpAny_loadPart' hl)
      | (refine wpAny_ite_true (decide_eq_true c2) ?_; wp_walk using wpAny_loadPart' hl))
    exact ⟨_, rfl, h⟩
def wQ5 (K : PySem.W.Frag) : R2 := fun x y H Q => ∃ l k xs, x = .ref l ∧ y = .int k ∧ SqT K H l xs ∧ k ≤ 1000 ∧ -1000 ≤ k ∧ xs.length ≤ 1000 ∧
  ((xs = [] ∨ k = 1) → Q (.ref l) H) ∧ (¬ (xs = [] ∨ k = 1) → ∀ p, H p = none → Q (.ref p) (upd H p (.tup (List.replicate k.toNat xs).flatten)))
theorem xYh {X : Cx} : OpR X (binaryOp .Mult) (wQ5 X.K) := by
  intro pins s sg H x y v u Q I rx ry h
  obtain ⟨l, k, xs, rfl, rfl, hT, h1, h0, hz, q1, q2⟩ := h
  by_cases big : xs ≠ [] ∧ 2 ≤ k
  · exact op_repT pins s sg H _ _ v u Q I rx ry ⟨l, k, xs, rfl, rfl, hT, big.1, big.2, h1, hz, q2 (fun z => z.elim big.1 fun e => by omega)⟩
  · cases rx
    obtain ⟨t, rfl⟩ := ry
    obtain ⟨its, r, ⟨⟨cls, dd, data, sl⟩, ho, hc, n, hd⟩, hs⟩ := I.tuple hT
    simp only at hc hd
    subst hc hd
    have c0 : (decide (k < -(2 ^ 63)) || decide (k ≥ 2 ^ 63)) = false := by
      rw [decide_eq_false (by omega), decide_eq_false (by omega)] <;> rfl
    by_cases one : xs = [] ∨ k = 1
    · have c1 : (its.toArray.isEmpty || k == 1) = true := by
        rcases one with e | e
        · subst e
          cases r
          rfl
        · subst e
          simp
      refine wpAny_binaryOp_repeat_ref (T := "tuple") (U := "int") (by decide) ⟨_, ho, rfl⟩ (fun s' => typeIs_int s' k t) noFill_tuple_mul F.fills_int_mul F.slot_int_rmul repeat_tuple F.slot_int_index.lookup
        (call_meets F.slot_int_rmul (typeIs_int s k t) F.entry_int_rmul (F.args_int_rmul_2 _ _) (int_rmul_tuple k t l its.toArray n dd sl)
          ⟨ho, rfl, ⟨_, ho, rfl⟩, call_meets F.slot_tuple_mul ⟨_, ho, rfl⟩ F.entry_tuple_mul (F.args_tuple_mul_2 _ _) (xGl l its.toArray n dd sl k t c0 c1) ⟨ho, ?_⟩⟩)
      exact ⟨.ref l, H, I, rfl, q1 one⟩
    · have hne : xs ≠ [] := fun e => one (.inl e)
      have hk : k ≤ 0 := by
        have : ¬ (2 ≤ k) := fun z => big ⟨hne, z⟩
        have : k ≠ 1 := fun e => one (.inr e)
        omega
      have hi : its.toArray.isEmpty = false := by
        cases r with
        | nil => exact absurd rfl hne
        | cons a b => rfl
      have c1 : (its.toArray.isEmpty || k == 1) = false := by
        rw [hi, Bool.false_or]
        exact beq_eq_false_iff_ne.mpr (by omega)
      have c2 : (decide (k ≤ 0) || its.toArray.isEmpty) = true := by
        rw [decide_eq_true hk]
        rfl
      refine wpAny_binaryOp_repeat_ref (T := "tuple") (U := "int") (by decide) ⟨_, ho, rfl⟩ (fun s' => typeIs_int s' k t) noFill_tuple_mul F.fills_int_mul F.slot_int_rmul repeat_tuple F.slot_int_index.lookup
        (call_meets F.slot_int_rmul (typeIs_int s k t) F.entry_int_rmul (F.args_int_rmul_2 _ _) (int_rmul_tuple k t l its.toArray n dd sl)
          ⟨ho, rfl, ⟨_, ho, rfl⟩, call_meets F.slot_tuple_mul ⟨_, ho, rfl⟩ F.entry_tuple_mul (F.args_tuple_mul_2 _ _) (xYd l its.toArray n dd sl k t c0 c1 c2) ⟨ho, ?_⟩⟩)
      have q := q2 one s.heap.objs.size (I.hok.fresh (Nat.le_refl _))
      have e0 : k.toNat = 0 := by omega
      rw [e0] at q
      refine ⟨.ref s.heap.objs.size, _, I.laid (t' := s.toks) (o := .tup []) (fun b ob q => Heap.get?_push_of_some _ q) (Nat.le_refl _) ?_, rfl, q⟩
      exact ⟨Nat.zero_le _, [], .nil, IsTup.new _ _⟩

def wKu (K : PySem.W.Frag) : R2 := fun x y H Q => ∃ l b xs zs, x = .ref l ∧ y = .ref b ∧ LQ K H l xs ∧ LQ K H b zs ∧ xs.length + zs.length ≤ sizeLine ∧ ∀ p, H p = none → Q (.ref p) (upd H p (.lst (xs ++ zs)))
theorem xGu {X : Cx} : OpR X (binaryOp .Add) (wKu X.K) := by
  rintro pins s sg H x y v u Q I rx ry ⟨l, b, xs, zs, rfl, rfl, h1, h2, hz, q⟩
  cases rx
  cases ry
  obtain ⟨_, its, n, ra, la, ea⟩ := h1.at I
  obtain ⟨_, its', n', rb, lb, eb⟩ := h2.at I
  refine PySem.P.add_list ea eb ?_ (by simp only [List.size_toArray]; omega)
  rw [show its.toArray ++ its'.toArray = (its ++ its').toArray by simp]
  exact ⟨.ref _, _, I.lnew (t' := s.toks) (ra.append rb) (by simp only [List.length_append]; omega), rfl, q _ I.fresh⟩
def wKs (K : PySem.W.Frag) : R2 := fun x y H Q => ∃ l k xs, x = .ref l ∧ y = .int k ∧ LQ K H l xs ∧ -1000 ≤ k ∧ k ≤ 1000 ∧ xs.length ≤ 1000 ∧ ∀ p, H p = none → Q (.ref p) (upd H p (.lst (List.replicate k.toNat xs).flatten))
theorem xGm (its : List Value) (k : Nat) : List.foldl (fun x1 x2 => x1 ++ x2) #[] (List.replicate (if its.toArray.isEmpty = true then 0 else k) its.toArray) = (List.replicate k its).flatten.toArray := by
  cases its with
  | nil =>
    rw [if_pos (by rfl), size_rep]
    simp
  | cons a r => rw [if_neg (by simp), size_rep]
theorem xGt {X : Cx} : OpR X (binaryOp .Mult) (wKs X.K) := by
  rintro pins s sg H x y v u Q I rx ry ⟨l, k, xs, rfl, rfl, h1, k0, k1, hz, q⟩
  cases rx
  obtain ⟨t, rfl⟩ := ry
  obtain ⟨_, its, n, ra, la, ea⟩ := h1.at I
  have ls := sizeLine_eq
  have big : its.length * k.toNat ≤ 1000 * 1000 := Nat.mul_le_mul (by omega) (by omega)
  have sz : its.toArray.size * k.toNat ≤ 1000000 := by simpa using big
  have c1 : ¬ its.toArray.size * k.toNat > (2 ^ 63 - 1) / 8 := by omega
  have c2 : ¬ (!Builtin.List.listFitsIndex k) = true := by
    rw [fitsIndex_both (by omega) (by omega)]
    simp
  have c3 : ¬ Builtin.List.listTooLong (its.toArray.size * k.toNat) = true := by
    rw [notLongL (by omega)]
    simp
  refine wpAny_binaryOp_repeat_ref (T := "list") (U := "int") (by decide) ⟨_, ea, rfl⟩ (fun s' => typeIs_int s' k t) noFill_list_mul F.fills_int_mul F.slot_int_rmul repeat_list F.slot_int_index.lookup
    (call_meets F.slot_int_rmul (typeIs_int s k t) F.entry_int_rmul (F.args_int_rmul_2 _ _) (int___rmul___int_list k t l its.toArray n)
      ⟨ea, rfl, ⟨_, ea, rfl⟩, call_meets F.slot_list_mul ⟨_, ea, rfl⟩ F.entry_list_mul (F.args_list_mul_2 _ _) (AutoListH.list___mul___list_int_3 l its.toArray n k t c2 c1 c3) ⟨ea, ?_⟩⟩)
  rw [xGm]
  exact ⟨.ref _, _, I.lnew (t' := s.toks) (ra.rep k.toNat) (by rw [PyProof.Rows.lm_len_rep_flat, Nat.mul_comm, la]; omega), rfl, q _ I.fresh⟩
def xJ6 (i j : Int) : Bool := (decide (-(2 ^ 64) < i) && decide (i < 2 ^ 64)) || (decide (-(2 ^ 64) < j) && decide (j < 2 ^ 64))
theorem xG3 {i j : Int} (h : xJ6 i j = true) : CMul i j := by
  unfold xJ6 at h
  simp only [Bool.or_eq_true, Bool.and_eq_true, decide_eq_true_eq] at h
  exact h
def xJ5 (i j : Int) : Bool := decide (0 ≤ j) && decide (j ≤ 1000000) && decide (i.natAbs < 2 ^ 64)
theorem xGq {i j : Int} (h : xJ5 i j = true) : CPow i j := by
  unfold xJ5 at h
  simp only [Bool.and_eq_true, decide_eq_true_eq] at h
  exact ⟨h.1.1, h.1.2, h.2⟩
def yU6 (xs : List PyData) (k : Int) : Bool := decide (k ≤ 1000) && decide (-1000 ≤ k) && decide (xs.length ≤ 1000)
def xQj (op : Operator) (x y : PyData) : Option EV :=
  match op with
  | .Add => match x, y with
    | .int i, .int j => some (.d (.int (i + j)))
    | .str a, .str b => if a.length + b.length ≤ 16777216 then some (.d (.str (a ++ b))) else none
    | .tuple xs, .tuple ys => if xs.length + ys.length ≤ 16777216 then some (.d (.tuple (xs ++ ys))) else none
    | .list xs, .list ys => if xs.length + ys.length ≤ 16777216 then some (.fresh (xs ++ ys)) else none
    | _, _ => none
  | .Sub => match x, y with
    | .int i, .int j => some (.d (.int (i - j)))
    | _, _ => none
  | .Mult => match x, y with
    | .int i, .int j => if xJ6 i j then some (.d (.int (i * j))) else none
    | .tuple xs, .int k => if yU6 xs k then some (.d (.tuple (List.replicate k.toNat xs).flatten)) else none
    | .list xs, .int k => if yU6 xs k then some (.fresh (List.replicate k.toNat xs).flatten) else none
    | _, _ => none
  | .FloorDiv => match x, y with
    | .int i, .int j => if decide (0 < j) && decide (j < 1073741824) then some (.d (.int (i / j))) else none
    | _, _ => none
  | .Mod => match x, y with
    | .int i, .int j => if 0 < j then some (.d (.int (i % j))) else none
    | _, _ => none
  | .Pow => match x, y with
    | .int i, .int j => if xJ5 i j then some (.d (.int (i ^ j.toNat))) else none
    | _, _ => none
  | _ => none
def xVg (w : Wd) : EV → V → Prop
  | .new _, x => ∀ a, x = .ref a → w.H a = none
  | _, _ => True
theorem xVg.back {w w1 : Wd} (f : FolE w w1) {v : EV} {x : V} (h : xVg w1 v x) : xVg w v x := by
  cases v with
  | new o => exact fun a e => Classical.byContradiction fun z => f.liv a z (h a e)
  | _ => trivial
def yHt (K : PySem.W.Frag) (w : Wd) (Q : VK) : EV → Mem → Prop := fun v m' => ∀ (w' : Wd) (x : V), w'.m = m' → w'.sg = w.sg → FolE w w' → Rep K w' → RE K w' v x → xVg w v x → Q x w'.H
theorem yYt.f {K : PySem.W.Frag} {w : Wd} {Q : VK} {v : EV} {m : Mem} (h : yYt K w Q v m) : yHt K w Q v m := fun w' x a b c d e _ => h w' x a b c d e
def xWq (K : PySem.W.Frag) (w : Wd) (v : EV) (Q : VK) : Prop := ∀ (w' : Wd) (x : V), w'.m = w.m → w'.sg = w.sg → FolE w w' → Rep K w' → RE K w' v x → xVg w v x → Q x w'.H
theorem xWq.here {K : PySem.W.Frag} {w : Wd} {v : EV} {Q : VK} (k : xWq K w v Q) (r : Rep K w) {x : V} (h : RE K w v x) (hn : xVg w v x := by trivial) : Q x w.H := k w x rfl rfl (FolE.refl w) r h hn
theorem xWq.tup {K : PySem.W.Frag} {w : Wd} {xs : List PyData} {Q : VK} (k : xWq K w (.d (.tuple xs)) Q) (r : Rep K w) {vs : List V} (a : RA K w.F xs vs) {p : Addr} (hp : w.H p = none) : Q (.ref p) (upd w.H p (.tup vs)) := by
  obtain ⟨r2, f2⟩ := xQc r hp (.tup vs)
  exact k { w with F := upd w.F p (.tup vs), H := upd w.H p (.tup vs) } _ rfl rfl f2 r2 (xQw r hp a) trivial
theorem xWq.lst {K : PySem.W.Frag} {w : Wd} {xs : List PyData} {Q : VK} (k : xWq K w (.fresh xs) Q) (r : Rep K w) {vs : List V} (a : RA K w.F xs vs) {p : Addr} (hp : w.H p = none) : Q (.ref p) (upd w.H p (.lst vs)) := by
  obtain ⟨r2, f2⟩ := lay r hp (.lst vs)
  exact k { w with H := upd w.H p (.lst vs) } _ rfl rfl f2 r2 (xZ8 r hp a) fun b e => by cases e; exact hp
theorem xYr {α : Type} (n : Nat) (xs : List α) : (List.replicate n xs).flatten.length = n * xs.length := by
  induction n with
  | zero => simp
  | succ n ih => rw [List.replicate_succ, List.flatten_cons, List.length_append, ih, Nat.succ_mul, Nat.add_comm]
theorem RA.of_nil {K : PySem.W.Frag} {F : Hp} {ds : List PyData} (a : RA K F ds []) : ds = [] := by
  cases a
  rfl
theorem wXh {X : Cx} {op : Operator} {x y : PyData} {v : EV} {w : Wd} {a b : V} {Q : VK} (r : Rep X.K w) (ha : RN X.K w x a) (hb : RN X.K w y b) (e : xQj op x y = some v) (k : xWq X.K w v Q) : anyR X (binaryOp op) a b w.H Q := by
  have s := r.sub
  cases op <;> try (cases e; done)
  · -- Add
    cases x <;> try (cases e; done)
    · cases y <;> try (cases e; done)
      cases e
      rw [ha.int, hb.int]
      exact ⟨_, op_add, _, _, rfl, rfl, k.here r (.int _)⟩
    · cases y <;> try (cases e; done)
      unfold xQj at e
      dsimp only at e
      split at e
      · rename_i hl
        cases e
        rw [ha.str, hb.str]
        exact ⟨_, op_add_str, _, _, rfl, rfl, by rw [sizeLine_eq]; exact hl, k.here r (.str _)⟩
      · cases e
    · cases y <;> try (cases e; done)
      unfold xQj at e
      dsimp only at e
      split at e
      · rename_i hl
        cases e
        obtain ⟨l, vs, rfl, h1, a1⟩ := ha.lst s
        obtain ⟨l', vs', rfl, h2, a2⟩ := hb.lst s
        refine ⟨_, xGu, l, l', vs, vs', rfl, rfl, h1, h2, by rw [← a1.len, ← a2.len, sizeLine_eq]; exact hl, fun p hp => k.lst r (a1.app a2) hp⟩
      · cases e
    · cases y <;> try (cases e; done)
      unfold xQj at e
      dsimp only at e
      split at e
      · rename_i xs ys hl
        cases e
        obtain ⟨l, vs, rfl, h1, a1⟩ := ha.tup
        obtain ⟨l', vs', rfl, h2, a2⟩ := hb.tup
        refine ⟨_, op_catA, l, l', vs, vs', rfl, rfl, zXs s h1, zXs s h2, by rw [← a1.len, ← a2.len, sizeLine_eq]; exact hl, fun z => ?_, fun _ z => ?_, fun _ _ p hp => k.tup r (a1.app a2) hp⟩
        · subst z
          have := a1.of_nil
          subst this
          exact k.here r (.tup h2 a2)
        · subst z
          have := a2.of_nil
          subst this
          rw [List.append_nil] at k
          exact k.here r (.tup h1 a1)
      · cases e
  · -- Sub
    cases x <;> try (cases e; done)
    cases y <;> try (cases e; done)
    cases e
    rw [ha.int, hb.int]
    exact ⟨_, op_sub, _, _, rfl, rfl, k.here r (.int _)⟩
  · -- Mult
    cases x <;> try (cases e; done)
    · cases y <;> try (cases e; done)
      unfold xQj at e
      dsimp only at e
      split at e
      · rename_i hl
        cases e
        rw [ha.int, hb.int]
        exact ⟨_, op_mul, _, _, rfl, rfl, xG3 hl, k.here r (.int _)⟩
      · cases e
    · cases y <;> try (cases e; done)
      unfold xQj at e
      dsimp only at e
      split at e
      · rename_i xs kk hl
        unfold yU6 at hl
        simp only [Bool.and_eq_true, decide_eq_true_eq] at hl
        cases e
        obtain ⟨l, vs, rfl, h1, a1⟩ := ha.lst s
        rw [hb.int]
        exact ⟨_, xGt, l, kk, vs, rfl, rfl, h1, hl.1.2, hl.1.1, by rw [← a1.len]; exact hl.2, fun p hp => k.lst r (a1.rep _) hp⟩
      · cases e
    · cases y <;> try (cases e; done)
      unfold xQj at e
      dsimp only at e
      split at e
      · rename_i xs kk hl
        unfold yU6 at hl
        simp only [Bool.and_eq_true, decide_eq_true_eq] at hl
        cases e
        obtain ⟨l, vs, rfl, h1, a1⟩ := ha.tup
        rw [hb.int]
        refine ⟨_, xYh, l, kk, vs, rfl, rfl, zXs s h1, hl.1.1, hl.1.2, by rw [← a1.len]; exact hl.2, fun z => ?_, fun _ p hp => k.tup r (a1.rep _) hp⟩
        rcases z with z | z
        · subst z
          have := a1.of_nil
          subst this
          have e0 : (List.replicate kk.toNat ([] : List PyData)).flatten = [] := List.eq_nil_of_length_eq_zero (by rw [xYr]; rfl)
          rw [e0] at k
          exact k.here r (.tup h1 .nil)
        · subst z
          have e0 : (List.replicate (1 : Int).toNat xs).flatten = xs := by simp
          rw [e0] at k
          exact k.here r (.tup h1 a1)
      · cases e
  · -- Mod
    cases x <;> try (cases e; done)
    cases y <;> try (cases e; done)
    unfold xQj at e
    dsimp only at e
    split at e
    · rename_i hl
      cases e
      rw [ha.int, hb.int]
      exact ⟨_, op_mod, _, _, rfl, rfl, hl, k.here r (.int _)⟩
    · cases e
  · -- Pow
    cases x <;> try (cases e; done)
    cases y <;> try (cases e; done)
    unfold xQj at e
    dsimp only at e
    split at e
    · rename_i hl
      cases e
      rw [ha.int, hb.int]
      exact ⟨_, op_pow, _, _, rfl, rfl, xGq hl, k.here r (.int _)⟩
    · cases e
  · -- FloorDiv
    cases x <;> try (cases e; done)
    cases y <;> try (cases e; done)
    unfold xQj at e
    dsimp only at e
    split at e
    · rename_i hl
      simp only [Bool.and_eq_true, decide_eq_true_eq] at hl
      cases e
      rw [ha.int, hb.int]
      exact ⟨_, op_fdiv, _, _, rfl, rfl, hl, k.here r (.int _)⟩
    · cases e
end Ev

namespace Ev
open PySem PySem.Spec PyProof.Rows L2
def wYn (K : PySem.W.Frag) (cls : Value) : Prop := ∃ C, yG4 K "InvalidCertificate" C ∧ cls = .ref C
def xG8 (K : PySem.W.Frag) (W : WX) : WX := fun cls d sg H => wYn K cls ∧ W cls d sg H
def wZq (K : PySem.W.Frag) (E : XK) : XK := fun cls d H => wYn K cls ∧ E cls d H
def XE (X : Cx) (W : WX) (u : Value) (s' : Shared) : Prop := L2N.XE X W u s' ∨ L2.XE X (xG8 X.K W) u s'
def Takes (X : Cx) (W : WX) : Prop := ∀ u s', XE X W u s' → X.xe u s'
def CXk (K : PySem.W.Frag) (P : Program) (w : World) : CXT := fun outer H s E u s' => L2N.CX P w outer H s E u s' ∨ L2.CX P w outer H s (wZq K E) u s'
section
variable {X : Cx} {W W' : WX} {E : XK} {pins : List (Addr × Obj)} {σ : L2.St} {H : Hp} {s s' : Shared} {u : Value}
theorem Takes.n (t : Takes X W) : L2N.Takes X W := fun u s' x => t u s' (.inl x)
theorem Takes.l (t : Takes X W) : L2.Takes X (xG8 X.K W) := fun u s' x => t u s' (.inr x)
theorem Takes.mk (a : L2N.Takes X W) (b : L2.Takes X (xG8 X.K W)) : Takes X W := fun u s' x => x.elim (a u s') (b u s')
theorem Takes.imp (t : Takes X W) (h : ∀ c d σ H, W' c d σ H → W c d σ H) : Takes X W' := .mk (t.n.imp h) (t.l.imp fun c d σ H z => ⟨z.1, h c d σ H z.2⟩)
theorem XE.of_call (I : L2.Inv X pins σ H s) (hW : ∀ cls d H', E cls d H' → W cls d σ H') (c : CXk X.K X.prog X.w X.stack H s E u s') : XE X W u s' :=
  c.imp (L2N.XE.of_call I hW) (L2.XE.of_call I fun cls d H' h => ⟨h.1, hW cls d H' h.2⟩)
theorem takes_of (hs : X.stack = X.env :: X.outer) (hf : X.env.frame = some X.env.locals) (hex : X.ex = []) {E₁ : Value → Shared → Prop}
    (hx : X.xe = fun e s' => wpAny (model X.prog X.w) X.A (leaving X.env e) (fun _ s'' => CXk X.K X.prog X.w X.outer X.H_0 X.s_0 E e s'') E₁ s') : Takes X (fun cls d _ H => E cls d H) := fun u s' x => by
  rw [hx]
  rcases x with x | x
  · exact wpAny_mono (L2N.XE.leave (E₁ := E₁) (E := E) hs hf hex (fun _ _ _ _ h => h) x) (fun _ _ z => .inl z) fun _ _ z => z
  · exact wpAny_mono (L2.XE.leave (E₁ := E₁) (E := wZq X.K E) hs hf hex (fun _ _ _ _ h => h) x) (fun _ _ z => .inr z) fun _ _ z => z
theorem wXc {K : PySem.W.Frag} {P : Program} {w : World} {outer : List Env} (c : CXk K P w outer H s (fun _ _ _ => False) u s') : False := by
  rcases c with ⟨_, _, _, _, _, _, _, _, _, _, _, _, z⟩ | ⟨_, _, _, _, _, _, _, _, _, _, _, _, z⟩
  · exact z
  · exact z.2
theorem xW2 (h : ∀ cls d σ H, ¬ W cls d σ H) : Takes X W := fun u s' x => by
  rcases x with ⟨_, _, _, _, _, _, _, _, _, _, _, _, _, _, _, _, z⟩ | ⟨_, _, _, _, _, _, _, _, _, _, _, _, _, _, _, _, z⟩
  · exact (h _ _ _ _ z).elim
  · exact (h _ _ _ _ z.2).elim
end
def Zk (K : PySem.W.Frag) (cls : Value) (d : Option Addr) : Obj → Prop := fun o => o.cls = cls ∧ o.dict = d ∧ (wYn K cls ∨ PXN.CtxN o)
theorem xV5 {B : Heap} {l : List Env} {a L : Addr} {Z Z' : Obj → Prop} {h : Heap} (z : ∀ o, Z o → Z' o) (x : Sky B l a Z L h) : Sky B l a Z' L h := by
  rcases x with ⟨h1, h2, h3, oe, vs, h4, h5, h6⟩ | x | ⟨h1, h2, h3, x⟩
  · exact .inl ⟨h1, h2, h3, oe, vs, h4, z _ h5, h6⟩
  · exact .inr (.inl (L2H.flyingZ_imp z x))
  · exact .inr (.inr ⟨h1, h2, h3, L2H.tracedZ_imp z x⟩)
section
variable {X : Cx} {W : WX} {u : Value} {s' : Shared}
theorem XE.open (x : XE X W u s') : ∃ (a : Addr) (B : Heap) (sI : Shared) (pins : List (Addr × Obj)) (σ : L2.St) (H : Hp) (cls : Value) (d : Option Addr),
    u = .ref a ∧ L2.Inv X pins σ H sI ∧ (∀ b o, sI.heap.get? b = some o → b ∉ frs X.stack → B.get? b = some o) ∧ sI.heap.UpToSlots s'.heap ∧
      Sky B X.stack a (Zk X.K cls d) X.env.locals s'.heap ∧ H a = none ∧ s'.os = sI.os ∧ AllBare s'.gens ∧ W cls d σ H := by
  rcases x with ⟨a, B, sI, pins, σ, H, cls, d, e, I, nb, up, sky, na, os, ag, w⟩ | ⟨a, B, sI, pins, σ, H, cls, d, e, I, nb, up, sky, na, os, ag, w⟩
  · exact ⟨a, B, sI, pins, σ, H, cls, d, e, I, nb, up, xV5 (fun o z => ⟨z.1, z.2.1, .inr z.2.2⟩) sky, na, os, ag, w⟩
  · exact ⟨a, B, sI, pins, σ, H, cls, d, e, I, nb, up, xV5 (fun o z => ⟨z.1, z.2, .inl w.1⟩) sky, na, os, ag, w.2⟩
end
section
variable {fs : List Addr} {H H2 H' : Hp} {h h2 B h' : Heap}
end
theorem xKk {CX : CXT} {P : Program} {w : World} {K : PySem.W.Frag} {mg : Str → Option Value} {base : Heap} {x qual : Str} {st : Stmt} {f : Addr} {fd : FuncData} {N ps : List Str} {k : Nat} {sp : Sp} (F : Fun K x qual st f fd) (S : FnScope N ps (defScope st))
    (len : ∀ vs H Q E, sp vs H Q E → vs.length = ps.length)
    (hb : ∀ cdv A outer s H vs Q E, Room k (A.deeper (envOfC qual (defScope st) s.heap.objs.size f cdv)) → sp vs H Q E → ∃ t, PSs (cxOf CX P w K mg base N qual (defScope st) f cdv A outer s H E) (defBody st) t ∧ t { nx := fun _ H' => Q .non H', rt := Q } (L2.start N vs) H) :
    FnOk P w K mg base CX (k + 1) f fd ps sp := by
  rcases F with ⟨⟨oc, od, kV, doc, pm, an, cdv, ct, osl, e, lk, hcd⟩, _⟩
  subst e
  exact fn_of lk hcd S len (hb cdv)
end Ev

namespace Ev
open PySem PySem.Spec PyProof.Rows L2

def SM (base : Heap) : Prop := ∃ o es ep, base.get? sysModules = some o ∧ o.data = .dict es ep
def xWr (K : PySem.W.Frag) (w : Wd) (x : Exn) (cls : Value) (d : Option Addr) : Prop := ∃ C, yG4 K x.cls C ∧ cls = .ref C ∧ ((x.fs = [] ∧ d = none) ∨ ∃ dd vs, d = some dd ∧ w.F dd = some (.xd vs) ∧ RF K w.F (zU7 x.fs) vs)
def WXB (K : PySem.W.Frag) (B : XBt) : WX := fun cls d sg H => ∃ (x : Exn) (w' : Wd), Rep K w' ∧ w'.sg = sg ∧ w'.H = H ∧ xWr K w' x cls d ∧ B x w'
abbrev B0 : XBt := fun _ _ => False
structure Ctx (X : Cx) (B : XBt) : Prop where
  calm : X.calm = true
  gd : X.A.guards = some []
  rm : Room 0 X.A
  nd : X.N.Nodup
  sm : SM X.base
  tk : Takes X (WXB X.K B)
theorem xW3 {X : Cx} : Takes X (WXB X.K B0) := xW2 fun cls d sg H h => by
  obtain ⟨_, _, _, _, _, _, z⟩ := h
  exact z

section
variable {X : Cx} {B : XBt} {a b c e : Expr} {fa fb fc : Pg EV} {pos : Pos}

def two (g : PyData → PyData → Pg EV) (o1 o2 : OV) : Pg EV := look o1 fun x => look o2 fun y => g x y
def zJo (op : Operator) (fa fb : Pg EV) : Pg EV := .bind fa fun v => .bind fb fun u => two (fun x y => yGd (xQj op x y)) (yGn v) (yGn u)
theorem wQs {g : PyData → PyData → Pg EV} {o1 o2 : OV} {m : Mem} {P : EV → Mem → Prop} {E : Exn → Mem → Prop} (h : (two g o1 o2 m).wp P E) : ∃ x y, lk o1 m = some x ∧ lk o2 m = some y ∧ (g x y m).wp P E := by
  obtain ⟨x, e1, h⟩ := yJr h
  obtain ⟨y, e2, h⟩ := yJr h
  exact ⟨x, y, e1, e2, h⟩
theorem yYt.keep {K : PySem.W.Frag} {w w1 : Wd} {Q : VK} {v : EV} (q : yYt K w Q v w1.m) (e1 : w1.sg = w.sg) (f1 : FolE w w1) : xWq K w1 v Q := fun w' x em es f r re _ => q w' x em (es.trans e1) (f1.trans f) r re
theorem zZt {op : Operator} (ha : Snd X B a fa) (hb : Snd X B b fb) : Snd X B (.BinOp a op b pos) (zJo op fa fb) := by
  intro w Q r h
  refine yYq (pe_op xKg yG1 yG1) ?_
  refine zZx ha r h fun v w1 x e1 f1 r1 re h1 => ?_
  rw [← e1]
  refine zZx hb r1 h1 fun u w2 y e2 f2 r2 re2 h2 => ?_
  obtain ⟨d1, d2, q1, q2, h3⟩ := wQs h2
  obtain ⟨z, ez, q⟩ := yVo h3
  have o1 := ((re.ro r1).fol r1 f2).rn r2 q1
  have o2 := (re2.ro r2).rn r2 q2
  exact wXh r2 o1 o2 ez (yYt.keep q (e2.trans e1) (f1.trans f2))

def xX2 : PyData → PyData → Bool
  | .int i, .int j => decide (i = j)
  | .str a, .str b => decide (a = b)
  | _, _ => false
def xJx (es : List (PyData × PyData)) (k : PyData) : Option PyData := (es.find? fun p => xX2 p.1 k).map (·.2)
def xHk (es : List (PyData × PyData)) (k v : PyData) : List (PyData × PyData) := if es.any (fun p => xX2 p.1 k) then es.map (fun p => if xX2 p.1 k then (p.1, v) else p) else es ++ [(k, v)]
theorem xQd {k : PyData} (h : yVs k = true) : ∃ kk, k = xQf kk := by
  cases k with
  | int i => exact ⟨.inl i, rfl⟩
  | str x => exact ⟨.inr x, rfl⟩
  | _ => cases h
theorem xQe (a b : Key) : xX2 (xQf a) (xQf b) = decide (a = b) := by
  cases a <;> cases b <;> simp [xQf, xX2]
theorem RK.val {K : PySem.W.Frag} {F : Hp} : ∀ {es : List (PyData × PyData)} {kvs : List (Key × V)}, RK K F es kvs → ∀ (kk : Key), (∀ d, xJx es (xQf kk) = some d → ∃ v, valV kvs kk = some v ∧ R K F d v) ∧ (xJx es (xQf kk) = none → valV kvs kk = none)
  | _, _, .nil, kk => ⟨fun d h => by simp [xJx] at h, fun _ => rfl⟩
  | _, _, .cons (k := k) (d := d0) (es := es) (v := v0) (kvs := kvs) h t, kk => by
    obtain ⟨h1, h2⟩ := RK.val t kk
    by_cases e : k = kk
    · have e1 : xJx ((xQf k, d0) :: es) (xQf kk) = some d0 := by simp [xJx, xQe, e]
      have e2 : valV ((k, v0) :: kvs) kk = some v0 := valV_pos (p := (k, v0)) e
      rw [e1, e2]
      exact ⟨fun d z => by cases z; exact ⟨_, rfl, h⟩, fun z => by cases z⟩
    · have e1 : xJx ((xQf k, d0) :: es) (xQf kk) = xJx es (xQf kk) := by simp [xJx, xQe, e]
      have e2 : valV ((k, v0) :: kvs) kk = valV kvs kk := by simp [valV, e]
      rw [e1, e2]
      exact ⟨h1, h2⟩
theorem RK.app {K : PySem.W.Frag} {F : Hp} : ∀ {es fs : List (PyData × PyData)} {kvs lvs : List (Key × V)}, RK K F es kvs → RK K F fs lvs → RK K F (es ++ fs) (kvs ++ lvs)
  | _, _, _, _, .nil, b => b
  | _, _, _, _, .cons h a, b => .cons h (RK.app a b)
theorem RK.any {K : PySem.W.Frag} {F : Hp} : ∀ {es : List (PyData × PyData)} {kvs : List (Key × V)}, RK K F es kvs → ∀ (kk : Key), es.any (fun p => xX2 p.1 (xQf kk)) = kvs.any fun p => decide (p.1 = kk)
  | _, _, .nil, kk => rfl
  | _, _, .cons (k := k) _ t, kk => by
    rw [List.any_cons, List.any_cons, RK.any t kk, xQe]
theorem RK.rep {K : PySem.W.Frag} {F : Hp} {d : PyData} {v : V} (hd : R K F d v) : ∀ {es : List (PyData × PyData)} {kvs : List (Key × V)}, RK K F es kvs → ∀ (kk : Key), RK K F (es.map fun p => if xX2 p.1 (xQf kk) then (p.1, d) else p) (kvs.map fun p => if p.1 = kk then (p.1, v) else p)
  | _, _, .nil, kk => .nil
  | _, _, .cons (k := k) h t, kk => by
    rw [List.map_cons, List.map_cons]
    by_cases e : k = kk
    · simp only [xQe, e, decide_true, if_true]
      exact .cons hd (RK.rep hd t kk)
    · simp only [xQe, e, decide_false, if_false]
      exact .cons h (RK.rep hd t kk)
theorem RK.put {K : PySem.W.Frag} {F : Hp} {es : List (PyData × PyData)} {kvs : List (Key × V)} {d : PyData} {v : V} (h : RK K F es kvs) (hd : R K F d v) (kk : Key) : RK K F (xHk es (xQf kk) d) (putK kvs kk v) := by
  unfold xHk putK
  rw [h.any kk]
  by_cases e : (kvs.any fun p => decide (p.1 = kk)) = true
  · rw [if_pos e, if_pos e]
    exact h.rep hd kk
  · rw [if_neg e, if_neg e]
    exact h.app (.cons hd .nil)
theorem xZg {K : PySem.W.Frag} {w : Wd} {kk : Key} {v : V} (h : RN K w (xQf kk) v) : v = kV kk := by
  cases kk with
  | inl i => exact RN.int h
  | inr x => exact RN.str h

def intsOf : List PyData → Option (List Int)
  | [] => some []
  | .int i :: r => (intsOf r).map (i :: ·)
  | _ => none
theorem xQg : ∀ {xs : List PyData} {ns : List Int}, intsOf xs = some ns → xs = ns.map .int
  | [], ns, e => by cases e; rfl
  | .int i :: r, ns, e => by
    unfold intsOf at e
    cases q : intsOf r with
    | none =>
      rw [q] at e
      cases e
    | some ms =>
      rw [q] at e
      cases e
      rw [xQg q]
      rfl
  | .none :: _, _, e => by cases e
  | .bool _ :: _, _, e => by cases e
  | .str _ :: _, _, e => by cases e
  | .list _ :: _, _, e => by cases e
  | .tuple _ :: _, _, e => by cases e
  | .dict _ :: _, _, e => by cases e
@[simp] theorem xQx : ∀ ns : List Int, intsOf (ns.map .int) = some ns
  | [] => rfl
  | n :: ns => by
    rw [List.map_cons]
    unfold intsOf
    rw [xQx ns]
    rfl
theorem RA.intsV {K : PySem.W.Frag} {F : Hp} : ∀ {ns : List Int} {vs : List V}, RA K F (ns.map .int) vs → vs = ns.map V.int
  | [], _, .nil => rfl
  | n :: ns, _, .cons h t => by
    cases h
    rw [RA.intsV t]
    rfl
def ltL : List Int → List Int → Bool
  | [], [] => false
  | [], _ :: _ => true
  | _ :: _, [] => false
  | x :: xs, y :: ys => if x = y then ltL xs ys else decide (x < y)
theorem xUs {ns ms : List Int} : ∀ (k i : Nat), i + k = min ns.length ms.length → Ob.lexAt (fun j => decide (ns.getD j 0 = ms.getD j 0)) (fun j => decide (ns.getD j 0 < ms.getD j 0)) (decide (ns.length < ms.length)) i k = ltL (ns.drop i) (ms.drop i)
  | 0, i, h => by
    rw [Ob.lexAt_zero]
    have h1 : i ≤ ns.length := by omega
    have h2 : i ≤ ms.length := by omega
    by_cases q : ns.length < ms.length
    · have e1 : ns.drop i = [] := List.drop_eq_nil_of_le (by omega)
      have e2 : ms.drop i = ms[i] :: ms.drop (i + 1) := List.drop_eq_getElem_cons (by omega)
      rw [e1, e2, decide_eq_true q]
      rfl
    · have e2 : ms.drop i = [] := List.drop_eq_nil_of_le (by omega)
      rw [e2, decide_eq_false q]
      cases ns.drop i <;> rfl
  | k + 1, i, h => by
    have h1 : i < ns.length := by omega
    have h2 : i < ms.length := by omega
    rw [Ob.lexAt_succ, xUs k (i + 1) (by omega), List.drop_eq_getElem_cons h1, List.drop_eq_getElem_cons h2]
    have g1 : ns.getD i 0 = ns[i] := by simp [h1]
    have g2 : ms.getD i 0 = ms[i] := by simp [h2]
    rw [g1, g2]
    show _ = if ns[i] = ms[i] then ltL (ns.drop (i + 1)) (ms.drop (i + 1)) else decide (ns[i] < ms[i])
    by_cases q : ns[i] = ms[i]
    · rw [if_pos (decide_eq_true q), if_pos q]
    · rw [if_neg (by simpa using q), if_neg q]
def rLtT (K : PySem.W.Frag) : R2 := fun x y H Q => ∃ (a b : Addr) (ns ms : List Int), x = .ref a ∧ y = .ref b ∧ SqT K H a (ns.map V.int) ∧ SqT K H b (ms.map V.int) ∧ Q (.bl (ltL ns ms)) H
theorem op_ltT {X : Cx} (hu : X.A.units < cLine) : OpR X (compareOp .Lt) (rLtT X.K) := by
  intro pins s σ H x y v u Q I rx ry h
  obtain ⟨a, b, ns, ms, rfl, rfl, ha, hb, q⟩ := h
  cases rx
  cases ry
  obtain ⟨its, r1, p1, _⟩ := I.tuple ha
  obtain ⟨its2, r2, p2, _⟩ := I.tuple hb
  have i1 : IntsAre its ns := Vals.ints r1
  have i2 : IntsAre its2 ms := Vals.ints r2
  have e1 : its.toArray.size = ns.length := by rw [List.size_toArray]; exact i1.length
  have e2 : its2.toArray.size = ms.length := by rw [List.size_toArray]; exact i2.length
  have at1 : ∀ j (h1 : j < its.toArray.size), ∃ t, its.toArray[j] = .int (ns.getD j 0) t := fun j h1 => PyProof.Rows.IntsAre.int_at i1 _ _ (by simp at h1; simp [h1])
  have at2 : ∀ j (h1 : j < its2.toArray.size), ∃ t, its2.toArray[j] = .int (ms.getD j 0) t := fun j h1 => PyProof.Rows.IntsAre.int_at i2 _ _ (by simp at h1; simp [h1])
  have R := Ob.RcOp.tuples_lt (A := X.A) (s := s) (e := fun j => decide (ns.getD j 0 = ms.getD j 0)) (r := fun j => decide (ns.getD j 0 < ms.getD j 0)) p1 p2 hu (fun j h1 h2 => by
    obtain ⟨t, et⟩ := at1 j h1
    obtain ⟨t', et'⟩ := at2 j h2
    rw [et, et']
    have z : (ns.getD j 0 == ms.getD j 0) = decide (ns.getD j 0 = ms.getD j 0) := by
      by_cases q : ns.getD j 0 = ms.getD j 0
      · rw [decide_eq_true q]; exact beq_iff_eq.mpr q
      · rw [decide_eq_false q]; exact beq_eq_false_iff_ne.mpr q
    rw [← z]
    exact SeqAt.EqAt.int_int _ _ _ _) (fun j h1 h2 _ => by
    obtain ⟨t, et⟩ := at1 j h1
    obtain ⟨t', et'⟩ := at2 j h2
    rw [et, et']
    exact Ob.RcOp.lt_int _ _ _ _)
  rw [e1, e2, xUs _ 0 (by omega)] at R
  have z : wpAny (model X.prog X.w) X.A (compareOp .Lt (.ref a) (.ref b)) (EP X pins σ Q) X.xe s := R X.prog X.w X.xe (EP X pins σ Q) ⟨.bl _, H, I, rfl, q⟩
  exact z
def yYy : PyData → Bool
  | .none => true
  | .bool _ => true
  | .int _ => true
  | .str _ => true
  | _ => false
theorem xXf {K : PySem.W.Frag} {F : Hp} {x : PyData} {v : V} (h : R K F x v) (f : yYy x = true) : flatV v = true := by
  cases h <;> first | rfl | simp [yYy] at f
theorem yGf {K : PySem.W.Frag} {w : Wd} {x : PyData} {v : V} (h : RN K w x v) (f : yYy x = true) : R K w.F x v := by
  rcases h with h | ⟨_, o, e, _⟩
  · exact h
  · subst e
    cases o <;> simp [dOf, xXq, yYy] at f
theorem xHf {K : PySem.W.Frag} {F F' : Hp} {x y : PyData} {v u : V} (h : R K F x v) (g : R K F' y u) (f : yYy x = true) (f' : yYy y = true) : eqV v u = PyData.eqv x y := by
  cases h <;> first | (simp [yYy] at f; done) | skip
  all_goals (cases g <;> first | (simp [yYy] at f'; done) | simp [eqV, PyData.eqv])
theorem yHi {K : PySem.W.Frag} {F F' : Hp} {x : PyData} {v : V} (h : R K F' x v) (f : yYy x = true) : ∀ {ys : List PyData} {vs : List V}, RA K F ys vs → ys.all yYy = true → vs.all flatV = true ∧ inV v vs = ys.any fun z => PyData.eqv z x
  | [], _, .nil, _ => ⟨rfl, rfl⟩
  | y :: ys, _, .cons g t, e => by
    rw [List.all_cons, Bool.and_eq_true] at e
    obtain ⟨h1, h2⟩ := yHi h f t e.2
    unfold inV at h2 ⊢
    exact ⟨by rw [List.all_cons, xXf g e.1, h1]; rfl, by rw [List.any_cons, List.any_cons, h2, xHf g h e.1 f]⟩
def inQ (x : PyData) (ys : List PyData) : Option Bool := if (yYy x && ys.all yYy) || (SeqAt.shaped x && PyData.canLayAll0 ys) then some (ys.any fun z => PyData.eqv z x) else none
def wG8 (K : PySem.W.Frag) : R2 := fun x y H Q => ∃ (a b : Addr) (xs ys : List V) (k : Bool), x = .ref a ∧ y = .ref b ∧ ((SqT K H a xs ∧ SqT K H b [] ∧ k = xs.isEmpty) ∨ (SqL K H a xs ∧ SqL K H b ys ∧ xs.length ≠ ys.length ∧ k = false)) ∧ Q (.bl k) H
def wG6 (K : PySem.W.Frag) : R2 := fun x y H Q => ∃ (a b : Addr) (xs ys : List V) (k : Bool), x = .ref a ∧ y = .ref b ∧ ((SqT K H a xs ∧ SqT K H b [] ∧ k = xs.isEmpty) ∨ (SqL K H a xs ∧ SqL K H b ys ∧ xs.length ≠ ys.length ∧ k = false)) ∧ Q (.bl (!k)) H
theorem wZf {X : Cx} (hu : X.A.units < cLine) : OpR X (compareOp .Eq) (wG8 X.K) := by
  intro pins s σ H x y v u Q I rx ry h
  obtain ⟨a, b, xs, ys, k, rfl, rfl, h, q⟩ := h
  cases rx
  cases ry
  rcases h with ⟨ha, hb, rfl⟩ | ⟨ha, hb, hl, rfl⟩
  · obtain ⟨its, r1, p1, _⟩ := I.tuple ha
    obtain ⟨its2, r2, p2, _⟩ := I.tuple hb
    cases r2
    have R := SeqAt.RcAt.tuples (A := X.A) (s := s) (e := fun _ => true) p1 p2 hu (fun j h1 h2 => absurd h2 (by simp))
    have e : ((List.range (min its.toArray.size ([] : List Value).toArray.size)).all (fun _ => true) && its.toArray.size == ([] : List Value).toArray.size) = xs.isEmpty := by
      cases r1 <;> simp
    rw [e] at R
    have z : wpAny (model X.prog X.w) X.A (compareOp .Eq (.ref a) (.ref b)) (EP X pins σ Q) X.xe s := R X.prog X.w X.xe (EP X pins σ Q) ⟨.bl _, H, I, rfl, q⟩
    exact z
  · obtain ⟨its, r1, p1, _⟩ := I.list ha
    obtain ⟨its2, r2, p2, _⟩ := I.list hb
    have R := SeqAt.RcAt.lists_lengths (A := X.A) (s := s) p1.isList p2.isList (by
      have h1 := r1.length
      have h2 := r2.length
      simp
      omega) hu
    have z : wpAny (model X.prog X.w) X.A (compareOp .Eq (.ref a) (.ref b)) (EP X pins σ Q) X.xe s := R X.prog X.w X.xe (EP X pins σ Q) ⟨.bl _, H, I, rfl, q⟩
    exact z
theorem wZd {X : Cx} (hu : X.A.units < cLine) : OpR X (compareOp .NotEq) (wG6 X.K) := by
  intro pins s σ H x y v u Q I rx ry h
  obtain ⟨a, b, xs, ys, k, rfl, rfl, h, q⟩ := h
  cases rx
  cases ry
  rcases h with ⟨ha, hb, rfl⟩ | ⟨ha, hb, hl, rfl⟩
  · obtain ⟨its, r1, p1, _⟩ := I.tuple ha
    obtain ⟨its2, r2, p2, _⟩ := I.tuple hb
    cases r2
    have R := SeqAt.RcNeAt.tuples (A := X.A) (s := s) (e := fun _ => true) p1 p2 hu (fun j h1 h2 => absurd h2 (by simp))
    have e : ((List.range (min its.toArray.size ([] : List Value).toArray.size)).all (fun _ => true) && its.toArray.size == ([] : List Value).toArray.size) = xs.isEmpty := by
      cases r1 <;> simp
    rw [e] at R
    have z : wpAny (model X.prog X.w) X.A (compareOp .NotEq (.ref a) (.ref b)) (EP X pins σ Q) X.xe s := R X.prog X.w X.xe (EP X pins σ Q) ⟨.bl _, H, I, rfl, q⟩
    exact z
  · obtain ⟨its, r1, p1, _⟩ := I.list ha
    obtain ⟨its2, r2, p2, _⟩ := I.list hb
    have R := SeqAt.RcNeAt.lists_lengths (A := X.A) (s := s) p1.isList p2.isList (by
      have h1 := r1.length
      have h2 := r2.length
      simp
      omega) hu
    have z : wpAny (model X.prog X.w) X.A (compareOp .NotEq (.ref a) (.ref b)) (EP X pins σ Q) X.xe s := R X.prog X.w X.xe (EP X pins σ Q) ⟨.bl _, H, I, rfl, q⟩
    exact z
def eqQ (x y : PyData) : Option Bool :=
  match x, y with
  | .list xs, .list ys => if xs.length ≠ ys.length then some false else if SeqAt.shaped (.list xs) && SeqAt.shaped (.list ys) then some (PyData.eqv (.list xs) (.list ys)) else none
  | .tuple xs, .tuple [] => some xs.isEmpty
  | x, y => if SeqAt.shaped x && SeqAt.shaped y then some (PyData.eqv x y) else none
def yZe : PyData → Bool
  | .none => true
  | _ => false
def yU5 (op : CmpOp) (x y : PyData) : Option Bool :=
  match op with
  | .Eq => match x, y with
    | .str a, .str b => some (decide (a = b))
    | x, y => eqQ x y
  | .NotEq => match x, y with
    | .str a, .str b => some (!decide (a = b))
    | x, y => (eqQ x y).map (!·)
  | .Lt => match x, y with
    | .int i, .int j => some (decide (i < j))
    | .tuple xs, .tuple ys => match intsOf xs, intsOf ys with
      | some ns, some ms => some (ltL ns ms)
      | _, _ => none
    | _, _ => none
  | .LtE => match x, y with
    | .int i, .int j => some (decide (i ≤ j))
    | _, _ => none
  | .Gt => match x, y with
    | .int i, .int j => some (decide (j < i))
    | _, _ => none
  | .GtE => match x, y with
    | .int i, .int j => some (decide (j ≤ i))
    | _, _ => none
  | .Is => match y with
    | .none => some (yZe x)
    | .bool j => match x with
      | .bool i => some (decide (i = j))
      | _ => none
    | _ => none
  | .IsNot => match y with
    | .none => some (!yZe x)
    | .bool j => match x with
      | .bool i => some (!decide (i = j))
      | _ => none
    | _ => none
  | .In => match y with
    | .tuple ys => inQ x ys
    | .list ys => inQ x ys
    | .str t => match x with
      | .str s => some (!(Builtin.Str.occurrences t s 0 t.length 1).isEmpty)
      | _ => none
    | .dict es => if zZ5 es && yVs x then some (xJx es x).isSome else none
    | _ => none
  | .NotIn => match y with
    | .tuple ys => (inQ x ys).map (!·)
    | .list ys => (inQ x ys).map (!·)
    | .str t => match x with
      | .str s => some (!(!(Builtin.Str.occurrences t s 0 t.length 1).isEmpty))
      | _ => none
    | .dict es => if zZ5 es && yVs x then some (!(xJx es x).isSome) else none
    | _ => none
theorem xKl {K : PySem.W.Frag} {w : Wd} {x : PyData} {v : V} (h : RN K w x v) : yZe x = decide (v = .non) := by
  rcases h with h | ⟨_, o, rfl, rfl, _⟩
  · cases h <;> simp [yZe]
  · cases o <;> simp [yZe, dOf, xXq]
theorem RN.dp {K : PySem.W.Frag} {w : Wd} (s : yKz w.F w.H) {x : PyData} {v : V} (h : RN K w x v) (c : x.canLay0 = true) : Dp K w.H v x := by
  rcases h with h | ⟨a, o, rfl, rfl, h⟩
  · exact h.dp s c
  · cases o with
    | lst xs =>
      obtain ⟨vs, h1, h2⟩ := h
      exact .lst (LQ.of h1).sq (RA.dp s h2 (by simpa [dOf, PyData.canLay0] using c))
    | dic es => simp [dOf, PyData.canLay0] at c
    | ins c' fs => simp [dOf, xXq, PyData.canLay0] at c
    | dit W es => simp [dOf, PyData.canLay0] at c
theorem xZi {A : Around} {xs : List PyData} {d : PyData} (h : SeqAt.shaped d = true) (hu : A.units + 65 < cLine) : A.units + 1 + min (PyData.depthAll xs) d.depth < cLine := by
  have := SeqAt.depth_of_shaped h
  have : min (PyData.depthAll xs) d.depth ≤ d.depth := Nat.min_le_right _ _
  omega
def wY3 (K : PySem.W.Frag) (neg : Bool) : R2 := fun x y H Q => ∃ d ds, Dp K H x d ∧ (Dp K H y (.tuple ds) ∨ Dp K H y (.list ds)) ∧ SeqAt.shaped d = true ∧ PyData.canLayAll0 ds = true ∧ Q (.bl (if neg then !ds.any fun z => PyData.eqv z d else ds.any fun z => PyData.eqv z d)) H
theorem xUm (hu : X.A.units + 65 < cLine) : OpR X (compareOp .In) (wY3 X.K false) := by
  intro pins s sg H x y v u Q I rx ry h
  obtain ⟨d, ds, hd, he, sd, se, q⟩ := h
  obtain ⟨as, r1⟩ := Dp.reads I d x v hd rx
  rcases he with he | he
  · obtain ⟨bs, r2⟩ := Dp.reads I (.tuple ds) y u he ry
    exact SeqAt.in_tuple_reads r2 r1 se (SeqAt.canLay_of_shaped sd) (xZi sd hu) ⟨.bl _, H, I, rfl, q⟩
  · obtain ⟨bs, r2⟩ := Dp.reads I (.list ds) y u he ry
    exact SeqAt.in_list_reads r2 r1 se (SeqAt.canLay_of_shaped sd) (xZi sd hu) ⟨.bl _, H, I, rfl, q⟩
theorem xZ2 (hu : X.A.units + 65 < cLine) : OpR X (compareOp .NotIn) (wY3 X.K true) := by
  intro pins s sg H x y v u Q I rx ry h
  obtain ⟨d, ds, hd, he, sd, se, q⟩ := h
  obtain ⟨as, r1⟩ := Dp.reads I d x v hd rx
  rcases he with he | he
  · obtain ⟨bs, r2⟩ := Dp.reads I (.tuple ds) y u he ry
    exact SeqAt.notIn_tuple_reads r2 r1 se (SeqAt.canLay_of_shaped sd) (xZi sd hu) ⟨.bl _, H, I, rfl, q⟩
  · obtain ⟨bs, r2⟩ := Dp.reads I (.list ds) y u he ry
    exact SeqAt.notIn_list_reads r2 r1 se (SeqAt.canLay_of_shaped sd) (xZi sd hu) ⟨.bl _, H, I, rfl, q⟩
def wY4 (neg : Bool) : R2 := fun x y H Q => ∃ a kvs k, x = kV k ∧ y = .ref a ∧ H a = some (.dK kvs) ∧ Q (.bl (if neg then !(valV kvs k).isSome else (valV kvs k).isSome)) H
theorem wZe (hu : X.A.units + 1 < cLine) : OpR X (compareOp .In) (wY4 false) := by
  intro pins s sg H x y v u Q I rx ry ⟨a, kvs, k, ex, ey, h, q⟩
  subst ex ey
  obtain rfl : u = Value.ref a := ry
  exact d_in hu I (DGet.k h) rx fun s' I' => ⟨.bl _, H, I', rfl, q⟩
theorem xKf (hu : X.A.units + 1 < cLine) : OpR X (compareOp .NotIn) (wY4 true) := by
  intro pins s sg H x y v u Q I rx ry ⟨a, kvs, k, ex, ey, h, q⟩
  subst ex ey
  obtain rfl : u = Value.ref a := ry
  exact d_notIn hu I (DGet.k h) rx fun s' I' => ⟨.bl _, H, I', rfl, q⟩
theorem RK.isSome {K : PySem.W.Frag} {F : Hp} {es : List (PyData × PyData)} {kvs : List (Key × V)} (h : RK K F es kvs) (kk : Key) : (xJx es (xQf kk)).isSome = (valV kvs kk).isSome := by
  obtain ⟨h1, h2⟩ := h.val kk
  cases e : xJx es (xQf kk) with
  | none => rw [h2 e] <;> rfl
  | some d =>
    obtain ⟨v, e2, _⟩ := h1 d e
    rw [e2] <;> rfl
theorem Ctx.u1 (C : Ctx X B) : X.A.units + 1 < cLine := by have := C.rm.un; omega
theorem Ctx.u64 (C : Ctx X B) : X.A.units + 64 < cLine := by have := C.rm.un; omega
theorem Ctx.u65 (C : Ctx X B) : X.A.units + 65 < cLine := by have := C.rm.un; omega
theorem xUx {x y : PyData} {k : Bool} {w : Wd} {u v : V} {T : Bool → Prop} {G : Prop} (C : Ctx X B) (r : Rep X.K w) (ha : RN X.K w x u) (hb : RN X.K w y v) (e : eqQ x y = some k)
    (h1 : ∀ d e, Dp X.K w.H u d → Dp X.K w.H v e → SeqAt.shaped d = true → SeqAt.shaped e = true → T (PyData.eqv d e) → G)
    (h2 : (∃ (a b : Addr) (xs ys : List V) (k : Bool), u = .ref a ∧ v = .ref b ∧ ((SqT X.K w.H a xs ∧ SqT X.K w.H b [] ∧ k = xs.isEmpty) ∨ (SqL X.K w.H a xs ∧ SqL X.K w.H b ys ∧ xs.length ≠ ys.length ∧ k = false)) ∧ T k) → G) (q : T k) : G := by
  have s := r.sub
  have shp : ∀ {d : PyData}, SeqAt.shaped d = true → d.canLay0 = true := fun h => SeqAt.canLay_of_shaped h
  unfold eqQ at e
  split at e
  · rename_i xs ys
    obtain ⟨a, vs, rfl, g1, g2⟩ := ha.lst s
    obtain ⟨b, ws, rfl, g3, g4⟩ := hb.lst s
    split at e
    · rename_i hl
      cases e
      exact h2 ⟨a, b, vs, ws, false, rfl, rfl, .inr ⟨g1.sq, g3.sq, by rw [← g2.len, ← g4.len]; exact hl, rfl⟩, q⟩
    · split at e
      · rename_i hs
        simp only [Bool.and_eq_true] at hs
        cases e
        exact h1 _ _ (ha.dp s (shp hs.1)) (hb.dp s (shp hs.2)) hs.1 hs.2 q
      · cases e
  · rename_i xs
    cases e
    obtain ⟨a, vs, rfl, g1, g2⟩ := ha.tup
    obtain ⟨b, ws, rfl, g3, g4⟩ := hb.tup
    cases g4
    refine h2 ⟨a, b, vs, [], _, rfl, rfl, .inl ⟨zXs s g1, zXs s g3, rfl⟩, ?_⟩
    cases g2 <;> exact q
  · split at e
    · rename_i hs
      simp only [Bool.and_eq_true] at hs
      cases e
      exact h1 _ _ (ha.dp s (shp hs.1)) (hb.dp s (shp hs.2)) hs.1 hs.2 q
    · cases e
theorem xUy {op : CmpOp} {x y : PyData} {k : Bool} {w : Wd} {u v : V} {Q : VK} (C : Ctx X B) (r : Rep X.K w) (ha : RN X.K w x u) (hb : RN X.K w y v) (e : yU5 op x y = some k) (q : Q (.bl k) w.H) : anyR X (compareOp op) u v w.H Q := by
  have s := r.sub
  have shp : ∀ {d : PyData}, SeqAt.shaped d = true → d.canLay0 = true := fun h => SeqAt.canLay_of_shaped h
  cases op
  · -- Eq
    unfold yU5 at e
    dsimp only at e
    split at e
    · rename_i a b
      cases e
      rw [ha.str, hb.str]
      exact ⟨_, op_eq, rfl, by rw [show decide (V.str a = V.str b) = decide (a = b) from by simp]; exact q⟩
    · exact xUx C r ha hb e (fun d e h1 h2 h3 h4 q => ⟨_, op_eqD C.u64, d, e, h1, h2, h3, h4, q⟩) (fun h => ⟨_, wZf (by have := C.u64; omega), h⟩) q
  · unfold yU5 at e
    dsimp only at e
    split at e
    · rename_i a b
      cases e
      rw [ha.str, hb.str]
      exact ⟨_, op_ne, rfl, by rw [show decide (V.str a = V.str b) = decide (a = b) from by simp]; exact q⟩
    · cases e1 : eqQ x y with
      | none =>
        rw [e1] at e
        cases e
      | some k0 =>
        rw [e1] at e
        cases e
        exact xUx C r ha hb e1 (fun d e h1 h2 h3 h4 q => ⟨_, op_neD C.u64, d, e, h1, h2, h3, h4, q⟩) (fun h => ⟨_, wZd (by have := C.u64; omega), h⟩) q
  · cases x <;> try (cases e; done)
    all_goals (cases y <;> try (cases e; done))
    · cases e
      rw [ha.int, hb.int]
      exact ⟨_, op_lt, _, _, rfl, rfl, q⟩
    · rename_i xs ys
      have e : (match intsOf xs, intsOf ys with
        | some ns, some ms => some (ltL ns ms)
        | _, _ => none) = some k := e
      split at e
      · rename_i ns ms e1 e2
        cases e
        obtain ⟨a, vs, rfl, h1, h2⟩ := ha.tup
        obtain ⟨b, us, rfl, h3, h4⟩ := hb.tup
        rw [xQg e1] at h2
        rw [xQg e2] at h4
        have q1 := h2.intsV
        have q2 := h4.intsV
        subst q1 q2
        exact ⟨_, op_ltT (by have := C.rm.un; omega), a, b, ns, ms, rfl, rfl, zXs s h1, zXs s h3, q⟩
      · cases e
  · cases x <;> try (cases e; done)
    cases y <;> try (cases e; done)
    cases e
    rw [ha.int, hb.int]
    exact ⟨_, op_le, _, _, rfl, rfl, q⟩
  · cases x <;> try (cases e; done)
    cases y <;> try (cases e; done)
    cases e
    rw [ha.int, hb.int]
    exact ⟨_, op_gt, _, _, rfl, rfl, q⟩
  · cases x <;> try (cases e; done)
    cases y <;> try (cases e; done)
    cases e
    rw [ha.int, hb.int]
    exact ⟨_, op_ge, _, _, rfl, rfl, q⟩
  · -- Is
    cases y <;> try (cases e; done)
    · cases e
      rw [xKl ha] at q
      rw [hb.non]
      exact ⟨_, op_isN, rfl, q⟩
    · cases x <;> try (cases e; done)
      cases e
      rw [ha.bl, hb.bl]
      exact ⟨_, op_isBl, _, _, rfl, rfl, q⟩
  · cases y <;> try (cases e; done)
    · cases e
      rw [xKl ha] at q
      rw [hb.non]
      exact ⟨_, op_notN, rfl, q⟩
    · cases x <;> try (cases e; done)
      cases e
      rw [ha.bl, hb.bl]
      exact ⟨_, op_notBl, _, _, rfl, rfl, q⟩
  · -- In
    cases y <;> try (cases e; done)
    · cases x <;> try (cases e; done)
      cases e
      rw [ha.str, hb.str]
      exact ⟨_, op_in_str, _, _, rfl, rfl, q⟩
    · rename_i ys
      have e : inQ x ys = some k := e
      unfold inQ at e
      split at e
      · rename_i hc
        cases e
        by_cases hf : (yYy x && ys.all yYy) = true
        · simp only [Bool.and_eq_true] at hf
          obtain ⟨a, vs, rfl, h1, h2⟩ := hb.lst s
          obtain ⟨g1, g2⟩ := yHi (yGf ha hf.1) hf.1 h2 hf.2
          exact ⟨_, op_in_seq, a, vs, rfl, .inl h1.sq, xXf (yGf ha hf.1) hf.1, g1, by rw [g2]; exact q⟩
        · have hs : SeqAt.shaped x = true ∧ PyData.canLayAll0 ys = true := by
            rw [Bool.not_eq_true] at hf
            rw [hf, Bool.false_or, Bool.and_eq_true] at hc
            exact hc
          exact ⟨_, xUm C.u65, x, _, ha.dp s (shp hs.1), .inr (hb.dp s (by simpa [PyData.canLay0] using hs.2)), hs.1, hs.2, q⟩
      · cases e
    · rename_i ys
      have e : inQ x ys = some k := e
      unfold inQ at e
      split at e
      · rename_i hc
        cases e
        by_cases hf : (yYy x && ys.all yYy) = true
        · simp only [Bool.and_eq_true] at hf
          obtain ⟨a, vs, rfl, h1, h2⟩ := hb.tup
          obtain ⟨g1, g2⟩ := yHi (yGf ha hf.1) hf.1 h2 hf.2
          exact ⟨_, op_in_seq, a, vs, rfl, .inr (zXs s h1), xXf (yGf ha hf.1) hf.1, g1, by rw [g2]; exact q⟩
        · have hs : SeqAt.shaped x = true ∧ PyData.canLayAll0 ys = true := by
            rw [Bool.not_eq_true] at hf
            rw [hf, Bool.false_or, Bool.and_eq_true] at hc
            exact hc
          exact ⟨_, xUm C.u65, x, _, ha.dp s (shp hs.1), .inl (hb.dp s (by simpa [PyData.canLay0] using hs.2)), hs.1, hs.2, q⟩
      · cases e
    · unfold yU5 at e
      dsimp only at e
      split at e
      · rename_i hs
        simp only [Bool.and_eq_true] at hs
        cases e
        obtain ⟨kk, rfl⟩ := xQd hs.2
        obtain ⟨a, kvs, rfl, hH, rk⟩ := hb.dic s hs.1
        rw [rk.isSome kk] at q
        exact ⟨_, wZe C.u1, a, kvs, kk, xZg ha, rfl, hH, q⟩
      · cases e
  · cases y <;> try (cases e; done)
    · cases x <;> try (cases e; done)
      cases e
      rw [ha.str, hb.str]
      exact ⟨_, op_notin_str, _, _, rfl, rfl, q⟩
    · rename_i ys
      have e : (inQ x ys).map (!·) = some k := e
      unfold inQ at e
      split at e
      · rename_i hc
        cases e
        by_cases hf : (yYy x && ys.all yYy) = true
        · simp only [Bool.and_eq_true] at hf
          obtain ⟨a, vs, rfl, h1, h2⟩ := hb.lst s
          obtain ⟨g1, g2⟩ := yHi (yGf ha hf.1) hf.1 h2 hf.2
          exact ⟨_, op_notIn_seq, a, vs, rfl, .inl h1.sq, xXf (yGf ha hf.1) hf.1, g1, by rw [g2]; exact q⟩
        · have hs : SeqAt.shaped x = true ∧ PyData.canLayAll0 ys = true := by
            rw [Bool.not_eq_true] at hf
            rw [hf, Bool.false_or, Bool.and_eq_true] at hc
            exact hc
          exact ⟨_, xZ2 C.u65, x, _, ha.dp s (shp hs.1), .inr (hb.dp s (by simpa [PyData.canLay0] using hs.2)), hs.1, hs.2, q⟩
      · cases e
    · rename_i ys
      have e : (inQ x ys).map (!·) = some k := e
      unfold inQ at e
      split at e
      · rename_i hc
        cases e
        by_cases hf : (yYy x && ys.all yYy) = true
        · simp only [Bool.and_eq_true] at hf
          obtain ⟨a, vs, rfl, h1, h2⟩ := hb.tup
          obtain ⟨g1, g2⟩ := yHi (yGf ha hf.1) hf.1 h2 hf.2
          exact ⟨_, op_notIn_seq, a, vs, rfl, .inr (zXs s h1), xXf (yGf ha hf.1) hf.1, g1, by rw [g2]; exact q⟩
        · have hs : SeqAt.shaped x = true ∧ PyData.canLayAll0 ys = true := by
            rw [Bool.not_eq_true] at hf
            rw [hf, Bool.false_or, Bool.and_eq_true] at hc
            exact hc
          exact ⟨_, xZ2 C.u65, x, _, ha.dp s (shp hs.1), .inl (hb.dp s (by simpa [PyData.canLay0] using hs.2)), hs.1, hs.2, q⟩
      · cases e
    · unfold yU5 at e
      dsimp only at e
      split at e
      · rename_i hs
        simp only [Bool.and_eq_true] at hs
        cases e
        obtain ⟨kk, rfl⟩ := xQd hs.2
        obtain ⟨a, kvs, rfl, hH, rk⟩ := hb.dic s hs.1
        rw [rk.isSome kk] at q
        exact ⟨_, xKf C.u1, a, kvs, kk, xZg ha, rfl, hH, q⟩
      · cases e
def wXt (g : PyData → PyData → Option Bool) (o1 o2 : OV) : Pg Bool := look o1 fun x => look o2 fun y => yGd (g x y)
theorem xVr {g : PyData → PyData → Option Bool} {o1 o2 : OV} {m : Mem} {P : Bool → Mem → Prop} {E : Exn → Mem → Prop} (h : (wXt g o1 o2 m).wp P E) : ∃ x y k, lk o1 m = some x ∧ lk o2 m = some y ∧ g x y = some k ∧ P k m := by
  obtain ⟨x, e1, h⟩ := yJr h
  obtain ⟨y, e2, h⟩ := yJr h
  obtain ⟨k, e3, h⟩ := yVo h
  exact ⟨x, y, k, e1, e2, e3, h⟩
def zXb (op : CmpOp) (fa fb : Pg EV) : Pg Bool := .bind fa fun v => .bind fb fun u => wXt (yU5 op) (yGn v) (yGn u)
def asV (f : Pg Bool) : Pg EV := .bind f fun k => .ret (.d (.bool k))
theorem zZ2 {op : CmpOp} (C : Ctx X B) (ha : Snd X B a fa) (hb : Snd X B b fb) (hm : behindInMarks op b = false := by rfl) : xWg X B (.Compare a [op] [b] pos) (zXb op fa fb) := by
  intro w Q r h
  refine wQm (pt_cmpR xKg yG1 yG1 hm) ?_
  refine zZx ha r h fun v w1 x e1 f1 r1 re h1 => ?_
  rw [← e1]
  refine zZx hb r1 h1 fun u w2 y e2 f2 r2 re2 h2 => ?_
  obtain ⟨d1, d2, k, q1, q2, ez, q⟩ := xVr h2
  have o1 := ((re.ro r1).fol r1 f2).rn r2 q1
  have o2 := (re2.ro r2).rn r2 q2
  exact xUy C r2 o1 o2 ez ⟨k, rfl, q w2 rfl (e2.trans e1) (f1.trans f2) r2⟩
theorem yH5 {op : CmpOp} (C : Ctx X B) (ha : Snd X B a fa) (hb : Snd X B b fb) (hm : behindInMarks op b = false := by rfl) : Snd X B (.Compare a [op] [b] pos) (asV (zXb op fa fb)) := by
  intro w Q r h
  refine yYq (pe_cmpR xKg yG1 yG1 hm) ?_
  have h := wp_bind h
  refine zZx ha r h fun v w1 x e1 f1 r1 re h1 => ?_
  rw [← e1]
  refine zZx hb r1 h1 fun u w2 y e2 f2 r2 re2 h2 => ?_
  obtain ⟨d1, d2, k, q1, q2, ez, q⟩ := xVr h2
  have o1 := ((re.ro r1).fol r1 f2).rn r2 q1
  have o2 := (re2.ro r2).rn r2 q2
  exact xUy C r2 o1 o2 ez (q w2 (.bl k) rfl (e2.trans e1) (f1.trans f2) r2 (.bl k))
def xWn : PyData → Option Bool
  | .none => some false
  | .bool b => some b
  | .int i => some (i != 0)
  | .str s => if s.length ≤ 16777216 then some ((s.length : Int) != 0) else none
  | .list xs => some (!xs.isEmpty)
  | .tuple xs => some (!xs.isEmpty)
  | .dict es => if zZ5 es then some (!es.isEmpty) else none
def wXu (o : OV) : Pg Bool := look o fun x => yGd (xWn x)
theorem RK.emp {K : PySem.W.Frag} {F : Hp} {es : List (PyData × PyData)} {kvs : List (Key × V)} (h : RK K F es kvs) : es.isEmpty = kvs.isEmpty := by
  cases h <;> rfl
theorem RA.emp {K : PySem.W.Frag} {F : Hp} {es : List PyData} {kvs : List V} (h : RA K F es kvs) : es.isEmpty = kvs.isEmpty := by
  cases h <;> rfl
theorem wQt {o : OV} {w : Wd} {v : V} {P : Bool → Mem → Prop} {E : Exn → Mem → Prop} (r : Rep X.K w) (h : RO X.K w o v) (hw : (wXu o w.m).wp P E) : ∃ k, TruV X.K v w.H k ∧ P k w.m := by
  have s := r.sub
  obtain ⟨x, ex, hw⟩ := yJr hw
  have h := h.rn r ex
  obtain ⟨k, ek, q⟩ := yVo hw
  refine ⟨k, ?_, q⟩
  cases x with
  | none =>
    cases ek
    rw [h.non]
    exact rfl
  | bool b =>
    cases ek
    rw [h.bl]
    exact rfl
  | int i =>
    cases ek
    rw [h.int]
    exact rfl
  | str t =>
    unfold xWn at ek
    dsimp only at ek
    split at ek
    · rename_i hl
      cases ek
      rw [h.str]
      exact ⟨by rw [sizeLine_eq]; exact hl, rfl⟩
    · cases ek
  | list xs =>
    cases ek
    obtain ⟨a, vs, rfl, h1, h2⟩ := h.lst s
    exact .inl ⟨vs, h1.sq, by rw [h2.emp]⟩
  | tuple xs =>
    cases ek
    obtain ⟨a, vs, rfl, h1, h2⟩ := h.tup
    exact .inr (.inl ⟨vs, zXs s h1, by rw [h2.emp]⟩)
  | dict es =>
    unfold xWn at ek
    dsimp only at ek
    split at ek
    · rename_i hp
      cases ek
      obtain ⟨a, kvs, rfl, h1, h2⟩ := h.dic s hp
      exact .inr (.inr ⟨kvs, h1, by rw [h2.emp]⟩)
    · cases ek
def xYv (f : Pg EV) : Pg Bool := .bind f fun v => wXu (yGn v)
theorem xW9 (h : Snd X B e fa) (he : ∀ whole, isTrue e X.env whole = (do let v ← whole; standAt e.pos; holding [v] (truthy v)) := by intro _; rfl) : xWg X B e (xYv fa) := by
  intro w Q r hw
  refine wQm (pt_truth yG1 he) ?_
  refine zZx h r hw fun v w1 x e1 f1 r1 re h1 => ?_
  obtain ⟨k, hk, q⟩ := wQt r1 (re.ro r1) h1
  exact ⟨k, hk, q w1 rfl e1 f1 r1⟩
variable {rest : List Expr} {ta tb tc : Pg Bool}
def xJw (t u : Pg Bool) : Pg Bool := .bind t fun k => if k then u else .ret false
def xK0 (t u : Pg Bool) : Pg Bool := .bind t fun k => if k then .ret true else u
def WW (X : Cx) (e : Expr) : TT := fun sg H Q => Cl (∀ (whole : Sem Value) (pins : List (Addr × Obj)) (s : Shared), L2.Inv X pins sg H s → wpAny (model X.prog X.w) X.A (isTrue e X.env whole) (TP X pins sg Q) X.xe s)
theorem wY5 : PW X e (WW X e) := ⟨fun wh pins s _ _ _ I h => h.go wh pins s I⟩
def xWf (X : Cx) (B : XBt) (e : Expr) (f : Pg Bool) : Prop := ∀ (w : Wd) (Q : Bool → Hp → Prop), Rep X.K w → (f w.m).wp (xHz X.K w Q) (XW X.K B w) → WW X e w.sg w.H Q
theorem xVz (h : xWg X B a ta) : xWf X B (.BoolOp .And [a] pos) ta := fun w Q r hw => ⟨fun wh pins s I => (pw_and1 (xGp (e := a))).run wh pins s _ _ Q I (h w Q r hw)⟩
theorem xJl (h : xWg X B a ta) : xWf X B (.BoolOp .Or [a] pos) ta := fun w Q r hw => ⟨fun wh pins s I => (pw_or1 (xGp (e := a))).run wh pins s _ _ Q I (h w Q r hw)⟩
theorem xW8 (h : xWg X B a ta) (h' : xWf X B (.BoolOp .And (b :: rest) pos) tb) : xWf X B (.BoolOp .And (a :: b :: rest) pos) (xJw ta tb) := by
  intro w Q r hw
  refine ⟨fun wh pins s I => ?_⟩
  refine (pw_and (xGp (e := a)) wY5).run wh pins s _ _ Q I ?_
  refine yG6 h r hw fun k w1 e1 f1 r1 q => ?_
  cases k with
  | false => exact q w1 rfl e1 f1 r1
  | true =>
    rw [← e1]
    refine iteT (h' w1 Q r1 (q.imp (fun _ _ z w2 em es f r2 => z w2 em (es.trans e1) (f1.trans f) r2) fun _ _ z => z))
theorem xVy (h : xWg X B a ta) (h' : xWf X B (.BoolOp .Or (b :: rest) pos) tb) : xWf X B (.BoolOp .Or (a :: b :: rest) pos) (xK0 ta tb) := by
  intro w Q r hw
  refine ⟨fun wh pins s I => ?_⟩
  refine (pw_or (xGp (e := a)) wY5).run wh pins s _ _ Q I ?_
  refine yG6 h r hw fun k w1 e1 f1 r1 q => ?_
  cases k with
  | true => exact q w1 rfl e1 f1 r1
  | false =>
    rw [← e1]
    refine iteF (h' w1 Q r1 (q.imp (fun _ _ z w2 em es f r2 => z w2 em (es.trans e1) (f1.trans f) r2) fun _ _ z => z))
theorem xWf.t (h : xWf X B e ta) : xWg X B e ta := fun w Q r hw => ⟨fun pins s I => (h w Q r hw).go _ pins s I⟩
def xYx (t : Pg Bool) (f g : Pg EV) : Pg EV := .bind t fun k => if k then f else g
theorem yYu (hc : xWg X B c tc) (ha : Snd X B a fa) (hb : Snd X B b fb) : Snd X B (.IfExp c a b pos) (xYx tc fa fb) := by
  intro w Q r hw
  refine yYq (pe_ifExp xGp yG1 yG1) ?_
  refine yG6 hc r hw fun k w1 e1 f1 r1 q => ?_
  rw [← e1]
  cases k with
  | true => exact iteT (ha w1 Q r1 (q.imp (fun _ _ z w2 y em es f r2 => z w2 y em (es.trans e1) (f1.trans f) r2) fun _ _ z => z))
  | false => exact iteF (hb w1 Q r1 (q.imp (fun _ _ z w2 y em es f r2 => z w2 y em (es.trans e1) (f1.trans f) r2) fun _ _ z => z))
end
end Ev

namespace Ev
open PySem PySem.Spec PyProof.Rows L2

section
variable {X : Cx} {B : XBt} {e : Expr} {es : List Expr} {pos p : Pos}
def BOk (X : Cx) (f : Value) (g : List PyData → Option EV) : Prop := ∀ (w : Wd) (ds : List PyData) (xs : List V) (v : EV) (Q : VK), Rep X.K w → Paired (RN X.K w) ds xs → g ds = some v → xWq X.K w v Q → ∃ r, CallR X f r ∧ r xs w.H Q
def xXj : List OV → Mem → Option (List PyData)
  | [], _ => some []
  | o :: r, m => match lk o m, xXj r m with
    | some x, some xs => some (x :: xs)
    | _, _ => none
theorem xK4 {K : PySem.W.Frag} {w : Wd} (rp : Rep K w) : ∀ {os : List OV} {xs : List V} {ds : List PyData}, Paired (RO K w) os xs → xXj os w.m = some ds → Paired (RN K w) ds xs
  | [], _, _, .nil, e => by
    cases e
    exact .nil
  | o :: r, _, ds, .cons h t, e => by
    unfold xXj at e
    split at e
    · rename_i x xs q1 q2
      cases e
      exact .cons (h.rn rp q1) (xK4 rp t q2)
    · cases e
def yHk (g : List PyData → Option EV) (fo : Pg (List OV)) : Pg EV := .bind fo fun os => fun m => match xXj os m with
  | some ds => yGd (g ds) m
  | none => .bad
theorem anyC {X : Cx} {f : Value} : CallR X f (fun xs H Q => ∃ r, CallR X f r ∧ r xs H Q) := by
  intro pins s sg H xs us Q I rv h
  obtain ⟨r, hc, q⟩ := h
  exact hc pins s sg H xs us Q I rv q
theorem xK7 {f : Value} {g : List PyData → Option EV} {fo : Pg (List OV)} (hb : BOk X f g) (ha : xU1 X B (e :: es) fo) {w : Wd} {Q : VK} (r : Rep X.K w) (hw : (yHk g fo w.m).wp (yYt X.K w Q) (XW X.K B w)) :
    WA X (e :: es) w.sg w.H fun xs H => ∃ r, CallR X f r ∧ r xs H Q := by
  refine yH6 ha r hw fun os w1 xs e1 f1 r1 ro h1 => ?_
  have h1 : (match xXj os w1.m with
    | some ds => yGd (g ds) w1.m
    | none => .bad : Res EV).wp _ _ := h1
  cases ed : xXj os w1.m with
  | none =>
    rw [ed] at h1
    exact h1.elim
  | some ds =>
    rw [ed] at h1
    obtain ⟨v, ev, q⟩ := yVo h1
    exact hb w1 ds xs v Q r1 (xK4 r1 ro ed) ev (yYt.keep q e1 f1)
theorem yGz {id : String} {x : Str} {g : List PyData → Option EV} {fo : Pg (List OV)} (hb : BOk X (.builtin id) g) (hg : Gl X x) (hm : X.mg x = none) (hv : bootBuiltins x = some (.builtin id)) (ha : xU1 X B (e :: es) fo)
    (hn : x ≠ "__name__" := by decide) (hdb : (x == ("__debug__" : Str)) = false := by decide) (he : starEach (e :: es) X.env = (false, eval e X.env) :: starEach es X.env := by rfl) (hpl : (backTo pos (starEach es X.env)).any (·.1) = false := by rfl) :
    Snd X B (.Call (.Name x p) (e :: es) [] pos) (yHk g fo) := fun w Q r hw => yYq (pe_callB anyC hg hm hv xYf hn hdb he hpl) (xK7 hb ha r hw)
theorem xJk {id : String} {x : Str} {g : List PyData → Option EV} {fo : Pg (List OV)} (hb : BOk X (.type id) g) (hg : Gl X x) (hm : X.mg x = none) (hv : bootBuiltins x = some (.type id)) (ha : xU1 X B (e :: es) fo)
    (hn : x ≠ "__name__" := by decide) (hdb : (x == ("__debug__" : Str)) = false := by decide) (he : starEach (e :: es) X.env = (false, eval e X.env) :: starEach es X.env := by rfl) (hpl : (backTo pos (starEach es X.env)).any (·.1) = false := by rfl) :
    Snd X B (.Call (.Name x p) (e :: es) [] pos) (yHk g fo) := fun w Q r hw => yYq (pe_callTy anyC hg hm hv xYf hn hdb he hpl) (xK7 hb ha r hw)

def xYq : List PyData → Option EV
  | [.str s] => if s.length ≤ 16777216 then some (.d (.int s.length)) else none
  | [.list xs] => some (.d (.int xs.length))
  | [.tuple xs] => some (.d (.int xs.length))
  | [.dict es] => if zZ5 es then some (.d (.int es.length)) else none
  | _ => none
theorem xKj : BOk X (.builtin "len") xYq := by
  intro w ds xs v Q r h e k
  cases h with
  | nil => cases e
  | @cons d x ds xs h t =>
    cases t with
    | cons _ _ => cases d <;> cases e
    | nil =>
      cases d <;> try (cases e; done)
      · rename_i z
        by_cases hz : z.length ≤ 16777216
        · rw [show xYq [.str z] = some (.d (.int z.length)) from if_pos hz] at e
          cases e
          rw [h.str]
          exact ⟨_, call_len, _, _, rfl, ⟨by rw [sizeLine_eq]; exact hz, rfl⟩, k.here r (.int _)⟩
        · rw [show xYq [.str z] = none from if_neg hz] at e
          cases e
      · cases e
        obtain ⟨a, vs, rfl, h1, h2⟩ := h.lst r.sub
        exact ⟨_, call_len, _, _, rfl, .inl ⟨vs, h1.sq, h2.len⟩, k.here r (.int _)⟩
      · cases e
        obtain ⟨a, vs, rfl, h1, h2⟩ := h.tup
        exact ⟨_, call_len, _, _, rfl, .inr ⟨vs, zXs r.sub h1, h2.len⟩, k.here r (.int _)⟩
      · rename_i es
        have e : (if zZ5 es then some (EV.d (.int es.length)) else none) = some v := e
        split at e
        · rename_i hp
          cases e
          obtain ⟨a, kvs, rfl, h1, h2⟩ := h.dic r.sub hp
          exact ⟨_, call_lenD, a, kvs, rfl, h1, by rw [← h2.len]; exact k.here r (.int _)⟩
        · cases e

mutual
def zZ4 : PyData → Bool
  | .none => true
  | .bool _ => true
  | .int _ => true
  | .str _ => true
  | .list xs => yY2 xs
  | .tuple xs => yY2 xs
  | .dict es => zZ6 es
def yY2 : List PyData → Bool
  | [] => true
  | x :: xs => zZ4 x && yY2 xs
def zZ6 : List (PyData × PyData) → Bool
  | [] => true
  | (k, x) :: xs => yVs k && (zZ4 x && zZ6 xs)
end
theorem wKm {pins : List (Addr × Obj)} {sg : L2.St} {H : Hp} {s : Shared} (I : L2.Inv X pins sg H s) (sm : SM X.base) {a : Addr} {o : Obj} (h : s.heap.get? a = some o) (hc : ∀ es ep, o.data ≠ .dict es ep) : sysModules ≠ a := by
  obtain ⟨u, es, ep, h1, h2⟩ := sm
  intro e
  have h3 := I.bk _ _ h1
  rw [e, h] at h3
  cases h3
  exact hc es ep h2
mutual
theorem R.reads {pins : List (Addr × Obj)} {sg : L2.St} {H : Hp} {s : Shared} (I : L2.Inv X pins sg H s) (sm : SM X.base) : ∀ {d : PyData} {v : V} {u : Value}, R X.K H d v → zZ4 d = true → RelV v u → ∃ as, Reads s.heap u d as ∧ sysModules ∉ as
  | _, _, _, .non, _, rv => by
    cases rv
    exact ⟨_, .none, by simp⟩
  | _, _, _, .bl b, _, rv => by
    cases rv
    exact ⟨_, .bool b, by simp⟩
  | _, _, _, .int i, _, ⟨t, e⟩ => by
    subst e
    exact ⟨_, .int i t, by simp⟩
  | _, _, _, .str x, _, ⟨t, e⟩ => by
    subst e
    exact ⟨_, .str x t, by simp⟩
  | .list ds, .ref a, _, .lst h ra, c, rv => by
    cases rv
    obtain ⟨_, its, n, rvs, _, ea⟩ := h.at I
    obtain ⟨as, q, z⟩ := RA.reads I sm ra (by simpa [zZ4] using c) rvs
    refine ⟨_, .list ea rfl rfl q, fun hm => ?_⟩
    rcases List.mem_cons.mp hm with e | e
    · exact wKm I sm ea (fun _ _ z => by cases z) e
    · exact z e
  | .tuple ds, .ref a, _, .tup h ra, c, rv => by
    cases rv
    obtain ⟨its, rvs, ⟨o, h1, h2, n, h3⟩, _⟩ := I.tuple h
    obtain ⟨as, q, z⟩ := RA.reads I sm ra (by simpa [zZ4] using c) rvs
    exact ⟨_, .tuple h1 h2 h3 q, z⟩
  | .dict es, .ref a, _, .dic h ra, c, rv => by
    cases rv
    obtain ⟨_, ns, vs, kv, dk⟩ := I.hok a _ h
    obtain ⟨bs, q, z⟩ := RK.reads I sm ra (by simpa [zZ4] using c) kv
    refine ⟨_, PyProof.V.reads_dictOf (enc := xQf) (fun k key hk => ?_) dk q, fun hm => ?_⟩
    · rcases keyIs_shape hk with ⟨i, t, rfl, rfl⟩ | ⟨x, t, rfl, rfl⟩
      · exact .int i t
      · exact .str x t
    · rcases List.mem_cons.mp hm with e | e
      · rw [← e] at ns
        simp at ns
      · exact z e
  | .dict _, .ref a, _, .ins _ _ _ _, c, rv => by simp [zZ4, zZ6, yVs] at c
  | .dict _, .ref a, _, .cls _, c, rv => by simp [zZ4, zZ6, yVs] at c
  | .dict _, .ref a, _, .exn0 _ _, c, rv => by simp [zZ4, zZ6, yVs] at c
  | .dict _, .ref a, _, .exn _ _ _ _, c, rv => by simp [zZ4, zZ6, yVs] at c
  | .dict _, .ref a, _, .cell _, c, rv => by simp [zZ4, zZ6, yVs] at c
  | .dict _, .ref a, _, .dit _ _, c, rv => by simp [zZ4, zZ6, yVs] at c
theorem RA.reads {pins : List (Addr × Obj)} {sg : L2.St} {H : Hp} {s : Shared} (I : L2.Inv X pins sg H s) (sm : SM X.base) : ∀ {ds : List PyData} {vs : List V} {us : List Value}, RA X.K H ds vs → yY2 ds = true → Vals vs us → ∃ as, ReadsAll s.heap us ds as ∧ sysModules ∉ as
  | _, _, _, .nil, _, .nil => ⟨_, .nil, by simp⟩
  | _, _, _, .cons h ra, c, .cons rv rvs => by
    simp only [yY2, Bool.and_eq_true] at c
    obtain ⟨as, q1, z1⟩ := R.reads I sm h c.1 rv
    obtain ⟨bs, q2, z2⟩ := RA.reads I sm ra c.2 rvs
    exact ⟨_, .cons q1 q2, fun hm => (List.mem_append.mp hm).elim z1 z2⟩
theorem RK.reads {pins : List (Addr × Obj)} {sg : L2.St} {H : Hp} {s : Shared} (I : L2.Inv X pins sg H s) (sm : SM X.base) : ∀ {es : List (PyData × PyData)} {kvs : List (Key × V)} {us : List (Key × Value)}, RK X.K H es kvs → zZ6 es = true → KV kvs us → ∃ as, PyProof.V.PairsRead s.heap xQf us es as ∧ sysModules ∉ as
  | _, _, _, .nil, _, .nil => ⟨_, .nil, by simp⟩
  | _, _, (k, u) :: us, .cons h ra, c, .cons rv rvs => by
    obtain ⟨e, rv⟩ := rv
    have e : _ = k := e
    subst e
    simp only [zZ6, Bool.and_eq_true] at c
    obtain ⟨as, q1, z1⟩ := R.reads I sm h c.2.1 rv
    obtain ⟨bs, q2, z2⟩ := RK.reads I sm ra c.2.2 rvs
    exact ⟨_, .cons q1 q2, fun hm => (List.mem_append.mp hm).elim z1 z2⟩
end
mutual
theorem R.nowX {K : PySem.W.Frag} {F H : Hp} (s : yKz F H) : ∀ {d : PyData} {v : V}, R K F d v → zZ4 d = true → R K H d v
  | _, _, .non, _ => .non
  | _, _, .bl b, _ => .bl b
  | _, _, .int i, _ => .int i
  | _, _, .str x, _ => .str x
  | _, _, .lst h a, c => .lst (h.mox s) (RA.nowX s a (by simpa [zZ4] using c))
  | _, _, .tup h a, c => .tup (zXs s h) (RA.nowX s a (by simpa [zZ4] using c))
  | _, _, .dic h a, c => .dic (s _ _ h xJp) (RK.nowX s a (by simpa [zZ4] using c))
  | _, _, .ins _ _ _ _, c => by simp [zZ4, zZ6, yVs] at c
  | _, _, .cls _, c => by simp [zZ4, zZ6, yVs] at c
  | _, _, .exn0 _ _, c => by simp [zZ4, zZ6, yVs] at c
  | _, _, .exn _ _ _ _, c => by simp [zZ4, zZ6, yVs] at c
  | _, _, .cell _, c => by simp [zZ4, zZ6, yVs] at c
  | _, _, .dit _ _, c => by simp [zZ4, zZ6, yVs] at c
theorem RA.nowX {K : PySem.W.Frag} {F H : Hp} (s : yKz F H) : ∀ {ds : List PyData} {vs : List V}, RA K F ds vs → yY2 ds = true → RA K H ds vs
  | _, _, .nil, _ => .nil
  | _, _, .cons h a, c => by
    simp only [yY2, Bool.and_eq_true] at c
    exact .cons (R.nowX s h c.1) (RA.nowX s a c.2)
theorem RK.nowX {K : PySem.W.Frag} {F H : Hp} (s : yKz F H) : ∀ {es : List (PyData × PyData)} {kvs : List (Key × V)}, RK K F es kvs → zZ6 es = true → RK K H es kvs
  | _, _, .nil, _ => .nil
  | _, _, .cons h a, c => by
    simp only [zZ6, Bool.and_eq_true] at c
    exact .cons (R.nowX s h c.2.1) (RK.nowX s a c.2.2)
end
theorem RN.nowP {K : PySem.W.Frag} {w : Wd} (s : yKz w.F w.H) {x : PyData} {v : V} (h : RN K w x v) (c : zZ4 x = true) : R K w.H x v := by
  rcases h with h | ⟨a, o, rfl, rfl, h⟩
  · exact h.nowX s c
  · cases o with
    | lst xs =>
      obtain ⟨vs, h1, h2⟩ := h
      exact .lst (.of h1) (RA.nowX s h2 (by simpa [dOf, zZ4] using c))
    | dic es =>
      obtain ⟨vs, h1, h2⟩ := h
      exact .dic h1 (RK.nowX s h2 (by simpa [dOf, zZ4] using c))
    | ins c' fs => simp [dOf, xXq, zZ4, zZ6, yVs] at c
    | dit W es => simp [dOf, zZ4, zZ6, yVs] at c
def yU2 (d : PyData) : Bool := d.showable && decide (d.depth ≤ 64) && zZ4 d && decide (d.shown.length ≤ 16777216)
def wKr (K : PySem.W.Frag) : List V → Hp → VK → Prop := fun xs H Q => ∃ x d, xs = [x] ∧ R K H d x ∧ yU2 d = true ∧ Q (.str d.shown) H
theorem xVf (C : Ctx X B) : CallR X (.builtin "repr") (wKr X.K) := by
  rintro pins s sg H xs us Q I rv ⟨x, d, rfl, hd, ok, q⟩
  obtain ⟨u, rfl, rx⟩ := vals1 rv
  unfold yU2 at ok
  simp only [Bool.and_eq_true, decide_eq_true_eq] at ok
  obtain ⟨⟨⟨o1, o2⟩, o3⟩, o4⟩ := ok
  have sz : d.shown.length ≤ sizeLine := by rw [sizeLine_eq]; exact o4
  have obj : ∀ {a : Addr}, R X.K H d (.ref a) → RelV (.ref a) u → wpAny (model X.prog X.w) X.A (call (.builtin "repr") [u]) (EP X pins sg Q) X.xe s := fun {a} hd rx => by
    obtain ⟨as, rd, ns⟩ := R.reads I C.sm hd o3 rx
    cases rx
    refine repr_of_reads' rd o1 (fun _ => ns) C.gd ?_ (fun _ _ z => z) (fun h' u tk hk => ⟨.str _, H, I.kept (t' := tk) hk, ⟨_, rfl⟩, q⟩) sz
    have := C.rm.un
    omega
  cases hd with
  | non =>
    cases rx
    refine PySem.P.repr_of_none ⟨.str _, H, I.tok _, ⟨_, rfl⟩, ?_⟩
    rw [PyData.shown_none] at q
    exact q
  | bl b =>
    cases rx
    refine PySem.P.repr_of_bool ⟨.str _, H, I.tok _, ⟨_, rfl⟩, ?_⟩
    rw [PyData.shown_bool] at q
    exact q
  | int i =>
    obtain ⟨t, rfl⟩ := rx
    refine PySem.P.repr_of_int (by simpa [PyData.showable] using o1) ⟨.str _, H, I.tok _, ⟨_, rfl⟩, ?_⟩
    rw [PyData.shown_int] at q
    exact q
  | str y =>
    obtain ⟨t, rfl⟩ := rx
    rw [PyData.shown_str] at q sz
    exact PySem.P.repr_of_str ⟨.str _, H, I.tok _, ⟨_, rfl⟩, q⟩ sz
  | lst h ra => exact obj (.lst h ra) rx
  | tup h ra => exact obj (.tup h ra) rx
  | dic h ra => exact obj (.dic h ra) rx
  | ins _ _ _ _ => simp [zZ4, zZ6, yVs] at o3
  | cls _ => simp [zZ4, zZ6, yVs] at o3
  | exn0 _ _ => simp [zZ4, zZ6, yVs] at o3
  | exn _ _ _ _ => simp [zZ4, zZ6, yVs] at o3
  | cell _ => simp [zZ4, zZ6, yVs] at o3
  | dit _ _ => simp [zZ4, zZ6, yVs] at o3
def xKv : List PyData → Option EV
  | [x] => if yU2 x then some (.d (.str x.shown)) else none
  | _ => none
theorem xKh (C : Ctx X B) : BOk X (.builtin "repr") xKv := by
  intro w ds xs v Q r h e k
  cases h with
  | nil => cases e
  | @cons d x ds xs h t =>
    cases t with
    | cons _ _ => cases e
    | nil =>
      unfold xKv at e
      dsimp only at e
      split at e
      · rename_i hz
        cases e
        refine ⟨_, xVf C, x, d, rfl, h.nowP r.sub ?_, hz, k.here r (.str _)⟩
        unfold yU2 at hz
        simp only [Bool.and_eq_true] at hz
        exact hz.1.2
      · cases e

def wVc : List PyData → Option EV
  | [.int i] => some (.d (.int (if i < 0 then -i else i)))
  | _ => none
theorem xUo : BOk X (.builtin "abs") wVc := by
  intro w ds xs v Q r h e k
  cases h with
  | nil => cases e
  | @cons d x ds xs h t =>
    cases t with
    | cons _ _ => cases d <;> cases e
    | nil =>
      cases d <;> try (cases e; done)
      cases e
      rw [h.int]
      exact ⟨_, call_abs, _, rfl, k.here r (.int _)⟩
def wVa : List PyData → Option EV
  | [.int i] => some (.d (.int i))
  | [.bool b] => some (.d (.int (if b then 1 else 0)))
  | _ => none
theorem wZg : BOk X (.type "int") wVa := by
  intro w ds xs v Q r h e k
  cases h with
  | nil => cases e
  | @cons d x ds xs h t =>
    cases t with
    | cons _ _ => cases d <;> cases e
    | nil =>
      cases d <;> try (cases e; done)
      · cases e
        rw [h.bl]
        exact ⟨_, call_int1, .inr ⟨_, rfl, k.here r (.int _)⟩⟩
      · cases e
        rw [h.int]
        exact ⟨_, call_int1, .inl ⟨_, rfl, k.here r (.int _)⟩⟩
def xUu : List PyData → Option EV
  | [.list xs] => some (.d (.tuple xs))
  | [.tuple xs] => some (.d (.tuple xs))
  | _ => none
def xYp : List PyData → Option EV
  | [.list xs] => some (.fresh xs)
  | [.tuple xs] => some (.fresh xs)
  | _ => none
theorem xKi : BOk X (.type "list") xYp := by
  intro w ds xs v Q r h e k
  cases h with
  | nil => cases e
  | @cons d x ds xs h t =>
    cases t with
    | cons _ _ => cases d <;> cases e
    | nil =>
      cases d <;> try (cases e; done)
      · cases e
        obtain ⟨a, vs, rfl, h1, h2⟩ := h.lst r.sub
        exact ⟨_, call_list_of, a, vs, rfl, .inl h1.sq, fun p hp => k.lst r h2 hp⟩
      · cases e
        obtain ⟨a, vs, rfl, h1, h2⟩ := h.tup
        exact ⟨_, call_list_of, a, vs, rfl, .inr (zXs r.sub h1), fun p hp => k.lst r h2 hp⟩

def tyName : PyData → Option String
  | .none => some "NoneType"
  | .bool _ => some "bool"
  | .int _ => some "int"
  | .str _ => some "str"
  | .list _ => some "list"
  | .tuple _ => some "tuple"
  | .dict es => if zZ5 es then some "dict" else none
theorem wQr {w : Wd} (s : yKz w.F w.H) {d : PyData} {v : V} (h : RN X.K w d v) {t : String} (ht : tyName d = some t) : TyX X.K w.H v (.type t) := by
  rcases h with h | ⟨a, o, rfl, rfl, h⟩
  · cases h with
    | non => cases ht; exact .base .non
    | bl b => cases ht; exact .base (.bl b)
    | int i => cases ht; exact .base (.int i)
    | str x => cases ht; exact .base (.str x)
    | lst hq ra =>
      cases ht
      rcases hq.mox s with (q | ⟨o, q⟩) | ⟨its, n, q, _⟩
      · exact .base (.lst q)
      · exact .base (.frz q)
      · exact .kList q rfl
    | tup hq ra =>
      cases ht
      rcases zXs s hq with (q | ⟨o, q⟩) | ⟨o, its, n, q, c, _⟩
      · exact .base (.tup q)
      · exact .fTuple q
      · exact .kTuple q c
    | dic hq ra =>
      unfold tyName at ht
      dsimp only at ht
      split at ht
      · cases ht
        exact .base (.dK (s _ _ hq xJp))
      · cases ht
    | ins _ _ _ _ => simp [tyName, zZ5, yVs] at ht
    | cls _ => simp [tyName, zZ5, yVs] at ht
    | exn0 _ _ => simp [tyName, zZ5, yVs] at ht
    | exn _ _ _ _ => simp [tyName, zZ5, yVs] at ht
    | cell _ => simp [tyName, zZ5, yVs] at ht
    | dit _ _ => simp [tyName, zZ5, yVs] at ht
  · cases o with
    | lst xs =>
      obtain ⟨vs, h1, h2⟩ := h
      cases ht
      exact .base (.lst h1)
    | dic es =>
      obtain ⟨vs, h1, h2⟩ := h
      unfold dOf tyName at ht
      dsimp only at ht
      split at ht
      · cases ht
        exact .base (.dK h1)
      · cases ht
    | ins c' fs => simp [dOf, xXq, tyName, zZ5, yVs] at ht
    | dit W es => simp [dOf, tyName, zZ5, yVs] at ht
end
end Ev

namespace Ev
open PySem PySem.Spec PyProof.Rows L2

abbrev Fn := List AV → Pg EV
def bare (w : Wd) : Wd := { F := w.F, ro := w.ro, m := ⟨[], w.m.cs⟩, sg := [], H := w.H, Z := fun a => w.H a ≠ none, T := w.T }
def wXe (K : PySem.W.Frag) (g : Fn) (B : XBt) (w0 : Wd) (args : List AV) (Q : VK) : Prop :=
  (g args w0.m).wp (fun v m' => ∀ (w' : Wd) (x : V), w'.m.sl = [] → w'.m.cs = m'.cs → w'.sg = [] → FolS w0 w' → Rep K w' → RE K w' v x → Q x w'.H) (fun x m' => ∀ w' : Wd, w'.m.sl = [] → w'.m.cs = m'.cs → w'.sg = [] → FolS w0 w' → Rep K w' → B x w')
def spG (K : PySem.W.Frag) (n : Nat) (g : Fn) : Sp := fun vs H Q E => ∃ (w0 : Wd) (args : List AV), w0.m.sl = [] ∧ w0.sg = [] ∧ w0.H = H ∧ (∀ a, H a ≠ none → w0.Z a) ∧ Rep K w0 ∧ Paired (RV K w0) args vs ∧ args.length = n ∧
  wXe K g (fun x w' => ∀ cls d, xWr K w' x cls d → E cls d w'.H) w0 args Q
structure FnG (P : Program) (w : World) (K : PySem.W.Frag) (mg : Str → Option Value) (base : Heap) (k : Nat) (f : Addr) (fd : FuncData) (ps : List Str) (sp : Sp) : Prop where
  len : ∀ vs H Q E, sp vs H Q E → vs.length = ps.length
  bnd : ∀ (A : Around) (outer : List Env) (s : Shared) (H : Hp) (args : Args) (Q : VK) (E : XK), A.guards = some [] → Room k A → Env0 P w K mg base A outer s H →
    StX.Bnd (CXk K P w) P w K mg base fd args ps A outer s H E (fun vs H2 => sp vs H2 Q E) → codeAny (model P w) A (.call (.ref f) args) (CR (CXk K P w) outer P w H s Q E) s
theorem FnG.go {P : Program} {w : World} {K : PySem.W.Frag} {mg : Str → Option Value} {base : Heap} {k : Nat} {f : Addr} {fd : FuncData} {ps : List Str} {sp : Sp} (F : FnG P w K mg base k f fd ps sp) (A : Around) (outer : List Env) (s : Shared) (H : Hp) (args : Args) (us : List Value) (vs : List V) (Q : VK) (E : XK)
    (hg : A.guards = some []) (hr : Room k A) (e0 : Env0 P w K mg base A outer s H) (hb : BindsTo s fd args (ps.zip us)) (r : Vals vs us) (h : sp vs H Q E) : codeAny (model P w) A (.call (.ref f) args) (CR (CXk K P w) outer P w H s Q E) s :=
  F.bnd A outer s H args Q E hg hr e0 fun A' Ex Q' cont => hb _ _ _ _ (cont s H vs us e0 (Un.refl ..) rfl (fun _ _ z => z) r (F.len vs H Q E h) h)
theorem FnG.up {P : Program} {w : World} {K : PySem.W.Frag} {mg : Str → Option Value} {base : Heap} {j k : Nat} {f : Addr} {fd : FuncData} {ps : List Str} {sp : Sp} (F : FnG P w K mg base j f fd ps sp) (h : j ≤ k) : FnG P w K mg base k f fd ps sp :=
  ⟨F.len, fun A outer s H args Q E hg hr => F.bnd A outer s H args Q E hg (hr.mono h)⟩

theorem yYw {α β : Type} {R : α → β → Prop} : ∀ {xs : List α} {ys : List β}, Paired R xs ys → xs.length = ys.length
  | _, _, .nil => rfl
  | _, _, .cons _ t => congrArg (· + 1) (yYw t)
theorem xGd {K : PySem.W.Frag} {n : Nat} {g : Fn} {ps : List Str} (h : n = ps.length) : ∀ vs H Q E, spG K n g vs H Q E → vs.length = ps.length := by
  rintro vs H Q E ⟨w0, args, _, _, _, _, _, hv, hn, _⟩
  rw [← yYw hv, hn, h]

theorem xY5 {K : PySem.W.Frag} {w : Wd} (r : Rep K w) : Rep K (bare w) :=
  ⟨r.sub, Nat.zero_le _, fun i v h => by simp [bare] at h, r.cs, r.ln, r.rf, r.rk, r.nd, fun i j xs ys x h => by simp [bare] at h, fun a h => h, r.oo, r.tb⟩
theorem xX6 {K : PySem.W.Frag} {w : Wd} : ∀ {vs : List AV} {xs : List V}, Paired (RV K w) vs xs → Paired (RV K (bare w)) vs xs
  | _, _, .nil => .nil
  | .d _ :: _, _, .cons h t => .cons h (xX6 t)
  | .cell _ :: _, _, .cons h t => .cons h (xX6 t)
def back (w w' : Wd) : Wd := { F := w'.F, ro := w'.ro, m := ⟨w.m.sl, w'.m.cs⟩, sg := w.sg, H := w'.H, Z := w.Z, T := w.T }
theorem xK8 {K : PySem.W.Frag} {w w' : Wd} (r : Rep K w) (f : FolS (bare w) w') (r' : Rep K w') : Rep K (back w w') ∧ FolE w (back w w') := by
  have zn : ∀ a, ¬ (bare w).Z a → w.H a = none := fun a h => Classical.byContradiction fun q => h q
  have kp : ∀ a o, w.H a = some o → a ∉ w.ro → (∀ ps, o ≠ .tbl ps) → w'.H a = some o := fun a o h n => f.frm a o h n (yHm h)
  have tT : w'.T = w.T := f.t
  have nf : ∀ a, w.H a ≠ none → w.F a = none → w'.F a = none := fun a h n => Classical.byContradiction fun q => (f.grow a q).elim (fun z => z n) fun z => z h
  have nr : ∀ a, w.H a ≠ none → a ∉ w.ro → a ∉ w'.ro := fun a h n q => (f.new a q).elim n fun z => z h
  refine ⟨⟨r'.sub, r.le, fun i v h => ?_, r'.cs, r'.ln, r'.rf, r'.rk, r'.nd, r.ow, fun a h => f.liv a (r.zl a h), r'.oo, by have q := r'.tb; unfold TB TK at q ⊢; rw [tT] at q; exact q⟩, ⟨rfl, rfl, f.ext, f.pre, kp, fun a h => (f.new a h).imp id (zn a), f.liv, fun a h => (f.grow a h).imp id fun z q => r.zl a q (zn a z), fun a h => h⟩⟩
  obtain ⟨x, h1, h2⟩ := r.sl i v h
  refine ⟨x, h1, ?_⟩
  cases v with
  | d y => exact R.mono f.ext h2
  | ob ys =>
    obtain ⟨a, e, q1, q3, q4, q5⟩ := h2
    obtain ⟨u, hu⟩ := q1.live
    exact ⟨a, e, q1.keep f.ext (fun u z => kp a u z q4 (q1.ntbl z)) (fun d z => kp d _ z (r.noOwnDict z).1 (by intro _ q; cases q)) (fun _ _ z => z), nf a (yHm hu) q3, nr a (yHm hu) q4, q5⟩
  | cell n =>
    obtain ⟨a, e, q⟩ := h2
    exact ⟨a, e, f.at q⟩
  | thk t => exact ⟨h2.1, xZu h2.2.1 f.ext f.pre, h2.2.2⟩
theorem xHq {K : PySem.W.Frag} {w w' : Wd} (r : Rep K w) (f : FolS (bare w) w') (hz : w'.m.sl = []) : ∀ {v : EV} {x : V}, RE K w' v x → RE K (back w w') v x
  | .d _, _, h => h
  | .cell _, _, h => h
  | .pk i o, _, ⟨h, _⟩ => by
    rw [hz] at h
    simp at h
  | .new o, _, ⟨a, e, h1, h3, h4, h5, _⟩ => by
    have h5 : ¬ (bare w).Z a := by
      rw [← f.z]
      exact h5
    have nn : w.H a = none := Classical.byContradiction fun q => h5 q
    refine ⟨a, e, h1.keep (Same.refl _) (fun _ z => z) (fun _ z => z) (fun d _ z => ?_), h3, h4, fun z => r.zl a z nn, fun ⟨i, ys, q1, q2⟩ => (r.ownAt (show Own w a from ⟨i, ys, q1, q2⟩)).1 nn⟩
    rw [f.z]
    exact r.zl d z

section
variable {X : Cx} {B : XBt} {e : Expr} {es : List Expr} {pos p : Pos}
def yU0 (g : Fn) (args : List AV) : Pg EV := fun m => match g args ⟨[], m.cs⟩ with
  | .ok v m' => .ok v ⟨m.sl, m'.cs⟩
  | .thr x m' => .thr x ⟨m.sl, m'.cs⟩
  | .bad => .bad
def yYz (g : Fn) (fa : Pg (List AV)) : Pg EV := .bind fa fun args => yU0 g args
theorem xY2 {g : Fn} {w : Wd} {args : List AV} {P : EV → Mem → Prop} {E : Exn → Mem → Prop} (h : (yU0 g args w.m).wp P E) : (g args (bare w).m).wp (fun v m' => P v ⟨w.m.sl, m'.cs⟩) (fun x m' => E x ⟨w.m.sl, m'.cs⟩) := by
  unfold yU0 at h
  show (g args ⟨[], w.m.cs⟩).wp _ _
  cases q : g args ⟨[], w.m.cs⟩ with
  | ok v m' =>
    rw [q] at h
    exact h
  | thr x m' =>
    rw [q] at h
    exact h
  | bad =>
    rw [q] at h
    exact h
theorem xY1 {g : Fn} {n : Nat} {w : Wd} {args : List AV} {xs : List V} {Q : VK} (r : Rep X.K w) (hn : args.length = n) (hv : Paired (RV X.K w) args xs) (h : (yU0 g args w.m).wp (fun v m' => yYt X.K w Q v m') (XW X.K B w)) :
    spG X.K n g xs w.H Q fun cls d H' => WXB X.K B cls d w.sg H' := by
  refine ⟨bare w, args, rfl, rfl, rfl, fun a h => h, xY5 r, xX6 hv, hn, ?_⟩
  refine (xY2 h).imp (fun v m' q w' x e1 e2 e3 f r' re => ?_) fun x m' q w' e1 e2 e3 f r' cls d ex => ?_
  · obtain ⟨r2, f2⟩ := xK8 r f r'
    exact q (back w w') x (by show (⟨w.m.sl, w'.m.cs⟩ : Mem) = _; rw [e2]) rfl f2 r2 (xHq r f e1 re)
  · obtain ⟨r2, f2⟩ := xK8 r f r'
    exact ⟨x, back w w', r2, rfl, rfl, ex, q (back w w') (by show (⟨w.m.sl, w'.m.cs⟩ : Mem) = _; rw [e2]) (f2.s r) r2⟩
variable {k : Nat} {f : Addr} {fd : FuncData} {ps : List Str} {ds : List Value} {x : Str}
theorem wQ9 {sg : L2.St} {H : Hp} {s s' : Shared} {pins : List (Addr × Obj)} {e : Value} (C : Ctx X B) (I : L2.Inv X pins sg H s) (h : CXk X.K X.prog X.w X.stack H s (fun cls d H' => WXB X.K B cls d sg H') e s') : X.xe e s' :=
  C.tk _ _ (XE.of_call I (fun _ _ _ q => q) h)
theorem wKq {sp : Sp} {pins : List (Addr × Obj)} {sg : L2.St} {H : Hp} {s : Shared} {Q : VK} {us : List Value} {vs : List V} (C : Ctx X B) (F : FnG X.prog X.w X.K X.mg X.base k f fd ps sp) (hr : Room k X.A) (hb : Binds X.K fd ps ds) {dvs : List V} (hd : Vals dvs ds)
    (I : L2.Inv X pins sg H s) (rv : Vals vs us) (h : sp (vs ++ dvs) H Q fun cls d H' => WXB X.K B cls d sg H') : wpAny (model X.prog X.w) X.A (call (.ref f) us) (EP X pins sg Q) X.xe s := by
  have ra : Vals (vs ++ dvs) (us ++ ds) := rv.append hd
  have ln : (us ++ ds).length = ps.length := by
    have := F.len _ _ _ _ h
    rw [← ra.length]
    exact this
  refine wpAny_call (codeAny_mono (F.go X.A X.stack s H ⟨us, []⟩ (us ++ ds) (vs ++ dvs) Q _ C.gd hr I.env0 (hb s us I.kIn ln) ra h) fun r s' hq => ?_)
  match r, hq with
  | .error _, hq => exact wQ9 C I hq
  | .ok (.ret u), hq => exact I.after hq
  | .ok .next, hq => exact (show False from hq).elim
  | .ok .brk, hq => exact (show False from hq).elim
  | .ok .cont, hq => exact (show False from hq).elim
def wQv (X : Cx) (B : XBt) (sp : Sp) (dvs : List V) (t : TA) : TE := fun sg H Q => t sg H fun vs H1 => sp (vs ++ dvs) H1 Q fun cls d H' => WXB X.K B cls d sg H'
theorem wHa {sp : Sp} {t : TA} (C : Ctx X B) (F : FnG X.prog X.w X.K X.mg X.base k f fd ps sp) (hr : Room k X.A) (hg : Gl X x) (hm : X.mg x = some (.ref f)) (hk : PySem.W.keepIn X.K (.ref f) = true) (hb : Binds X.K fd ps ds) {dvs : List V} (hd : Vals dvs ds) (ha : PA X (e :: es) t)
    (hdb : (x == ("__debug__" : Str)) = false := by decide) (he : starEach (e :: es) X.env = (false, eval e X.env) :: starEach es X.env := by rfl) (hpl : (backTo pos (starEach es X.env)).any (·.1) = false := by rfl) : PE X (.Call (.Name x p) (e :: es) [] pos) (wQv X B sp dvs t) :=
  ⟨fun pins s sg H Q I h => wpAny_Call_Name_kw (ld_glob I hg hm (PySem.W.callWith_K (h₀ := X.base) I.ok.mod.kin hk (thn (ha.run pos pins s sg H _ I h) fun us s1 ⟨vs, H1, I1, rv, q⟩ => ⟨I1.kIn, wKq C F hr hb hd I1 rv q⟩) he hpl) hdb)⟩
structure Has (X : Cx) (k : Nat) (x : Str) (ps : List Str) (g : Fn) : Prop where
  ex : ∃ (f : Addr) (fd : FuncData), FnG X.prog X.w X.K X.mg X.base k f fd ps (spG X.K ps.length g) ∧ X.mg x = some (.ref f) ∧ PySem.W.keepIn X.K (.ref f) = true ∧ Binds X.K fd ps []
def yHs (n : Nat) (fa : Pg (List AV)) : Pg (List AV) := .bind fa fun vs => if vs.length = n then .ret vs else .stuck
theorem yJu {g : Fn} {n : Nat} {fa : Pg (List AV)} (C : Ctx X B) (h : Has X k x ps g) (hn : ps.length = n) (hr : Room k X.A) (hg : Gl X x) (ha : xUd X B (e :: es) fa)
    (hdb : (x == ("__debug__" : Str)) = false := by decide) (he : starEach (e :: es) X.env = (false, eval e X.env) :: starEach es X.env := by rfl) (hpl : (backTo pos (starEach es X.env)).any (·.1) = false := by rfl) : Snd X B (.Call (.Name x p) (e :: es) [] pos) (yYz g (yHs n fa)) := by
  subst hn
  obtain ⟨f, fd, F, hm, hk, hb⟩ := h.ex
  intro w Q r hw
  refine yYq (wHa C F hr hg hm hk hb .nil xYf hdb he hpl) ?_
  have hw := wp_bind (wp_bind hw)
  refine ha w _ r (hw.imp (fun vs m' q w1 xs em e1 f1 r1 rv => ?_) fun _ _ q => q)
  subst em
  show spG X.K ps.length g (xs ++ []) w1.H Q _
  rw [List.append_nil]
  by_cases hl : vs.length = ps.length
  · rw [if_pos hl] at q
    have q2 : (yU0 g vs w1.m).wp (yYt X.K w1 Q) (XW X.K B w1) := Res.wp.imp q (fun v m' z w2 y em es f2 r2 re => z w2 y em (es.trans e1) (f1.trans f2) r2 re) fun _ _ z => z.fol (f1.s r)
    have z := xY1 r1 hl rv q2
    rw [e1] at z
    exact z
  · rw [if_neg hl] at q
    exact q.elim
end
end Ev

namespace Ev
open PySem PySem.Spec PyProof.Rows L2

def toS : AV → SV
  | .d x => .d x
  | .cell n => .cell n
def yU1 (n : Nat) (args : List AV) : List (Option SV) := args.map (fun a => some (toS a)) ++ List.replicate (n - args.length) none
def xYg : EV → EV
  | .d x => .d x
  | .new o => .new o
  | .pk _ o => .new o
  | .cell n => .cell n
def wUt : Res Fl → Res EV
  | .ok (.ret v) m => .ok (xYg v) ⟨[], m.cs⟩
  | .ok .next m => .ok (.d .none) ⟨[], m.cs⟩
  | .thr x m => .thr x ⟨[], m.cs⟩
  | _ => .bad
def yVx (n : Nat) (fb : Pg Fl) : Fn := fun args m => wUt (fb ⟨yU1 n args, m.cs⟩)
theorem xHh {r : Res Fl} {P : EV → Mem → Prop} {E : Exn → Mem → Prop} (h : (wUt r).wp P E) : r.wp (fun fl m => match fl with
    | .ret v => P (xYg v) ⟨[], m.cs⟩
    | .next => P (.d .none) ⟨[], m.cs⟩
    | _ => False) (fun x m => E x ⟨[], m.cs⟩) := by
  cases r with
  | bad => exact h
  | thr x m => exact h
  | ok fl m =>
    cases fl with
    | next => exact h
    | brk => exact h
    | cont => exact h
    | ret v => exact h
theorem xUi {K : PySem.W.Frag} {w : Wd} : ∀ {args : List AV} {vs : List V}, Paired (RV K w) args vs → ∀ (i : Nat) (v : SV), (args.map fun a => some (toS a))[i]? = some (some v) → ∃ x, (vs.map some)[i]? = some (some x) ∧ RS K w v x ∧ ∀ xs, v ≠ .ob xs
  | _, _, .nil, _, _, h => by simp at h
  | a :: _, x :: _, .cons h t, 0, v, e => by
    simp at e
    subst e
    refine ⟨x, by simp, ?_⟩
    cases a with
    | d y => exact ⟨h, fun _ z => by cases z⟩
    | cell n => exact ⟨h, fun _ z => by cases z⟩
  | _ :: _, _ :: _, .cons _ t, i + 1, v, e => by
    obtain ⟨x, h1, h2⟩ := xUi t i v (by simpa using e)
    exact ⟨x, by simpa using h1, h2⟩
theorem xJ2 {α : Type} {l : List (Option α)} {k i : Nat} {v : α} (h : (l ++ List.replicate k none)[i]? = some (some v)) : l[i]? = some (some v) := by
  by_cases q : i < l.length
  · rw [List.getElem?_append_left q] at h
    exact h
  · rw [List.getElem?_append_right (by omega), List.getElem?_replicate] at h
    split at h <;> cases h
def entry (N : List Str) (w0 : Wd) (args : List AV) (vs : List V) : Wd := { F := w0.F, ro := w0.ro, m := ⟨yU1 N.length args, w0.m.cs⟩, sg := start N vs, H := w0.H, Z := w0.Z, T := w0.T }
theorem xK2 {K : PySem.W.Frag} {N : List Str} {w0 : Wd} {args : List AV} {vs : List V} (r : Rep K w0) (hv : Paired (RV K w0) args vs) : Rep K (entry N w0 args vs) := by
  have ln := yYw hv
  have get : ∀ (i : Nat) (v : SV), (yU1 N.length args)[i]? = some (some v) → ∃ x, (start N vs)[i]? = some (some x) ∧ RS K w0 v x ∧ ∀ xs, v ≠ .ob xs := fun i v h => by
    obtain ⟨x, h1, h2⟩ := xUi hv i v (xJ2 h)
    refine ⟨x, ?_, h2⟩
    show (vs.map some ++ List.replicate (N.length - vs.length) none)[i]? = some (some x)
    rw [List.getElem?_append_left (List.getElem?_eq_some_iff.mp h1).1]
    exact h1
  refine ⟨r.sub, ?_, fun i v h => ?_, r.cs, r.ln, r.rf, r.rk, r.nd, fun i j xs ys x h1 h2 _ _ => ?_, r.zl, r.oo, r.tb⟩
  · show (yU1 N.length args).length ≤ (start N vs).length
    unfold yU1 L2.start
    simp only [List.length_append, List.length_map, List.length_replicate, ln]
    exact Nat.le_refl _
  · obtain ⟨x, h1, h2, h3⟩ := get i v h
    refine ⟨x, h1, ?_⟩
    cases v with
    | d y => exact h2
    | ob xs => exact absurd rfl (h3 xs)
    | cell n => exact h2
    | thk t => exact h2
  · obtain ⟨x, _, _, h3⟩ := get i _ h1
    exact absurd rfl (h3 xs)
theorem wZb {K : PySem.W.Frag} {w : Wd} (r : Rep K w) {v : EV} {x : V} (h : RE K w v x) : RE K { w with m := ⟨[], w.m.cs⟩, sg := [] } (xYg v) x := by
  cases v with
  | d y => exact h
  | cell n => exact h
  | new o =>
    obtain ⟨a, e, h1, h3, h4, h5, _⟩ := h
    exact ⟨a, e, h1, h3, h4, h5, fun ⟨i, ys, q, _⟩ => by simp at q⟩
  | pk i o =>
    obtain ⟨h1, h2⟩ := h
    obtain ⟨y, h3, a, e, q1, q3, q4, q5⟩ := r.sl i _ h1
    rw [h2] at h3
    cases h3
    exact ⟨a, e, q1, q3, q4, q5, fun ⟨i, ys, q, _⟩ => by simp at q⟩
theorem xXx {K : PySem.W.Frag} {w : Wd} (r : Rep K w) : Rep K { w with m := ⟨[], w.m.cs⟩, sg := [] } := ⟨r.sub, Nat.zero_le _, fun i v h => by simp at h, r.cs, r.ln, r.rf, r.rk, r.nd, fun i j xs ys x h => by simp at h, r.zl, r.oo, r.tb⟩
section
variable {P : Program} {w : World} {K : PySem.W.Frag} {mg : Str → Option Value} {base : Heap}
theorem wWa {x qual : Str} {st : Stmt} {f : Addr} {fd : FuncData} {N ps : List Str} {k : Nat} {fb : Pg Fl} (F : Fun K x qual st f fd) (S : FnScope N ps (defScope st)) (sm : SM base)
    (hbody : ∀ (cdv : Value) (A : Around) (outer : List Env) (s : Shared) (H : Hp) (E : XK) (B : XBt), Ctx (cxOf (CXk K P w) P w K mg base N qual (defScope st) f cdv A outer s H E) B → PassesOwn (model P w) (cxOf (CXk K P w) P w K mg base N qual (defScope st) f cdv A outer s H E).A (cxOf (CXk K P w) P w K mg base N qual (defScope st) f cdv A outer s H E).env (cxOf (CXk K P w) P w K mg base N qual (defScope st) f cdv A outer s H E).xe →
      Room k (cxOf (CXk K P w) P w K mg base N qual (defScope st) f cdv A outer s H E).A →
      xUc (cxOf (CXk K P w) P w K mg base N qual (defScope st) f cdv A outer s H E) B (defBody st) fb) : FnG P w K mg base (k + 1) f fd ps (spG K ps.length (yVx N.length fb)) := by
  obtain ⟨oc, od, kV, doc, pm, an, cdv, ct, osl, rfl, lk, hcd⟩ := F.ex
  refine ⟨xGd rfl, fun A outer s H args Q E hg hr e0 hb => ?_⟩
  refine StX.run_bnd (k := k) lk hcd S hr e0 hb fun s2 H2 vs hsp rm => ?_
  obtain ⟨w0, as, z1, z2, z3, zz, r0, rv, hn, hc⟩ := hsp
  subst z3
  let B : XBt := fun x w' => ∀ cls d, xWr K w' x cls d → E cls d w'.H
  have C : Ctx (cxOf (CXk K P w) P w K mg base N qual (defScope st) f cdv A outer s2 w0.H E) B := ⟨rfl, hg, rm.mono (Nat.zero_le _), S.nd, sm, (takes_of rfl rfl rfl rfl).imp fun cls d sg H ⟨x, w', _, _, eH, ex, b⟩ => eH ▸ b cls d ex⟩
  have body := hbody cdv A outer s2 w0.H E B C (passes_of rfl) rm
  have re := xK2 (N := N) r0 rv
  have hw : (fb (entry N w0 as vs).m).wp (yG3 K (entry N w0 as vs) { nx := fun _ H' => Q .non H', rt := Q }) (XW K B (entry N w0 as vs)) := by
    refine (xHh (r := fb ⟨yU1 N.length as, w0.m.cs⟩) hc).imp (fun fl m' q w' em fol r' => ?_) fun x m' q w' em fol r' => ?_
    · subst em
      have fo : FolS w0 { w' with m := ⟨[], w'.m.cs⟩, sg := [] } := ⟨fol.z, fol.t, fol.ext, fol.pre, fol.frm, fol.new, fol.liv, fol.grow⟩
      cases fl with
      | next => exact q { w' with m := ⟨[], w'.m.cs⟩, sg := [] } .non rfl rfl rfl fo (xXx r') .non
      | brk => exact q.elim
      | cont => exact q.elim
      | ret v => exact fun x re => q { w' with m := ⟨[], w'.m.cs⟩, sg := [] } x rfl rfl rfl fo (xXx r') (wZb r' re)
    · subst em
      exact fun cls d ex => q { w' with m := ⟨[], w'.m.cs⟩, sg := [] } rfl rfl rfl ⟨fol.z, fol.t, fol.ext, fol.pre, fol.frm, fol.new, fol.liv, fol.grow⟩ (xXx r') cls d ex
  exact ⟨_, wQ8, body (entry N w0 as vs) _ re hw⟩
end
end Ev

namespace Ev
open PySem PySem.Spec PyProof.Rows L2

def setM (m : Mem) (i : Nat) (v : SV) : Mem := { m with sl := m.sl.set i (some v) }
def xQ4 (w : Wd) (i : Nat) (v : SV) (x : V) : Wd := { w with m := setM w.m i v, sg := w.sg.set i (some x) }
theorem xJm {w : Wd} {i j : Nat} {v u : SV} {x : V} (h : (xQ4 w i v x).m.sl[j]? = some (some u)) : (j = i ∧ u = v ∧ i < w.m.sl.length) ∨ (j ≠ i ∧ w.m.sl[j]? = some (some u)) := by
  rcases xQ3 (show (w.m.sl.set i (some v))[j]? = some (some u) from h) with ⟨q1, q2⟩ | q
  · refine .inl ⟨q1, Option.some.inj q2, ?_⟩
    have := (List.getElem?_eq_some_iff.mp h).1
    rw [q1] at this
    simpa [xQ4, setM] using this
  · exact .inr q
theorem xQv {K : PySem.W.Frag} {w : Wd} (r : Rep K w) {i : Nat} {v : SV} {x : V} (h : RS K w v x) (ho : ∀ xs a, v = .ob xs → x = .ref a → ¬ Own w a) : Rep K (xQ4 w i v x) ∧ FolS w (xQ4 w i v x) := by
  have sgi : i < w.m.sl.length → (w.sg.set i (some x))[i]? = some (some x) := fun q => List.getElem?_set_self (Nat.lt_of_lt_of_le q r.le)
  have sgj : ∀ j, j ≠ i → (w.sg.set i (some x))[j]? = w.sg[j]? := fun j q => List.getElem?_set_ne (Ne.symm q)
  refine ⟨⟨r.sub, ?_, fun j u hj => ?_, r.cs, r.ln, r.rf, r.rk, r.nd, fun j k xs ys y hj hk h1 h2 => ?_, r.zl, r.oo, r.tb⟩, ⟨rfl, rfl, Same.refl _, ⟨[], (List.append_nil _).symm⟩, fun _ _ h _ _ _ => h, fun _ h => .inl h, fun _ h => h, fun _ h => .inl h⟩⟩
  · show (w.m.sl.set i _).length ≤ (w.sg.set i _).length
    rw [List.length_set, List.length_set]
    exact r.le
  · rcases xJm hj with ⟨q1, q2, q3⟩ | ⟨q1, q2⟩
    · subst q1 q2
      exact ⟨x, sgi q3, h⟩
    · obtain ⟨y, h1, h2⟩ := r.sl j u q2
      exact ⟨y, (sgj j q1).trans h1, h2⟩
  · have atJ : ∀ {j : Nat} {xs : Ob}, (xQ4 w i v x).m.sl[j]? = some (some (.ob xs)) → (xQ4 w i v x).sg[j]? = some (some y) → (j = i ∧ v = .ob xs ∧ y = x) ∨ (j ≠ i ∧ w.m.sl[j]? = some (some (.ob xs)) ∧ w.sg[j]? = some (some y)) := fun {j xs} hj hy => by
      have hy : (w.sg.set i (some x))[j]? = some (some y) := hy
      rcases xJm hj with ⟨q1, q2, q3⟩ | ⟨q1, q2⟩
      · subst q1
        rw [sgi q3] at hy
        exact .inl ⟨rfl, q2.symm, (Option.some.inj (Option.some.inj hy)).symm⟩
      · rw [sgj j q1] at hy
        exact .inr ⟨q1, q2, hy⟩
    have clash : ∀ {j : Nat} {xs ys : Ob}, v = .ob ys → y = x → w.m.sl[j]? = some (some (.ob xs)) → w.sg[j]? = some (some y) → False := fun {j xs ys} e1 e2 e3 e4 => by
      subst e1 e2
      obtain ⟨a, e, _⟩ := h
      subst e
      exact ho _ a rfl rfl ⟨j, xs, e3, e4⟩
    rcases atJ hj h1 with ⟨a1, a2, a3⟩ | ⟨a1, a2, a3⟩
    · rcases atJ hk h2 with ⟨b1, b2, b3⟩ | ⟨b1, b2, b3⟩
      · exact a1.trans b1.symm
      · exact (clash a2 a3 b2 b3).elim
    · rcases atJ hk h2 with ⟨b1, b2, b3⟩ | ⟨b1, b2, b3⟩
      · exact (clash b2 b3 a2 a3).elim
      · exact r.ow j k xs ys y a2 b2 a3 b3
theorem xGi {K : PySem.W.Frag} {w : Wd} (r : Rep K w) {i : Nat} {v : SV} {x : V} (h : RS K w v x) (ho : ∀ xs, v ≠ .ob xs) : Rep K (xQ4 w i v x) ∧ FolE w (xQ4 w i v x) := by
  refine ⟨(xQv r h fun xs a e _ => absurd e (ho xs)).1, ⟨rfl, rfl, Same.refl _, ⟨[], (List.append_nil _).symm⟩, fun _ _ h _ _ => h, fun _ h => .inl h, fun _ h => h, fun _ h => .inl h, fun a ⟨j, xs, h1, h2⟩ => ?_⟩⟩
  rcases xJm h1 with ⟨_, q, _⟩ | ⟨q1, q2⟩
  · exact absurd q.symm (ho xs)
  · have h2 : (w.sg.set i (some x))[j]? = some (some (.ref a)) := h2
    rw [List.getElem?_set_ne (Ne.symm q1)] at h2
    exact ⟨j, xs, q2, h2⟩
def xHt (i : Nat) (v : EV) : Pg Unit := match v with
  | .new o => fun m => .ok () (setM m i (.ob o))
  | v => .bind (toA v) fun a => fun m => .ok () (setM m i (toS a))
theorem wXi {K : PySem.W.Frag} {B : XBt} {w : Wd} (r : Rep K w) {v : EV} {x : V} (h : RE K w v x) {i : Nat} {P : Unit → Mem → Prop} {E : Exn → Mem → Prop} (hw : (xHt i v w.m).wp P E) : ∃ w' : Wd, w'.sg = w.sg.set i (some x) ∧ w'.H = w.H ∧ FolS w w' ∧ Rep K w' ∧ P () w'.m := by
  have gen : ∀ {P : Unit → Mem → Prop}, ((Pg.bind (toA v) fun a => fun m => Res.ok () (setM m i (toS a))) w.m).wp P E → ∃ w' : Wd, w'.sg = w.sg.set i (some x) ∧ w'.H = w.H ∧ FolS w w' ∧ Rep K w' ∧ P () w'.m := fun {P} hw => by
    obtain ⟨a, w1, ea, e1, e2, f1, r1, rv⟩ := yG5 r h
    have hw := wp_bind hw
    rw [ea] at hw
    obtain ⟨r2, f2⟩ := xQv (i := i) (v := toS a) (x := x) r1 (by cases a <;> exact rv) (fun xs b e _ => by cases a <;> cases e)
    exact ⟨xQ4 w1 i (toS a) x, by show w1.sg.set i _ = _; rw [e1], e2, (f1.s r).trans f2, r2, hw⟩
  cases v with
  | new o =>
    obtain ⟨a, e, h1, h3, h4, h5, h6⟩ := h
    subst e
    obtain ⟨r2, f2⟩ := xQv (i := i) (v := .ob o) (x := .ref a) r ⟨a, rfl, h1, h3, h4, h5⟩ (fun ys b _ e => by cases e; exact h6)
    exact ⟨xQ4 w i (.ob o) (.ref a), rfl, rfl, f2, r2, hw⟩
  | d y => exact gen hw
  | pk j xs => exact gen hw
  | cell n => exact gen hw

section
variable {X : Cx} {B : XBt} {e c : Expr} {es : List Expr} {pos p : Pos} {f : Pg EV} {st : Stmt} {rest sa sb : List Stmt} {fs fb fa : Pg Fl} {tc : Pg Bool}
theorem post_of {K : PySem.W.Frag} {w w1 : Wd} {D : Ends} {fl : Fl} {m : Mem} (q : yG3 K w D fl m) (f : FolS w w1) : yG3 K w1 D fl m := fun w' em g r => q w' em (f.trans g) r
theorem wQn {K : PySem.W.Frag} {B : XBt} {w w1 : Wd} {D : Ends} {r : Res Fl} (q : r.wp (yG3 K w D) (XW K B w)) (f : FolS w w1) : r.wp (yG3 K w1 D) (XW K B w1) := q.imp (fun _ _ z => post_of z f) fun _ _ z => z.fol f

def zJz (f g : Pg Fl) : Pg Fl := .bind f fun fl => match fl with
  | .next => g
  | fl => .ret fl
theorem zJ0 : xUc X B [] (.ret .next) := fun w D r h => xU7 pss_nil (h w rfl (FolS.refl w) r)
theorem zZk (h1 : xWp X B st fs) (h2 : xUc X B rest fb) : xUc X B (st :: rest) (zJz fs fb) := by
  intro w D r hw
  refine xU7 (pss_cons wY7 wQ8) ?_
  refine h1 w { D with nx := WB X rest D } r ((wp_bind hw).imp (fun fl m' q w1 em f1 r1 => ?_) fun _ _ q => q)
  subst em
  cases fl with
  | next => exact h2 w1 D r1 (wQn q f1)
  | brk => exact q w1 rfl f1 r1
  | cont => exact q w1 rfl f1 r1
  | ret v => exact q w1 rfl f1 r1
theorem zZv (h1 : xWp X B st fs) : xUc X B [st] fs := fun w D r hw => xU7 (pss_one wY7) (h1 w D r hw)

def evSet (i : Nat) (f : Pg EV) : Pg Fl := .bind f fun v => .bind (xHt i v) fun _ => .ret .next
theorem zU6 {x : Str} {pos' : Pos} (i : Nat) (C : Ctx X B) (hi : X.N[i]? = some x) (hx : Loc X.env.scope x) (he : Snd X B e f) (hs : swapsWith e (some (.Name x pos')) pos.line X.env = pure false := by rfl)
    (hf : X.fn x = true ∨ X.env.scope.names.lookup x = some .local := by first | exact .inl rfl | exact .inr rfl | assumption) : xWp X B (.Assign [.Name x pos'] e pos) (evSet i f) := by
  intro w D r hw
  refine xZs (ps_set C.nd hi hx yG1 hs hf) ?_
  refine zZx he r hw fun v w1 y e1 f1 r1 re h1 => ?_
  obtain ⟨w2, s2, h2, f2, r2, q⟩ := wXi (B := B) r1 re (wp_bind h1)
  have q := q w2 rfl ((f1.s r).trans f2) r2
  rw [s2, h2, e1] at q
  exact q
def yJt (f : Pg EV) : Pg Fl := .bind f fun v => .ret (.ret v)
theorem zXc (he : Snd X B e f) : xWp X B (.Return (some e) pos) (yJt f) := by
  intro w D r hw
  refine xZs (ps_ret yG1) ?_
  refine zZx he r hw fun v w1 y e1 f1 r1 re h1 => ?_
  exact h1 w1 rfl (f1.s r) r1 y re
def yU3 (t : Pg Bool) (a b : Pg Fl) : Pg Fl := .bind t fun k => if k then a else b
theorem yK3 (hc : xWg X B c tc) (ha : xUc X B sa fa) (hb : xUc X B sb fb) : xWp X B (.If c sa sb pos) (yU3 tc fa fb) := by
  intro w D r hw
  refine xZs (ps_if xGp wQ8 wQ8) ?_
  refine yG6 hc r hw fun k w1 e1 f1 r1 q => ?_
  have fo := f1.s r
  rw [← e1]
  cases k with
  | true => exact iteT (ha w1 D r1 (q.imp (fun _ _ z => post_of z fo) fun _ _ z => z))
  | false => exact iteF (hb w1 D r1 (q.imp (fun _ _ z => post_of z fo) fun _ _ z => z))
theorem xKu {K : PySem.W.Frag} {w : Wd} (r : Rep K w) {i : Nat} {o o' : Ob} {a : Addr} {u : HO} (h1 : w.m.sl[i]? = some (some (.ob o))) (h2 : w.sg[i]? = some (some (.ref a))) (h4 : OH K w.F (upd w.H a u) w.Z a o') (hni : (∀ c fs, o ≠ .ins c fs) ∨ (∀ C d vs, w.H a = some (.ins C d vs) → ∃ C' vs', u = .ins C' d vs') := by exact .inl (by intro _ _ z; cases z)) :
    Rep K { w with m := setM w.m i (.ob o'), H := upd w.H a u } ∧ FolS w { w with m := setM w.m i (.ob o'), H := upd w.H a u } := by
  have oa : Own w a := ⟨i, o, h1, h2⟩
  obtain ⟨q0, q1, q2, q3⟩ := r.ownAt oa
  have oth : ∀ b o, b ≠ a → w.H b = some o → upd w.H a u b = some o := fun b o n e => by
    rw [upd_ne n]
    exact e
  have nod : ∀ {b d : Addr}, w.H d = some (.own b) → d ≠ a := fun {b d} e z => (r.noOwnDict e).2 (z ▸ oa)
  have liv : ∀ b, w.H b ≠ none → upd w.H a u b ≠ none := fun b h => by
    by_cases e : b = a
    · rw [e, upd_same]
      simp
    · rw [upd_ne e]
      exact h
  have tb' : (TK K w).P (upd w.H a u) ∧ (∀ b ps, w.F b ≠ some (.tbl ps)) ∧ ∀ b ps, upd w.H a u b = some (.tbl ps) → ∃ q, (b, q) ∈ xVk K := by
    obtain ⟨x, hx, a', ea', hO, _⟩ := r.sl i _ h1
    rw [h2] at hx
    cases hx
    cases ea'
    exact ⟨(TK _ w).us r.tb.1 hO.soft, r.tb.2.1, xQ1 r.tb.2.2 (h4.ntbl upd_same)⟩
  have sl' : ∀ (j : Nat) (v : SV), (setM w.m i (.ob o')).sl[j]? = some (some v) → (j = i ∧ v = .ob o') ∨ (j ≠ i ∧ w.m.sl[j]? = some (some v)) := fun j v h => by
    rcases xQ3 (show (w.m.sl.set i (some (.ob o')))[j]? = some (some v) from h) with ⟨q1, q2⟩ | q
    · exact .inl ⟨q1, Option.some.inj q2⟩
    · exact .inr q
  have ownI : ∀ (j : Nat) (zs : Ob), (setM w.m i (.ob o')).sl[j]? = some (some (.ob zs)) → ∃ us, w.m.sl[j]? = some (some (.ob us)) := fun j zs h => by
    rcases sl' j _ h with ⟨e, _⟩ | ⟨_, e⟩
    · subst e
      exact ⟨o, h1⟩
    · exact ⟨zs, e⟩
  refine ⟨⟨fun b o e hn => ?_, ?_, fun j v h => ?_, fun n zs h => ?_, r.ln, r.rf, r.rk, r.nd, fun j k us zs x p1 p2 p3 p4 => ?_, fun b h => liv b (r.zl b h), fun d b h => ?_, tb'⟩, ⟨rfl, rfl, Same.refl _, ⟨[], (List.append_nil _).symm⟩, fun b o e _ z _ => oth b o (fun q => q3 (q ▸ z)) e, fun _ h => .inl h, liv, fun _ h => .inl h⟩⟩
  · have n : b ≠ a := fun z => by
      have e : w.F b = some o := e
      rw [z, q1] at e
      cases e
    exact oth b o n (r.sub b o e hn)
  · show (w.m.sl.set i _).length ≤ _
    rw [List.length_set]
    exact r.le
  · rcases sl' j v h with ⟨e1, e2⟩ | ⟨e1, e2⟩
    · subst e1 e2
      exact ⟨.ref a, h2, a, rfl, h4, q1, q2, q3⟩
    · obtain ⟨x, p1, p2⟩ := r.sl j v e2
      refine ⟨x, p1, ?_⟩
      cases v with
      | d y => exact p2
      | cell n => exact p2
      | thk t => exact p2
      | ob zs =>
        obtain ⟨b, e, k1, k2⟩ := p2
        have nb : b ≠ a := fun z => e1 (r.ow j i _ _ _ e2 h1 p1 (by rw [e, z]; exact h2))
        exact ⟨b, e, k1.keep (Same.refl _) (fun u => oth b u nb) (fun d z => oth d _ (nod z) z) (fun _ _ z => z), k2⟩
  · obtain ⟨b, k1, k2⟩ := r.cs n zs h
    have nb : b ≠ a := fun z => q2 (z ▸ List.mem_of_getElem? k1)
    exact ⟨b, k1, k2.keep (Same.refl _) (fun u => oth b u nb) (fun d z => oth d _ (nod z) z) (fun _ _ z => z)⟩
  · obtain ⟨us', p1'⟩ := ownI j us p1
    obtain ⟨zs', p2'⟩ := ownI k zs p2
    exact r.ow j k us' zs' x p1' p2' p3 p4
  · have h : upd w.H a u d = some (.own b) := h
    by_cases q : d = a
    · rw [q] at h
      exact absurd h h4.noOwn
    · rw [upd_ne q] at h
      obtain ⟨C, vs, e⟩ := r.oo d b h
      by_cases z : b = a
      · subst z
        rcases hni with hni | hni
        · obtain ⟨x, hx, a', ea', hO, _⟩ := r.sl i _ h1
          rw [h2] at hx
          cases hx
          cases ea'
          cases o with
          | lst xs =>
            obtain ⟨ws, k1, _⟩ := hO
            rw [k1] at e
            cases e
          | dic es =>
            obtain ⟨ws, k1, _⟩ := hO
            rw [k1] at e
            cases e
          | ins c fs => exact absurd rfl (hni c fs)
          | dit W es =>
            obtain ⟨ws, k1, _⟩ := hO
            rw [k1] at e
            cases e
        · obtain ⟨C', vs', eu⟩ := hni C d vs e
          exact ⟨C', vs', by rw [eu]; exact upd_same⟩
      · exact ⟨C, vs, oth b _ z e⟩
def xHu (i : Nat) (d : PyData) : Pg Fl := fun m => match m.sl[i]? with
  | some (some (.ob (.lst xs))) => if xs.length < 16777216 then .ok .next (setM m i (.own (xs ++ [d]))) else .bad
  | _ => .bad
def xJ9 (i : Nat) : Pg Unit := fun m => match m.sl[i]? with
  | some (some (.ob (.lst _))) => .ok () m
  | _ => .bad
theorem xYo {i : Nat} {m : Mem} {P : Unit → Mem → Prop} {E : Exn → Mem → Prop} (h : (xJ9 i m).wp P E) : ∃ xs, m.sl[i]? = some (some (.own xs)) ∧ P () m := by
  unfold xJ9 at h
  split at h
  · rename_i xs e
    exact ⟨xs, e, h⟩
  · exact h.elim
def xYy (i : Nat) (f : Pg EV) : Pg Fl := .bind (xJ9 i) fun _ => .bind f fun v => .bind (toA v) fun a => .bind (yHc a) fun d => xHu i d
theorem xY6 {w : Wd} {i : Nat} {d : PyData} {P : Fl → Mem → Prop} {E : Exn → Mem → Prop} (h : (xHu i d w.m).wp P E) : ∃ xs, w.m.sl[i]? = some (some (.own xs)) ∧ xs.length < 16777216 ∧ P .next (setM w.m i (.own (xs ++ [d]))) := by
  unfold xHu at h
  split at h
  · rename_i xs e
    split at h
    · rename_i hl
      exact ⟨xs, e, hl, h⟩
    · exact h.elim
  · exact h.elim
theorem yHb {a : AV} {m : Mem} {P : PyData → Mem → Prop} {E : Exn → Mem → Prop} (h : (yHc a m).wp P E) : ∃ d, a = .d d ∧ P d m := by
  cases a with
  | d x => exact ⟨x, rfl, h⟩
  | cell n => exact h.elim
theorem xGh {x : Str} {p1 p2 p3 : Pos} (i : Nat) (hi : X.N[i]? = some x) (hv : Vis X.env.scope x) (he : Snd X B e f)
    (hd : (x == ("__debug__" : Str)) = false := by decide) (hcd : (x == ("__classdict__" : Str)) = false := by decide)
    (hbase : attributeBase (.Name x p1) "append" X.env (eval (.Name x p1) X.env) = eval (.Name x p1) X.env := by rfl)
    (hfew : ((backTo p3 (starEach [e] X.env)).all (fun x => !x.1) && (backToKw p3 (keywordEach [] X.env)).all (fun x => x.1.isSome) && decide ([e].length + ([] : List Keyword).length + (if ([] : List Keyword).isEmpty then 0 else 1) < 30)) = true := by rfl)
    (hline : (p2.endLine == p3.line) = true := by rfl) (hst : starEach [e] X.env = (false, eval e X.env) :: starEach [] X.env := by rfl) :
    xWp X B (.Expr (.Call (.Attribute (.Name x p1) "append" p2) [e] [] p3) pos) (xYy i f) := by
  intro w D r hw
  refine xZs (ps_expr (pe_bm PySem.F.plainAttrs_list PySem.F.slot_list_append PySem.F.type_list_append mt_append (pe_var hi hv hd hcd) (pa_cons yG1 pa_nil hst) rfl hfew hline hst rfl) rfl) ?_
  obtain ⟨us, o1, hw⟩ := xYo (wp_bind hw)
  obtain ⟨u, hu, b0, e0, ⟨vs0, k0, _⟩, _⟩ := r.sl i _ o1
  refine ⟨u, hu, ?_, ?_⟩
  · subst e0
    exact .inl ⟨rfl, vs0, .inl (.inl k0)⟩
  refine zZx he r hw fun v w1 y e1 f1 r1 re h1 => ?_
  obtain ⟨a, w2, ea, e2, e3, f2, r2, rv⟩ := yG5 r1 re
  have h2 := wp_bind h1
  rw [ea] at h2
  obtain ⟨d, rfl, h3⟩ := yHb (wp_bind (show (Pg.bind (yHc a) (fun d => xHu i d) w2.m).wp _ _ from h2))
  obtain ⟨xs, g1, g2, q⟩ := xY6 h3
  have s2 : w2.sg = w.sg := e2.trans e1
  obtain ⟨z, g3, b, g4, ⟨vs, g5, g6⟩, _⟩ := r2.sl i _ g1
  rw [s2, hu] at g3
  cases g3
  subst g4
  obtain ⟨r3, f3⟩ := xKu (o' := .lst (xs ++ [d])) (u := .lst (vs ++ [y])) r2 g1 (by rw [s2]; exact hu) ⟨_, upd_same, g6.app (.one rv)⟩
  rw [← e3]
  refine ⟨b, vs, y, rfl, rfl, g5, by rw [← g6.len, sizeLine_eq]; exact g2, ?_⟩
  have q := q _ rfl ((f1.s r).trans ((f2.s r1).trans f3)) r3
  rw [← s2]
  exact q
end
end Ev

namespace Ev
open PySem PySem.Spec PyProof.Rows L2

def WG (X : Cx) (tg : Expr) : TG := fun v sg H Q => Cl (∀ (pins : List (Addr × Obj)) (s : Shared) (u : Value), L2.Inv X pins sg H s → RelV v u → wpAny (model X.prog X.w) X.A (assign tg X.env u) (fun _ s' => ∃ sg' H', L2.Inv X pins sg' H' s' ∧ Q sg' H') X.xe s)
theorem wUa {X : Cx} {tg : Expr} : PG X tg (WG X tg) := ⟨fun pins s _ _ _ u _ I r h => h.go pins s u I r⟩
theorem xU6 {X : Cx} {tg : Expr} {t : TG} (h : PG X tg t) {v : V} {sg : L2.St} {H : Hp} {Q : L2.St → Hp → Prop} (q : t v sg H Q) : WG X tg v sg H Q := ⟨fun pins s u I r => h.run pins s sg H v u Q I r q⟩
def WGs (X : Cx) (ts : List Expr) : TGs := fun vs sg H Q => Cl (∀ (pins : List (Addr × Obj)) (s : Shared) (us : List Value), L2.Inv X pins sg H s → Vals vs us → wpAny (model X.prog X.w) X.A (assignInOrder ((assignEach ts X.env).map (·.2)) us) (fun _ s' => ∃ sg' H', L2.Inv X pins sg' H' s' ∧ Q sg' H') X.xe s)
theorem xGr {X : Cx} {ts : List Expr} : PGs X ts (WGs X ts) := ⟨fun pins s _ _ _ us _ I r h => h.go pins s us I r⟩
theorem xUg {X : Cx} {ts : List Expr} {t : TGs} (h : PGs X ts t) {vs : List V} {sg : L2.St} {H : Hp} {Q : L2.St → Hp → Prop} (q : t vs sg H Q) : WGs X ts vs sg H Q := ⟨fun pins s us I r => h.run pins s sg H vs us Q I r q⟩
def SameBut (is : List Nat) (a b : L2.St) : Prop := b.length = a.length ∧ ∀ j, j ∉ is → b[j]? = a[j]?
theorem SameBut.refl (is : List Nat) (a : L2.St) : SameBut is a a := ⟨rfl, fun _ _ => rfl⟩
theorem SameBut.trans {is : List Nat} {a b c : L2.St} (h : SameBut is a b) (g : SameBut is b c) : SameBut is a c := ⟨g.1.trans h.1, fun j n => (g.2 j n).trans (h.2 j n)⟩
theorem SameBut.mono {is js : List Nat} {a b : L2.St} (h : SameBut is a b) (s : ∀ i, i ∈ is → i ∈ js) : SameBut js a b := ⟨h.1, fun j n => h.2 j fun q => n (s j q)⟩
theorem xXw {is : List Nat} {i : Nat} (h : i ∈ is) (a : L2.St) (x : Option V) : SameBut is a (a.set i x) := ⟨List.length_set, fun j n => List.getElem?_set_ne fun (e : i = j) => n (e ▸ h)⟩
def xHx (X : Cx) (is : List Nat) (tg : Expr) (g : PyData → Pg Unit) : Prop := ∀ (w : Wd) (d : PyData) (x : V) (Q : L2.St → Hp → Prop), Rep X.K w → R X.K w.F d x →
  (g d w.m).wp (fun _ m' => ∀ w' : Wd, w'.m = m' → w'.H = w.H → SameBut is w.sg w'.sg → FolE w w' → Rep X.K w' → Q w'.sg w'.H) (fun _ _ => False) → WG X tg x w.sg w.H Q
def xUb (X : Cx) (is : List Nat) (tgs : List Expr) (g : List PyData → Pg Unit) : Prop := ∀ (w : Wd) (ds : List PyData) (xs : List V) (Q : L2.St → Hp → Prop), Rep X.K w → RA X.K w.F ds xs →
  (g ds w.m).wp (fun _ m' => ∀ w' : Wd, w'.m = m' → w'.H = w.H → SameBut is w.sg w'.sg → FolE w w' → Rep X.K w' → Q w'.sg w'.H) (fun _ _ => False) → WGs X tgs xs w.sg w.H Q
def yHu (i : Nat) (d : PyData) : Pg Unit := fun m => .ok () (setM m i (.d d))
def xW1 : List PyData → Pg Unit
  | [] => .ret ()
  | _ => .stuck
def xZv (g : PyData → Pg Unit) (h : List PyData → Pg Unit) : List PyData → Pg Unit
  | [] => .stuck
  | d :: ds => .bind (g d) fun _ => h ds
def xQ0 (n : Nat) (g : List PyData → Pg Unit) : PyData → Pg Unit
  | .tuple ds => if ds.length = n then g ds else .stuck
  | .list ds => if ds.length = n then g ds else .stuck
  | _ => .stuck
section
variable {X : Cx} {B : XBt} {is : List Nat} {pos : Pos} {tg : Expr} {tgs : List Expr}
theorem yGa {x : Str} (i : Nat) (C : Ctx X B) (hi : X.N[i]? = some x) (hx : Loc X.env.scope x) (hm : i ∈ is) (hf : X.fn x = true ∨ X.env.scope.names.lookup x = some .local := by first | exact .inl rfl | exact .inr rfl | assumption) : xHx X is (.Name x pos) (yHu i) := by
  intro w d x Q r h q
  obtain ⟨r2, f2⟩ := xGi (i := i) (v := .d d) (x := x) r h fun xs e => by cases e
  exact xU6 (pg_name C.nd hi hx hf) (q (xQ4 w i (.d d) x) rfl rfl (xXw hm _ _) f2 r2)
theorem xV4 : xUb X is [] xW1 := by
  intro w ds xs Q r h q
  cases h with
  | nil => exact xUg pgs_nil ⟨rfl, q w rfl rfl (SameBut.refl _ _) (FolE.refl w) r⟩
  | cons _ _ => exact q.elim
theorem xQt {g : PyData → Pg Unit} {h : List PyData → Pg Unit} (h1 : xHx X is tg g) (h2 : xUb X is tgs h) (hs : (assignEach (tg :: tgs) X.env).map (·.2) = assign tg X.env :: (assignEach tgs X.env).map (·.2) := by rfl) : xUb X is (tg :: tgs) (xZv g h) := by
  intro w ds xs Q r hr q
  cases hr with
  | nil => exact q.elim
  | @cons d ds x xs hd ht =>
    refine xUg (pgs_cons wUa xGr hs) ⟨x, xs, rfl, ?_⟩
    refine h1 w d x _ r hd ((wp_bind q).imp (fun _ m' q w1 em eh sb f1 r1 => ?_) fun _ _ z => z)
    subst em
    exact h2 w1 ds xs Q r1 (ht.mono f1.ext) (q.imp (fun _ m2 z w2 em2 eh2 sb2 f2 r2 => z w2 em2 (eh2.trans eh) (sb.trans sb2) (f1.trans f2) r2) fun _ _ z => z)
theorem xYb {g : List PyData → Pg Unit} {k : Nat} (n : Nat) (C : Ctx X B) (h : xUb X is tgs g) (hn : (assignEach tgs X.env).length = n := by rfl) (hst : (assignEach tgs X.env).findIdx? (·.1) = none := by rfl) : xHx X is (.Tuple tgs k pos) (xQ0 n g) := by
  intro w d x Q r hr q
  cases hr with
  | tup hq ha =>
    rename_i a vs ds
    by_cases hl : ds.length = n
    · rw [show xQ0 n g (.tuple ds) = g ds from if_pos hl] at q
      exact xU6 (pg_tup C.calm xGr hn hst) ⟨a, vs, rfl, zXs r.sub hq, by rw [← ha.len]; exact hl, h w ds vs Q r ha q⟩
    · rw [show xQ0 n g (.tuple ds) = .stuck from if_neg hl] at q
      exact q.elim
  | lst hq ha =>
    rename_i a vs ds
    by_cases hl : ds.length = n
    · rw [show xQ0 n g (.list ds) = g ds from if_pos hl] at q
      exact xU6 (pg_lst C.calm xGr hn hst) ⟨a, vs, rfl, (hq.mox r.sub).sq, by rw [← ha.len]; exact hl, h w ds vs Q r ha q⟩
    · rw [show xQ0 n g (.list ds) = .stuck from if_neg hl] at q
      exact q.elim
  | _ => exact q.elim
def WI (X : Cx) (tg iter : Expr) : TI := fun sg H R => ∃ t, PI X tg iter t ∧ t sg H R
theorem wY9 {tg iter : Expr} : PI X tg iter (WI X tg iter) := ⟨fun pins s sg H R I ⟨t, h, q⟩ => h.run pins s sg H R I q⟩
def xVh (K : PySem.W.Frag) (w : Wd) (J : It) (ds : List PyData) : Prop := ∀ w1 : Wd, FolS w w1 → Rep K w1 → ∀ i, (∀ d, ds[i]? = some d → J.go i w1.H ∧ ∀ x H', J.yld i w1.H x H' → ∃ w2 : Wd, w2.m = w1.m ∧ w2.sg = w1.sg ∧ w2.H = H' ∧ FolE w1 w2 ∧ Rep K w2 ∧ R K w2.F d x ∧ ∀ a, w2.F a ≠ none → w1.F a ≠ none ∨ w1.H a = none) ∧ (ds.length ≤ i → J.stop i w1.H)
def xHw (X : Cx) (B : XBt) (tg iter : Expr) (f : Pg (List PyData)) : Prop := ∀ (w : Wd) (Q : It → Hp → Prop), Rep X.K w →
  (f w.m).wp (fun ds m' => ∀ (w' : Wd) (J : It), w'.m = m' → w'.sg = w.sg → FolE w w' → Rep X.K w' → xVh X.K w' J ds → Q J w'.H) (XW X.K B w) → WI X tg iter w.sg w.H Q
theorem xJ7 {K : PySem.W.Frag} {w : Wd} {a : Addr} {vs : List V} {ds : List PyData} (h : LQ K w.F a vs) (ra : RA K w.F ds vs) : xVh K w (Itl K a) ds := by
  intro w1 f r i
  have hq : SqL K w1.H a vs := ((h.mono f.ext).mox r.sub).sq
  refine ⟨fun d hd => ?_, fun hl => ⟨vs, hq, by rw [← ra.len]; exact hl⟩⟩
  obtain ⟨v, hv, rv⟩ := ra.get hd
  refine ⟨⟨vs, v, hq, hv⟩, fun x H' y => ?_⟩
  obtain ⟨rfl, y⟩ := y
  have e := y vs hq
  rw [hv] at e
  cases e
  exact ⟨w1, rfl, rfl, rfl, FolE.refl w1, r, rv.mono f.ext, fun _ z => .inl z⟩
theorem xKs {K : PySem.W.Frag} {w : Wd} {a : Addr} {vs : List V} {ds : List PyData} (h : SqT K w.F a vs) (ra : RA K w.F ds vs) : xVh K w (Itt K a) ds := by
  intro w1 f r i
  have hq : SqT K w1.H a vs := zXs r.sub (xQ2 f.ext h)
  refine ⟨fun d hd => ?_, fun hl => ⟨vs, hq, by rw [← ra.len]; exact hl⟩⟩
  obtain ⟨v, hv, rv⟩ := ra.get hd
  refine ⟨⟨vs, v, hq, hv⟩, fun x H' y => ?_⟩
  obtain ⟨rfl, y⟩ := y
  have e := y vs hq
  rw [hv] at e
  cases e
  exact ⟨w1, rfl, rfl, rfl, FolE.refl w1, r, rv.mono f.ext, fun _ z => .inl z⟩
def yHz (lo : Int) (n : Nat) : List PyData := (List.range n).map fun i => .int (lo + (i : Nat))
theorem ints_get {lo : Int} {n i : Nat} {d : PyData} (h : (yHz lo n)[i]? = some d) : i < n ∧ d = .int (lo + (i : Nat)) := by
  unfold yHz at h
  rw [List.getElem?_map] at h
  by_cases q : i < n
  · rw [List.getElem?_range q] at h
    exact ⟨q, (Option.some.inj h).symm⟩
  · rw [List.getElem?_eq_none (by simpa using q)] at h
    cases h
theorem xKt {K : PySem.W.Frag} {w : Wd} {lo : Int} {n : Nat} : xVh K w (Itr lo n) (yHz lo n) := by
  intro w1 f r i
  refine ⟨fun d hd => ?_, fun hl => by
    unfold yHz at hl
    have hl : n ≤ i := by simpa using hl
    exact hl⟩
  obtain ⟨hi, rfl⟩ := ints_get hd
  refine ⟨hi, fun x H' y => ?_⟩
  obtain ⟨rfl, rfl⟩ := y
  exact ⟨w1, rfl, rfl, rfl, FolE.refl w1, r, .int _, fun _ z => .inl z⟩
def xXu : AV → Option (List PyData)
  | .d (.list xs) => some xs
  | .d (.tuple xs) => some xs
  | _ => none
def wQd (f : Pg EV) : Pg (List PyData) := .bind f fun v => .bind (toA v) fun a => yGd (xXu a)
theorem xYa {e : Expr} {f : Pg EV} (he : Snd X B e f) : xHw X B tg e (wQd f) := by
  intro w Q r hw
  by_cases kt : ∃ xs m', f w.m = .ok (.d (.tuple xs)) m'
  · obtain ⟨xs, m0, ef⟩ := kt
    refine ⟨_, pi_tup yG1, ?_⟩
    refine he w _ r ?_
    rw [ef]
    have hw : ((wQd f) w.m).wp _ _ := hw
    unfold wQd Pg.bind at hw
    rw [ef] at hw
    intro w1 x em e1 f1 r1 re
    subst em
    cases re with
    | tup hq ra => exact ⟨_, rfl, ⟨_, zXs r1.sub hq⟩, hw w1 _ rfl e1 f1 r1 (xKs hq ra)⟩
  · refine ⟨_, pi_list yG1, ?_⟩
    have hw2 := wp_bind hw
    refine he w _ r ?_
    cases ef : f w.m with
    | bad =>
      rw [ef] at hw2
      exact hw2
    | thr x m' =>
      rw [ef] at hw2
      exact hw2
    | ok v m' =>
      rw [ef] at hw2
      intro w1 x em e1 f1 r1 re
      subst em
      obtain ⟨a, w2, ea, e2, e3, f2, r2, rv⟩ := yG5 r1 re
      have h3 := wp_bind (show (Pg.bind (toA v) (fun a => yGd (xXu a)) w1.m).wp _ _ from hw2)
      rw [ea] at h3
      obtain ⟨ds, eds, q⟩ := yVo (show (yGd (xXu a) w2.m).wp _ _ from h3)
      have nt : ∀ xs, a ≠ .d (.tuple xs) := fun xs ex => by
        subst ex
        cases v with
        | d y =>
          injection ea with q _
          cases q
          exact kt ⟨xs, w1.m, ef⟩
        | new o =>
          injection ea with q _
          cases o <;> cases q
        | pk i o =>
          injection ea with q _
          cases o <;> cases q
        | cell n => injection ea with q _
      cases a with
      | cell n => cases eds
      | d y =>
        cases y <;> try (cases eds; done)
        · cases eds
          cases rv with
          | lst hq ra =>
            have q := q w2 _ rfl (e2.trans e1) (f1.trans f2) r2 (xJ7 hq ra)
            rw [e3] at q
            have hs := (hq.mox r2.sub).sq
            rw [e3] at hs
            exact ⟨_, rfl, ⟨_, hs⟩, q⟩
        · exact absurd rfl (nt _)
def xV9 (j : Int) : Bool := decide (-(2 ^ 62) ≤ j) && decide (j < 2 ^ 62)
def wXy : List OV → Option (List PyData)
  | [.d (.int j)] => if xV9 j then some (yHz 0 j.toNat) else none
  | _ => none
def xXg (f : Pg (List OV)) : Pg (List PyData) := .bind f fun os => yGd (wXy os)
theorem xZx {a : Expr} {p : Pos} {f : Pg (List OV)} (hg : Gl X "range") (hm : X.mg "range" = none) (ha : xU1 X B [a] f) (hs : starEach [a] X.env = [(false, eval a X.env)] := by rfl) : xHw X B tg (.Call (.Name "range" p) [a] [] pos) (xXg f) := by
  intro w Q r hw
  refine ⟨_, pi_range1 hg hm xYf hs, ?_⟩
  refine yH6 ha r hw fun os w1 xs e1 f1 r1 ro h1 => ?_
  obtain ⟨ds, ed, q⟩ := yVo h1
  unfold wXy at ed
  split at ed
  · rename_i j
    split at ed
    · rename_i hj
      cases ed
      unfold xV9 at hj
      simp only [Bool.and_eq_true, decide_eq_true_eq] at hj
      cases ro with
      | cons h t =>
        cases t
        rw [(h.rn r1 rfl).int]
        exact ⟨j, rfl, hj.1, hj.2, q w1 _ rfl e1 f1 r1 xKt⟩
    · cases ed
  · cases ed
def forL (g : PyData → Pg Unit) (b : Pg Fl) : List PyData → Pg Fl
  | [] => .ret .next
  | d :: ds => .bind (g d) fun _ => .bind b fun fl => match fl with
    | .next => forL g b ds
    | .cont => forL g b ds
    | .brk => .ret .next
    | .ret v => .ret (.ret v)
def xVe (f : Pg (List PyData)) (g : PyData → Pg Unit) (b : Pg Fl) : Pg Fl := .bind f fun ds => forL g b ds
theorem xXs {iter : Expr} {body : List Stmt} {f : Pg (List PyData)} {g : PyData → Pg Unit} {fb : Pg Fl} (C : Ctx X B) (hp : PassesOwn (model X.prog X.w) X.A X.env X.xe) (hi : xHw X B tg iter f) (hg : xHx X is tg g) (gt : ∀ d m x m', g d m ≠ .thr x m') (hb : xUc X B body fb)
    (hs : ∀ x, foldedSetIterable iter X.env x = pure x := by intro _; rfl) : xWp X B (.For tg iter body [] pos) (xVe f g fb) := by
  intro w D r hw
  refine xZs (ps_for hp C.calm wY9 wUa wQ8 hs) ?_
  refine hi w _ r ((wp_bind hw).imp (fun ds m0 hw w1 J em e1 f1 r1 itr => ?_) fun _ _ z => z)
  subst em
  have fo1 := f1.s r
  refine ⟨fun i n sg H => ∃ w2 : Wd, w2.sg = sg ∧ w2.H = H ∧ FolS w1 w2 ∧ Rep X.K w2 ∧ n = ds.length - i ∧ i ≤ ds.length ∧ (forL g fb (ds.drop i) w2.m).wp (yG3 X.K w D) (XW X.K B w), ⟨ds.length, w1, e1, rfl, FolS.refl w1, r1, by omega, Nat.zero_le _, hw⟩, ?_⟩
  rintro i n sg H ⟨w2, rfl, rfl, f2, r2, rfl, hle, q⟩
  obtain ⟨itg, its⟩ := itr w2 f2 r2 i
  by_cases hlt : i < ds.length
  · have hd : ds[i]? = some ds[i] := List.getElem?_eq_getElem hlt
    obtain ⟨go, yl⟩ := itg _ hd
    rw [List.drop_eq_getElem_cons hlt] at q
    refine .inr ⟨go, fun sg' H' => ∃ w5 : Wd, w5.sg = sg' ∧ w5.H = H' ∧ FolS w1 w5 ∧ Rep X.K w5 ∧ (forL g fb (ds.drop (i + 1)) w5.m).wp (yG3 X.K w D) (XW X.K B w), fun sg' H' ⟨w5, a1, a2, a3, a4, a5⟩ => ⟨ds.length - (i + 1), by omega, w5, a1, a2, a3, a4, rfl, hlt, a5⟩, fun x H' y => ?_⟩
    obtain ⟨w3, b1, b2, b3, f3, r3, rx, _⟩ := yl x H' y
    subst b3
    rw [← b2]
    have f13 := f2.trans (f3.s r2)
    have q1 := wp_bind (show (Pg.bind (g ds[i]) (fun _ => Pg.bind fb fun fl => match fl with
      | .next => forL g fb (ds.drop (i + 1))
      | .cont => forL g fb (ds.drop (i + 1))
      | .brk => .ret .next
      | .ret v => .ret (.ret v)) w3.m).wp (yG3 X.K w D) (XW X.K B w) from by rw [b1]; exact q)
    refine hg w3 ds[i] x _ r3 rx ?_
    cases eg : g ds[i] w3.m with
    | bad =>
      rw [eg] at q1
      exact q1.elim
    | thr e m' => exact absurd eg (gt _ _ e m')
    | ok u m' =>
      rw [eg] at q1
      intro w4 em eh sb f4 r4
      subst em
      have q2 := wp_bind (show (Pg.bind fb _ w4.m).wp (yG3 X.K w D) (XW X.K B w) from q1)
      have f14 := f13.trans (f4.s r3)
      have fw4 := fo1.trans f14
      refine hb w4 _ r4 (q2.imp (fun fl m5 z w5 em f5 r5 => ?_) fun _ _ z => z.fol fw4)
      subst em
      have f15 := f14.trans f5
      cases fl with
      | next => exact ⟨w5, rfl, rfl, f15, r5, z⟩
      | cont => exact ⟨w5, rfl, rfl, f15, r5, z⟩
      | brk => exact z w5 rfl (fo1.trans f15) r5
      | ret v => exact z w5 rfl (fo1.trans f15) r5
  · have e0 : ds.drop i = [] := List.drop_eq_nil_of_le (by omega)
    rw [e0] at q
    exact .inl ⟨its (by omega), q w2 rfl (fo1.trans f2) r2⟩
end
end Ev

namespace Ev
open PySem PySem.Spec PyProof.Rows L2

def wYp (K : PySem.W.Frag) (w : Wd) (J : It) (ds : List PyData) : Prop := ∀ w1 : Wd, FolE w w1 → Rep K w1 → ∀ i, (∀ d, ds[i]? = some d → J.go i w1.H ∧ ∀ x H', J.yld i w1.H x H' → ∃ w2 : Wd, w2.m = w1.m ∧ w2.sg = w1.sg ∧ w2.H = H' ∧ FolE w1 w2 ∧ Rep K w2 ∧ R K w2.F d x ∧ ∀ a, w2.F a ≠ none → w1.F a ≠ none ∨ w1.H a = none) ∧ (ds.length ≤ i → J.stop i w1.H)
def xUa (X : Cx) (B : XBt) (tg iter : Expr) (f : Pg (List PyData)) : Prop := ∀ (w : Wd) (Q : It → Hp → Prop), Rep X.K w →
  (f w.m).wp (fun ds m' => ∀ (w' : Wd) (J : It), w'.m = m' → w'.sg = w.sg → FolE w w' → Rep X.K w' → wYp X.K w' J ds → Q J w'.H) (XW X.K B w) → WI X tg iter w.sg w.H Q
theorem xHw.e {X : Cx} {B : XBt} {tg iter : Expr} {f : Pg (List PyData)} (h : xHw X B tg iter f) : xUa X B tg iter f := fun w Q r hw =>
  h w Q r (hw.imp (fun ds m' q w' J em es fo rp it => q w' J em es fo rp fun w1 g rp1 => it w1 (g.s rp) rp1) fun _ _ z => z)
def yK6 : List Nat → List (Option SV) → List (Option SV)
  | [], l => l
  | i :: is, l => (yK6 is l).set i none
def xWz (is : List Nat) : Pg Unit := fun m => .ok () { m with sl := yK6 is m.sl }
theorem xVp (is : List Nat) (l : List (Option SV)) : (yK6 is l).length = l.length := by
  induction is with
  | nil => rfl
  | cons i is ih => rw [yK6, List.length_set, ih]
theorem yK1 {is : List Nat} {l : List (Option SV)} {j : Nat} {v : SV} (h : (yK6 is l)[j]? = some (some v)) : l[j]? = some (some v) ∧ j ∉ is := by
  induction is with
  | nil => exact ⟨h, by simp⟩
  | cons i is ih =>
    rw [yK6] at h
    by_cases e : i = j
    · subst e
      by_cases q : i < (yK6 is l).length
      · rw [List.getElem?_set_self q] at h
        cases h
      · rw [List.getElem?_eq_none (by rw [List.length_set]; omega)] at h
        cases h
    · rw [List.getElem?_set_ne e] at h
      obtain ⟨h1, h2⟩ := ih h
      exact ⟨h1, by simp only [List.mem_cons, not_or]; exact ⟨fun q => e q.symm, h2⟩⟩
theorem xQ9 {K : PySem.W.Frag} {w : Wd} (r : Rep K w) {is : List Nat} {sg : L2.St} (h : SameBut is w.sg sg) : Rep K { w with m := { w.m with sl := yK6 is w.m.sl }, sg := sg } ∧ FolE w { w with m := { w.m with sl := yK6 is w.m.sl }, sg := sg } := by
  refine ⟨⟨r.sub, ?_, fun i v q => ?_, r.cs, r.ln, r.rf, r.rk, r.nd, fun i j xs ys x a b c d => ?_, r.zl, r.oo, r.tb⟩, ⟨rfl, rfl, Same.refl _, ⟨[], (List.append_nil _).symm⟩, fun _ _ h _ _ => h, fun _ h => .inl h, fun _ h => h, fun _ h => .inl h, fun a ⟨j, xs, q1, q2⟩ => ?_⟩⟩
  · show (yK6 is w.m.sl).length ≤ sg.length
    rw [xVp, h.1]
    exact r.le
  · obtain ⟨q1, q2⟩ := yK1 q
    obtain ⟨x, h1, h2⟩ := r.sl i v q1
    exact ⟨x, (h.2 i q2).trans h1, h2⟩
  · obtain ⟨a1, a2⟩ := yK1 a
    obtain ⟨b1, b2⟩ := yK1 b
    exact r.ow i j xs ys x a1 b1 ((h.2 i a2).symm.trans c) ((h.2 j b2).symm.trans d)
  · obtain ⟨a1, a2⟩ := yK1 q1
    exact ⟨j, xs, a1, (h.2 j a2).symm.trans q2⟩
theorem wQ3 {K : PySem.W.Frag} {w : Wd} (r : Rep K w) {is : List Nat} {sg : L2.St} (h : SameBut is w.sg sg) (hn : ∀ (j : Nat) (v : SV), j ∈ is → w.m.sl[j]? ≠ some (some v)) : Rep K { w with sg := sg } ∧ FolE w { w with sg := sg } := by
  have at_ : ∀ (j : Nat) (v : SV), w.m.sl[j]? = some (some v) → sg[j]? = w.sg[j]? := fun j v q => h.2 j fun z => hn j v z q
  refine ⟨⟨r.sub, by show w.m.sl.length ≤ sg.length; rw [h.1]; exact r.le, fun i v q => ?_, r.cs, r.ln, r.rf, r.rk, r.nd, fun i j xs ys x a b c d => r.ow i j xs ys x a b ((at_ i _ a).symm.trans c) ((at_ j _ b).symm.trans d), r.zl, r.oo, r.tb⟩, ⟨rfl, rfl, Same.refl _, ⟨[], (List.append_nil _).symm⟩, fun _ _ h _ _ => h, fun _ h => .inl h, fun _ h => h, fun _ h => .inl h, fun a ⟨j, xs, q1, q2⟩ => ⟨j, xs, q1, (at_ j _ q1).symm.trans q2⟩⟩⟩
  obtain ⟨x, h1, h2⟩ := r.sl i v q
  exact ⟨x, (at_ i v q).trans h1, h2⟩
theorem wKv {K : PySem.W.Frag} {w : Wd} (r : Rep K w) {p : Addr} {o : HO} (hf : w.F p = none) (hr : p ∉ w.ro) (ho : ¬ Own w p) (nd : ∀ {a d : Addr}, w.H d = some (.own a) → d ≠ p) (hni : ∀ C d vs, w.H p ≠ some (.ins C d vs)) (hh : ∃ u, w.H p = some u ∧ ¬ wXq u) (hnt : ∀ ps, o ≠ .tbl ps := by intro _ z; cases z) (hno : ∀ a, o ≠ .own a := by intro _ z; cases z) : Rep K { w with H := upd w.H p o } := by
  have up : ∀ {a : Addr} {u : HO}, a ≠ p → w.H a = some u → upd w.H p o a = some u := fun {a u} n h => by
    rw [upd_ne n]
    exact h
  refine ⟨fun a u h hn => up (fun e => ?_) (r.sub a u h hn), r.le, fun i v h => ?_, fun n xs h => ?_, r.ln, r.rf, r.rk, r.nd, r.ow, fun a h => ?_, fun d a h => ?_, ⟨(TK _ w).us r.tb.1 hh, r.tb.2.1, xQ1 r.tb.2.2 hnt⟩⟩
  · have h : w.F a = some u := h
    rw [e, hf] at h
    cases h
  · obtain ⟨x, h1, h2⟩ := r.sl i v h
    refine ⟨x, h1, ?_⟩
    cases v with
    | d y => exact h2
    | cell n => exact h2
    | thk t => exact h2
    | ob ys =>
      obtain ⟨a, e, k1, k2⟩ := h2
      exact ⟨a, e, k1.keep (Same.refl _) (fun u => up fun z => ho ⟨i, ys, h, by rw [h1, e, z]⟩) (fun d z => up (nd z) z) (fun _ _ z => z), k2⟩
  · obtain ⟨a, h1, h2⟩ := r.cs n xs h
    exact ⟨a, h1, h2.keep (Same.refl _) (fun u => up fun z => hr (z ▸ List.mem_of_getElem? h1)) (fun d z => up (nd z) z) (fun _ _ z => z)⟩
  · by_cases e : a = p
    · show upd w.H p o a ≠ none
      rw [e, upd_same]
      simp
    · show upd w.H p o a ≠ none
      rw [upd_ne e]
      exact r.zl a h
  · have h : upd w.H p o d = some (.own a) := h
    by_cases q : d = p
    · rw [q, upd_same] at h
      exact absurd (Option.some.inj h) (hno a)
    · rw [upd_ne q] at h
      obtain ⟨C, vs, e⟩ := r.oo d a h
      exact ⟨C, vs, up (fun z => hni C d vs (z ▸ e)) e⟩
def reZ (w : Wd) (Z : Addr → Prop) : Wd := { w with Z := Z }
theorem xKa {K : PySem.W.Frag} {w : Wd} (r : Rep K w) {Z : Addr → Prop} (h : ∀ a, Z a → w.Z a) : Rep K (reZ w Z) := by
  refine ⟨r.sub, r.le, fun i v q => ?_, r.cs, r.ln, r.rf, r.rk, r.nd, r.ow, fun a q => r.zl a (h a q), r.oo, r.tb⟩
  obtain ⟨x, h1, h2⟩ := r.sl i v q
  refine ⟨x, h1, ?_⟩
  cases v with
  | d y => exact h2
  | cell n => exact h2
  | thk t => exact h2
  | ob ys =>
    obtain ⟨a, e, k1, k3, k4, k5⟩ := h2
    exact ⟨a, e, k1.keep (Same.refl _) (fun _ z => z) (fun _ z => z) (fun d _ z => h d z), k3, k4, fun z => k5 (h a z)⟩
theorem yH2 {K : PySem.W.Frag} {w : Wd} (r : Rep K w) {Z : Addr → Prop} (h : ∀ a, Z a → w.H a ≠ none) (ho : ∀ a, Own w a → ¬ Z a) (hd : ∀ d a, w.H d = some (.own a) → Z d → w.Z d) : Rep K (reZ w Z) := by
  refine ⟨r.sub, r.le, fun i v q => ?_, r.cs, r.ln, r.rf, r.rk, r.nd, r.ow, h, r.oo, r.tb⟩
  obtain ⟨x, h1, h2⟩ := r.sl i v q
  refine ⟨x, h1, ?_⟩
  cases v with
  | d y => exact h2
  | cell n => exact h2
  | thk t => exact h2
  | ob ys =>
    obtain ⟨a, e, k1, k3, k4, k5⟩ := h2
    exact ⟨a, e, k1.keep (Same.refl _) (fun _ z => z) (fun _ z => z) (fun d => hd d a), k3, k4, ho a ⟨i, ys, q, by rw [h1, e]⟩⟩
theorem xGn {w w' : Wd} (f : FolE w w') {Z : Addr → Prop} (h : ∀ a, Z a → w.Z a) : FolE (reZ w Z) (reZ w' Z) := ⟨rfl, f.t, f.ext, f.pre, f.frm, f.new, f.liv, fun a q => (f.grow a q).imp id fun z k => z (h a k), f.own⟩
theorem yH1 (sg : L2.St) : ∀ (is : List Nat) (j : Nat), j ∉ is → (wipe sg is)[j]? = sg[j]?
  | [], _, _ => rfl
  | i :: is, j, h => by
    rw [wipe, List.getElem?_set_ne (fun e : i = j => h (by simp [e]))]
    exact yH1 sg is j fun q => h (List.mem_cons_of_mem _ q)
theorem xXr (sg : L2.St) : ∀ (is : List Nat) (j : Nat), j ∈ is → j < sg.length → (wipe sg is)[j]? = some none
  | i :: is, j, h, hl => by
    rw [wipe]
    by_cases e : i = j
    · subst e
      rw [List.getElem?_set_self (by rw [wipe_length]; exact hl)]
    · rw [List.getElem?_set_ne e]
      refine xXr sg is j ?_ hl
      rcases List.mem_cons.mp h with q | q
      · exact absurd q.symm e
      · exact q
theorem yHv (is : List Nat) (sg : L2.St) : SameBut is sg (wipe sg is) := ⟨wipe_length sg is, fun j h => yH1 sg is j h⟩
theorem SameBut.symm {is : List Nat} {a b : L2.St} (h : SameBut is a b) : SameBut is b a := ⟨h.1.symm, fun j n => (h.2 j n).symm⟩
theorem xU3 {is : List Nat} {a b : L2.St} (h : SameBut is a b) : wipe b is = wipe a is := by
  refine List.ext_getElem? fun j => ?_
  by_cases hj : j ∈ is
  · by_cases hl : j < a.length
    · rw [xXr a is j hj hl, xXr b is j hj (by rw [h.1]; exact hl)]
    · rw [List.getElem?_eq_none (by rw [wipe_length]; have := h.1; omega), List.getElem?_eq_none (by rw [wipe_length]; omega)]
  · rw [yH1 a is j hj, yH1 b is j hj, h.2 j hj]

section
variable {X : Cx} {B : XBt} {tg iter elt : Expr} {ifs : List Expr} {scope : Scope} {pos : Pos}
def WTs (X : Cx) (ifs : List Expr) : TT := fun sg H Q => Cl (∀ (pins : List (Addr × Obj)) (s : Shared), L2.Inv X pins sg H s →
  wpAny (model X.prog X.w) X.A (forIn ifs true fun c r => if r = true then do let ok ← isTrue c X.env (eval c X.env); pure (ForInStep.yield ok) else pure (ForInStep.yield r)) (TP X pins sg Q) X.xe s)
theorem wQl {t : TT} (h : PTs X ifs t) {sg : L2.St} {H : Hp} {Q : Bool → Hp → Prop} (q : t sg H Q) : WTs X ifs sg H Q := ⟨fun pins s I => h.run pins s sg H Q I q⟩
def xY8 (X : Cx) (B : XBt) (ifs : List Expr) (t : Pg Bool) : Prop := ∀ (w : Wd) (Q : Bool → Hp → Prop), Rep X.K w → (t w.m).wp (xHz X.K w Q) (XW X.K B w) → WTs X ifs w.sg w.H Q
theorem xV0 {c : Expr} {t : Pg Bool} (h : xWg X B c t) : xY8 X B [c] t := fun w Q r hw => wQl (pts_one xGp) (h w Q r hw)

def yVt (X : Cx) (scope : Scope) (φ : Cx → Prop) : Prop := ∀ (s : Shared) (H : Hp) (C : Addr) (cl : List (Str × Addr)) (fp : List Addr), φ (X.blk s H scope (compEnvC scope cl C X.env) fp)
theorem xX5 {B : XBt} (C : Ctx X B) (s : Shared) (H : Hp) (Cc : Addr) (cl : List (Str × Addr)) (fp : List Addr) : Ctx (X.blk s H scope (compEnvC scope cl Cc X.env) fp) B0 := ⟨C.calm, C.gd, C.rm, C.nd, C.sm, xW3⟩
def xQi (is : List Nat) (g : PyData → Pg Unit) (t : Pg Bool) (e : Pg EV) : List PyData → List PyData → Pg EV
  | [], acc => .ret (.fresh acc)
  | d :: ds, acc => .bind (g d) fun _ => .bind (xQb t) fun k => if k then .bind (xQb e) fun v => .bind (toA v) fun a => .bind (yHc a) fun y => if acc.length < 16777216 then .bind (xWz is) fun _ => xQi is g t e ds (acc ++ [y]) else .stuck
      else .bind (xWz is) fun _ => xQi is g t e ds acc
def xQy (is : List Nat) (fi : Pg (List PyData)) (g : PyData → Pg Unit) (t : Pg Bool) (e : Pg EV) : Pg EV := .bind fi fun ds => .bind (xWz is) fun _ => xQi is g t e ds []

def wZ3 (X : Cx) (scope : Scope) (tg : Expr) : TG := fun v sg H Q => yVt X scope fun Y => WG Y tg v sg H Q
def wQw (X : Cx) (scope : Scope) (ifs : List Expr) : TT := fun sg H Q => yVt X scope fun Y => WTs Y ifs sg H Q
def wZ7 (X : Cx) (scope : Scope) (elt : Expr) : TE := fun sg H Q => yVt X scope fun Y => WE Y elt sg H Q
theorem xYl {own : List (Str × Nat)} {fi : Pg (List PyData)} {g : PyData → Pg Unit} {t : Pg Bool} {fe : Pg EV} (gt : ∀ d m x m', g d m ≠ .thr x m') (hi : xUa X B tg iter fi)
    (hg : yVt X scope fun Y => xHx Y (own.map (·.2)) tg g) (ht : yVt X scope fun Y => xY8 Y B0 ifs t) (he : yVt X scope fun Y => Snd Y B0 elt fe) {w : Wd} {Q : VK} (r : Rep X.K w)
    (hw : (xQy (own.map (·.2)) fi g t fe w.m).wp (yHt X.K w Q) (XW X.K B w)) : tLc (WI X tg iter) (wZ3 X scope tg) (wQw X scope ifs) (wZ7 X scope elt) (own.map (·.2)) w.sg w.H Q := by
  generalize own.map (·.2) = is at *
  refine hi w _ r ((wp_bind hw).imp (fun ds m0 hw w1 J em e1 f1 r1 itr => ?_) fun _ _ z => z)
  subst em
  intro D hD
  have hw1 : (xQi is g t fe ds [] { w1.m with sl := yK6 is w1.m.sl }).wp (yHt X.K w Q) (XW X.K B w) := hw
  obtain ⟨r1w, f1w⟩ := xQ9 r1 (is := is) (sg := w.sg) (by rw [e1]; exact SameBut.refl _ _)
  obtain ⟨rl, fl⟩ := lay r1w (p := D) hD (.lst [])
  have fD : w1.F D = none := r1.noF hD
  -- the new list is guarded while the block runs
  generalize hZd : (fun a => w1.Z a ∨ a = D) = Zd
  have zSub : ∀ a, w1.Z a → Zd a := fun a h => by rw [← hZd]; exact .inl h
  have zD : Zd D := by rw [← hZd]; exact .inr rfl
  have zInv : ∀ a, Zd a → w1.Z a ∨ a = D := fun a h => by rw [← hZd] at h; exact h
  have wz : w1.Z = w.Z := f1.z
  generalize hw0 : ({ F := w1.F, ro := w1.ro, m := { w1.m with sl := yK6 is w1.m.sl }, sg := w.sg, H := upd w1.H D (.lst []), Z := w1.Z, T := w1.T } : Wd) = w0 at rl fl
  have oD : ∀ {H : Hp} {vs : List V} {d a : Addr}, H D = some (.lst vs) → H d = some (.own a) → Zd d → w1.Z d := fun {H vs d a} hl hd z => by
    rcases zInv d z with q | q
    · exact q
    · rw [q, hl] at hd
      cases hd
  have r0 : Rep X.K (reZ w0 Zd) := yH2 rl (fun a h => by
    rcases zInv a h with q | q
    · exact rl.zl a (by rw [← hw0]; exact q)
    · rw [q, ← hw0]
      show upd w1.H D (.lst []) D ≠ none
      rw [upd_same]
      simp) (fun a h z => by
    rcases zInv a z with q | q
    · exact (rl.ownAt h).2.2.2 (by rw [← hw0]; exact q)
    · have h : Own { w1 with m := { w1.m with sl := yK6 is w1.m.sl }, sg := w.sg } D := by rw [← hw0, q] at h; exact h
      exact (r1w.ownAt h).1 hD) fun d a hd z => by
    rw [← hw0] at hd ⊢
    exact oD (show (upd w1.H D (.lst [])) D = some (.lst []) from upd_same) hd z
  refine ⟨fun i n H => ∃ (w2 : Wd) (acc : List PyData) (vs : List V), w2.sg = w.sg ∧ w2.H = H ∧ w2.Z = Zd ∧ FolE w1 (reZ w2 w1.Z) ∧ Rep X.K w2 ∧ H D = some (.lst vs) ∧ RA X.K w2.F acc vs ∧ w2.F D = none ∧ D ∉ w2.ro ∧ n = ds.length - i ∧ i ≤ ds.length ∧
    (xQi is g t fe (ds.drop i) acc w2.m).wp (yHt X.K w Q) (XW X.K B w) ∧ (∀ (j : Nat) (v : SV), j ∈ is → w2.m.sl[j]? ≠ some (some v)),
    ⟨ds.length, reZ w0 Zd, [], [], by rw [← hw0]; rfl, by rw [← hw0]; rfl, rfl, by rw [← hw0]; rw [← hw0] at fl; exact f1w.trans fl, r0, upd_same, .nil, by rw [← hw0]; exact fD, fun h => r1.roLive (by rw [← hw0] at h; exact h) hD, by omega, Nat.zero_le _, by rw [← hw0]; exact hw1, fun j v hj q => by rw [← hw0] at q; exact (yK1 q).2 hj⟩, ?_⟩
  rintro i n H ⟨w2, acc, vs, s2, rfl, z2, f2, r2, hl, ra, q1, q2, rfl, hle, q, hn⟩
  have z2s : ∀ a, w1.Z a → w2.Z a := fun a h => by rw [z2]; exact zSub a h
  have r2u : Rep X.K (reZ w2 w1.Z) := xKa r2 z2s
  obtain ⟨itg, its⟩ := itr (reZ w2 w1.Z) f2 r2u i
  by_cases hlt : i < ds.length
  · have hd : ds[i]? = some ds[i] := List.getElem?_eq_getElem hlt
    obtain ⟨go, yl⟩ := itg _ hd
    rw [List.drop_eq_getElem_cons hlt] at q
    refine .inr ⟨go, fun H' => ∃ n', n' < ds.length - i ∧ ∃ (w2 : Wd) (acc : List PyData) (vs : List V), w2.sg = w.sg ∧ w2.H = H' ∧ w2.Z = Zd ∧ FolE w1 (reZ w2 w1.Z) ∧ Rep X.K w2 ∧ H' D = some (.lst vs) ∧ RA X.K w2.F acc vs ∧ w2.F D = none ∧ D ∉ w2.ro ∧ n' = ds.length - (i + 1) ∧ i + 1 ≤ ds.length ∧
      (xQi is g t fe (ds.drop (i + 1)) acc w2.m).wp (yHt X.K w Q) (XW X.K B w) ∧ (∀ (j : Nat) (v : SV), j ∈ is → w2.m.sl[j]? ≠ some (some v)), fun H' h => h, fun x H' y => ?_⟩
    obtain ⟨w3u, b1, b2, b3, f3u, r3u, rx, gr⟩ := yl x H' y
    subst b3
    have r3 : Rep X.K (reZ w3u Zd) := yH2 r3u (fun a h => f3u.liv a (r2.zl a (by rw [z2]; exact h))) (fun a h z => (r2.ownAt (show Own w2 a from f3u.own a h)).2.2.2 (by rw [z2]; exact z)) fun d a hd z => by
      rw [f3u.z]
      exact oD (f3u.frm D _ hl q2 (by intro _ z; cases z)) hd z
    have f3 : FolE w2 (reZ w3u Zd) := ⟨z2.symm, f3u.t, f3u.ext, f3u.pre, f3u.frm, f3u.new, f3u.liv, fun a h => (gr a h).imp id fun z k => r2.zl a k z, f3u.own⟩
    generalize hw3 : reZ w3u Zd = w3 at r3 f3
    have b1 : w3.m = w2.m := by rw [← hw3]; exact b1
    have b2 : w3.sg = w2.sg := by rw [← hw3]; exact b2
    have bH : w3u.H = w3.H := by rw [← hw3]; rfl
    have rx : R X.K w3.F ds[i] x := by rw [← hw3]; exact rx
    rw [bH]
    obtain ⟨r3w, f3w⟩ := wQ3 r3 (is := is) (sg := wipe w.sg is) (by rw [b2, s2]; exact yHv _ _) (by rw [b1]; exact hn)
    intro s H0 Cc cl fp
    have q' := wp_bind (show (xQi is g t fe (ds[i] :: ds.drop (i + 1)) acc w3.m).wp (yHt X.K w Q) (XW X.K B w) from by rw [b1]; exact q)
    refine hg s H0 Cc cl fp { w3 with sg := wipe w.sg is } ds[i] x _ r3w rx ?_
    show (g ds[i] w3.m).wp _ _
    cases eg : g ds[i] w3.m with
    | bad =>
      rw [eg] at q'
      exact q'.elim
    | thr e m' => exact absurd eg (gt _ _ e m')
    | ok u m' =>
      rw [eg] at q'
      intro w4 em eh sb f4 r4
      subst em
      have sb4 : SameBut is w.sg w4.sg := (yHv is w.sg).trans sb
      refine ⟨(xU3 sb4), ?_⟩
      have f24 : FolE w2 w4 := f3.trans (f3w.trans f4)
      have toW : ∀ {w' : Wd}, FolE w2 w' → FolE w1 (reZ w' w1.Z) := fun {w'} f => f2.trans (xGn f z2s)
      have kD : ∀ {w' : Wd}, FolE w2 w' → w'.H D = some (.lst vs) ∧ D ∉ w'.ro ∧ w'.F D = none ∧ w'.Z = Zd := fun {w'} f => ⟨f.frm D _ hl q2 (by intro _ z; cases z), fun z => (f.new D z).elim q2 (yHm hl), Classical.byContradiction fun z => (f.grow D z).elim (fun k => k q1) fun k => k (by rw [z2]; exact zD), f.z.trans z2⟩
      intro s H0 Cc cl fp
      have q5 := wp_bind (show (Pg.bind (xQb t) _ w4.m).wp (yHt X.K w Q) (XW X.K B w) from q')
      refine ht s H0 Cc cl fp w4 _ r4 ((yH3 q5).imp (fun k m5 z w5 em e5 f5 r5 => ?_) fun _ _ z => z.elim)
      subst em
      have f25 : FolE w2 w5 := f24.trans f5
      cases k with
      | false =>
        have z : (xQi is g t fe (ds.drop (i + 1)) acc { w5.m with sl := yK6 is w5.m.sl }).wp (yHt X.K w Q) (XW X.K B w) := z
        refine iteF ?_
        obtain ⟨r6, f6⟩ := xQ9 r5 (is := is) (sg := w.sg) (by rw [e5]; exact sb4.symm)
        have f26 := f25.trans f6
        obtain ⟨d1, d2, d3, d4⟩ := kD f26
        exact ⟨ds.length - (i + 1), by omega, { w5 with m := { w5.m with sl := yK6 is w5.m.sl }, sg := w.sg }, acc, vs, rfl, rfl, d4, toW f26, r6, d1, ra.mono f26.ext, d3, d2, rfl, hlt, z, fun j v hj q => (yK1 q).2 hj⟩
      | true =>
        refine iteT ?_
        rw [← e5]
        intro s H0 Cc cl fp
        have q6 := wp_bind (show (Pg.bind (xQb fe) _ w5.m).wp (yHt X.K w Q) (XW X.K B w) from z)
        refine he s H0 Cc cl fp w5 _ r5 ((yH3 q6).imp (fun v m6 z w6 y em e6 f6 r6 re => ?_) fun _ _ z => z.elim)
        subst em
        obtain ⟨a, w7, ea, e7, h7, f7, r7, rv⟩ := yG5 r6 re
        have z := wp_bind z
        rw [ea] at z
        obtain ⟨d, ed, zz⟩ := yHb (wp_bind (show (Pg.bind (yHc a) _ w7.m).wp (yHt X.K w Q) (XW X.K B w) from z))
        subst ed
        clear z
        have z := zz
        have f27 : FolE w2 w7 := f25.trans (f6.trans f7)
        have s7 : SameBut is w7.sg w.sg := by
          rw [e7, e6, e5]
          exact sb4.symm
        by_cases hz : acc.length < 16777216
        · rw [if_pos hz] at z
          have z : (xQi is g t fe (ds.drop (i + 1)) (acc ++ [d]) { w7.m with sl := yK6 is w7.m.sl }).wp (yHt X.K w Q) (XW X.K B w) := z
          obtain ⟨r8, f8⟩ := xQ9 r7 (is := is) (sg := w.sg) s7
          have f28 := f27.trans f8
          generalize hw8 : ({ F := w7.F, ro := w7.ro, m := { w7.m with sl := yK6 is w7.m.sl }, sg := w.sg, H := w7.H, Z := w7.Z, T := w7.T } : Wd) = w8 at r8 f28
          obtain ⟨d1, d2, d3, d4⟩ := kD f28
          have nO : ¬ Own w8 D := fun z => (r8.ownAt z).2.2.2 (by rw [d4]; exact zD)
          have r9 := wKv (o := .lst (vs ++ [y])) r8 d3 d2 nO (fun {a d} z e => by rw [e, d1] at z; cases z) (fun C d vs z => by rw [d1] at z; cases z) ⟨_, d1, fun z => z⟩
          have hH : w6.H = w8.H := by rw [← hw8]; exact h7.symm
          rw [hH]
          have f18 := toW f28
          have f19 : FolE w1 (reZ { w8 with H := upd w8.H D (.lst (vs ++ [y])) } w1.Z) := ⟨rfl, f18.t, f18.ext, f18.pre, fun a o h n k => by
            show upd w8.H D (.lst (vs ++ [y])) a = some o
            rw [upd_ne (fun e => by rw [e, hD] at h; cases h)]
            exact f18.frm a o h n k, f18.new, fun a h => by
            show upd w8.H D (.lst (vs ++ [y])) a ≠ none
            rw [upd_ne (fun e => h (by rw [e]; exact hD))]
            exact f18.liv a h, f18.grow, f18.own⟩
          have ra' : RA X.K w8.F (acc ++ [d]) (vs ++ [y]) := (ra.mono f28.ext).app (.one (by rw [← hw8]; exact rv))
          refine ⟨vs, d1, by rw [← (ra.mono f28.ext).len, sizeLine_eq]; exact hz, ds.length - (i + 1), by omega, { w8 with H := upd w8.H D (.lst (vs ++ [y])) }, acc ++ [d], vs ++ [y], by rw [← hw8], rfl, d4, f19, r9, upd_same, ra', d3, d2, rfl, hlt, ?_, fun j v hj q => ?_⟩
          · show (xQi is g t fe (ds.drop (i + 1)) (acc ++ [d]) w8.m).wp _ _
            rw [← hw8]
            exact z
          · have q : w8.m.sl[j]? = some (some v) := q
            rw [← hw8] at q
            exact (yK1 q).2 hj
        · rw [if_neg hz] at z
          exact z.elim
  · have e0 : ds.drop i = [] := List.drop_eq_nil_of_le (by omega)
    rw [e0] at q
    have f12 : FolE w (reZ w2 w1.Z) := f1.trans f2
    refine .inl ⟨its (by omega), q (reZ w2 w1.Z) (.ref D) rfl s2 f12 r2u ⟨D, rfl, ⟨vs, hl, ra⟩, q1, q2, fun z => r1.zl D z hD, fun z => (r2.ownAt (show Own w2 D from z)).2.2.2 (by rw [z2]; exact zD)⟩ fun b e => by cases e; exact Classical.byContradiction fun z => f1.liv D z hD⟩
theorem xG6 {own : List (Str × Nat)} {fi : Pg (List PyData)} {g : PyData → Pg Unit} {t : Pg Bool} {fe : Pg EV} (gt : ∀ d m x m', g d m ≠ .thr x m') (hi : xUa X B tg iter fi)
    (hg : yVt X scope fun Y => xHx Y (own.map (·.2)) tg g) (ht : yVt X scope fun Y => xY8 Y B0 ifs t) (he : yVt X scope fun Y => Snd Y B0 elt fe) {w : Wd} {Q : VK} (r : Rep X.K w)
    (hw : (xQy (own.map (·.2)) fi g t fe w.m).wp (yYt X.K w Q) (XW X.K B w)) : tLc (WI X tg iter) (wZ3 X scope tg) (wQw X scope ifs) (wZ7 X scope elt) (own.map (·.2)) w.sg w.H Q :=
  xYl gt hi hg ht he r (hw.imp (fun _ _ q => q.f) fun _ _ z => z)
theorem wQy {own : List (Str × Nat)} {fi : Pg (List PyData)} {g : PyData → Pg Unit} {t : Pg Bool} {fe : Pg EV} (C : Ctx X B) (ok : BlkOk X.N X.env.scope scope own) (gt : ∀ d m x m', g d m ≠ .thr x m') (hi : xUa X B tg iter fi)
    (hg : yVt X scope fun Y => xHx Y (own.map (·.2)) tg g) (ht : yVt X scope fun Y => xY8 Y B0 ifs t) (he : yVt X scope fun Y => Snd Y B0 elt fe) (hs : ∀ x, foldedSetIterable iter X.env x = pure x := by intro _; rfl) :
    Snd X B (.ListComp elt [⟨tg, iter, ifs, 0⟩] scope pos) (xQy (own.map (·.2)) fi g t fe) := fun w Q r hw =>
  yYq (pe_lc C.calm C.nd wY9 ok (fun s H Cc cl fp => ⟨fun pins s1 _ _ _ u _ I rv h => (h s H Cc cl fp).go pins s1 u I rv⟩) (fun s H Cc cl fp => ⟨fun pins s1 _ _ _ I h => (h s H Cc cl fp).go pins s1 I⟩) (fun s H Cc cl fp => ⟨fun pins s1 _ _ _ I h => (h s H Cc cl fp).go pins s1 I⟩) hs)
    (xG6 gt hi hg ht he r hw)
end
end Ev

namespace Ev
open PySem PySem.Spec PyProof.Rows L2

theorem RA.atI {K : PySem.W.Frag} {F : Hp} {ds : List PyData} {vs : List V} {i : Int} {d : PyData} (a : RA K F ds vs) (h : atI ds i = some d) : ∃ v, atI vs i = some v ∧ R K F d v := by
  unfold L2.atI at h ⊢
  rw [← a.len]
  cases e : ixN ds.length i with
  | none =>
    rw [e] at h
    cases h
  | some j =>
    rw [e] at h
    exact a.get h
def chD (z : Str) (i : Int) : Option PyData := if z.length ≤ 16777216 then (atI z.cps.toList i).map fun c => .str ⟨#[c]⟩ else none
def ixS : PyData → PyData → Option PyData
  | .list xs, .int i => atI xs i
  | .tuple xs, .int i => atI xs i
  | .str z, .int i => chD z i
  | .dict es, k => if zZ5 es && yVs k then xJx es k else none
  | _, _ => none
def ixP (o i : OV) : Pg EV := look o fun x => look i fun y => yGd ((ixS x y).map .d)
theorem xUt {K : PySem.W.Frag} {w : Wd} {xs : List PyData} {vs : List V} {i : Int} {d : PyData} (a : RA K w.F xs vs) (h : atI xs i = some d) : ∃ v, atI vs i = some v ∧ RE K w (.d d) v := a.atI h
theorem wWt {X : Cx} : IxR X (fun x y H Q => ∃ r, IxR X r ∧ r x y H Q) := by
  intro value slice pins s sg H x y v u Q I rx ry ⟨r, hr, q⟩ hs
  exact hr value slice pins s sg H x y v u Q I rx ry q hs
def wKt : R2 := fun x y H Q => ∃ a v, x = .ref a ∧ DGet H a y (some v) ∧ Q v H
theorem xHb {X : Cx} (hu : X.A.units + 1 < cLine) : IxR X wKt := by
  intro value slice pins s sg H x y v u Q I rx ry ⟨a, v0, ex, g, q⟩ hs
  subst ex
  obtain rfl : v = Value.ref a := rx
  exact tail_any (dict_typeIs I g) PySem.F.slot_dict_getitem.lookup (d_getItem hu I g ry fun w' s3 I3 rw' => ⟨v0, H, I3, rw', q⟩) hs
section
variable {X : Cx} {B : XBt} {a b c e : Expr} {es : List Expr} {fa fb fc f : Pg EV} {pos p : Pos}
def xZo (fa fb : Pg EV) : Pg EV := .bind fa fun v => .bind fb fun u => ixP (yGn v) (yGn u)
theorem yVu (C : Ctx X B) (ha : Snd X B a fa) (hb : Snd X B b fb) (hs : PlainIx b := by intro _ _; rfl) : Snd X B (.Subscript a b pos) (xZo fa fb) := by
  intro w Q r h
  refine yYq (pe_ix wWt yG1 yG1 hs) ?_
  refine zZx ha r h fun v w1 x e1 f1 r1 re h1 => ?_
  rw [← e1]
  refine zZx hb r1 h1 fun u w2 y e2 f2 r2 re2 h2 => ?_
  obtain ⟨dx, q1, h2⟩ := yJr h2
  obtain ⟨dy, q2, h2⟩ := yJr h2
  have o1 := ((re.ro r1).fol r1 f2).rn r2 q1
  have o2 := (re2.ro r2).rn r2 q2
  have fo := f1.trans f2
  have es := e2.trans e1
  obtain ⟨z, ez, q⟩ := yVo h2
  cases ei : ixS dx dy with
  | none =>
    rw [ei] at ez
    cases ez
  | some d =>
    rw [ei] at ez
    cases ez
    have k := yYt.keep q es fo
    cases dx with
    | list xs =>
      cases dy with
      | int i =>
        obtain rfl := o2.int
        obtain ⟨p, vs, rfl, hq, ra⟩ := o1.lst r2.sub
        obtain ⟨z, hz, rz⟩ := xUt ra ei
        exact ⟨_, ix_list, p, vs, i, z, rfl, rfl, hq.sq, hz, k.here r2 rz⟩
      | _ => cases ei
    | tuple xs =>
      cases dy with
      | int i =>
        obtain rfl := o2.int
        obtain ⟨p, vs, rfl, hq, ra⟩ := o1.tup
        obtain ⟨z, hz, rz⟩ := xUt ra ei
        exact ⟨_, ix_tup, p, vs, i, z, rfl, rfl, zXs r2.sub hq, hz, k.here r2 rz⟩
      | _ => cases ei
    | str s =>
      cases dy with
      | int i =>
        obtain rfl := o2.int
        obtain rfl := o1.str
        have ei : chD s i = some d := ei
        unfold chD at ei
        split at ei
        · rename_i hl
          cases ec : atI s.cps.toList i with
          | none =>
            rw [ec] at ei
            cases ei
          | some c =>
            rw [ec] at ei
            cases ei
            exact ⟨_, ix_str, s, i, c, rfl, rfl, by rw [sizeLine_eq]; exact hl, ec, k.here r2 (.str _)⟩
        · cases ei
      | _ => cases ei
    | dict es0 =>
      have ei : (if zZ5 es0 && yVs dy then xJx es0 dy else none) = some d := by
        cases dy <;> exact ei
      split at ei
      · rename_i hp
        simp only [Bool.and_eq_true] at hp
        obtain ⟨kk, rfl⟩ := xQd hp.2
        obtain ⟨p, kvs, rfl, hH, rk⟩ := o1.dic r2.sub hp.1
        obtain ⟨v0, e0, rv0⟩ := (rk.val kk).1 d ei
        have ey := xZg o2
        subst ey
        have u1 : X.A.units + 1 < cLine := by have := C.rm.un; omega
        exact ⟨_, xHb u1, p, v0, rfl, by rw [← e0]; exact DGet.k hH, k.here r2 rv0⟩
      · cases ei
    | _ => cases dy <;> cases ei

def WO (X : Cx) (e : Option Expr) : TO := fun sg H Q => Cl (∀ (pins : List (Addr × Obj)) (s : Shared), L2.Inv X pins sg H s → wpAny (model X.prog X.w) X.A (evalPart e X.env) (fun u s' => ∃ o H', L2.Inv X pins sg H' s' ∧ IsPart u o ∧ Q o H') X.xe s)
theorem wY8 {e : Option Expr} : PO X e (WO X e) := ⟨fun pins s _ _ _ I h => h.go pins s I⟩
theorem wQo {e : Option Expr} {t : TO} (h : PO X e t) {sg : L2.St} {H : Hp} {Q : Option Int → Hp → Prop} (q : t sg H Q) : WO X e sg H Q := ⟨fun pins s I => h.run pins s sg H Q I q⟩
def wXo (X : Cx) (B : XBt) (e : Option Expr) (f : Pg (Option Int)) : Prop := ∀ (w : Wd) (Q : Option Int → Hp → Prop), Rep X.K w →
  (f w.m).wp (fun o m' => ∀ (w' : Wd), w'.m = m' → w'.sg = w.sg → FolE w w' → Rep X.K w' → Q o w'.H) (XW X.K B w) → WO X e w.sg w.H Q
def intD : PyData → Option (Option Int)
  | .int i => some (some i)
  | _ => none
def wK6 (o : OV) : Pg (Option Int) := look o fun x => yGd (intD x)
def xJu (f : Pg EV) : Pg (Option Int) := .bind f fun v => wK6 (yGn v)
theorem xV3 : wXo X B none (.ret none) := fun w Q r h => wQo po_none (h w rfl rfl (FolE.refl w) r)
theorem xV2 (h : Snd X B e f) : wXo X B (some e) (xJu f) := by
  intro w Q r hw
  refine wQo (po_some yG1) ?_
  refine zZx h r hw fun v w1 x e1 f1 r1 re h1 => ?_
  obtain ⟨d, q1, h1⟩ := yJr h1
  have o1 := (re.ro r1).rn r1 q1
  obtain ⟨z, ez, q⟩ := yVo h1
  cases d with
  | int i =>
    cases ez
    obtain rfl := o1.int
    exact ⟨i, rfl, q w1 rfl e1 f1 r1⟩
  | _ => cases ez
theorem xZw {eo : Option Expr} {f : Pg (Option Int)} {α : Type} {g : Option Int → Pg α} {P : α → Mem → Prop} {w : Wd} {Q : Option Int → Hp → Prop} (h : wXo X B eo f) (r : Rep X.K w) (hw : (Pg.bind f g w.m).wp P (XW X.K B w))
    (next : ∀ (v : Option Int) (w' : Wd), w'.sg = w.sg → FolE w w' → Rep X.K w' → (g v w'.m).wp P (XW X.K B w') → Q v w'.H) : WO X eo w.sg w.H Q := by
  refine h w Q r ((wp_bind hw).imp (fun v m' q w' e1 e2 f r' => ?_) fun _ _ q => q)
  subst e1
  exact next v w' e2 f r' (q.imp (fun _ _ z => z) fun _ _ z => z.fol (f.s r))
def cutD (xs : List PyData) (lo hi : Option Int) : List PyData := (xs.drop (HT.sIx xs.length 0 lo)).take (HT.sIx xs.length xs.length hi - HT.sIx xs.length 0 lo)
def slS (x : PyData) (lo hi : Option Int) : Option EV :=
  match x with
  | .list xs => some (.fresh (cutD xs lo hi))
  | .tuple xs => some (.d (.tuple (cutD xs lo hi)))
  | .str z => if z.length ≤ 16777216 then some (.d (.str (Txt.slice z lo hi))) else none
  | _ => none
def slP (x : OV) (lo hi : Option Int) : Pg EV := look x fun x => yGd (slS x lo hi)
def wVd (fa : Pg EV) (fl fh : Pg (Option Int)) : Pg EV := .bind fa fun v => .bind fl fun l => .bind fh fun h => slP (yGn v) l h
theorem RA.cut {K : PySem.W.Frag} {F : Hp} {ds : List PyData} {vs : List V} (a : RA K F ds vs) (lo hi : Option Int) : RA K F (cutD ds lo hi) (cutV vs lo hi) := by
  unfold cutD cutV
  rw [← a.len]
  exact (a.drop _).take _
theorem wWs : SlR X (fun x lo hi H Q => ∃ r, SlR X r ∧ r x lo hi H Q) := by
  intro pins s sg H x v vl vu lo hi sl Q I rx hs pl pu ⟨r, hr, q⟩
  exact hr pins s sg H x v vl vu lo hi sl Q I rx hs pl pu q
theorem xK5 {xs : List PyData} {lo hi : Option Int} (h : HT.sIx xs.length 0 lo = 0 ∧ HT.sIx xs.length xs.length hi = xs.length) : cutD xs lo hi = xs := by
  unfold cutD
  rw [h.1, h.2]
  simp
theorem wQx {lo hi : Option Expr} {fl fh : Pg (Option Int)} {p2 : Pos} (ha : Snd X B a fa) (hl : wXo X B lo fl) (hh : wXo X B hi fh) : Snd X B (.Subscript a (.Slice lo hi none p2) pos) (wVd fa fl fh) := by
  intro w Q r h
  refine yYq (pe_slice wWs yG1 wY8 wY8) ?_
  refine zZx ha r h fun v w1 x e1 f1 r1 re h1 => ?_
  rw [← e1]
  refine xZw hl r1 h1 fun l w2 e2 f2 r2 h2 => ?_
  rw [← e2]
  refine xZw hh r2 h2 fun h w3 e3 f3 r3 h3 => ?_
  obtain ⟨d, q1, h3⟩ := yJr h3
  have o1 := (((re.ro r1).fol r1 f2).fol r2 f3).rn r3 q1
  have fo := f1.trans (f2.trans f3)
  have es := e3.trans (e2.trans e1)
  obtain ⟨z, ez, q⟩ := yVo h3
  have k := yYt.keep q es fo
  cases d with
  | list xs =>
    cases ez
    obtain ⟨p, vs, rfl, hq, ra⟩ := o1.lst r3.sub
    exact ⟨_, sl_list, p, vs, rfl, hq.sq, fun b hb => k.lst r3 (ra.cut l h) hb⟩
  | tuple xs =>
    cases ez
    obtain ⟨p, vs, rfl, hq, ra⟩ := o1.tup
    refine ⟨_, sl_tupA, p, vs, rfl, zXs r3.sub hq, fun hw => ?_, fun _ b hb => k.tup r3 (ra.cut l h) hb⟩
    refine k.here r3 ?_
    rw [← ra.len] at hw
    rw [xK5 hw]
    exact R.tup hq ra
  | str s =>
    have ez : (if s.length ≤ 16777216 then some (EV.d (.str (Txt.slice s l h))) else none) = some z := ez
    split at ez
    · rename_i hz
      cases ez
      obtain rfl := o1.str
      exact ⟨_, C8.sl_txt, s, rfl, by rw [sizeLine_eq]; exact hz, k.here r3 (.str _)⟩
    · cases ez
  | _ => cases ez

theorem xZ4 {α : Type} : ∀ {l : List α} {i j : Nat} {a : α}, l.Nodup → l[i]? = some a → l[j]? = some a → i = j
  | [], _, _, _, _, h, _ => by simp at h
  | b :: l, 0, 0, _, _, _, _ => rfl
  | b :: l, 0, j + 1, a, n, h1, h2 => by
    simp at h1 h2
    subst h1
    exact absurd (List.mem_of_getElem? h2) (List.nodup_cons.mp n).1
  | b :: l, i + 1, 0, a, n, h1, h2 => by
    simp at h1 h2
    subst h2
    exact absurd (List.mem_of_getElem? h1) (List.nodup_cons.mp n).1
  | b :: l, i + 1, j + 1, a, n, h1, h2 => by
    simp at h1 h2
    rw [xZ4 (List.nodup_cons.mp n).2 h1 h2]
theorem xHm {K : PySem.W.Frag} {w : Wd} (r : Rep K w) {n : Nat} {o o' : Ob} {a : Addr} {u : HO} (h1 : w.m.cs[n]? = some o) (h2 : w.ro[n]? = some a) (h4 : OH K w.F (upd w.H a u) (fun _ => False) a o') (hni : (∀ c fs, o ≠ .ins c fs) ∨ (∀ C d vs, w.H a = some (.ins C d vs) → ∃ C' vs', u = .ins C' d vs') := by exact .inl (by intro _ _ z; cases z)) :
    Rep K { w with m := { w.m with cs := w.m.cs.set n o' }, H := upd w.H a u } ∧ FolE w { w with m := { w.m with cs := w.m.cs.set n o' }, H := upd w.H a u } := by
  have ar : a ∈ w.ro := List.mem_of_getElem? h2
  have q1 := r.rf n a h2
  have oth : ∀ b o, b ≠ a → w.H b = some o → upd w.H a u b = some o := fun b o n e => by
    rw [upd_ne n]
    exact e
  have nod : ∀ {b d : Addr}, w.H d = some (.own b) → d ≠ a := fun {b d} e z => (r.noOwnDict e).1 (z ▸ ar)
  have liv : ∀ b, w.H b ≠ none → upd w.H a u b ≠ none := fun b h => by
    by_cases e : b = a
    · rw [e, upd_same]
      simp
    · rw [upd_ne e]
      exact h
  have tb' : (TK K w).P (upd w.H a u) ∧ (∀ b ps, w.F b ≠ some (.tbl ps)) ∧ ∀ b ps, upd w.H a u b = some (.tbl ps) → ∃ q, (b, q) ∈ xVk K := by
    obtain ⟨a', k1, k2⟩ := r.cs n _ h1
    rw [h2] at k1
    cases k1
    exact ⟨(TK _ w).us r.tb.1 k2.soft, r.tb.2.1, xQ1 r.tb.2.2 (h4.ntbl upd_same)⟩
  have nl : n < w.m.cs.length := (List.getElem?_eq_some_iff.mp h1).1
  have insO : (∃ c fs, o = .ins c fs) → ∃ c fs, o' = .ins c fs := by
    rintro ⟨c, fs, rfl⟩
    rcases hni with z | z
    · exact absurd rfl (z c fs)
    · obtain ⟨a', k1, k2⟩ := r.cs n _ h1
      rw [h2] at k1
      cases k1
      obtain ⟨C, dx, vs, e1, _⟩ := k2
      obtain ⟨C', vs', rfl⟩ := z C dx vs e1
      cases o' with
      | lst xs => obtain ⟨vs, z, _⟩ := h4; rw [upd_same] at z; cases z
      | dic xs => obtain ⟨vs, z, _⟩ := h4; rw [upd_same] at z; cases z
      | ins c' fs' => exact ⟨_, _, rfl⟩
      | dit W es => obtain ⟨vs, z, _⟩ := h4; rw [upd_same] at z; cases z
  have rf' : ∀ k b, w.ro[k]? = some b → w.F b = some (mkC k) ∨ w.F b = none ∧ ∃ c fs, (w.m.cs.set n o')[k]? = some (.ins c fs) := fun k b hk => by
    rcases r.rf k b hk with q | ⟨q, c, fs, hc⟩
    · exact .inl q
    · refine .inr ⟨q, ?_⟩
      by_cases e : k = n
      · subst e
        rw [h1] at hc
        cases hc
        obtain ⟨c', fs', rfl⟩ := insO ⟨_, _, rfl⟩
        exact ⟨c', fs', List.getElem?_set_self nl⟩
      · exact ⟨c, fs, by rw [List.getElem?_set_ne (Ne.symm e)]; exact hc⟩
  refine ⟨⟨fun b o e hn => ?_, r.le, fun j v h => ?_, fun k zs h => ?_, ?_, rf', r.rk, r.nd, r.ow, fun b h => liv b (r.zl b h), fun d b h => ?_, tb'⟩, ⟨rfl, rfl, Same.refl _, ⟨[], (List.append_nil _).symm⟩, fun b o e z _ => oth b o (fun q => z (q ▸ ar)) e, fun _ h => .inl h, liv, fun _ h => .inl h, fun _ h => h⟩⟩
  · have n : b ≠ a := fun z => by
      have e : w.F b = some o := e
      rw [z] at e
      rcases q1 with q1 | ⟨q1, _⟩
      · rw [q1] at e
        cases e
        exact hn _ rfl
      · rw [q1] at e
        cases e
    exact oth b o n (r.sub b o e hn)
  · obtain ⟨x, p1, p2⟩ := r.sl j v h
    refine ⟨x, p1, ?_⟩
    cases v with
    | d y => exact p2
    | cell n => exact p2
    | thk t => exact p2
    | ob zs =>
      obtain ⟨b, e, k1, k3, k4, k5⟩ := p2
      exact ⟨b, e, k1.keep (Same.refl _) (fun u => oth b u fun z => k4 (z ▸ ar)) (fun d z => oth d _ (nod z) z) (fun _ _ z => z), k3, k4, k5⟩
  · rcases xQ3 (show (w.m.cs.set n o')[k]? = some zs from h) with ⟨e1, e2⟩ | ⟨e1, e2⟩
    · subst e1 e2
      exact ⟨a, h2, h4⟩
    · obtain ⟨b, k1, k2⟩ := r.cs k zs e2
      have nb : b ≠ a := fun z => e1 (by
        subst z
        exact xZ4 r.nd k1 h2)
      exact ⟨b, k1, k2.keep (Same.refl _) (fun u => oth b u nb) (fun d z => oth d _ (nod z) z) (fun _ _ z => z)⟩
  · show (w.m.cs.set n o').length = _
    rw [List.length_set]
    exact r.ln
  · have h : upd w.H a u d = some (.own b) := h
    by_cases q : d = a
    · rw [q] at h
      exact absurd h h4.noOwn
    · rw [upd_ne q] at h
      obtain ⟨C, vs, e⟩ := r.oo d b h
      by_cases z : b = a
      · subst z
        rcases hni with hni | hni
        · obtain ⟨a', ha', hO⟩ := r.cs n o h1
          rw [h2] at ha'
          cases ha'
          cases o with
          | lst xs =>
            obtain ⟨ws, k1, _⟩ := hO
            rw [k1] at e
            cases e
          | dic es =>
            obtain ⟨ws, k1, _⟩ := hO
            rw [k1] at e
            cases e
          | ins c fs => exact absurd rfl (hni c fs)
          | dit W es =>
            obtain ⟨ws, k1, _⟩ := hO
            rw [k1] at e
            cases e
        · obtain ⟨C', vs', eu⟩ := hni C d vs e
          exact ⟨C', vs', by rw [eu]; exact upd_same⟩
      · exact ⟨C, vs, oth b _ z e⟩
def putS (o : Ob) (i d : PyData) : Option Ob := match o, i with
  | .lst xs, .int k => (ixN xs.length k).map fun j => .lst (xs.set j d)
  | .dic es, k => if yVs k && decide (es.length < 16777216) then some (.dic (xHk es k d)) else none
  | _, _ => none
def putAt (v : EV) (o' : Ob) : Pg Unit := match v with
  | .cell n => fun m => .ok () { m with cs := m.cs.set n o' }
  | .pk j _ => fun m => .ok () (setM m j (.ob o'))
  | _ => .stuck
def xZm (v : EV) : Pg Ob := fun m => match v with
  | .cell n => match m.cs[n]? with
    | some o => .ok o m
    | none => .bad
  | .pk j _ => match m.sl[j]? with
    | some (some (.ob o)) => .ok o m
    | _ => .bad
  | _ => .bad
theorem wWr {K : PySem.W.Frag} {w0 w : Wd} {v : EV} {x : V} {P : Ob → Mem → Prop} {E : Exn → Mem → Prop} (r0 : Rep K w0) (re : RE K w0 v x) (r : Rep K w) (hf : FolE w0 w) (hs : w.sg = w0.sg) (h : (xZm v w.m).wp P E) :
    ∃ a o, x = .ref a ∧ OH K w.F w.H (fun _ => False) a o ∧ P o w.m ∧ ∀ (o' : Ob) (u : HO) {R : Unit → Mem → Prop} {E' : Exn → Mem → Prop}, ((∀ c fs, o ≠ .ins c fs) ∨ (∀ C d vs, w.H a = some (.ins C d vs) → ∃ C' vs', u = .ins C' d vs')) → (∀ Z, OH K w.F w.H Z a o → OH K w.F (upd w.H a u) Z a o') → (putAt v o' w.m).wp R E' → ∃ w' : Wd, w'.H = upd w.H a u ∧ w'.sg = w.sg ∧ Rep K w' ∧ FolS w w' ∧ R () w'.m := by
  cases v with
  | d _ => exact h.elim
  | new _ => exact h.elim
  | cell n =>
    obtain ⟨p, rfl, hp⟩ := re
    have hp := hf.at hp
    unfold xZm at h
    dsimp only at h
    split at h
    · rename_i o ec
      obtain ⟨p', hp', hO⟩ := r.cs n o ec
      rw [hp] at hp'
      cases hp'
      refine ⟨p, o, rfl, hO, h, fun o' u R E' hni ho q => ?_⟩
      obtain ⟨r5, f5⟩ := xHm r ec hp (ho _ hO) hni
      exact ⟨{ w with m := { w.m with cs := w.m.cs.set n o' }, H := upd w.H p u }, rfl, rfl, r5, f5.s r, q⟩
    · exact h.elim
  | pk j o0 =>
    unfold xZm at h
    dsimp only at h
    split at h
    · rename_i o ec
      obtain ⟨_, g2⟩ := re
      obtain ⟨z, g3, b, g4, g5, _⟩ := r.sl j _ ec
      have g3' := g3
      rw [hs, g2] at g3
      cases g3
      subst g4
      refine ⟨b, o, rfl, g5.any, h, fun o' u R E' hni ho q => ?_⟩
      obtain ⟨r5, f5⟩ := xKu r ec g3' (ho _ g5) hni
      exact ⟨{ w with m := setM w.m j (.ob o'), H := upd w.H b u }, rfl, rfl, r5, f5, q⟩
    · exact h.elim
def xJg (v : EV) (i : OV) (d : PyData) : Pg Fl := .bind (xZm v) fun o => look i fun k => .bind (yGd (putS o k d)) fun o' => .bind (putAt v o') fun _ => .ret .next
def yHr (fe fo fi : Pg EV) : Pg Fl := .bind fe fun v => .bind (toA v) fun a => .bind (yHc a) fun d => .bind fo fun o => .bind fi fun i => xJg o (yGn i) d
theorem wXj {X : Cx} : PSet X (fun o i v H Q => ∃ t, PSet X t ∧ t o i v H Q) := by
  intro pins s sg H o i v ov iv u Q I ro ri rv ⟨t, ht, q⟩
  exact ht pins s sg H o i v ov iv u Q I ro ri rv q
theorem yH4 {o i : Expr} {fo fi : Pg EV} {p2 : Pos} (C : Ctx X B) (he : Snd X B e f) (ho : Snd X B o fo) (hi : Snd X B i fi) (hs : swapsWithSole [.Subscript o i p2] e pos.line X.env = pure false := by rfl) (hw : swappedStores [.Subscript o i p2] e X.env = pure none := by rfl)
    (h1 : (assignEach [.Subscript o i p2] X.env).map (·.2) = [assign (.Subscript o i p2) X.env] := by rfl)
    (ha : ∀ v, assign (.Subscript o i p2) X.env v = (do
      let ov ← holding [v] (eval o X.env)
      let iv ← holding [v, ov] (eval i X.env)
      standAt p2
      holding [v, ov, iv] (setItem ov iv v)
      release [v, ov, iv] []) := by intro _; rfl) : xWp X B (.Assign [.Subscript o i p2] e pos) (yHr f fo fi) := by
  intro w D r hh
  refine xZs (ps_asg yG1 (pg_sub yG1 yG1 wXj ha) hs hw h1) ?_
  refine zZx he r hh fun v w1 y e1 f1 r1 re q1 => ?_
  obtain ⟨a, w2, ea, e2, e3, f2, r2, rv⟩ := yG5 r1 re
  have q2 := wp_bind q1
  rw [ea] at q2
  obtain ⟨d, ed, q3⟩ := yHb (wp_bind (show (Pg.bind (yHc a) _ w2.m).wp (yG3 X.K w D) (XW X.K B w1) from q2))
  subst ed
  have s2 : w2.sg = w.sg := e2.trans e1
  have rv : R X.K w2.F d y := rv
  rw [← e3, ← s2]
  have q3 := q3.imp (fun _ _ z => z) fun _ _ z => z.fol (f2.s r1)
  refine zZx ho r2 q3 fun ov w3 ox e4 f3 r3 re3 q4 => ?_
  have s3 : w3.sg = w.sg := e4.trans s2
  rw [← e4]
  refine zZx hi r3 q4 fun iv w4 ix e5 f4 r4 re4 q5 => ?_
  have s4 : w4.sg = w.sg := e5.trans s3
  have fol : FolE w w4 := f1.trans (f2.trans (f3.trans f4))
  have rd : R X.K w4.F d y := (rv.mono f3.ext).mono f4.ext
  obtain ⟨p, o, rfl, hO, q6, next⟩ := wWr r3 re3 r4 f4 e5 (wp_bind q5)
  obtain ⟨k, ek, q7⟩ := yJr q6
  have oi := (re4.ro r4).rn r4 ek
  obtain ⟨o', eo, q8⟩ := yVo (wp_bind q7)
  have fin : ∀ {u : HO}, (∀ Z, OH X.K w4.F w4.H Z p o → OH X.K w4.F (upd w4.H p u) Z p o') → D.nx w3.sg (upd w4.H p u) := fun {u} h => by
    have hni : ∀ c fs, o ≠ .ins c fs := fun c fs z => by
      subst z
      cases k <;> cases eo
    obtain ⟨w5, eH, es, r5, f5, z⟩ := next o' u (.inl hni) h (wp_bind q8)
    have z := z w5 rfl ((fol.s r).trans f5) r5
    rw [eH, es, e5] at z
    exact z
  cases o with
  | lst xs =>
    cases k with
    | int k =>
      have eo : (ixN xs.length k).map (fun j => Ob.lst (xs.set j d)) = some o' := eo
      cases ej : ixN xs.length k with
      | none =>
        rw [ej] at eo
        cases eo
      | some j =>
        rw [ej] at eo
        cases eo
        obtain rfl := oi.int
        obtain ⟨vs, hH, ra⟩ := hO
        exact ⟨_, set_list, p, vs, k, j, rfl, rfl, hH, by rw [← ra.len]; exact ej, fin fun Z _ => ⟨_, upd_same, ra.set j rd⟩⟩
    | _ => cases eo
  | dic es0 =>
    have eo : (if yVs k && decide (es0.length < 16777216) then some (Ob.dic (xHk es0 k d)) else none) = some o' := by
      cases k <;> exact eo
    split at eo
    · rename_i hk
      simp only [Bool.and_eq_true, decide_eq_true_eq] at hk
      cases eo
      obtain ⟨kk, rfl⟩ := xQd hk.1
      obtain rfl := xZg oi
      obtain ⟨kvs, hH, rk⟩ := hO
      have u1 : X.A.units + 1 < cLine := by have := C.rm.un; omega
      exact ⟨_, set_dict u1, p, _, rfl, DPut.k hH (by rw [← rk.len, sizeLine_eq]; exact hk.2), fin fun Z _ => ⟨_, upd_same, rk.put rd kk⟩⟩
    · cases eo
  | ins c fs => cases k <;> cases eo
  | dit W es => cases k <;> cases eo

variable {k : Nat} {x : Str} {ps : List Str}
def WK (X : Cx) (kws : List Keyword) : TA := fun sg H Q => Cl (∀ (pos : Pos) (pins : List (Addr × Obj)) (s : Shared), L2.Inv X pins sg H s → wpAny (model X.prog X.w) X.A (evalAll ((backToKw pos (keywordEach kws X.env)).map (·.2))) (AP X pins sg Q) X.xe s)
theorem wG9 {kws : List Keyword} : PK X kws (WK X kws) := ⟨fun pos pins s _ _ _ I h => h.go pos pins s I⟩
theorem wQp {kws : List Keyword} {t : TA} (h : PK X kws t) {sg : L2.St} {H : Hp} {Q : List V → Hp → Prop} (q : t sg H Q) : WK X kws sg H Q := ⟨fun pos pins s I => h.run pos pins s sg H Q I q⟩
def wQi (X : Cx) (B : XBt) (kws : List Keyword) (f : Pg (List AV)) : Prop := ∀ (w : Wd) (Q : List V → Hp → Prop), Rep X.K w → (f w.m).wp (xUe X.K w Q) (XW X.K B w) → WK X kws w.sg w.H Q
theorem zZu : wQi X B [] zZa := fun w Q r h => wQp pk_nil (h w [] rfl rfl (FolE.refl w) r .nil)
theorem yH7 {kws : List Keyword} {f : Pg (List AV)} {α : Type} {g : List AV → Pg α} {P : α → Mem → Prop} {w : Wd} {Q : List V → Hp → Prop} (h : wQi X B kws f) (r : Rep X.K w) (hw : (Pg.bind f g w.m).wp P (XW X.K B w))
    (next : ∀ (v : List AV) (w' : Wd) (xs : List V), w'.sg = w.sg → FolE w w' → Rep X.K w' → Paired (RV X.K w') v xs → (g v w'.m).wp P (XW X.K B w') → Q xs w'.H) : WK X kws w.sg w.H Q := by
  refine h w Q r ((wp_bind hw).imp (fun v m' q w' x e1 e2 f r' re => ?_) fun _ _ q => q)
  subst e1
  exact next v w' x e2 f r' re (q.imp (fun _ _ z => z) fun _ _ z => z.fol (f.s r))
theorem zZ7 {nm : Option Str} {kpos : Pos} {kws : List Keyword} {g : Pg (List AV)} (h1 : Snd X B e f) (h2 : wQi X B kws g) : wQi X B (⟨nm, e, kpos⟩ :: kws) (zQc f g) := by
  intro w Q r h
  refine wQp (pk_cons yG1 wG9) ?_
  refine zZx h1 r h fun v w1 x e1 f1 r1 re h' => ?_
  obtain ⟨a, w2, ea, e2, e3, f2, r2, rv⟩ := yG5 r1 re
  have h'' := wp_bind h'
  rw [ea] at h''
  rw [← e1, ← e2, ← e3]
  have h3 : (Pg.bind g (fun r => Pg.ret (a :: r)) w2.m).wp (xUe X.K w Q) (XW X.K B w2) := Res.wp.imp h'' (fun _ _ q => q) fun _ _ q => q.fol (f2.s r1)
  refine yH7 h2 r2 h3 fun vs w3 xs e4 f3 r3 rvs q => ?_
  exact q w3 (x :: xs) rfl (e4.trans (e2.trans e1)) (f1.trans (f2.trans f3)) r3 (.cons (rv.fol f3) rvs)
theorem yHp {α β : Type} {P : α → β → Prop} : ∀ {as : List α} {xs : List β} {bs : List α} {ys : List β}, Paired P as xs → Paired P bs ys → Paired P (as ++ bs) (xs ++ ys)
  | _, _, _, _, .nil, h => h
  | _, _, _, _, .cons h t, g => .cons h (yHp t g)
theorem paired_get {α β : Type} {P : α → β → Prop} : ∀ {as : List α} {xs : List β} (i : Nat), Paired P as xs → (as[i]? = none ∧ xs[i]? = none) ∨ ∃ a x, as[i]? = some a ∧ xs[i]? = some x ∧ P a x
  | _, _, _, .nil => .inl ⟨rfl, rfl⟩
  | _, _, 0, .cons h _ => .inr ⟨_, _, rfl, rfl, h⟩
  | _, _, i + 1, .cons _ t => by
    rcases paired_get i t with h | ⟨a, x, h1, h2, h3⟩
    · exact .inl (by simpa using h)
    · exact .inr ⟨a, x, by simpa using h1, by simpa using h2, h3⟩
def pick {α : Type} (is : List Nat) (l : List α) : List α := is.filterMap fun i => l[i]?
theorem yY4 {α β : Type} {P : α → β → Prop} {as : List α} {xs : List β} (h : Paired P as xs) : ∀ is : List Nat, Paired P (pick is as) (pick is xs)
  | [] => .nil
  | i :: is => by
    unfold pick
    rcases paired_get i h with ⟨h1, h2⟩ | ⟨a, x, h1, h2, h3⟩
    · rw [List.filterMap_cons_none h1, List.filterMap_cons_none h2]
      exact yY4 h is
    · rw [List.filterMap_cons_some h1, List.filterMap_cons_some h2]
      exact .cons h3 (yY4 h is)
theorem yGx : ∀ {vs : List V} {us : List Value}, Vals vs us → Paired RelV vs us
  | _, _, .nil => .nil
  | _, _, .cons h t => .cons h (yGx t)
theorem yH8 : ∀ {vs : List V} {us : List Value}, Paired RelV vs us → Vals vs us
  | _, _, .nil => .nil
  | _, _, .cons h t => .cons h (yH8 t)
end
end Ev

namespace Ev
open PySem PySem.Spec PyProof.Rows L2

section
variable {X : Cx} {B : XBt} {a b c e : Expr} {es : List Expr} {fa fb fc f : Pg EV} {pos p : Pos}
def wK0 : PyData → Option EV
  | .int i => some (.d (.int (-i)))
  | _ => none
def xYw (f : Pg EV) : Pg EV := .bind f fun v => look (yGn v) fun x => yGd (wK0 x)
theorem xGf (h : Snd X B a fa) : Snd X B (.UnaryOp .USub a pos) (xYw fa) := by
  intro w Q r hw
  refine yYq (pe_un un_neg yG1) ?_
  refine zZx h r hw fun v w1 x e1 f1 r1 re h1 => ?_
  obtain ⟨d, q1, h1⟩ := yJr h1
  have o1 := (re.ro r1).rn r1 q1
  obtain ⟨z, ez, q⟩ := yVo h1
  cases d with
  | int i =>
    cases ez
    obtain rfl := o1.int
    exact ⟨i, rfl, (yYt.keep q e1 f1).here r1 (.int _)⟩
  | _ => cases ez

def strOk (i : Int) : Bool := decide (i.natAbs.log2 < 1920)
def wWb : Pg EV := .ret (.new (.dic []))
theorem xVx : Snd X B (.Dict [] [] pos) wWb := by
  intro w Q r hw
  refine yYq pe_dnewK ?_
  intro p hp
  obtain ⟨r2, f2⟩ := lay r hp (.dK [])
  exact hw { w with H := upd w.H p (.dK []) } _ rfl rfl f2 r2 (xG7 r hp .nil)
theorem xQa {i : Nat} : ∀ d m x m', yHu i d m ≠ .thr x m' := fun _ _ _ _ h => by cases h
theorem xGx : ∀ d m x m', xW1 d m ≠ .thr x m' := fun d m x m' h => by cases d <;> cases h
theorem xJn {g : PyData → Pg Unit} {h : List PyData → Pg Unit} (h1 : ∀ d m x m', g d m ≠ .thr x m') (h2 : ∀ d m x m', h d m ≠ .thr x m') : ∀ d m x m', xZv g h d m ≠ .thr x m' := fun d m x m' z => by
  cases d with
  | nil => cases z
  | cons d ds =>
    have z : Pg.bind (g d) (fun _ => h ds) m = .thr x m' := z
    unfold Pg.bind at z
    cases e : g d m with
    | ok u m1 =>
      rw [e] at z
      exact h2 _ _ _ _ z
    | thr x1 m1 => exact h1 _ _ _ _ e
    | bad =>
      rw [e] at z
      cases z
theorem wZh {n : Nat} {g : List PyData → Pg Unit} (h : ∀ d m x m', g d m ≠ .thr x m') : ∀ d m x m', xQ0 n g d m ≠ .thr x m' := fun d m x m' z => by
  cases d with
  | tuple ds =>
    have z : (if ds.length = n then g ds else .stuck) m = .thr x m' := z
    split at z
    · exact h _ _ _ _ z
    · cases z
  | list ds =>
    have z : (if ds.length = n then g ds else .stuck) m = .thr x m' := z
    split at z
    · exact h _ _ _ _ z
    · cases z
  | _ => cases z
end
end Ev

namespace Ev
open PySem PySem.Spec PyProof.Rows L2

def xZh (ns : List Int) : PyData := .list (ns.map PyData.int)
def wGm (K : PySem.W.Frag) (h : Heap) : Prop := ∀ x ∈ yKw, ∀ c P, PySem.W.tabIn K x = some (c, P) → PySem.W.CodeHd h c P ∧ h.get? P = some (PySem.W.tabObj #[]) ∧ K.lookup P = none
def xK9 (K : PySem.W.Frag) : Bool := yKw.all fun x => match PySem.W.tabIn K x with
  | none => true
  | some p => yKw.all fun y => x == y || match PySem.W.tabIn K y with
    | none => true
    | some q => p.2 != q.2
structure TabG (K : PySem.W.Frag) (mg : Str → Option Value) (base : Heap) : Prop where
  b : ∀ x ∈ yKw, ∀ c P, PySem.W.tabIn K x = some (c, P) → LamX.TabB base mg c P
  ap : xK9 K = true
def tabAt (K : PySem.W.Frag) (b : Addr) : Prop := b ∈ (xVk K).map Prod.fst
instance {K : PySem.W.Frag} {b : Addr} : Decidable (tabAt K b) := inferInstanceAs (Decidable (_ ∈ _))
theorem xU9 {K : PySem.W.Frag} {p : Addr × Str} (h : p ∈ xVk K) : ∃ x, x ∈ yKw ∧ p.2 = wUk x ∧ ∃ c, PySem.W.tabIn K x = some (c, p.1) := by
  obtain ⟨x, hx, q⟩ := List.mem_filterMap.mp h
  cases e : PySem.W.tabIn K x with
  | none => rw [e] at q; cases q
  | some r =>
    rw [e] at q
    cases q
    exact ⟨x, hx, rfl, r.1, e⟩
theorem xJf {K : PySem.W.Frag} {b : Addr} (h : tabAt K b) : ∃ x, x ∈ yKw ∧ ∃ c, PySem.W.tabIn K x = some (c, b) := by
  obtain ⟨p, hp, e⟩ := List.mem_map.mp h
  obtain ⟨x, hx, _, c, ec⟩ := xU9 hp
  exact ⟨x, hx, c, e ▸ ec⟩
def wXm (K : PySem.W.Frag) (a : Addr) (H : Hp) : Prop := ∀ b, H b = none ∨ (tabAt K b ∧ H b = some (.tbl #[])) ∨ (b = a ∧ ∃ ob xs, H b = some (.frz ob (.lst xs)))
theorem xJ1 {K : PySem.W.Frag} {H : Hp} (h : ∀ b, tabAt K b → H b = some (.tbl #[])) : LamX.Tabs (xVk K) H := fun p hp => LamX.TabS.nil (h _ (List.mem_map.mpr ⟨p, hp, rfl⟩))
theorem xKr {P : Program} {w : World} {K : PySem.W.Frag} {mg mb : Str → Option Value} {k : Nat} {fa a : Addr} {fd : FuncData} {x : Str} {g : Fn} {s₁ : Shared} {vs : List Value} {ns : List Int}
    (KX : K.In s₁.heap) (hns : s₁.heap.Ns mainGlobals mg) (hb : s₁.heap.Ns builtinsNs mb) (hbb : ∀ x : Str, x ≠ "__name__" → mb x = bootBuiltins x) (hlim : s₁.heap.NoLimit) (hsm : ∃ mm, s₁.heap.Ns sysModules mm) (hg : s₁.gens = #[])
    (tf : wGm K s₁.heap) (hap : xK9 K = true) (hbm : ∃ (bm : Addr) (ob : Obj), mg "__builtins__" = some (.ref bm) ∧ bm ≠ builtinsNs ∧ s₁.heap.get? bm = some ob ∧ ob.cls = .type "module" ∧ ob.dict = some builtinsNs ∧ ob.data = .plain)
    (ha : s₁.heap.get? a = some { cls := .type "list", data := .seq vs.toArray }) (hi : IntsAre vs ns) (hl : ns.length ≤ sizeLine) (hr : Room k callerA)
    (F : ∀ base : Heap, K.In base → base.Ns mainGlobals mg → SM base → TabG K mg base → FnG P w K mg base k fa fd [x] (spG K 1 g)) (hbind : ∀ (s : Shared) (u : Value), BindsTo s fd ⟨[u], []⟩ [(x, u)])
    (law : ∃ m, g [.d (xZh ns)] ⟨[], []⟩ = .ok (.d (.bool true)) m) :
    codeAny (model P w) callerA (.call (.ref fa) ⟨[.ref a], []⟩) (fun r s' => r = .ok (.ret (.bool true)) ∧ OldK s₁.heap s'.heap ∧ s'.os = s₁.os ∧ AllBare s'.gens) s₁ := by
  have rv := vals_ints hi
  have lenV := hi.length
  have isTab : ∀ b, tabAt K b → s₁.heap.get? b = some (PySem.W.tabObj #[]) ∧ K.lookup b = none := fun b h => by
    obtain ⟨x, hx, c, e⟩ := xJf h
    exact (tf x hx c b e).2
  have notA : ¬ tabAt K a := fun h => by
    have q := (isTab a h).1
    rw [ha] at q
    injection q with q
    injection q with _ _ q
    cases q
  have core : ∀ H : Hp, wXm K a H → (∀ b, tabAt K b → H b = some (.tbl #[])) → LQ K H a (ns.map V.int) → HOk P w H s₁.heap → (H a ≠ none → K.lookup a = none) →
      codeAny (model P w) callerA (.call (.ref fa) ⟨[.ref a], []⟩) (fun r s' => r = .ok (.ret (.bool true)) ∧ OldK s₁.heap s'.heap ∧ s'.os = s₁.os ∧ AllBare s'.gens) s₁ := by
    intro H hO hT hS hok hK
    have hid : ∀ {b : Addr} {o : Obj}, s₁.heap.get? b = some o → H b = none → (hidT s₁.heap H).get? b = some o := fun e n => hidT_get e n
    -- neither a list nor an empty table: nothing is told of it
    have free : ∀ {b : Addr} {o : Obj}, s₁.heap.get? b = some o → (∀ ws n, o.data ≠ .seq ws n) → o.data ≠ .fields #[] → H b = none := fun {b o} e h1 h2 => by
      rcases hO b with q | ⟨q, _⟩ | ⟨q, _⟩
      · exact q
      · rw [(isTab b q).1] at e
        cases e
        exact absurd rfl h2
      · rw [q, ha] at e
        cases e
        exact absurd rfl (h1 _ _)
    have noD : ∀ {b : Addr} {o : Obj} {es : Array DictEntry} {ep : Nat}, s₁.heap.get? b = some o → o.data = .dict es ep → H b = none := fun {b o es ep} e d =>
      free e (fun ws n z => by rw [d] at z; cases z) fun z => by rw [d] at z; cases z
    have nsK : ∀ {b : Addr} {m : Str → Option Value}, s₁.heap.Ns b m → (hidT s₁.heap H).Ns b m := fun {b m} ⟨o, es, ep, e, d, r⟩ => ⟨o, es, ep, hid e (noD e d), d, r⟩
    have hKb : K.In (hidT s₁.heap H) := fun b o e => hid (KX b o e) (by
      rcases hO b with q | ⟨q, _⟩ | ⟨q, ob, xs, z⟩
      · exact q
      · rw [(isTab b q).2] at e
        cases e
      · rw [q] at e z
        rw [hK (by rw [z]; simp)] at e
        cases e)
    have hM : Mod K mg (hidT s₁.heap H) := ⟨hKb, nsK hns, ⟨mb, nsK hb, hbb⟩, let ⟨mc, h1, h2⟩ := hlim; ⟨mc, nsK h1, h2⟩⟩
    have hTG : TabG K mg (hidT s₁.heap H) := TabG.mk (fun x hx c Q e => by
      obtain ⟨cd, tq, _⟩ := tf x hx c Q e
      have gQ : mainGlobals ≠ Q := fun z => by
        obtain ⟨o, es, ep, e1, d, _⟩ := hns
        rw [z, tq] at e1
        cases e1
        cases d
      refine ⟨?_, ?_, gQ⟩
      · obtain ⟨o, us, fi, tfi, fl, tg, fr, tx, tt, e1, k1, k2, k3, rest⟩ := cd
        refine ⟨o, us, fi, tfi, fl, tg, fr, tx, tt, hid e1 (free e1 (fun ws n z => by rw [k2] at z; cases z) fun z => ?_), k1, k2, k3, rest⟩
        rw [k2] at z
        injection z with z
        rw [z] at k3
        simp at k3
      · obtain ⟨bm, ob, b1, b2, b3, b4, b5, b6⟩ := hbm
        refine ⟨bm, ob, b1, b2, fun z => ?_, fun z => ?_, hid b3 (free b3 (fun ws n z => by rw [b6] at z; cases z) fun z => by rw [b6] at z; cases z), b4, b5, b6⟩
        · obtain ⟨o, es, ep, e1, d, _⟩ := hns
          rw [z, e1] at b3
          cases b3
          rw [d] at b6
          cases b6
        · rw [z, tq] at b3
          cases b3
          cases b6) hap
    have e0 : Env0 P w K mg (hidT s₁.heap H) callerA [] s₁ H := ⟨rfl, hM, fun b o e => of_hidT e, Nat.le_of_eq (hidT_size _ _), trivial, fun b hb => absurd (show b ∈ ([] : List Addr) from hb) (by simp), hok, .of_eq hg⟩
    have sp : spG K 1 g [.ref a] H (fun v _ => v = .bl true) fun _ _ _ => False := by
      obtain ⟨m, e⟩ := law
      have frz0 : ∀ b u, H b = some u → (∃ ob xs, u = .frz ob xs) ∨ u = .tbl #[] := fun b u z => by
        rcases hO b with q | ⟨_, q⟩ | ⟨_, ob, xs, q⟩
        · rw [q] at z; cases z
        · rw [q] at z; cases z; exact .inr rfl
        · rw [q] at z; cases z; exact .inl ⟨_, _, rfl⟩
      -- what is frozen from the start: all but the table
      let F0 : Hp := fun b => if tabAt K b then none else H b
      have fs : Same F0 H := fun b u z => by
        have z : (if tabAt K b then none else H b) = some u := z
        split at z
        · cases z
        · exact z
      have hS0 : LQ K F0 a (ns.map V.int) := by
        have e : F0 a = H a := if_neg notA
        rcases hS with (z | z) | z
        · exact .inl (.inl (e.trans z))
        · obtain ⟨ob, z⟩ := z
          exact .inl (.inr ⟨ob, e.trans z⟩)
        · exact .inr z
      refine ⟨{ F := F0, ro := [], m := ⟨[], []⟩, sg := [], H := H, Z := fun b => H b ≠ none, T := T0 }, [.d (xZh ns)], rfl, rfl, rfl, fun _ h => h, ⟨xof fs, Nat.le_refl _, fun i v h => by simp at h, fun n xs h => by simp at h, rfl, fun n b h => by simp at h, fun n b z => ?_, List.nodup_nil, fun i j xs ys x h => by simp at h, fun _ h => h, fun d c z => ?_, ⟨⟨trivial, xJ1 hT⟩, fun b ps z => ?_, fun b ps z => ?_⟩⟩, .cons (R.lst hS0 (RA.ints ns)) .nil, rfl, ?_⟩
      · rcases frz0 b _ (fs _ _ z) with ⟨_, _, q⟩ | q <;> cases q
      · rcases frz0 d _ z with ⟨_, _, q⟩ | q <;> cases q
      · have z : (if tabAt K b then none else H b) = some (HO.tbl ps) := z
        split at z
        · cases z
        · rename_i nt
          rcases hO b with q | ⟨q, _⟩ | ⟨_, ob, xs, q⟩
          · rw [q] at z; cases z
          · exact nt q
          · rw [q] at z; cases z
      · rcases hO b with q | ⟨q, _⟩ | ⟨_, ob, xs, q⟩
        · have z : H b = some (HO.tbl ps) := z
          rw [q] at z; cases z
        · obtain ⟨p, hp, e⟩ := List.mem_map.mp q
          exact ⟨p.2, e ▸ hp⟩
        · have z : H b = some (HO.tbl ps) := z
          rw [q] at z; cases z
      show (g [.d (xZh ns)] ⟨[], []⟩).wp _ _
      rw [e]
      intro w' y _ _ _ _ _ re
      cases re
      rfl
    have hsb : SM (hidT s₁.heap H) := by
      obtain ⟨mm, q⟩ := hsm
      obtain ⟨o, es, ep, e1, e2, _⟩ := nsK q
      exact ⟨o, es, ep, e1, e2⟩
    refine codeAny_mono ((F _ hKb (nsK hns) hsb hTG).go callerA [] s₁ H ⟨[.ref a], []⟩ [.ref a] [.ref a] _ _ rfl hr e0 (hbind s₁ (.ref a)) (.cons rfl .nil) sp) fun r s' h => ?_
    match r, h with
    | .error e, h =>
      exact (wXc h).elim
    | .ok .next, h => exact (show False from h).elim
    | .ok .brk, h => exact (show False from h).elim
    | .ok .cont, h => exact (show False from h).elim
    | .ok (.ret u), h =>
      obtain ⟨v, H', os, bare, un, hok', r', q⟩ := h
      have q' : v = .bl true := q
      subst q'
      obtain rfl : u = Value.bool true := r'
      have kept : ∀ b o, ¬ tabAt K b → s₁.heap.get? b = some o → s'.heap.get? b = some o := fun b o nt e => by
        rcases hO b with q | ⟨q, _⟩ | ⟨_, ob, xs, z⟩
        · exact un.keep b o e q (by intro z; exact absurd (show b ∈ ([] : List Addr) from z) (by simp)) (by simp)
        · exact absurd q nt
        · have z2 := un.frzs b ob _ z
          obtain ⟨e1, _⟩ := hok b _ z
          obtain ⟨e2, _⟩ := hok' b _ z2
          rw [e] at e1; cases e1
          exact e2
      have more : ∀ b, tabAt K b → ∃ ps : Array Value, s'.heap.get? b = some (PySem.W.tabObj ps) := fun b h => by
        obtain ⟨ps, z⟩ := un.tbls b #[] (hT b h)
        exact ⟨_, hok' b _ z⟩
      refine ⟨rfl, ⟨fun b o e => ?_, fun b o e => ?_⟩, os, bare⟩
      · by_cases ht : tabAt K b
        · obtain ⟨ps, z⟩ := more b ht
          obtain ⟨x, hx, c, ec⟩ := xJf ht
          obtain ⟨cd, tq, _⟩ := tf x hx c b ec
          rw [tq] at e
          cases e
          exact .inr (.inl ⟨(cd.tab tq).isCodeTable, rfl, #[], ps, rfl, by rw [Array.empty_append]; exact z⟩)
        · exact .inl (kept b o ht e)
      · by_cases ht : tabAt K b
        · obtain ⟨ps, z⟩ := more b ht
          exact ⟨_, z⟩
        · exact ⟨o, kept b o ht e⟩
  cases hk : K.lookup a with
  | some o =>
    have e := KX a o hk
    rw [ha] at e
    cases e
    refine core (fun b => if tabAt K b then some (.tbl #[]) else none) (fun b => ?_) (fun b h => if_pos h) (.inr ⟨vs, _, hk, by rw [lenV]; exact hl, rv⟩) (fun b u z => ?_) fun z => absurd (if_neg notA) z
    · by_cases ht : tabAt K b
      · exact .inr (.inl ⟨ht, if_pos ht⟩)
      · exact .inl (if_neg ht)
    · by_cases ht : tabAt K b
      · have z' := (if_pos ht).symm.trans z
        cases z'
        exact (isTab b ht).1
      · have z' := (if_neg ht).symm.trans z
        cases z'
  | none =>
    refine core (fun b => if b = a then some (.frz { cls := .type "list", data := .seq vs.toArray } (.lst (ns.map V.int))) else if tabAt K b then some (.tbl #[]) else none) (fun b => ?_) (fun b h => (if_neg (fun z : b = a => notA (z ▸ h))).trans (if_pos h)) (.inl (.inr ⟨{ cls := .type "list", data := .seq vs.toArray }, if_pos rfl⟩)) (fun b u z => ?_) fun _ => hk
    · by_cases hb : b = a
      · exact .inr (.inr ⟨hb, _, _, if_pos hb⟩)
      · by_cases ht : tabAt K b
        · exact .inr (.inl ⟨ht, (if_neg hb).trans (if_pos ht)⟩)
        · exact .inl ((if_neg hb).trans (if_neg ht))
    · by_cases hb : b = a
      · have z' := (if_pos hb).symm.trans z
        cases z'
        subst hb
        exact ⟨ha, by rw [List.length_map]; exact hl, vs, _, rv, ha⟩
      · have z1 := (if_neg hb).symm.trans z
        by_cases ht : tabAt K b
        · have z' := (if_pos ht).symm.trans z1
          cases z'
          exact (isTab b ht).1
        · have z' := (if_neg ht).symm.trans z1
          cases z'
def wYm (n : Nat) (g : Fn) : Prop := ∀ ns : List Int, ns.length ≤ n → (∀ z ∈ ns, Builtin.Int.intBits z ≤ 1048576) → ∃ m, g [.d (xZh ns)] ⟨[], []⟩ = .ok (.d (.bool true)) m
def xUh (K : PySem.W.Frag) : Bool := xK9 K && yKw.all fun x => match PySem.W.tabIn K x with
  | some p => (K.lookup p.2).isNone
  | none => true
def wZr (q : Program) (K : PySem.W.Frag) : Bool := yKw.all fun x => (PySem.W.tabIn K x).isNone || ((recsOf q).find? fun e : DefRec => e.name == x).isSome
theorem wQq {l : PySem.W.OpenLaw} {n k : Nat} {q : Program} {loose : List Str} {XP : (Str → Option Value) → Heap → Prop} {YP : World → Heap → Prop} {d : DefRec} {K : Params → PySem.W.Frag} {x : Str} {g : Fn}
    (hi : importsNone q = true) (hn : l.most = some n) (hn2 : n ≤ sizeLine) (hdf : d.params.defaults = []) (hr : Room k callerA)
    (hY : ∀ (w : World) (h : Heap), YP w h → (K w.params).In h)
    (hd' : ∀ w : World, wZr q (K w.params) = true) (hto : ∀ w : World, xUh (K w.params) = true)
    (F : ∀ (w : World) (mg : Str → Option Value) (fa : Addr) (h : Heap), (K w.params).In h → h.Ns mainGlobals mg → mg d.name = some (.ref fa) →
      ∃ fd : FuncData, (∀ (s : Shared) (u : Value), BindsTo s fd ⟨[u], []⟩ [(x, u)]) ∧
        ∀ base : Heap, (K w.params).In base → base.Ns mainGlobals mg → SM base → TabG (K w.params) mg base → FnG l.prog w (K w.params) mg base k fa fd [x] (spG (K w.params) 1 g))
    (law : wYm n g) : PySem.W.WalkO q loose XP YP l.row.toRowW d [] (fun f vs => PySem.call f vs) := by
  refine Att.attach_callB hn hdf fun w s₀ s₁ mg mb fa o pm cd doc a vs ns G Y ho hd hcd hmg hobj hints hlen hbits hg => ?_
  have KX := hY w _ Y
  obtain ⟨fd, hb, hF⟩ := F w mg fa _ KX G.T.g hmg
  have o := hto w
  unfold xUh at o
  obtain ⟨hap, o⟩ := Bool.and_eq_true_iff.mp o
  have tf : wGm (K w.params) s₁.heap := fun x hx c P e => by
    have hl := List.all_eq_true.mp (hd' w) x hx
    rw [e] at hl
    obtain ⟨d', ed⟩ := Option.isSome_iff_exists.mp (by simpa using hl : ((recsOf q).find? fun e : DefRec => e.name == x).isSome = true)
    obtain ⟨h1, h2⟩ := PySem.W.tab_of G.T KX ed e
    refine ⟨h1, h2, ?_⟩
    have o := List.all_eq_true.mp o x hx
    rw [e] at o
    exact Option.isNone_iff_eq_none.mp o
  exact xKr KX G.T.g G.T.b G.T.builtins G.T.nolimit (let ⟨mm, z, _⟩ := (G.T.seer hi).mods; ⟨mm, z⟩) hg tf hap G.T.bmain hobj hints (Nat.le_trans hlen hn2) hr hF hb (law ns hlen hbits)
end Ev

namespace Ev
open PySem PySem.Spec PyProof.Rows L2

def wUx (N : List Str) (sc scope : Scope) (own : List (Str × Nat)) : Bool :=
  decide (scope.kind = .function) && scope.names.all (fun y => decide (scope.names.lookup y.1 = some y.2)) && own.all (fun p => decide (N[p.2]? = some p.1)) &&
    scope.names.all (fun y => decide (y.2 ≠ .free) || decide (sc.names.lookup y.1 = some .cell) || decide (sc.names.lookup y.1 = some .free)) &&
    scope.names.all (fun y => !(decide (y.2 = .local) || decide (y.2 = .cell)) || decide (y.1 ∈ own.map (·.1)) || decide (y.1 ∉ N))
theorem wXg {N : List Str} {sc scope : Scope} {own : List (Str × Nat)} (h : wUx N sc scope own = true) : BlkOk N sc scope own := by
  unfold wUx at h
  simp only [Bool.and_eq_true, List.all_eq_true, decide_eq_true_eq, Bool.or_eq_true, Bool.not_eq_true', Bool.or_eq_false_iff, decide_eq_false_iff_not] at h
  obtain ⟨⟨⟨⟨h1, h2⟩, h3⟩, h4⟩, h5⟩ := h
  refine ⟨h1, h2, h3, fun y hy e => ?_, fun y hy e => ?_⟩
  · rcases h4 y hy with (q | q) | q
    · exact absurd e q
    · exact .inl q
    · exact .inr q
  · rcases h5 y hy with (q | q) | q
    · rcases e with e | e
      · exact absurd e q.1
      · exact absurd e q.2
    · exact .inl q
    · exact .inr q
def FM (K : PySem.W.Frag) (mg : Str → Option Value) (x : Str) (st : Stmt) (ps : List Str) : Prop := ∃ (f : Addr) (fd : FuncData), Fun K x x st f fd ∧ mg x = some (.ref f) ∧ Binds K fd ps []
def xWj (P : Program) (w : World) (K : PySem.W.Frag) (mg : Str → Option Value) (base : Heap) (k : Nat) (x : Str) (ps : List Str) (g : Fn) : Prop :=
  ∃ (f : Addr) (fd : FuncData), FnG P w K mg base k f fd ps (spG K ps.length g) ∧ mg x = some (.ref f) ∧ PySem.W.keepIn K (.ref f) = true ∧ Binds K fd ps []
section
variable {P : Program} {w : World} {K : PySem.W.Frag} {mg : Str → Option Value} {base : Heap}
theorem yGu {x : Str} {st : Stmt} {ps : List Str} {g : Fn} {j k : Nat} (h : FM K mg x st ps) (hk : j ≤ k) (ok : ∀ {f : Addr} {fd : FuncData}, Fun K x x st f fd → FnG P w K mg base j f fd ps (spG K ps.length g)) : xWj P w K mg base k x ps g := by
  obtain ⟨f, fd, F, hm, hb⟩ := h
  exact ⟨f, fd, (ok F).up hk, hm, F.kp, hb⟩
theorem xQq {x : Str} {st : Stmt} {ps : List Str} {f : Addr} {oc : Value} {od an : Option Addr} {osl : Array (Option Value)} {kV doc pm cdv ct : Value} (hm : mg x = some (.ref f))
    (l : K.lookup f = some ⟨oc, od, .func (PySem.W.fnOf x x (defArgs st) (defBody st) (defScope st) .none kV doc pm an cdv ct), osl⟩) (c : PySem.W.codeIn K cdv x = true) (k : PySem.W.keepIn K (.ref f) = true)
    (hb : ∀ (kV doc pm : Value) (an : Option Addr) (cdv ct : Value) (us : List Value), us.length = ps.length → bindArgs (PySem.W.fnOf x x (defArgs st) (defBody st) (defScope st) .none kV doc pm an cdv ct) ⟨us, []⟩ = pure (ps.zip us)) : FM K mg x st ps :=
  ⟨f, _, fun_mk l c k, hm, (fun_mk l c k).binds hb⟩
end
end Ev

namespace Ev
open PySem PySem.Spec PyProof.Rows L2

def wJg (i : Nat) : EV → Pg Unit
  | .new o => fun m => .ok () { sl := m.sl.set i (some (.cell m.cs.length)), cs := m.cs ++ [o] }
  | _ => .stuck
def shW (w : Wd) (a : Addr) (o : Ob) : Wd := { w with F := upd w.F a (mkC w.m.cs.length), ro := w.ro ++ [a], m := { w.m with cs := w.m.cs ++ [o] } }
theorem xYc {K : PySem.W.Frag} {w : Wd} (r : Rep K w) {a : Addr} {o : Ob} (h1 : OH K w.F w.H w.Z a o) (h3 : w.F a = none) (h4 : a ∉ w.ro) (h6 : ¬ Own w a) (h5 : ¬ w.Z a) :
    Rep K (shW w a o) ∧ FolS w (shW w a o) := by
  have ro_at : ∀ {n : Nat} {b : Addr}, w.ro[n]? = some b → (w.ro ++ [a])[n]? = some b := fun {n b} q => by
    rw [List.getElem?_append_left (List.getElem?_eq_some_iff.mp q).1]
    exact q
  have sm : Same w.F (upd w.F a (mkC w.m.cs.length)) := fun b u e => by
    rw [upd_ne (ne_of_none e h3)]
    exact e
  have kp : ∀ {b : Addr} {ob : Ob} {Z Z' : Addr → Prop}, OH K w.F w.H Z b ob → (∀ d, Z' d → Z d) → OH K (upd w.F a (mkC w.m.cs.length)) w.H Z' b ob := fun h z => h.keep sm (fun _ z => z) (fun _ z => z) fun d _ q => z d q
  refine ⟨⟨fun b u e hn => ?_, r.le, fun j v h => ?_, fun n ys h => ?_, ?_, fun n b hb => ?_, fun n b e => ?_, ?_, r.ow, r.zl, r.oo, ⟨r.tb.1, fun b ps e => ?_, r.tb.2.2⟩⟩, ⟨rfl, rfl, sm, ⟨[a], rfl⟩, fun b o e _ _ _ => e, fun b hb => ?_, fun b e => e, fun b e => ?_⟩⟩
  · have e : upd w.F a (mkC w.m.cs.length) b = some u := e
    by_cases q : b = a
    · subst q
      rw [upd_same] at e
      exact absurd (Option.some.inj e).symm (hn _)
    · rw [upd_ne q] at e
      exact r.sub b u e hn
  · obtain ⟨y, p1, p2⟩ := r.sl j v h
    refine ⟨y, p1, ?_⟩
    cases v with
    | d z => exact R.mono sm p2
    | ob zs =>
      obtain ⟨b, e, k1, k3, k4, k5⟩ := p2
      have nb : b ≠ a := fun q => by
        subst q
        exact h6 ⟨j, zs, h, by rw [p1, e]⟩
      refine ⟨b, e, kp k1 fun _ z => z, ?_, fun hb => ?_, k5⟩
      · show upd w.F a _ b = none
        rw [upd_ne nb]
        exact k3
      · rcases List.mem_append.mp hb with q | q
        · exact k4 q
        · exact nb (List.mem_singleton.mp q)
    | cell n =>
      obtain ⟨b, e, q⟩ := p2
      exact ⟨b, e, ro_at q⟩
    | thk t => exact ⟨p2.1, xZu p2.2.1 sm ⟨[a], rfl⟩, p2.2.2⟩
  · by_cases hn : n < w.m.cs.length
    · have h : w.m.cs[n]? = some ys := by
        rw [← h]
        exact (List.getElem?_append_left hn).symm
      obtain ⟨b, k1, k2⟩ := r.cs n ys h
      exact ⟨b, ro_at k1, kp k2 fun _ z => z⟩
    · have h : (w.m.cs ++ [o])[n]? = some ys := h
      rw [List.getElem?_append_right (by omega)] at h
      have hz : n - w.m.cs.length = 0 := by
        have := (List.getElem?_eq_some_iff.mp h).1
        simp only [List.length_singleton] at this
        omega
      rw [hz] at h
      cases h
      refine ⟨a, ?_, kp h1.any fun _ z => z⟩
      show (w.ro ++ [a])[n]? = some a
      rw [List.getElem?_append_right (by rw [← r.ln]; omega), ← r.ln, hz]
      rfl
  · show (w.m.cs ++ [o]).length = (w.ro ++ [a]).length
    rw [List.length_append, List.length_append, r.ln]
    rfl
  · have hb : (w.ro ++ [a])[n]? = some b := hb
    show upd w.F a _ b = _ ∨ upd w.F a _ b = none ∧ _
    by_cases hn : n < w.ro.length
    · rw [List.getElem?_append_left hn] at hb
      have nb : b ≠ a := fun z => h4 (z ▸ List.mem_of_getElem? hb)
      rw [upd_ne nb]
      rcases r.rf n b hb with q | ⟨q, c, fs, z⟩
      · exact .inl q
      · exact .inr ⟨q, c, fs, by
          show (w.m.cs ++ [o])[n]? = _
          rw [List.getElem?_append_left (by rw [r.ln]; exact hn)]
          exact z⟩
    · rw [List.getElem?_append_right (by omega)] at hb
      have hz : n - w.ro.length = 0 := by
        have := (List.getElem?_eq_some_iff.mp hb).1
        simp only [List.length_singleton] at this
        omega
      rw [hz] at hb
      cases hb
      rw [upd_same]
      have : n = w.m.cs.length := by rw [r.ln]; omega
      rw [this]
      exact .inl rfl
  · have e : upd w.F a (mkC w.m.cs.length) b = some (mkC n) := e
    show (w.ro ++ [a])[n]? = some b
    by_cases q : b = a
    · subst q
      rw [upd_same] at e
      have := xG4 (Option.some.inj e)
      rw [← this, List.getElem?_append_right (by rw [r.ln]; exact Nat.le_refl _), r.ln, Nat.sub_self]
      rfl
    · rw [upd_ne q] at e
      exact ro_at (r.rk n b e)
  · show (w.ro ++ [a]).Nodup
    rw [List.nodup_append]
    refine ⟨r.nd, by simp, fun b hb c hc => ?_⟩
    rw [List.mem_singleton.mp hc]
    exact fun z => h4 (z ▸ hb)
  · have e : upd w.F a (mkC w.m.cs.length) b = some (.tbl ps) := e
    by_cases q : b = a
    · subst q
      rw [upd_same] at e
      cases e
    · rw [upd_ne q] at e
      exact r.tb.2.1 b ps e
  · rcases List.mem_append.mp hb with q | q
    · exact .inl q
    · rw [List.mem_singleton.mp q]
      exact .inr h5
  · have e : upd w.F a (mkC w.m.cs.length) b ≠ none := e
    by_cases q : b = a
    · rw [q]
      exact .inr h5
    · rw [upd_ne q] at e
      exact .inl e
theorem xGz {K : PySem.W.Frag} {w : Wd} (r : Rep K w) {v : EV} {x : V} (h : RE K w v x) {i : Nat} {P : Unit → Mem → Prop} {E : Exn → Mem → Prop} (hw : (wJg i v w.m).wp P E) : ∃ w' : Wd, w'.sg = w.sg.set i (some x) ∧ w'.H = w.H ∧ FolS w w' ∧ Rep K w' ∧ P () w'.m := by
  cases v with
  | d y => exact hw.elim
  | pk j xs => exact hw.elim
  | cell n => exact hw.elim
  | new o =>
    obtain ⟨a, e, h1, h3, h4, h5, h6⟩ := h
    subst e
    obtain ⟨r1, f1⟩ := xYc r h1 h3 h4 h6 h5
    obtain ⟨r2, f2⟩ := xQv (i := i) (v := .cell w.m.cs.length) (x := .ref a) r1 ⟨a, rfl, by
      show (w.ro ++ [a])[w.m.cs.length]? = some a
      rw [r.ln, List.getElem?_append_right (Nat.le_refl _), Nat.sub_self]
      rfl⟩ (fun ys b e => by cases e)
    exact ⟨xQ4 (shW w a o) i (.cell w.m.cs.length) (.ref a), rfl, rfl, f1.trans f2, r2, hw⟩
section
open HT
section
variable {prog : Program} {w : World} {A : Around} {E : Value → Shared → Prop} {s : Shared}
end
end
section
variable {X : Cx} {B : XBt} {e c : Expr} {es : List Expr} {pos p : Pos} {f fa : Pg EV}
def xJt (i : Nat) (f : Pg EV) : Pg Fl := .bind f fun v => .bind (wJg i v) fun _ => .ret .next
theorem xW5 {x : Str} {pos' : Pos} (i : Nat) (C : Ctx X B) (hi : X.N[i]? = some x) (hx : Loc X.env.scope x) (he : Snd X B e f) (hs : swapsWith e (some (.Name x pos')) pos.line X.env = pure false := by rfl)
    (hf : X.fn x = true ∨ X.env.scope.names.lookup x = some .local := by first | exact .inl rfl | exact .inr rfl | assumption) : xWp X B (.Assign [.Name x pos'] e pos) (xJt i f) := by
  intro w D r hw
  refine xZs (ps_set C.nd hi hx yG1 hs hf) ?_
  refine zZx he r hw fun v w1 y e1 f1 r1 re h1 => ?_
  obtain ⟨w2, s2, h2, f2, r2, q⟩ := xGz r1 re (wp_bind h1)
  have q := q w2 rfl ((f1.s r).trans f2) r2
  rw [s2, h2, e1] at q
  exact q
end
end Ev
namespace Ev
open PySem PySem.Spec PyProof.Rows L2
section
variable {P : Program} {w : World} {K : PySem.W.Frag} {mg : Str → Option Value} {base : Heap}
theorem xQp {x qual : Str} {st : Stmt} {f : Addr} {fd : FuncData} {N ps : List Str} {k n m : Nat} {fb : Pg Fl} (F : Fun K x qual st f fd) (S : FnScope N ps (defScope st)) (sm : SM base) (hn : N.length = n) (hm : ps.length = m)
    (hbody : ∀ (cdv : Value) (A : Around) (outer : List Env) (s : Shared) (H : Hp) (E : XK) (B : XBt), Ctx (cxOf (CXk K P w) P w K mg base N qual (defScope st) f cdv A outer s H E) B → PassesOwn (model P w) (cxOf (CXk K P w) P w K mg base N qual (defScope st) f cdv A outer s H E).A (cxOf (CXk K P w) P w K mg base N qual (defScope st) f cdv A outer s H E).env (cxOf (CXk K P w) P w K mg base N qual (defScope st) f cdv A outer s H E).xe →
      Room k (cxOf (CXk K P w) P w K mg base N qual (defScope st) f cdv A outer s H E).A →
      xUc (cxOf (CXk K P w) P w K mg base N qual (defScope st) f cdv A outer s H E) B (defBody st) fb) : FnG P w K mg base (k + 1) f fd ps (spG K m (yVx n fb)) := by
  subst hn hm
  exact wWa F S sm hbody
end
end Ev
namespace Ev
open PySem PySem.Spec PyProof.Rows L2
theorem yK9 {c k p} : PlainIx (.Constant c k p) := fun _ _ => rfl
theorem xKb {x p} : PlainIx (.Name x p) := fun _ _ => rfl
theorem xZz {a o b p} : PlainIx (.BinOp a o b p) := fun _ _ => rfl
theorem xGo {f a k p} : PlainIx (.Call f a k p) := fun _ _ => rfl
end Ev

namespace Ev
open PySem PySem.Spec PyProof.Rows L2

structure W {α : Type} (p : Pg α) (m : Mem) (X : Exn → Mem → Prop) (Q : α → Mem → Prop) : Prop where
  go : (p m).wp Q X
abbrev noX : Exn → Mem → Prop := fun _ _ => False
theorem yU4 {α : Type} {p : Pg α} {m : Mem} {X : Exn → Mem → Prop} {Q : α → Mem → Prop} : W p m X Q ↔ (p m).wp Q X := ⟨fun h => h.go, fun h => ⟨h⟩⟩
section
variable {α β : Type} {m : Mem} {X : Exn → Mem → Prop} {P Q : α → Mem → Prop} {R : β → Mem → Prop} {E : EV → Mem → Prop} {F : Fl → Mem → Prop} {T : Bool → Mem → Prop}
theorem W.mono {p : Pg α} (h : W p m X P) (i : ∀ a m, P a m → Q a m) : W p m X Q := ⟨Res.wp.imp h.go i fun _ _ z => z⟩
theorem W.no {p : Pg α} (h : W p m noX Q) : W p m X Q := ⟨Res.wp.imp h.go (fun _ _ z => z) fun _ _ z => z.elim⟩
@[simp] theorem zZ0 {f : Pg α} {g : α → Pg β} : W (Pg.bind f g) m X R ↔ W f m X fun a m' => W (g a) m' X R := by
  rw [yU4, yU4]
  unfold Pg.bind
  cases f m with
  | ok a m' => exact (yU4 (p := g a)).symm
  | thr x m' => exact Iff.rfl
  | bad => exact Iff.rfl
@[simp] theorem xWb {f : Pg α} : W (xQb f) m X Q ↔ W f m noX Q := by
  rw [yU4, yU4]
  unfold xQb
  cases f m <;> exact Iff.rfl
@[simp] theorem xQs {a : α} : W (Pg.ret a) m X Q ↔ Q a m := ⟨fun h => h.go, fun h => ⟨h⟩⟩
@[simp] theorem xWa : W (Pg.stuck : Pg α) m X Q ↔ False := ⟨fun h => h.go, fun h => ⟨h⟩⟩
@[simp] theorem xX8 {o : Option α} : W (yGd o) m X Q ↔ ∃ a, o = some a ∧ Q a m := by
  cases o with
  | none => exact ⟨fun h => h.go.elim, fun ⟨_, e, _⟩ => by cases e⟩
  | some a => exact ⟨fun h => ⟨a, rfl, h.go⟩, fun ⟨_, e, h⟩ => by cases e; exact ⟨h⟩⟩
@[simp high] theorem wU9 {a : α} : W (yGd (some a)) m X Q ↔ Q a m := ⟨fun h => h.go, fun h => ⟨h⟩⟩
@[simp] theorem wUq {c : Prop} [Decidable c] {x : α} {P : α → Prop} : (∃ a, (if c then some x else none) = some a ∧ P a) ↔ c ∧ P x := by
  by_cases h : c
  · simp [h]
  · simp [h]
@[simp] theorem wUr {c : Prop} {x : α} {P : α → Prop} : (∃ a, (c ∧ x = a) ∧ P a) ↔ c ∧ P x :=
  ⟨fun ⟨_, ⟨h, e⟩, q⟩ => ⟨h, e ▸ q⟩, fun ⟨h, q⟩ => ⟨x, ⟨h, rfl⟩, q⟩⟩
@[simp] theorem wQh {c : Prop} [Decidable c] {p q : Pg α} : W (if c then p else q) m X Q ↔ (c → W p m X Q) ∧ (¬c → W q m X Q) := by
  by_cases h : c
  · simp [h]
  · simp [h]
@[simp] theorem W_c {d : PyData} : W (evC d) m X E ↔ E (.d d) m := ⟨fun h => h.go, fun h => ⟨h⟩⟩
@[simp] theorem wHs {i : Nat} : W (zQ9 i) m X E ↔ ∃ v, xXt i m.sl[i]? = some v ∧ E v m := by
  have h := xX8 (o := xXt i m.sl[i]?) (m := m) (X := X) (Q := E)
  rw [yU4] at h ⊢
  exact h
@[simp] theorem wKn {i : Nat} {x : PyData} : xXt i (some (some (.d x))) = some (.d x) := rfl
@[simp] theorem wXv {i : Nat} {o : Ob} : xXt i (some (some (.ob o))) = some (.pk i o) := rfl
@[simp] theorem xH5 {i n : Nat} : xXt i (some (some (.cell n))) = some (.cell n) := rfl
@[simp] theorem wUf {x : PyData} : yGn (.d x) = .d x := rfl
@[simp] theorem wX0 {o : Ob} : yGn (.new o) = .d (dOf o) := rfl
@[simp] theorem wZc {n : Nat} : yGn (.cell n) = .cell n := rfl
@[simp] theorem wKy {i : Nat} {o : Ob} : yGn (.pk i o) = .d (dOf o) := rfl
@[simp] theorem wHg {xs : List PyData} : dOf (.lst xs) = .list xs := rfl
@[simp] theorem wHi {es : List (PyData × PyData)} : dOf (.dic es) = .dict es := rfl
@[simp] theorem wHh {c : Str} {fs : List (Str × PyData)} : dOf (.ins c fs) = xXq c fs := rfl
@[simp] theorem wVt {x : PyData} {k : PyData → Pg α} : W (look (.d x) k) m X Q ↔ W (k x) m X Q := ⟨fun h => ⟨h.go⟩, fun h => ⟨h.go⟩⟩
@[simp] theorem wVu {n : Nat} {k : PyData → Pg α} : W (look (.cell n) k) m X Q ↔ ∃ o, m.cs[n]? = some o ∧ W (k (dOf o)) m X Q := by
  have h : look (.cell n) k m = match m.cs[n]?.map dOf with
    | some x => k x m
    | none => .bad := rfl
  rw [yU4, h]
  cases e : m.cs[n]? with
  | none => simp [Res.wp]
  | some o => simp [yU4]
@[simp] theorem wH5 {op : Operator} {fa fb : Pg EV} : W (zJo op fa fb) m X E ↔ W fa m X fun v m1 => W fb m1 X fun u m2 => W (two (fun x y => yGd (xQj op x y)) (yGn v) (yGn u)) m2 X E := by
  unfold zJo
  simp only [zZ0]
@[simp] theorem wYt {g : PyData → PyData → Pg EV} {o1 o2 : OV} : two g o1 o2 = look o1 fun x => look o2 fun y => g x y := rfl
@[simp] theorem wWq {i j : Int} : xQj .Add (.int i) (.int j) = some (.d (.int (i + j))) := rfl
@[simp] theorem wVo {a b : Str} : xQj .Add (.str a) (.str b) = if a.length + b.length ≤ 16777216 then some (.d (.str (a ++ b))) else none := rfl
@[simp] theorem wVn {xs ys : List PyData} : xQj .Add (.tuple xs) (.tuple ys) = if xs.length + ys.length ≤ 16777216 then some (.d (.tuple (xs ++ ys))) else none := rfl
@[simp] theorem wVp {xs ys : List PyData} : xQj .Add (.list xs) (.list ys) = if xs.length + ys.length ≤ 16777216 then some (.fresh (xs ++ ys)) else none := rfl
@[simp] theorem wWl {i j : Int} : xQj .Sub (.int i) (.int j) = some (.d (.int (i - j))) := rfl
@[simp] theorem wWn {i j : Int} : xQj .Mult (.int i) (.int j) = if xJ6 i j then some (.d (.int (i * j))) else none := rfl
@[simp] theorem wVl {xs : List PyData} {k : Int} : xQj .Mult (.tuple xs) (.int k) = if yU6 xs k then some (.d (.tuple (List.replicate k.toNat xs).flatten)) else none := rfl
@[simp] theorem wVm {xs : List PyData} {k : Int} : xQj .Mult (.list xs) (.int k) = if yU6 xs k then some (.fresh (List.replicate k.toNat xs).flatten) else none := rfl
@[simp] theorem wWp {i j : Int} : xQj .FloorDiv (.int i) (.int j) = if decide (0 < j) && decide (j < 1073741824) then some (.d (.int (i / j))) else none := rfl
@[simp] theorem wWo {i j : Int} : xQj .Mod (.int i) (.int j) = if 0 < j then some (.d (.int (i % j))) else none := rfl
@[simp] theorem wWm {i j : Int} : xQj .Pow (.int i) (.int j) = if xJ5 i j then some (.d (.int (i ^ j.toNat))) else none := rfl
@[simp] theorem wZo {i j : Int} : xJ6 i j = true ↔ (-18446744073709551616 < i ∧ i < 18446744073709551616) ∨ (-18446744073709551616 < j ∧ j < 18446744073709551616) := by
  unfold xJ6
  simp
@[simp] theorem wQ7 {i j : Int} : xJ5 i j = true ↔ 0 ≤ j ∧ j ≤ 1000000 ∧ i.natAbs < 18446744073709551616 := by
  unfold xJ5
  simp [and_assoc]
@[simp] theorem xU8 {xs : List PyData} {k : Int} : yU6 xs k = true ↔ k ≤ 1000 ∧ -1000 ≤ k ∧ xs.length ≤ 1000 := by
  unfold yU6
  simp [and_assoc]
@[simp] theorem wZp {xs : List PyData} : xX1 xs = true ↔ xs.length ≤ 16777216 := by
  unfold xX1
  simp
@[simp] theorem wH3 {op : CmpOp} {fa fb : Pg EV} : W (zXb op fa fb) m X T ↔ W fa m X fun v m1 => W fb m1 X fun u m2 => W (wXt (yU5 op) (yGn v) (yGn u)) m2 X T := by
  unfold zXb
  simp only [zZ0]
@[simp] theorem wUy {g : PyData → PyData → Option Bool} {o1 o2 : OV} : W (wXt g o1 o2) m X T ↔ W (look o1 fun x => look o2 fun y => yGd (g x y)) m X T := Iff.rfl
@[simp] theorem wUu {i j : Int} : yU5 .Lt (.int i) (.int j) = some (decide (i < j)) := rfl
@[simp] theorem wUv {i j : Int} : yU5 .LtE (.int i) (.int j) = some (decide (i ≤ j)) := rfl
@[simp] theorem cmp_gt {i j : Int} : yU5 .Gt (.int i) (.int j) = some (decide (j < i)) := rfl
@[simp] theorem wUw {i j : Int} : yU5 .GtE (.int i) (.int j) = some (decide (j ≤ i)) := rfl
@[simp] theorem wWj {i j : Int} : yU5 .Eq (.int i) (.int j) = some (decide (i = j)) := by
  by_cases h : i = j <;> simp [yU5, eqQ, SeqAt.shaped, PyData.canLay0, PyData.depth, PyData.eqv, h]
@[simp] theorem wWd {i j : Int} : yU5 .NotEq (.int i) (.int j) = some (decide (i ≠ j)) := by
  by_cases h : i = j <;> simp [yU5, eqQ, SeqAt.shaped, PyData.canLay0, PyData.depth, PyData.eqv, h]
@[simp] theorem wWk {i j : Bool} : yU5 .Eq (.bool i) (.bool j) = some (decide (i = j)) := by
  cases i <;> cases j <;> decide +kernel
@[simp] theorem wWe {i j : Bool} : yU5 .NotEq (.bool i) (.bool j) = some (decide (i ≠ j)) := by
  cases i <;> cases j <;> decide +kernel
@[simp] theorem wVj {xs : List PyData} : yU5 .Eq (.tuple xs) (.tuple []) = some xs.isEmpty := rfl
@[simp] theorem wVh {xs : List PyData} : yU5 .NotEq (.tuple xs) (.tuple []) = some (!xs.isEmpty) := rfl
@[simp] theorem wVk {xs : List PyData} : yU5 .Eq (.list xs) (.list []) = some xs.isEmpty := by
  cases xs with
  | nil => decide +kernel
  | cons x xs => simp [yU5, eqQ]
@[simp] theorem wVi {xs : List PyData} : yU5 .NotEq (.list xs) (.list []) = some (!xs.isEmpty) := by
  cases xs with
  | nil => decide +kernel
  | cons x xs => simp [yU5, eqQ]
@[simp] theorem wWi {a b : Str} : yU5 .Eq (.str a) (.str b) = some (decide (a = b)) := rfl
@[simp] theorem wWc {a b : Str} : yU5 .NotEq (.str a) (.str b) = some (decide (a ≠ b)) := by
  by_cases h : a = b <;> simp [yU5, h]
@[simp] theorem wWg {x : PyData} : yU5 .Is x .none = some (yZe x) := rfl
@[simp] theorem wQf {x : PyData} : yU5 .IsNot x .none = some (!yZe x) := rfl
@[simp] theorem wWh {a b : Bool} : yU5 .Is (.bool a) (.bool b) = some (decide (a = b)) := rfl
@[simp] theorem wQg {a b : Bool} : yU5 .IsNot (.bool a) (.bool b) = some (decide (a ≠ b)) := by
  cases a <;> cases b <;> rfl
@[simp] theorem wJu : yZe .none = true := rfl
@[simp] theorem wJw {i : Int} : yZe (.int i) = false := rfl
@[simp] theorem wJy {i : Bool} : yZe (.bool i) = false := rfl
@[simp] theorem wJt {i : Str} : yZe (.str i) = false := rfl
@[simp] theorem wJs {i : List PyData} : yZe (.tuple i) = false := rfl
@[simp] theorem wJv {i : List PyData} : yZe (.list i) = false := rfl
@[simp] theorem wJx {i : List (PyData × PyData)} : yZe (.dict i) = false := rfl
@[simp] theorem wH6 {f : Pg Bool} : W (asV f) m X E ↔ W f m X fun k m1 => E (.d (.bool k)) m1 := by
  unfold asV
  simp only [zZ0, xQs]
@[simp] theorem wHu {f : Pg EV} : W (xYv f) m X T ↔ W f m X fun v m1 => W (wXu (yGn v)) m1 X T := by
  unfold xYv
  simp only [zZ0]
@[simp] theorem wUz {o : OV} : W (wXu o) m X T ↔ W (look o fun x => yGd (xWn x)) m X T := Iff.rfl
@[simp] theorem wYz {k : Bool} : xWn (.bool k) = some k := rfl
@[simp] theorem wYw : xWn .none = some false := rfl
@[simp] theorem wYy {i : Int} : xWn (.int i) = some (i != 0) := rfl
@[simp] theorem wYx {xs : List PyData} : xWn (.list xs) = some (!xs.isEmpty) := rfl
@[simp] theorem wYu {xs : List PyData} : xWn (.tuple xs) = some (!xs.isEmpty) := rfl
@[simp] theorem wYv {x : Str} : xWn (.str x) = if x.length ≤ 16777216 then some ((x.length : Int) != 0) else none := rfl
@[simp] theorem wGl {t u : Pg Bool} : W (xJw t u) m X T ↔ W t m X fun k m1 => (k = true → W u m1 X T) ∧ (¬ k = true → T false m1) := by
  unfold xJw
  simp only [zZ0, xQs, wQh]
@[simp] theorem wHx {t u : Pg Bool} : W (xK0 t u) m X T ↔ W t m X fun k m1 => (k = true → T true m1) ∧ (¬ k = true → W u m1 X T) := by
  unfold xK0
  simp only [zZ0, xQs, wQh]
@[simp] theorem wGf {t : Pg Bool} {f g : Pg EV} : W (xYx t f g) m X E ↔ W t m X fun k m1 => (k = true → W f m1 X E) ∧ (¬ k = true → W g m1 X E) := by
  unfold xYx
  simp only [zZ0, wQh]
@[simp] theorem wHt {g : Pg (List AV)} : W (yHj g) m X E ↔ W g m X fun vs m1 => ∃ v, xKo vs = some v ∧ E v m1 := by
  unfold yHj
  simp only [zZ0, xX8]
@[simp] theorem wH0 {g : Pg (List AV)} : W (zV5 g) m X E ↔ W g m X fun vs m1 => ∃ v, xKp vs = some v ∧ E v m1 := by
  unfold zV5
  simp only [zZ0, xX8]
@[simp] theorem wHy {P : List α → Mem → Prop} : W (zZa : Pg (List α)) m X P ↔ P [] m := ⟨fun h => h.go, fun h => ⟨h⟩⟩
@[simp] theorem wYc {f : Pg EV} {g : Pg (List AV)} {P : List AV → Mem → Prop} : W (zQc f g) m X P ↔ W f m X fun v m1 => W (toA v) m1 X fun a m2 => W g m2 X fun r m3 => P (a :: r) m3 := by
  unfold zQc
  simp only [zZ0, xQs]
@[simp] theorem wYb {f : Pg EV} {g : Pg (List OV)} {P : List OV → Mem → Prop} : W (yJq f g) m X P ↔ W f m X fun v m1 => W g m1 X fun r m3 => P (yGn v :: r) m3 := by
  unfold yJq
  simp only [zZ0, xQs]
@[simp] theorem wU2 {x : PyData} {P : AV → Mem → Prop} : W (toA (.d x)) m X P ↔ P (.d x) m := ⟨fun h => h.go, fun h => ⟨h⟩⟩
@[simp] theorem wU1 {o : Ob} {P : AV → Mem → Prop} : W (toA (.new o)) m X P ↔ P (.d (dOf o)) m := ⟨fun h => h.go, fun h => ⟨h⟩⟩
@[simp] theorem wU0 {i : Nat} {o : Ob} {P : AV → Mem → Prop} : W (toA (.pk i o)) m X P ↔ P (.d (dOf o)) (yUv m i (dOf o)) := ⟨fun h => h.go, fun h => ⟨h⟩⟩
@[simp] theorem wU3 {n : Nat} {P : AV → Mem → Prop} : W (toA (.cell n)) m X P ↔ P (.cell n) m := ⟨fun h => h.go, fun h => ⟨h⟩⟩
@[simp] theorem wQa {i : Nat} {x : PyData} {sl : List (Option SV)} {cs : List Ob} : yUv ⟨sl, cs⟩ i x = ⟨sl.set i (some (.d x)), cs⟩ := rfl
@[simp] theorem wQe : dataOf [] = some [] := rfl
@[simp] theorem xHj {x : PyData} {r : List AV} : dataOf (.d x :: r) = (dataOf r).map (x :: ·) := by
  show (match dataOf r with
    | some xs => some (x :: xs)
    | none => none) = _
  cases dataOf r <;> rfl
@[simp] theorem wJj {vs : List AV} {xs : List PyData} (h : dataOf vs = some xs) : xKo vs = if xX1 xs then some (.d (.tuple xs)) else none := by
  unfold xKo
  rw [h]
@[simp] theorem wJk {vs : List AV} {xs : List PyData} (h : dataOf vs = some xs) : xKp vs = if xX1 xs then some (.fresh xs) else none := by
  unfold xKp
  rw [h]
@[simp] theorem wVg : xXj [] m = some [] := rfl
@[simp] theorem wXa {x : PyData} {r : List OV} : xXj (.d x :: r) m = (xXj r m).map (x :: ·) := by
  show (match some x, xXj r m with
    | some x, some xs => some (x :: xs)
    | _, _ => none) = _
  cases xXj r m <;> rfl
@[simp] theorem wXb {n : Nat} {r : List OV} : xXj (.cell n :: r) m = (m.cs[n]?).bind fun o => (xXj r m).map (dOf o :: ·) := by
  show (match (m.cs[n]?).map dOf, xXj r m with
    | some x, some xs => some (x :: xs)
    | _, _ => none) = _
  cases m.cs[n]? <;> cases xXj r m <;> rfl
@[simp] theorem wH4 {g : List PyData → Option EV} {fo : Pg (List OV)} : W (yHk g fo) m X E ↔ W fo m X fun os m1 => ∃ ds, xXj os m1 = some ds ∧ ∃ v, g ds = some v ∧ E v m1 := by
  unfold yHk
  simp only [zZ0]
  constructor
  · intro h
    refine h.mono fun os m1 q => ?_
    rw [yU4] at q
    cases e : xXj os m1 with
    | none =>
      rw [e] at q
      exact q.elim
    | some ds =>
      rw [e] at q
      have q : W (yGd (g ds)) m1 X E := ⟨q⟩
      exact ⟨ds, rfl, xX8.mp q⟩
  · intro h
    refine h.mono fun os m1 ⟨ds, e, q⟩ => ?_
    rw [yU4, e]
    exact (xX8.mpr q).go
@[simp] theorem wZ1 {xs : List PyData} : xYq [.list xs] = some (.d (.int xs.length)) := rfl
@[simp] theorem wJ7 {xs : List PyData} : xYq [.tuple xs] = some (.d (.int xs.length)) := rfl
@[simp] theorem wJ8 {s : Str} : xYq [.str s] = if s.length ≤ 16777216 then some (.d (.int s.length)) else none := rfl
@[simp] theorem wVb {i : Int} : wVc [.int i] = some (.d (.int (if i < 0 then -i else i))) := rfl
@[simp] theorem wJ9 {i : Int} : wVa [.int i] = some (.d (.int i)) := rfl
@[simp] theorem wZ2 {b : Bool} : wVa [.bool b] = some (.d (.int (if b then 1 else 0))) := rfl
@[simp] theorem wJ3 {xs : List PyData} : xUu [.list xs] = some (.d (.tuple xs)) := rfl
@[simp] theorem wJ2 {xs : List PyData} : xUu [.tuple xs] = some (.d (.tuple xs)) := rfl
@[simp] theorem wK9 {xs : List PyData} : xYp [.list xs] = some (.fresh xs) := rfl
@[simp] theorem wK8 {xs : List PyData} : xYp [.tuple xs] = some (.fresh xs) := rfl
@[simp] theorem wK7 {d : PyData} : xKv [d] = if yU2 d then some (.d (.str d.shown)) else none := rfl
@[simp] theorem wYd {g : Fn} {args : List AV} : W (yU0 g args) m X E ↔ W (g args) ⟨[], m.cs⟩ (fun x m' => X x ⟨m.sl, m'.cs⟩) fun v m' => E v ⟨m.sl, m'.cs⟩ := by
  rw [yU4, yU4]
  unfold yU0
  cases g args ⟨[], m.cs⟩ <;> exact Iff.rfl
@[simp] theorem wGi {g : Fn} {fa : Pg (List AV)} : W (yYz g fa) m X E ↔ W fa m X fun args m1 => W (yU0 g args) m1 X E := by
  unfold yYz
  simp only [zZ0]
@[simp] theorem wYi {n : Nat} {fa : Pg (List AV)} {P : List AV → Mem → Prop} : W (yHs n fa) m X P ↔ W fa m X fun vs m1 => vs.length = n ∧ P vs m1 := by
  unfold yHs
  simp only [zZ0, wQh, xQs, xWa]
  constructor
  · intro h
    refine h.mono fun vs m1 ⟨q1, q2⟩ => ?_
    by_cases e : vs.length = n
    · exact ⟨e, q1 e⟩
    · exact (q2 e).elim
  · intro h
    exact h.mono fun vs m1 ⟨q1, q2⟩ => ⟨fun _ => q2, fun z => z q1⟩
theorem xY7 {n : Nat} {fb : Pg Fl} {args : List AV} : W (yVx n fb args) m X E ↔ W fb ⟨yU1 n args, m.cs⟩ (fun x m' => X x ⟨[], m'.cs⟩) fun fl m' => match fl with
    | .ret v => E (xYg v) ⟨[], m'.cs⟩
    | .next => E (.d .none) ⟨[], m'.cs⟩
    | _ => False := by
  rw [yU4, yU4]
  unfold yVx
  cases fb ⟨yU1 n args, m.cs⟩ with
  | bad => exact Iff.rfl
  | thr x m' => exact Iff.rfl
  | ok fl m' => cases fl <;> exact Iff.rfl
@[simp] theorem wUd {x : PyData} : xYg (.d x) = .d x := rfl
@[simp] theorem wUc {o : Ob} : xYg (.new o) = .new o := rfl
@[simp] theorem wUb {i : Nat} {o : Ob} : xYg (.pk i o) = .new o := rfl
@[simp] theorem wUe {n : Nat} : xYg (.cell n) = .cell n := rfl
@[simp] theorem wG0 {x : PyData} : toS (.d x) = .d x := rfl
@[simp] theorem wG1 {n : Nat} : toS (.cell n) = .cell n := rfl
@[simp] theorem wWw {f g : Pg Fl} : W (zJz f g) m X F ↔ W f m X fun fl m' => match fl with
    | .next => W g m' X F
    | .brk => F .brk m'
    | .cont => F .cont m'
    | .ret v => F (.ret v) m' := by
  unfold zJz
  simp only [zZ0]
  constructor
  · intro h
    refine h.mono fun fl m' q => ?_
    cases fl
    · exact q
    · exact q.go
    · exact q.go
    · exact q.go
  · intro h
    refine h.mono fun fl m' q => ?_
    cases fl
    · exact q
    · exact ⟨q⟩
    · exact ⟨q⟩
    · exact ⟨q⟩
@[simp] theorem wW5 {i : Nat} {f : Pg EV} : W (evSet i f) m X F ↔ W f m X fun v m1 => W (xHt i v) m1 X fun _ m2 => F .next m2 := by
  unfold evSet
  simp only [zZ0, xQs]
@[simp] theorem wYg {i : Nat} {x : PyData} {sl : List (Option SV)} {cs : List Ob} {P : Unit → Mem → Prop} : W (xHt i (.d x)) ⟨sl, cs⟩ X P ↔ P () ⟨sl.set i (some (.d x)), cs⟩ := ⟨fun h => h.go, fun h => ⟨h⟩⟩
@[simp] theorem wYf {i : Nat} {x : Ob} {sl : List (Option SV)} {cs : List Ob} {P : Unit → Mem → Prop} : W (xHt i (.new x)) ⟨sl, cs⟩ X P ↔ P () ⟨sl.set i (some (.ob x)), cs⟩ := ⟨fun h => h.go, fun h => ⟨h⟩⟩
@[simp] theorem wYh {i n : Nat} {sl : List (Option SV)} {cs : List Ob} {P : Unit → Mem → Prop} : W (xHt i (.cell n)) ⟨sl, cs⟩ X P ↔ P () ⟨sl.set i (some (.cell n)), cs⟩ := ⟨fun h => h.go, fun h => ⟨h⟩⟩
@[simp] theorem wYe {i j : Nat} {x : Ob} {sl : List (Option SV)} {cs : List Ob} {P : Unit → Mem → Prop} : W (xHt i (.pk j x)) ⟨sl, cs⟩ X P ↔ P () ⟨(sl.set j (some (.d (dOf x)))).set i (some (.d (dOf x))), cs⟩ := ⟨fun h => h.go, fun h => ⟨h⟩⟩
@[simp] theorem wVv {i : Nat} {f : Pg EV} : W (xJt i f) m X F ↔ W f m X fun v m1 => W (wJg i v) m1 X fun _ m2 => F .next m2 := by
  unfold xJt
  simp only [zZ0, xQs]
@[simp] theorem wGa {i : Nat} {x : Ob} {sl : List (Option SV)} {cs : List Ob} {P : Unit → Mem → Prop} : W (wJg i (.new x)) ⟨sl, cs⟩ X P ↔ P () ⟨sl.set i (some (.cell cs.length)), cs ++ [x]⟩ := ⟨fun h => h.go, fun h => ⟨h⟩⟩
@[simp] theorem wW6 {f : Pg EV} : W (yJt f) m X F ↔ W f m X fun v m1 => F (.ret v) m1 := by
  unfold yJt
  simp only [zZ0, xQs]
@[simp] theorem wW7 {t : Pg Bool} {a b : Pg Fl} : W (yU3 t a b) m X F ↔ W t m X fun k m1 => (k = true → W a m1 X F) ∧ (¬ k = true → W b m1 X F) := by
  unfold yU3
  simp only [zZ0, wQh]
@[simp] theorem xWc {a : AV} {P : PyData → Mem → Prop} : W (yHc a) m X P ↔ ∃ d, a = .d d ∧ P d m := by
  cases a with
  | d x => exact ⟨fun h => ⟨x, rfl, h.go⟩, fun ⟨_, e, h⟩ => by cases e; exact ⟨h⟩⟩
  | cell n => exact ⟨fun h => h.go.elim, fun ⟨_, e, _⟩ => by cases e⟩
@[simp] theorem wW8 {i : Nat} {f : Pg EV} : W (xYy i f) m X F ↔ W (xJ9 i) m X fun _ m0 => W f m0 X fun v m1 => W (toA v) m1 X fun a m2 => ∃ d, a = .d d ∧ W (xHu i d) m2 X F := by
  unfold xYy
  simp only [zZ0, xWc]
@[simp] theorem wWx {i : Nat} {P : Unit → Mem → Prop} : W (xJ9 i) m X P ↔ ∃ xs, m.sl[i]? = some (some (.own xs)) ∧ P () m := by
  rw [yU4]
  unfold xJ9
  split
  · rename_i xs e
    exact ⟨fun h => ⟨xs, e, h⟩, fun ⟨_, _, h⟩ => h⟩
  · rename_i h
    exact ⟨fun h => h.elim, fun ⟨xs, e, _⟩ => h xs e⟩
@[simp] theorem wGk {i : Nat} {d : PyData} {sl : List (Option SV)} {cs : List Ob} : W (xHu i d) ⟨sl, cs⟩ X F ↔ ∃ xs, sl[i]? = some (some (.own xs)) ∧ xs.length < 16777216 ∧ F .next ⟨sl.set i (some (.own (xs ++ [d]))), cs⟩ := by
  rw [yU4]
  unfold xHu
  split
  · rename_i xs e
    have e : sl[i]? = some (some (.own xs)) := e
    split
    · rename_i hl
      exact ⟨fun h => ⟨xs, e, hl, h⟩, fun ⟨ys, e2, _, h⟩ => by rw [e] at e2; cases e2; exact h⟩
    · rename_i hl
      exact ⟨fun h => h.elim, fun ⟨ys, e2, h2, _⟩ => by rw [e] at e2; cases e2; exact hl h2⟩
  · rename_i h
    exact ⟨fun h => h.elim, fun ⟨xs, e, _⟩ => h xs e⟩
@[simp] theorem wWv {fe fo fi : Pg EV} : W (yHr fe fo fi) m X F ↔ W fe m X fun v m1 => W (toA v) m1 X fun a m2 => ∃ d, a = .d d ∧ W fo m2 X fun o m3 => W fi m3 X fun i m4 => W (xJg o (yGn i) d) m4 X F := by
  unfold yHr
  simp only [zZ0, xWc]
@[simp] theorem wVs {v : EV} {i : OV} {d : PyData} : W (xJg v i d) m X F ↔ W (xZm v) m X fun o m1 => W (look i fun k => .bind (yGd (putS o k d)) fun o' => .bind (putAt v o') fun _ => .ret .next) m1 X F := by
  unfold xJg
  simp only [zZ0]
@[simp] theorem wGd {n : Nat} {P : Ob → Mem → Prop} : W (xZm (.cell n)) m X P ↔ ∃ o, m.cs[n]? = some o ∧ P o m := by
  rw [yU4]
  unfold xZm
  cases e : m.cs[n]? <;> simp [Res.wp, e]
@[simp] theorem wGc {j : Nat} {o0 : Ob} {P : Ob → Mem → Prop} : W (xZm (.pk j o0)) m X P ↔ ∃ o, m.sl[j]? = some (some (.ob o)) ∧ P o m := by
  rw [yU4]
  unfold xZm
  dsimp only
  split
  · rename_i o e
    exact ⟨fun h => ⟨o, e, h⟩, fun ⟨_, e2, h⟩ => by rw [e] at e2; cases e2; exact h⟩
  · rename_i h
    exact ⟨fun h => h.elim, fun ⟨o, e, _⟩ => h o e⟩
@[simp] theorem wU7 {n : Nat} {o : Ob} {sl : List (Option SV)} {cs : List Ob} {P : Unit → Mem → Prop} : W (putAt (.cell n) o) ⟨sl, cs⟩ X P ↔ P () ⟨sl, cs.set n o⟩ := ⟨fun h => h.go, fun h => ⟨h⟩⟩
@[simp] theorem wU6 {j : Nat} {o o0 : Ob} {sl : List (Option SV)} {cs : List Ob} {P : Unit → Mem → Prop} : W (putAt (.pk j o0) o) ⟨sl, cs⟩ X P ↔ P () ⟨sl.set j (some (.ob o)), cs⟩ := ⟨fun h => h.go, fun h => ⟨h⟩⟩
@[simp] theorem wY6 {xs : List PyData} {k : Int} {d : PyData} : putS (.lst xs) (.int k) d = (ixN xs.length k).map fun j => .lst (xs.set j d) := rfl
@[simp] theorem xJz {i : Nat} {d : PyData} {sl : List (Option SV)} {cs : List Ob} {P : Unit → Mem → Prop} : W (yHu i d) ⟨sl, cs⟩ X P ↔ P () ⟨sl.set i (some (.d d)), cs⟩ := ⟨fun h => h.go, fun h => ⟨h⟩⟩
@[simp] theorem xHv {n : Nat} {g : List PyData → Pg Unit} {ds : List PyData} {P : Unit → Mem → Prop} : W (xQ0 n g (.tuple ds)) m X P ↔ ds.length = n ∧ W (g ds) m X P := by
  show W (if ds.length = n then g ds else .stuck) m X P ↔ _
  rw [wQh, xWa]
  exact ⟨fun ⟨h1, h2⟩ => (by
    by_cases e : ds.length = n
    · exact ⟨e, h1 e⟩
    · exact (h2 e).elim), fun ⟨h1, h2⟩ => ⟨fun _ => h2, fun z => z h1⟩⟩
@[simp] theorem wVq {n : Nat} {g : List PyData → Pg Unit} {ds : List PyData} {P : Unit → Mem → Prop} : W (xQ0 n g (.list ds)) m X P ↔ ds.length = n ∧ W (g ds) m X P := xHv
@[simp] theorem wWu {P : Unit → Mem → Prop} : W (xW1 []) m X P ↔ P () m := ⟨fun h => h.go, fun h => ⟨h⟩⟩
@[simp] theorem wVr {g : PyData → Pg Unit} {h : List PyData → Pg Unit} {d : PyData} {ds : List PyData} {P : Unit → Mem → Prop} : W (xZv g h (d :: ds)) m X P ↔ W (g d) m X fun _ m1 => W (h ds) m1 X P := zZ0
theorem xU0 {α : Type} {xs : List α} {i : Int} (h : 0 ≤ i) : atI xs i = xs[i.toNat]? := by
  unfold atI ixN
  by_cases h2 : i < xs.length
  · rw [if_pos h, if_pos h2]
    rfl
  · rw [if_pos h, if_neg h2, List.getElem?_eq_none (by omega)]
    rfl
theorem xHs {α β : Type} {xs : List α} {i : Int} {f : α → β} : atI (xs.map f) i = (atI xs i).map f := by
  unfold atI
  rw [List.length_map]
  cases ixN xs.length i with
  | none => rfl
  | some j => simp
@[simp] theorem wHr {α : Type} {xs : List α} : atI xs 0 = xs[0]? := by
  unfold atI ixN
  by_cases h : (0 : Int) < xs.length
  · rw [if_pos (by omega), if_pos h]
    rfl
  · rw [if_pos (by omega), if_neg h, List.getElem?_eq_none (by omega)]
    rfl
@[simp] theorem wHq {α : Type} {xs : List α} : atI xs 1 = xs[1]? := by
  unfold atI ixN
  by_cases h : (1 : Int) < xs.length
  · rw [if_pos (by omega), if_pos h]
    rfl
  · rw [if_pos (by omega), if_neg h, List.getElem?_eq_none (by omega)]
    rfl
@[simp] theorem wHp {α : Type} {xs : List α} : atI xs 2 = xs[2]? := by
  unfold atI ixN
  by_cases h : (2 : Int) < xs.length
  · rw [if_pos (by omega), if_pos h]
    rfl
  · rw [if_pos (by omega), if_neg h, List.getElem?_eq_none (by omega)]
    rfl
@[simp] theorem wHo {α : Type} {xs : List α} : atI xs 3 = xs[3]? := by
  unfold atI ixN
  by_cases h : (3 : Int) < xs.length
  · rw [if_pos (by omega), if_pos h]
    rfl
  · rw [if_pos (by omega), if_neg h, List.getElem?_eq_none (by omega)]
    rfl
@[simp] theorem wHn {α : Type} {xs : List α} : atI xs 4 = xs[4]? := by
  unfold atI ixN
  by_cases h : (4 : Int) < xs.length
  · rw [if_pos (by omega), if_pos h]
    rfl
  · rw [if_pos (by omega), if_neg h, List.getElem?_eq_none (by omega)]
    rfl
@[simp] theorem wHm {α : Type} {xs : List α} : atI xs 5 = xs[5]? := by
  unfold atI ixN
  by_cases h : (5 : Int) < xs.length
  · rw [if_pos (by omega), if_pos h]
    rfl
  · rw [if_pos (by omega), if_neg h, List.getElem?_eq_none (by omega)]
    rfl
@[simp] theorem wHl {α : Type} {xs : List α} : atI xs 6 = xs[6]? := by
  unfold atI ixN
  by_cases h : (6 : Int) < xs.length
  · rw [if_pos (by omega), if_pos h]
    rfl
  · rw [if_pos (by omega), if_neg h, List.getElem?_eq_none (by omega)]
    rfl
@[simp] theorem wHk {α : Type} {xs : List α} : atI xs 7 = xs[7]? := by
  unfold atI ixN
  by_cases h : (7 : Int) < xs.length
  · rw [if_pos (by omega), if_pos h]
    rfl
  · rw [if_pos (by omega), if_neg h, List.getElem?_eq_none (by omega)]
    rfl
@[simp] theorem wHj {α : Type} {xs : List α} : atI xs 8 = xs[8]? := by
  unfold atI ixN
  by_cases h : (8 : Int) < xs.length
  · rw [if_pos (by omega), if_pos h]
    rfl
  · rw [if_pos (by omega), if_neg h, List.getElem?_eq_none (by omega)]
    rfl
@[simp] theorem vQd {fa fb : Pg EV} : W (xZo fa fb) m X E ↔ W fa m X fun v m1 => W fb m1 X fun u m2 => W (ixP (yGn v) (yGn u)) m2 X E := by
  unfold xZo
  simp only [zZ0]
@[simp] theorem wH1 {o i : OV} : W (ixP o i) m X E ↔ W (look o fun x => look i fun y => yGd ((ixS x y).map .d)) m X E := Iff.rfl
@[simp] theorem wHf {β γ : Type} {p : β → Prop} {f : β → γ} {P : γ → Prop} : (∃ a, (∃ b, p b ∧ f b = a) ∧ P a) ↔ ∃ b, p b ∧ P (f b) :=
  ⟨fun ⟨_, ⟨b, h, e⟩, q⟩ => ⟨b, h, e ▸ q⟩, fun ⟨b, h, q⟩ => ⟨_, ⟨b, h, rfl⟩, q⟩⟩
@[simp] theorem ex_map {β γ : Type} {o : Option β} {f : β → γ} {P : γ → Prop} : (∃ a, o.map f = some a ∧ P a) ↔ ∃ b, o = some b ∧ P (f b) := by
  cases o <;> simp
@[simp] theorem wHd {xs : List PyData} {i : Int} : ixS (.list xs) (.int i) = atI xs i := rfl
@[simp] theorem wHc {xs : List PyData} {i : Int} : ixS (.tuple xs) (.int i) = atI xs i := rfl
@[simp] theorem wU8 {f : Pg EV} {P : Option Int → Mem → Prop} : W (xJu f) m X P ↔ W f m X fun v m1 => W (wK6 (yGn v)) m1 X P := by
  unfold xJu
  simp only [zZ0]
@[simp] theorem wGb {o : OV} {P : Option Int → Mem → Prop} : W (wK6 o) m X P ↔ W (look o fun x => yGd (intD x)) m X P := Iff.rfl
@[simp] theorem wUo {i : Int} : intD (.int i) = some (some i) := rfl
@[simp] theorem vQc {fa : Pg EV} {fl fh : Pg (Option Int)} : W (wVd fa fl fh) m X E ↔ W fa m X fun v m1 => W fl m1 X fun l m2 => W fh m2 X fun h m3 => W (slP (yGn v) l h) m3 X E := by
  unfold wVd
  simp only [zZ0]
@[simp] theorem wHv {o : OV} {l h : Option Int} : W (slP o l h) m X E ↔ W (look o fun x => yGd (slS x l h)) m X E := Iff.rfl
@[simp] theorem wG5 {xs : List PyData} {l h : Option Int} : slS (.list xs) l h = some (.fresh (cutD xs l h)) := rfl
@[simp] theorem wG4 {xs : List PyData} {l h : Option Int} : slS (.tuple xs) l h = some (.d (.tuple (cutD xs l h))) := rfl
@[simp] theorem wHz {f : Pg EV} : W (xYw f) m X E ↔ W f m X fun v m1 => W (look (yGn v) fun x => yGd (wK0 x)) m1 X E := by
  unfold xYw
  simp only [zZ0]
@[simp] theorem vQe : W wWb m X E ↔ E (.new (.dic [])) m := ⟨fun h => h.go, fun h => ⟨h⟩⟩
@[simp] theorem wJh {i : Int} : wK0 (.int i) = some (.d (.int (-i))) := rfl
@[simp] theorem wKj {l : List (Option SV)} : yK6 [] l = l := rfl
@[simp] theorem wKk {i : Nat} {is : List Nat} {l : List (Option SV)} : yK6 (i :: is) l = (yK6 is l).set i none := rfl
@[simp] theorem wW4 {f : Pg (List PyData)} {g : PyData → Pg Unit} {b : Pg Fl} : W (xVe f g b) m X F ↔ W f m X fun ds m1 => W (forL g b ds) m1 X F := by
  unfold xVe
  simp only [zZ0]
theorem xWd {g : PyData → Pg Unit} {b : Pg Fl} (I : List PyData → Mem → Prop) : ∀ {ds : List PyData} {m : Mem}, I ds m →
    (∀ d ds m, I (d :: ds) m → W (g d) m X fun _ m1 => W b m1 X fun fl m2 => match fl with
      | .next => I ds m2
      | .cont => I ds m2
      | .brk => F .next m2
      | .ret v => F (.ret v) m2) → (∀ m, I [] m → F .next m) → W (forL g b ds) m X F
  | [], m, h0, _, h2 => ⟨h2 m h0⟩
  | d :: ds, m, h0, h1, h2 => by
    show W (Pg.bind (g d) _) m X F
    rw [zZ0]
    refine (h1 d ds m h0).mono fun _ m1 q => ?_
    rw [zZ0]
    refine q.mono fun fl m2 q => ?_
    cases fl with
    | next => exact xWd I q h1 h2
    | cont => exact xWd I q h1 h2
    | brk => exact ⟨q⟩
    | ret v => exact ⟨q⟩
@[simp] theorem wGe {f : Pg EV} {P : List PyData → Mem → Prop} : W (wQd f) m X P ↔ W f m X fun v m1 => W (toA v) m1 X fun a m2 => ∃ ds, xXu a = some ds ∧ P ds m2 := by
  unfold wQd
  simp only [zZ0, xX8]
@[simp] theorem wKp {xs : List PyData} : xXu (.d (.list xs)) = some xs := rfl
@[simp] theorem wKo {xs : List PyData} : xXu (.d (.tuple xs)) = some xs := rfl
@[simp] theorem wU5 {f : Pg (List OV)} {P : List PyData → Mem → Prop} : W (xXg f) m X P ↔ W f m X fun os m1 => ∃ ds, wXy os = some ds ∧ P ds m1 := by
  unfold xXg
  simp only [zZ0, xX8]
theorem wXk {is : List Nat} {P : Unit → Mem → Prop} : W (xWz is) m X P ↔ P () ⟨yK6 is m.sl, m.cs⟩ := ⟨fun h => h.go, fun h => ⟨h⟩⟩
@[simp] theorem wGh {is : List Nat} {fi : Pg (List PyData)} {g : PyData → Pg Unit} {t : Pg Bool} {e : Pg EV} : W (xQy is fi g t e) m X E ↔ W fi m X fun ds m1 => W (xQi is g t e ds []) ⟨yK6 is m1.sl, m1.cs⟩ X E := by
  unfold xQy
  simp only [zZ0, wXk]
end
end Ev

namespace Ev
open PySem PySem.Spec PyProof.Rows L2

structure Fit (k B : Nat) (d : PyData) : Prop where
  pl : zZ4 d = true
  dep : d.depth ≤ k
  shw : d.showable = true
  len : d.shown.length ≤ B
theorem Fit.mono {k B k' B' : Nat} {d : PyData} (h : Fit k B d) (h1 : k ≤ k') (h2 : B ≤ B') : Fit k' B' d := ⟨h.pl, Nat.le_trans h.dep h1, h.shw, Nat.le_trans h.len h2⟩
theorem Fit.shaped {k B : Nat} {d : PyData} (h : Fit k B d) (hc : d.canLay0 = true) (hk : k ≤ 64) : SeqAt.shaped d = true := by
  unfold SeqAt.shaped
  simp only [hc, Bool.true_and, decide_eq_true_eq]
  exact Nat.le_trans h.dep hk
theorem Fit.repr {k B : Nat} {d : PyData} (h : Fit k B d) (hk : k ≤ 64) (hB : B ≤ 16777216) : yU2 d = true := by
  unfold yU2
  simp only [h.shw, Bool.true_and, h.pl, Bool.and_true, Bool.and_eq_true, decide_eq_true_eq]
  exact ⟨Nat.le_trans h.dep hk, Nat.le_trans h.len hB⟩
theorem xYs {b : Bool} : Fit 0 5 (.bool b) := ⟨by simp [zZ4], by simp [PyData.depth], by simp [PyData.showable], by cases b <;> simp only [PyData.shown] <;> decide⟩
def yYx : PyData → Bool
  | .dict es => zZ5 es
  | _ => true
@[simp] theorem wJn : yYx .none = true := rfl
@[simp] theorem wJr {b : Bool} : yYx (.bool b) = true := rfl
@[simp] theorem wJp {b : Int} : yYx (.int b) = true := rfl
@[simp] theorem wJm {b : Str} : yYx (.str b) = true := rfl
@[simp] theorem wJo {b : List PyData} : yYx (.list b) = true := rfl
@[simp] theorem wJl {b : List PyData} : yYx (.tuple b) = true := rfl
@[simp] theorem wJq {b : List (PyData × PyData)} : yYx (.dict b) = zZ5 b := rfl
@[simp] theorem xH6 : zZ5 [] = true := rfl
theorem Fit.yYx {k B : Nat} {d : PyData} (h : Fit k B d) : yYx d = true := by
  cases d with
  | dict es =>
    have := h.pl
    simp only [zZ4] at this
    show zZ5 es = true
    clear h
    induction es with
    | nil => rfl
    | cons p es ih =>
      obtain ⟨a, b⟩ := p
      simp only [zZ6, Bool.and_eq_true] at this
      unfold zZ5
      rw [List.all_cons, Bool.and_eq_true]
      exact ⟨this.1, ih this.2.2⟩
  | _ => rfl
theorem xVa {lo : Int} : yHz lo 0 = [] := rfl
theorem xVb {lo : Int} {n : Nat} : yHz lo (n + 1) = .int lo :: yHz (lo + 1) n := by
  unfold yHz
  rw [List.range_succ_eq_map, List.map_cons, List.map_map]
  congr 1
  · simp
  · refine List.map_congr_left fun i _ => ?_
    simp only [Function.comp]
    congr 1
    omega
section
variable {X : Exn → Mem → Prop} {F : Fl → Mem → Prop} {E : EV → Mem → Prop}
theorem xX7 {g : PyData → Pg Unit} {b : Pg Fl} (I : Int → Mem → Prop) : ∀ (n : Nat) (lo : Int) {m : Mem}, I lo m →
    (∀ i m, lo ≤ i → i < lo + n → I i m → W (g (.int i)) m X fun _ m1 => W b m1 X fun fl m2 => match fl with
      | .next => I (i + 1) m2
      | .cont => I (i + 1) m2
      | .brk => F .next m2
      | .ret v => F (.ret v) m2) → (∀ m, I (lo + n) m → F .next m) → W (forL g b (yHz lo n)) m X F
  | 0, lo, m, h0, _, h2 => by
    rw [xVa]
    exact ⟨h2 m (by simpa using h0)⟩
  | n + 1, lo, m, h0, h1, h2 => by
    rw [xVb]
    show W (Pg.bind (g (.int lo)) _) m X F
    rw [zZ0]
    have hI : ∀ m, I (lo + 1) m → W (forL g b (yHz (lo + 1) n)) m X F := fun m h => xX7 I n (lo + 1) h (fun i m a b => h1 i m (by omega) (by omega)) fun m h => h2 m (by rw [show lo + ((n + 1 : Nat) : Int) = lo + 1 + (n : Int) by omega]; exact h)
    refine (h1 lo m (Int.le_refl _) (by omega) h0).mono fun _ m1 q => ?_
    rw [zZ0]
    refine q.mono fun fl m2 q => ?_
    cases fl with
    | next => exact hI m2 q
    | cont => exact hI m2 q
    | brk => exact ⟨q⟩
    | ret v => exact ⟨q⟩
end
@[simp] theorem wQ2 {j : Int} : xV9 j = true ↔ -4611686018427387904 ≤ j ∧ j < 4611686018427387904 := by
  unfold xV9
  simp
@[simp] theorem wXx {j : Int} : wXy [.d (.int j)] = if xV9 j then some (yHz 0 j.toNat) else none := rfl
theorem xHr {α : Type} {xs : List α} {i : Int} (h : 0 ≤ i) (h2 : i < xs.length) : ∃ d, atI xs i = some d ∧ d ∈ xs := by
  rw [xU0 h]
  exact ⟨_, List.getElem?_eq_getElem (by omega), List.getElem_mem _⟩
theorem xUl : ∀ {xs : List PyData} {x : PyData}, yY2 xs = true → x ∈ xs → zZ4 x = true
  | y :: ys, x, h, hx => by
    simp only [yY2, Bool.and_eq_true] at h
    rcases List.mem_cons.mp hx with q | q
    · rw [q]
      exact h.1
    · exact xUl h.2 q
theorem xV6 : ∀ {xs : List PyData} {x : PyData}, PyData.showableAll xs = true → x ∈ xs → x.showable = true
  | y :: ys, x, h, hx => by
    simp only [PyData.showableAll, Bool.and_eq_true] at h
    rcases List.mem_cons.mp hx with q | q
    · rw [q]
      exact h.1
    · exact xV6 h.2 q
theorem xK3 : ∀ {xs : List PyData} {x : PyData}, x ∈ xs → x.depth ≤ PyData.depthAll xs
  | y :: ys, x, hx => by
    simp only [PyData.depthAll]
    rcases List.mem_cons.mp hx with q | q
    · rw [q]
      exact Nat.le_max_left _ _
    · exact Nat.le_trans (xK3 q) (Nat.le_max_right _ _)
theorem xZ0 : ∀ {xs : List PyData} {x : PyData}, x ∈ xs → x.shown.length ≤ piled (PyData.shownAll xs)
  | y :: ys, x, hx => by
    simp only [PyData.shownAll, piled_cons]
    rcases List.mem_cons.mp hx with q | q
    · rw [q]
      omega
    · have := xZ0 q
      omega
theorem Fit.tup_mem {k B : Nat} {xs : List PyData} {x : PyData} (h : Fit k B (.tuple xs)) (hx : x ∈ xs) : Fit k B x := by
  obtain ⟨h1, h2, h3, h4⟩ := h
  simp only [zZ4] at h1
  simp only [PyData.depth] at h2
  simp only [PyData.showable] at h3
  simp only [PyData.shown] at h4
  have := xK3 hx
  exact ⟨xUl h1 hx, by omega, xV6 h3 hx, Nat.le_trans (xZ0 hx) (Nat.le_trans (piled_le_tupleText _) h4)⟩
theorem xYm {n : Nat} {g : Fn} (h : ∀ ns : List Int, ns.length ≤ n → (∀ z ∈ ns, Builtin.Int.intBits z ≤ 1048576) → W (g [.d (xZh ns)]) ⟨[], []⟩ noX fun v _ => v = .d (.bool true)) : wYm n g := fun ns h1 h2 => by
  have z := h ns h1 h2
  have z := z.go
  cases e : g [.d (xZh ns)] ⟨[], []⟩ with
  | bad =>
    rw [e] at z
    exact z.elim
  | thr x m =>
    rw [e] at z
    exact z.elim
  | ok v m =>
    rw [e] at z
    have z : v = .d (.bool true) := z
    exact ⟨m, by rw [z]⟩
theorem xYz {ns : List Int} {k : Nat} : cutD (ns.map PyData.int) none (some (k : Int)) = (ns.take k).map PyData.int := by
  unfold cutD
  rw [HT.sIx_nat, HT.sIx_none, List.drop_zero, Nat.sub_zero, List.length_map, ← List.map_take]
  by_cases h : k ≤ ns.length
  · rw [Nat.min_eq_left h]
  · rw [Nat.min_eq_right (by omega), List.take_of_length_le (Nat.le_refl _), List.take_of_length_le (by omega)]
@[simp] theorem wXz {b : Bool} : yU2 (.bool b) = true := xYs.repr (by decide) (by decide)
theorem xWe {X : Exn → Mem → Prop} {f g : Pg Fl} {m : Mem} {F : Fl → Mem → Prop} (I : Mem → Prop) (h1 : W f m X fun fl m' => match fl with
    | .next => I m'
    | .brk => F .brk m'
    | .cont => F .cont m'
    | .ret v => F (.ret v) m') (h2 : ∀ m', I m' → W g m' X F) : W (zJz f g) m X F :=
  wWw.mpr (h1.mono fun fl m' q => by
    cases fl with
    | next => exact h2 m' q
    | brk => exact q
    | cont => exact q
    | ret v => exact q)
end Ev

namespace Ev
open PySem PySem.Spec PyProof.Rows L2

section
variable {X : Cx} {B : XBt} {e c : Expr} {es : List Expr} {pos p : Pos} {f : Pg EV} {tc : Pg Bool} {fb : Pg Fl}
def wZs (ns : List Int) : List Int := ns.mergeSort fun a b => decide (a ≤ b)
def xHe : List PyData → Option EV
  | [.list xs] => (intsOf xs).map fun ns => .fresh ((wZs ns).map .int)
  | _ => none
def xXc : List PyData → Option EV
  | [.dict es] => if zZ5 es then some (.fresh (es.map (·.1))) else none
  | ds => xYp ds
theorem RK.keys {K : PySem.W.Frag} {F : Hp} : ∀ {es : List (PyData × PyData)} {kvs : List (Key × V)}, RK K F es kvs → RA K F (es.map (·.1)) (kvs.map fun kv => kV kv.1)
  | _, _, .nil => .nil
  | _, _, .cons (k := k) _ t => .cons (by cases k; exact .int _; exact .str _) (RK.keys t)
theorem xYi (C : Ctx X B) : BOk X (.type "list") xXc := by
  intro w ds xs v Q r h e k
  cases h with
  | nil => cases e
  | @cons d x ds xs h t =>
    cases t with
    | cons a b => exact xKi w _ _ v Q r (.cons h (.cons a b)) (by cases d <;> exact e) k
    | nil =>
      cases d with
      | dict es =>
        have e : (if zZ5 es then some (EV.fresh (es.map (·.1))) else none) = some v := e
        split at e
        · rename_i hp
          cases e
          obtain ⟨a, kvs, rfl, h1, h2⟩ := h.dic r.sub hp
          exact ⟨_, call_listD C.calm, a, kvs, rfl, .inl h1, fun p hp => k.lst r h2.keys hp⟩
        · cases e
      | _ => exact xKi w _ _ v Q r (.cons h .nil) e k
end
section
variable {m : Mem} {X : Exn → Mem → Prop} {F : Fl → Mem → Prop} {E : EV → Mem → Prop}
@[simp] theorem wZ0 {xs : List PyData} : xHe [.list xs] = (intsOf xs).map fun ns => .fresh ((wZs ns).map .int) := rfl
@[simp] theorem wJ6 {es : List (PyData × PyData)} : xXc [.dict es] = if zZ5 es then some (.fresh (es.map (·.1))) else none := rfl
@[simp] theorem wJ5 {xs : List PyData} : xXc [.list xs] = some (.fresh xs) := rfl
@[simp] theorem wJ4 {xs : List PyData} : xXc [.tuple xs] = some (.fresh xs) := rfl
end
end Ev

namespace Ev
open PySem PySem.Spec PyProof.Rows L2

def Chain {α : Type} (D : Addr) : List (Str × Value) → Sem α → Sem α → Prop
  | [], t, r => t = r
  | q :: l, t, r => ∃ (β γ : Type) (k1 : Option Value → Sem β) (k2 : β → Sem γ) (k3 : γ → Sem α) (a : β), t = ((nsGet D q.1 >>= k1) >>= k2) >>= k3 ∧ k1 (some q.2) = pure a ∧ Chain D l (k2 a >>= k3) r
theorem Chain.go {α : Type} {K : PySem.W.Frag} {M : Model} {D : Addr} {A : Around} {Q : α → Shared → Prop} {E : Value → Shared → Prop} {s : Shared} (X : K.In s.heap) : ∀ {l : List (Str × Value)} {t r : Sem α}, (∀ q ∈ l, PySem.W.nsIn K D q.1 = some (some q.2)) → Chain D l t r → wpAny M A r Q E s → wpAny M A t Q E s
  | [], t, r, _, e, h => by
    have e : t = r := e
    rw [e]
    exact h
  | q :: l, t, r, hl, e, h => by
    obtain ⟨β, γ, k1, k2, k3, a, e1, e2, e3⟩ := e
    have l1 : PySem.W.Looks M s.heap (nsGet D q.1 >>= k1) a := (PySem.W.looks_nsIn X (hl q (List.mem_cons_self ..))).andThen (PySem.W.Looks.of_pure e2)
    rw [e1, bind_assoc]
    exact wpAny_bind (l1.here (Chain.go X (fun p hp => hl p (List.mem_cons_of_mem _ hp)) e3 h))
section
variable {X : Cx} {B : XBt} {e : Expr} {es : List Expr} {pos p : Pos} {k : Nat} {ps : List Str} {x pv : Str}
end

section
variable {P : Program} {w : World} {K : PySem.W.Frag} {mg : Str → Option Value} {base : Heap} {x pv : Str} {st : Stmt} {ps : List Str} {kws : List (Str × V)} {g : Fn} {j k q : Nat}
end
end Ev

namespace Ev
open PySem PySem.Spec PyProof.Rows L2

end Ev

namespace Ev
open PySem PySem.Spec PyProof.Rows L2

section
variable {X : Cx} {B : XBt} {e : Expr} {pos p p2 pos2 : Pos} {f : Pg EV}
end
section
variable {m : Mem} {X : Exn → Mem → Prop} {E : EV → Mem → Prop} {P : List AV → Mem → Prop}
end
end Ev

namespace Ev
open PySem PySem.Spec PyProof.Rows L2

end Ev

namespace Ev
open PySem PySem.Spec PyProof.Rows L2
section
variable {X : Cx} {B : XBt} {e o : Expr} {es : List Expr} {pos p : Pos} {f fo fa : Pg EV}
end
section
variable {X : Cx} {B : XBt}
def yHh (es more : List (PyData × PyData)) : List (PyData × PyData) := more.foldl (fun acc kv => xHk acc kv.1 kv.2) es
theorem RK.merge {K : PySem.W.Frag} {F : Hp} {more : List (PyData × PyData)} : ∀ {es : List (PyData × PyData)} {mvs kvs : List (Key × V)}, RK K F es kvs → RK K F more mvs → RK K F (yHh es more) (mergeK kvs mvs) := by
  induction more with
  | nil =>
    intro es mvs kvs h g
    cases g
    exact h
  | cons p more ih =>
    intro es mvs kvs h g
    cases g with
    | @cons k d es' v kvs' hd t =>
      show RK K F (yHh (xHk es (xQf k) d) more) (mergeK (putK kvs k v) kvs')
      exact ih (h.put hd k) t
theorem wK5 {K : PySem.W.Frag} {F : Hp} {kk : Key} {v : V} (h : R K F (xQf kk) v) : v = kV kk := by
  cases kk with
  | inl i =>
    cases (show R K F (.int i) v from h)
    rfl
  | inr i =>
    cases (show R K F (.str i) v from h)
    rfl
end
theorem xZ1 {K : PySem.W.Frag} {w1 : Wd} {T : Addr} {x y : V} {d e : PyData} (r : Rep K w1) (hT : w1.H T = none) (hx : R K w1.F d x) (hy : R K w1.F e y) :
    ∃ w2 : Wd, w2.m = w1.m ∧ w2.sg = w1.sg ∧ w2.H = upd w1.H T (.tup [x, y]) ∧ FolE w1 w2 ∧ Rep K w2 ∧ R K w2.F (.tuple [d, e]) (.ref T) ∧ ∀ a, w2.F a ≠ none → w1.F a ≠ none ∨ w1.H a = none := by
  obtain ⟨r2, f2⟩ := xQc r hT (.tup [x, y])
  refine ⟨{ w1 with F := upd w1.F T (.tup [x, y]), H := upd w1.H T (.tup [x, y]) }, rfl, rfl, rfl, f2, r2, .tup (.inl (.inl upd_same)) (.cons (hx.mono f2.ext) (.cons (hy.mono f2.ext) .nil)), fun a h => ?_⟩
  by_cases q : a = T
  · rw [q]
    exact .inr hT
  · exact .inl (by
      have h : upd w1.F T (.tup [x, y]) a ≠ none := h
      rw [upd_ne q] at h
      exact h)
section
variable {X : Cx} {B : XBt} {e e2 : Expr} {p pos tpos : Pos} {elts : List Expr} {kk : Nat} {fa : Pg (List AV)}
def xQr (xs : List PyData) : List PyData := xs.mapIdx fun i x => .tuple [.int (i : Nat), x]
theorem xJ8 {K : PySem.W.Frag} {w : Wd} {a : Addr} {xs : List V} {ds : List PyData} (ha : LQ K w.F a xs) (ra : RA K w.F ds xs) : xVh K w (Ite K a) (xQr ds) := by
  intro w1 f r i
  have qa : SqL K w1.H a xs := ((ha.mono f.ext).mox r.sub).sq
  refine ⟨fun d hd => ?_, fun hl => ⟨xs, qa, ?_⟩⟩
  · unfold xQr at hd
    rw [List.getElem?_mapIdx] at hd
    cases e1 : ds[i]? with
    | none =>
      rw [e1] at hd
      cases hd
    | some d1 =>
      rw [e1] at hd
      cases hd
      obtain ⟨x, hx, rx⟩ := ra.get e1
      refine ⟨⟨xs, x, qa, hx⟩, fun v H' yl => ?_⟩
      obtain ⟨T, x', rfl, hT, rfl, g1⟩ := yl
      have e1 := (g1 xs qa).symm.trans hx
      cases e1
      exact xZ1 r hT (.int _) (rx.mono f.ext)
  · rw [← ra.len]
    unfold xQr at hl
    rw [List.length_mapIdx] at hl
    exact hl
end
end Ev

namespace Ev
open PySem PySem.Spec PyProof.Rows L2
section
variable {X : Cx} {B : XBt} {e o c : Expr} {es : List Expr} {pos p : Pos} {f fo fa fc : Pg EV}
def xY9 (X : Cx) (B : XBt) (pos : Pos) (ks : List (Option Expr)) (vs : List Expr) (f : Pg (List (PyData × PyData))) : Prop := ∃ trs : List (TE × TE), PPs X pos ks vs trs ∧ ∀ (w : Wd) (Q : List (V × V) → Hp → Prop), Rep X.K w →
  (f w.m).wp (fun es m' => ∀ (w' : Wd) (kvs : List (Key × V)), w'.m = m' → w'.sg = w.sg → FolE w w' → Rep X.K w' → RK X.K w'.F es kvs → Q (kvs.map fun kv => (kV kv.1, kv.2)) w'.H) (XW X.K B w) → tPairs trs w.sg w.H Q
theorem xV1 : xY9 X B pos [] [] (.ret []) := ⟨[], pps_nil, fun w Q r h => h w [] rfl rfl (FolE.refl w) r .nil⟩
def xZq (fk fv : Pg EV) (g : Pg (List (PyData × PyData))) : Pg (List (PyData × PyData)) := .bind fk fun k => .bind (toA k) fun ka => .bind (yHc ka) fun kd => if yVs kd then .bind fv fun v => .bind (toA v) fun va => .bind (yHc va) fun vd => .bind g fun r => .ret ((kd, vd) :: r) else .stuck
theorem xJ3 {ks : List (Option Expr)} {vs : List Expr} {g : Pg (List (PyData × PyData))} (hk : Snd X B e f) (hv : Snd X B o fo) (hr : xY9 X B pos ks vs g) : xY9 X B pos (some e :: ks) (o :: vs) (xZq f fo g) := by
  obtain ⟨trs, pp, run⟩ := hr
  refine ⟨(WE X e, WE X o) :: trs, pps_cons yG1 yG1 pp, fun w Q r hw => ?_⟩
  show WE X e w.sg w.H _
  refine zZx hk r hw fun k w1 x e1 f1 r1 re h1 => ?_
  obtain ⟨ka, w2, ea, e2, e3, f2, r2, rv⟩ := yG5 r1 re
  have h2 := wp_bind h1
  rw [ea] at h2
  obtain ⟨kd, rfl, h3⟩ := yHb (wp_bind (show (Pg.bind (yHc ka) _ w2.m).wp _ _ from h2))
  rw [← e3, ← e1, ← e2]
  split at h3
  · rename_i hkb
    obtain ⟨kk, rfl⟩ := xQd hkb
    have rv : R X.K w2.F (xQf kk) x := rv
    refine zZx hv r2 (h3.imp (fun _ _ z => z) fun _ _ z => z.fol (f2.s r1)) fun v w3 y e4 f3 r3 re3 h4 => ?_
    obtain ⟨va, w4, ea4, e5, e6, f4, r4, rv4⟩ := yG5 r3 re3
    have h5 := wp_bind h4
    rw [ea4] at h5
    obtain ⟨vd, rfl, h6⟩ := yHb (wp_bind (show (Pg.bind (yHc va) _ w4.m).wp _ _ from h5))
    have rv4 : R X.K w4.F vd y := rv4
    rw [← e6, ← e4, ← e5]
    refine run w4 _ r4 ((wp_bind h6).imp (fun es m' q w5 kvs em e7 f5 r5 rk => ?_) fun _ _ z => z.fol (f4.s r3))
    subst em
    have q := q w5 ((kk, y) :: kvs) rfl (e7.trans (e5.trans (e4.trans (e2.trans e1)))) (f1.trans (f2.trans (f3.trans (f4.trans f5)))) r5 (.cons (rv4.mono f5.ext) rk)
    rw [wK5 rv]
    exact q
  · exact h3.elim
def xJv (f : Pg (List (PyData × PyData))) : Pg EV := .bind (xQb f) fun es => if es.length ≤ 15 then .ret (.new (.dic (yHh [] es))) else .stuck
theorem xW7 {keys : List (Option Expr)} {values : List Expr} {fp : Pg (List (PyData × PyData))} (h : xY9 X B pos keys values fp) (hall : keys.all (·.isSome) = true := by rfl) (hl : keys.length = values.length := by rfl) (h0 : keys ≠ [] := by simp)
    (h15 : keys.length ≤ 15 := by decide) : Snd X B (.Dict keys values pos) (xJv fp) := by
  obtain ⟨trs, pp, run⟩ := h
  intro w Q r hw
  refine yYq (pe_disp pp hall hl h0 h15) ?_
  intro p hp
  obtain ⟨rl, fl⟩ := lay r hp (.dK [])
  have fD : w.F p = none := r.noF hp
  generalize hZd : (fun a => w.Z a ∨ a = p) = Zd
  have zSub : ∀ a, w.Z a → Zd a := fun a h => by rw [← hZd]; exact .inl h
  have zD : Zd p := by rw [← hZd]; exact .inr rfl
  have zInv : ∀ a, Zd a → w.Z a ∨ a = p := fun a h => by rw [← hZd] at h; exact h
  have r0 : Rep X.K (reZ { w with H := upd w.H p (.dK []) } Zd) := yH2 rl (fun a h => by
    rcases zInv a h with q | q
    · exact rl.zl a q
    · rw [q]
      show upd w.H p (.dK []) p ≠ none
      rw [upd_same]
      simp) (fun a h z => by
    rcases zInv a z with q | q
    · exact (rl.ownAt h).2.2.2 q
    · rw [q] at h
      exact (r.ownAt (show Own w p from h)).1 hp) fun d a hd z => by
    rcases zInv d z with q | q
    · exact q
    · rw [q] at hd
      have hd : upd w.H p (.dK []) p = some (.own a) := hd
      rw [upd_same] at hd
      cases hd
  have hw' := yH3 (wp_bind hw)
  refine run (reZ { w with H := upd w.H p (.dK []) } Zd) _ r0 (Res.wp.imp hw' (fun es m' q w' kvs em e1 f1 r1 rk => ?_) fun _ _ z => z.elim)
  have pro : p ∉ w.ro := fun z => r.roLive z hp
  have z' : w'.Z = Zd := f1.z
  have d1 : w'.H p = some (.dK []) := f1.frm p _ (show upd w.H p (.dK []) p = _ from upd_same) pro (by intro _ z; cases z)
  have d2 : p ∉ w'.ro := fun z => (f1.new p z).elim pro fun q => by
    have q : upd w.H p (.dK []) p = none := q
    rw [upd_same] at q
    cases q
  have d3 : w'.F p = none := Classical.byContradiction fun q => (f1.grow p q).elim (fun z => z fD) fun z => z zD
  have nO : ¬ Own w' p := fun z => (r1.ownAt z).2.2.2 (by rw [z']; exact zD)
  refine ⟨d1, kvs, rfl, ?_, ?_⟩
  · have q : ((if es.length ≤ 15 then .ret (.new (.dic (yHh [] es))) else .stuck : Pg EV) m').wp (yYt X.K w Q) (XW X.K B w) := q
    split at q
    · rename_i hl
      rw [← rk.len]
      exact hl
    · exact q.elim
  have q : ((if es.length ≤ 15 then .ret (.new (.dic (yHh [] es))) else .stuck : Pg EV) m').wp (yYt X.K w Q) (XW X.K B w) := q
  split at q
  · have r9 := wKv (o := .dK (mergeK [] kvs)) r1 d3 d2 nO (fun {a d} z e => by rw [e, d1] at z; cases z) (fun C d vs z => by rw [d1] at z; cases z) ⟨_, d1, fun z => z⟩
    have r10 := xKa r9 (Z := w.Z) fun a h => by
      show w'.Z a
      rw [z']
      exact zSub a h
    have fo : FolE w (reZ { w' with H := upd w'.H p (.dK (mergeK [] kvs)) } w.Z) := ⟨rfl, f1.t, f1.ext, f1.pre, fun a o h n k => by
      have na : a ≠ p := fun e => by rw [e, hp] at h; cases h
      show upd w'.H p (.dK (mergeK [] kvs)) a = some o
      rw [upd_ne na]
      exact f1.frm a o (by show upd w.H p (.dK []) a = some o; rw [upd_ne na]; exact h) n k, fun a h => (f1.new a h).imp id fun q => by
      by_cases na : a = p
      · rw [na]; exact hp
      · have q : upd w.H p (.dK []) a = none := q
        rw [upd_ne na] at q
        exact q, fun a h => by
      have na : a ≠ p := fun e => h (by rw [e]; exact hp)
      show upd w'.H p (.dK (mergeK [] kvs)) a ≠ none
      rw [upd_ne na]
      exact f1.liv a (by show upd w.H p (.dK []) a ≠ none; rw [upd_ne na]; exact h), fun a h => (f1.grow a h).imp id fun q z => q (zSub a z), fun a h => f1.own a h⟩
    exact q (reZ { w' with H := upd w'.H p (.dK (mergeK [] kvs)) } w.Z) (.ref p) em e1 fo r10 ⟨p, rfl, ⟨_, upd_same, RK.merge .nil rk⟩, d3, d2, fun z => r.zl p z hp, nO⟩
  · exact q.elim
end
end Ev

namespace Ev
open PySem PySem.Spec PyProof.Rows L2
section
variable {α β : Type} {m : Mem} {X : Exn → Mem → Prop} {P Q : α → Mem → Prop} {R : β → Mem → Prop} {E : EV → Mem → Prop} {F : Fl → Mem → Prop} {T : Bool → Mem → Prop} {D : List (PyData × PyData) → Mem → Prop} {L : List PyData → Mem → Prop}
@[simp] theorem wGg {f : Pg (List (PyData × PyData))} : W (xJv f) m X E ↔ W f m noX fun es m1 => es.length ≤ 15 ∧ E (.new (.dic (yHh [] es))) m1 := by
  unfold xJv
  rw [zZ0, xWb]
  constructor
  · intro h
    refine h.mono fun es m1 q => ?_
    by_cases hl : es.length ≤ 15
    · rw [if_pos hl] at q
      exact ⟨hl, q.go⟩
    · rw [if_neg hl] at q
      exact q.go.elim
  · intro h
    refine h.mono fun es m1 ⟨hl, q⟩ => ?_
    rw [if_pos hl]
    exact ⟨q⟩
@[simp] theorem wYa {fk fv : Pg EV} {g : Pg (List (PyData × PyData))} : W (xZq fk fv g) m X D ↔ W fk m X fun k m1 => W (toA k) m1 X fun ka m2 => W (yHc ka) m2 X fun kd m3 => W (if yVs kd then .bind fv fun v => .bind (toA v) fun va => .bind (yHc va) fun vd => .bind g fun r => .ret ((kd, vd) :: r) else .stuck) m3 X D := by
  unfold xZq
  simp only [zZ0]
@[simp] theorem wUl {s : Str} : yVs (.str s) = true := rfl
@[simp] theorem wUm {s : Int} : yVs (.int s) = true := rfl
@[simp] theorem xH7 {es : List (PyData × PyData)} : yHh es [] = es := rfl
@[simp] theorem xG5 {es r : List (PyData × PyData)} {k v : PyData} : yHh es ((k, v) :: r) = yHh (xHk es k v) r := rfl
@[simp] theorem wWf {ns ms : List Int} : yU5 .Lt (.tuple (ns.map .int)) (.tuple (ms.map .int)) = some (ltL ns ms) := by
  simp only [yU5, xQx]
structure Kin (t : PyData) : Prop where
  k : yYx t = true
  i : ∀ xs x, t = .tuple xs → x ∈ xs → yYx x = true
theorem Fit.kin {k B : Nat} {d : PyData} (h : Fit k B d) : Kin d := ⟨h.yYx, fun xs x e hx => by
  subst e
  exact (h.tup_mem hx).yYx⟩
end
end Ev

namespace Ev
open PySem PySem.Spec PyProof.Rows L2
section
variable {X : Cx} {B : XBt} {e o c : Expr} {es : List Expr} {st : Stmt} {pos p : Pos} {f fo fa fc : Pg EV}
end
section
variable {m : Mem} {X : Exn → Mem → Prop} {E : EV → Mem → Prop}
end
end Ev

namespace PySem.W
open PySem PySem.Spec PySem.Calls PyProof.Rows
section
variable {M : Model} {K : Frag}
end
end PySem.W
namespace Ev
open PySem PySem.Spec PyProof.Rows L2
theorem xKy {P : Program} {w : World} {H : Hp} {h : Heap} {a : Addr} {cls : Value} {d : Option Addr} {oe : Obj} (e : h.get? a = some oe) (z : Zc cls d oe) (hf : ∃ vs, oe.data = .fields vs) : ObjOk P w H h a (excO a cls d) := by
  obtain ⟨vs, hd⟩ := hf
  exact ⟨⟨oe, vs, e, z, hd⟩, ⟨oe, e⟩, fun _ _ ⟨o, v, q, r⟩ k => ⟨o, v, k o q, r⟩⟩
section
variable {X : Cx} {n : Str} {ty : Expr} {km : Value → Option Bool} {i : Nat} {body suite : List Stmt} {b₀ : Stmt} {np pos pos' : Pos} {tb : WX → TS} {ts : Addr → Value → Option Addr → TS} {Wout : WX}
end
end Ev

namespace PySem
namespace HandSPX
open Builtin Builtin.ObjectAttr
section
variable {M : Model} {A : Around} {E : Value → Shared → Prop} {h : Heap} {g : Array GenState} {d : Drawn} {t : Nat} {os : OsState} {kws : List (Str × Value)}
variable {nm q : Str} {C N : Addr} {bs bm bmB : List Value} {hdct : Bool} {sn : List Str} {sub : List Value} {ab : Bool} {col : Option Bool} {dd : Option Addr} {k0 k1 k2 k3 k5 : Option Value} {B newId initId : String}
theorem xXk (F : ExcBaseFacts B newId initId bmB) (hT : bm.contains (.type B) = true ∧ bm.contains (.type "AttributeError") = false ∧ bm.contains (.type "NameError") = false) {rest : List Value} {Q : Unit → Shared → Prop}
    (hC : h.get? C = some (excClassObj nm q C N bs bm hdct sn sub ab col dd k0 k1 k2 k3 k5 newId)) (hq : Q () ⟨h, g, d, t, os⟩) : wpAny M A (checkBuiltinCall newId ⟨.ref C :: rest, kws⟩) Q E ⟨h, g, d, t, os⟩ := by
  have hcont : (Value.ref C :: bm).contains (.type B) = true := by rw [List.contains_cons, hT.1, Bool.or_true]
  have hstar := F.noStar
  simp only [checkBuiltinCall, F.newKind, F.newSplit, F.newRow]
  repeat (first | refine wpAny_loadPart_at hC ?_ | (refine wpAny_isSubtype_exc hC ?_; rw [hcont]) | refine wpAny_staticBase_exc hC ?_ | refine wpAny_madeBy_exc hC ?_ | simp only [bne_self_eq_false, Bool.false_eq_true, if_false] | wp_step)
  exact hq
end
section
variable {prog : Program} {w : World} {A : Around} {E : Value → Shared → Prop} {R : Result → Shared → Prop} {h : Heap} {g : Array GenState} {d : Drawn} {t : Nat} {os : OsState} {kws : List (Str × Value)}
variable {nm q : Str} {C N : Addr} {bs bm bmB : List Value} {hdct : Bool} {sn : List Str} {sub : List Value} {ab : Bool} {col : Option Bool} {dd : Option Addr} {k0 k1 k2 k3 k5 : Option Value} {B newId initId : String}
theorem wZl (F : ExcBaseFacts B newId initId bmB) (hT : bm.contains (.type B) = true ∧ bm.contains (.type "AttributeError") = false ∧ bm.contains (.type "NameError") = false) {rest : List Value}
    (hC : h.get? C = some (excClassObj nm q C N bs bm hdct sn sub ab col dd k0 k1 k2 k3 k5 newId))
    (hq : R (.ok (.ret (.ref (h.objs.size + 1)))) ⟨(h.push { cls := .type "tuple", data := .seq rest.toArray }).push
      { cls := .ref C, data := .fields #[.ref h.objs.size, .none, .none, .none, .bool false, .none] }, g, d, t, os⟩) (hrest : rest.length ≤ sizeLine) :
    codeAny (model prog w) A (.builtin newId ⟨.ref C :: rest, kws⟩) R ⟨h, g, d, t, os⟩ := by
  have hends := F.ends
  have hcB : (Value.ref C :: bm).contains (.type B) = true := by rw [List.contains_cons, hT.1, Bool.or_true]
  have hcA : (Value.ref C :: bm).contains (.type "AttributeError") = false := by rw [List.contains_cons, hT.2.1]; rfl
  have hcN : (Value.ref C :: bm).contains (.type "NameError") = false := by rw [List.contains_cons, hT.2.2]; rfl
  refine codeAny_builtinAt F.entry ?_
  unfold Builtin.«BaseException.__new__»
  refine wpAt_bind ?_
  show wpAt _ _ _ (stack >>= _) _ _ _
  refine wpAt_bind (wpAt_stack fun p below => wpAt_of_wpAny ?_)
  wp_walk
  refine wpAt_of_wpAny ?_
  rw [F.owner]
  repeat (first | with_reducible refine wpAny_madeHere_exc F.canon hC ?_ | with_reducible refine wpAny_loadPart_at hC ?_ | (with_reducible refine wpAny_isSubtype_exc hC ?_; first | rw [hcB] | rw [hcA] | rw [hcN]) | wp_step)
  show R _ _
  rw [Heap.size_push]
  exact hq
theorem xZt (F : ExcBaseFacts B newId initId bmB) (hT : bm.contains (.type B) = true ∧ bm.contains (.type "AttributeError") = false ∧ bm.contains (.type "NameError") = false) {rest : List Value} {fI : Addr} {Q : Fin → Shared → Prop}
    (hC : h.get? C = some (excClassObj nm q C N bs bm hdct sn sub ab col dd k0 k1 k2 k3 k5 newId))
    (hi : W.Looks (model prog w) h (typeLookup (.ref C) "__init__") (some (.ref fI))) (hb : ∀ self, W.Looks (model prog w) h (bindSpecial (.ref fI) self) (.ref fI, [self])) (hrest : rest.length ≤ sizeLine)
    (hq : codeAny (model prog w) A (.call (.ref fI) ⟨.ref (h.objs.size + 1) :: rest, kws⟩)
      (fun r s' => match r with | .ok (.ret v) => v = .none ∧ Q (.done (.ret (.ref (h.objs.size + 1)))) s' | .ok _ => False | .error e => E e s')
      ⟨(h.push (W.kdv_tup rest)).push (excO C h.objs.size), g, d, t, os⟩) :
    wpAny (model prog w) A (Builtin.«type.__call__» ⟨.ref C :: rest, kws⟩) Q E ⟨h, g, d, t, os⟩ := by
  repeat (first | with_reducible refine wpAny_loadPart_at hC ?_ | with_reducible refine wpAny_madeBy_exc hC ?_ | wp_step)
  refine codeAny_call_builtin_code (Code.quiet_builtin _ F.quiet) (xXk F hT hC ?_)
  refine wZl F hT hC ?_ hrest
  show wpAny _ _ _ _ _ _
  have k : ∀ b o, h.get? b = some o → ((h.push (W.kdv_tup rest)).push (excO C h.objs.size)).get? b = some o := fun b o e => Heap.get?_push_of_some _ (Heap.get?_push_of_some _ e)
  have hC₁ := k _ _ hC
  have hget : ((h.push (W.kdv_tup rest)).push (excO C h.objs.size)).get? (h.objs.size + 1) = some (excO C h.objs.size) := by heap_get
  have hcC : (Value.ref C :: bm).contains (.ref C) = true := by simp
  have i1 := hi.keeps k
  have b1 := (hb (.ref (h.objs.size + 1))).keeps k
  unfold isInstance
  repeat (first | with_reducible refine wpAny_loadPart_at hget ?_ | (with_reducible refine wpAny_isSubtype_exc hC₁ ?_; rw [hcC]) | wp_step)
  show wpAny _ _ (typeLookup (.ref C) _) _ _ _
  refine i1.at ?_
  refine wpAny_holding (wpAny_bind (b1.at ?_))
  refine wpAny_bind (wpAny_call (codeAny_mono hq fun r s' z => ?_))
  rcases r with e | (v | _ | _ | _) <;> first | exact z | exact z.elim | skip
  obtain ⟨rfl, z⟩ := z
  first
    | exact wpAny_pure (wpAny_pure z)
    | (wp_walk; exact z)
theorem xHn (F : ExcBaseFacts B newId initId bmB) (hT : bm.contains (.type B) = true ∧ bm.contains (.type "AttributeError") = false ∧ bm.contains (.type "NameError") = false) {rest : List Value} {fI : Addr}
    (hC : h.get? C = some (excClassObj nm q C N bs bm hdct sn sub ab col dd k0 k1 k2 k3 k5 newId))
    (hi : W.Looks (model prog w) h (typeLookup (.ref C) "__init__") (some (.ref fI))) (hb : ∀ self, W.Looks (model prog w) h (bindSpecial (.ref fI) self) (.ref fI, [self])) (hrest : rest.length ≤ sizeLine)
    (hq : codeAny (model prog w) (A.under (.builtin "type.__call__" ⟨.ref C :: rest, kws⟩)) (.call (.ref fI) ⟨.ref (h.objs.size + 1) :: rest, kws⟩) (W.InitBack (h.objs.size + 1) R)
      ⟨(h.push (W.kdv_tup rest)).push (excO C h.objs.size), g, d, t, os⟩) :
    codeAny (model prog w) A (.call (.ref C) ⟨rest, kws⟩) R ⟨h, g, d, t, os⟩ := by
  have f1 := tc_lookup
  have f2 := tc_bind (.ref C)
  have hTy : (⟨h, g, d, t, os⟩ : Shared).TypeIs (.ref C) "type" := ⟨_, hC, rfl⟩
  refine codeAny_of_tree ?_
  show wpAny _ _ (callAny (.ref C) _) _ _ _
  repeat (any_goals (first | assumption | with_reducible refine wpAny_loadPart_at hC ?_ | wp_step))
  refine ⟨rfl, ?_⟩
  refine codeAny_call_builtin_at (Code.quiet_builtin _ (by decide +kernel)) entry_typeCall (wpAny_check_type_call_sub hC (xZt F hT hC hi hb hrest ?_))
  refine codeAny_mono hq fun r s' z => ?_
  rcases r with e | (v | _ | _ | _) <;> exact z
end
end HandSPX
end PySem

namespace Ev
open PySem PySem.Spec PyProof.Rows L2
structure OexG (K : PySem.W.Frag) (C : Addr) : Prop where
  bs : ∃ (N nI iI M : String) (tl ml : List Value), ExcBaseFacts N nI iI tl ∧ StoreFacts M ml "object.__setattr__" "object" ∧ PySem.W.excInitIn K C ml nI = true ∧ PySem.W.excOver K C ml = true ∧ ml.contains (.type N) = true ∧ ml.contains (.type "AttributeError") = false ∧ ml.contains (.type "NameError") = false
  hd : PySem.W.hasDictIn K C = true
  sa : PySem.W.findIn K (.ref C) "__setattr__" = some (some (.builtin "object.__setattr__"))
  ex : PySem.W.subIn K (.ref C) (.type "BaseException") = some true
  ty : PySem.W.typeIn K (.ref C) = some (.type "type")
  kp : PySem.W.keepIn K (.ref C) = true
theorem xKm {K : PySem.W.Frag} {C : Addr} {f : Str} (h : PySem.W.findIn K (.ref C) f = some none) : PySem.W.takerIn K C f = some none := by
  unfold PySem.W.takerIn
  rw [h] <;> rfl
section
variable {X : Cx} {pins : List (Addr × Obj)} {sg : L2.St} {H : Hp} {s : Shared} {a C dx : Addr} {f : Str} {y : V} {u : Value} {fs : List (Str × V)} {Q : Unit → Shared → Prop} {E : Value → Shared → Prop} {A : Around}
theorem xGc (T : OexG X.K C) (I : L2.Inv X pins sg H s) (e : H a = some (exo a C none)) (hno : PySem.W.findIn X.K (.ref C) f = some none) (ry : RelV y u)
    (h : ∀ dx s', H dx = none → dx ≠ a → L2.Inv X pins sg (upd (upd H dx (exd dx [(f, y)])) a (exo a C (some dx))) s' → Q () s') : wpAny (model X.prog X.w) A (setAttr (.ref a) f u) Q E s := by
  obtain ⟨N, nI, iI, M, tl, ml, _, SF, _, hov, _⟩ := T.bs
  obtain ⟨t1, ho⟩ := exo_at I.hok e
  obtain ⟨hp, g, d, t, os⟩ := s
  have at0 : PySem.W.InstAt hp a { cls := .ref C, dict := none, data := .fields #[.ref t1, .none, .none, .none, .bool false, .none] } C none := ⟨ho, rfl, rfl, trivial⟩
  refine PySem.W.set_plain I.kIn at0 T.sa (PySem.W.osa_openX (s := ⟨hp, g, d, t + 1, os⟩) SF I.kIn at0 hov (xKm hno) fun b => ?_)
  obtain ⟨cd, hc, hd'⟩ := PySem.W.any_some T.hd
  have Lc : PySem.W.Looks (model X.prog X.w) hp (classData C) cd := PySem.W.looks_clsIn I.kIn hc
  have lt : a < hp.objs.size := Heap.lt_size ho
  have nas : a ≠ hp.objs.size := Nat.ne_of_lt lt
  refine wpAny_bind (wpAny_pure (wpAny_bind ?_))
  refine PySem.W.instanceDict_exc (s := ⟨hp, g, d, t + 1, os⟩) (t := t1) (c2 := .none) ho Lc hd' ?_
  show wpAny _ _ (Builtin.ObjectAttr.storeInDict hp.objs.size (.str f t) f u) _ _ _
  refine PySem.HandSPX.store_in_new ?_ fun h' tk' hn' hs => ?_
  · exact ⟨_, #[], _, (Heap.get?_update_ne _ _ _ _ nas.symm).trans (Heap.get?_push_at rfl rfl), rfl, fun e he => absurd he (by simp), fun _ => rfl⟩
  have hnd : H hp.objs.size = none := I.hok.fresh (Nat.le_refl _)
  have na : ∀ {b : Addr}, H b = none → b ≠ a := fun {b} n z => by
    rw [z, e] at n
    cases n
  have ls : ∀ {b : Addr} {o : Obj}, hp.get? b = some o → b ≠ hp.objs.size := fun {b o} q => Nat.ne_of_lt (Heap.lt_size q)
  have keep : ∀ b o, b ≠ a → hp.get? b = some o → h'.get? b = some o := fun b o hb q => by
    rw [hs.2 b (ls q), Heap.get?_update_ne _ _ _ _ hb]
    exact Heap.get?_push_of_some _ q
  have hx : h'.get? a = some ({ cls := .ref C, dict := some hp.objs.size, data := .fields #[.ref t1, .none, .none, .none, .bool false, .none] } : Obj) := by
    rw [hs.2 a nas]
    exact Heap.get?_update_self _ (Heap.get?_push_of_some _ ho) rfl
  have U : Un X.fs [] H (upd (upd H hp.objs.size (exd hp.objs.size [(f, y)])) a (exo a C (some hp.objs.size))) hp h' := {
    keep := fun b o q n _ _ => keep b o (na n) q
    slot := fun b o q n _ _ => ⟨o.slots, keep b o (na n) q⟩
    free := fun b o q n _ => by
      rw [upd_ne (na n), upd_ne (ls q)]
      exact n
    there := fun b o q _ => by
      by_cases hb : b = a
      · subst hb
        exact ⟨_, hx⟩
      · exact ⟨o, keep b o hb q⟩
    tups := fun b xs q => by
      rw [upd_ne (at_ne e q exo_tup), upd_ne (ne_of_none q hnd)]
      exact q
    frzs := fun b o v q => by
      rw [upd_ne (at_ne e q exo_frz), upd_ne (ne_of_none q hnd)]
      exact q
    tbls := fun b ps q => ⟨#[], by
      rw [upd_ne (at_ne e q exo_tbl), upd_ne (ne_of_none q hnd), q]
      simp⟩ }
  refine h hp.objs.size _ hnd nas.symm (I.un (t' := tk') U fun b o q => ?_)
  by_cases hb : b = a
  · subst hb
    rw [upd_same] at q
    cases q
    exact exo_ok hx
  · rw [upd_ne hb] at q
    by_cases hd : b = hp.objs.size
    · subst hd
      rw [upd_same] at q
      cases q
      exact exd_ok hn' (relO_put (fs := []) ry fun g => True.intro)
    · rw [upd_ne hd] at q
      refine (I.hok b o q).stay (fun c v hc z => keep c v ?_ z) (fun c hc => ?_) fun c xs hc => ?_
      · rcases hc with hc | hc
        · rw [hc]
          exact hb
        · exact at_ne e hc exo_own
      · rw [upd_ne (at_ne e hc exo_own), upd_ne (ne_of_none hc hnd)]
        exact hc
      · rw [upd_ne (at_ne e hc exo_tup), upd_ne (ne_of_none hc hnd)]
        exact hc
theorem xGb (T : OexG X.K C) (I : L2.Inv X pins sg H s) (e : H a = some (exo a C (some dx))) (ed : H dx = some (exd dx fs)) (hl : fs.length ≤ 900) (hno : PySem.W.findIn X.K (.ref C) f = some none) (ry : RelV y u)
    (h : ∀ s', L2.Inv X pins sg (upd H dx (exd dx ((f, y) :: fs))) s' → Q () s') : wpAny (model X.prog X.w) A (setAttr (.ref a) f u) Q E s := by
  obtain ⟨N, nI, iI, M, tl, ml, _, SF, _, hov, _⟩ := T.bs
  obtain ⟨t1, ho⟩ := exo_at I.hok e
  obtain ⟨mA, hns, rel⟩ := exd_at I.hok ed
  have hw := within_of rel
  obtain ⟨hp, g, d, t, os⟩ := s
  obtain ⟨oD, _, _, hoD, _, _⟩ := hns.count hw
  have at0 : PySem.W.InstAt hp a { cls := .ref C, dict := some dx, data := .fields #[.ref t1, .none, .none, .none, .bool false, .none] } C (some oD) := ⟨ho, rfl, rfl, hoD⟩
  refine PySem.W.set_plain I.kIn at0 T.sa (PySem.W.osa_openX (s := ⟨hp, g, d, t + 1, os⟩) SF I.kIn at0 hov (xKm hno) fun b => ?_)
  obtain ⟨cd, hc, hd'⟩ := PySem.W.any_some T.hd
  have Lc : PySem.W.Looks (model X.prog X.w) hp (classData C) cd := PySem.W.looks_clsIn I.kIn hc
  refine wpAny_bind (wpAny_pure (wpAny_bind (wpAny_bind (wpAny_loadPart ho (wpAny_bind (Lc.here ?_))))))
  rw [hd']
  refine wpAny_pure (a := some dx) ?_
  show wpAny _ _ (Builtin.ObjectAttr.storeInDict dx (.str f t) f u) _ _ _
  refine PySem.OEX.store_in_old hns hw (by rw [List.length_map]; omega) fun h' tk' hn hs => ?_
  have hd : ∃ o, h'.get? dx = some o := by
    obtain ⟨o, _, _, e', _⟩ := hn
    exact ⟨o, e'⟩
  exact h _ (I.write (t' := tk') (x := dx) (e := dx) (o := exd dx ((f, y) :: fs)) (by rw [ed]; exact True.intro) (.inl rfl) (fun b o hb q => (hs.2 b hb).trans q) hd (exd_ok hn (relO_put ry rel)))
end
def wG3 (K : PySem.W.Frag) (f : Str) (to te : TE) : TS := fun D sg H => te sg H fun y H1 => to sg H1 fun x H2 => ∃ a C : Addr, x = .ref a ∧ OexG K C ∧ PySem.W.findIn K (.ref C) f = some none ∧
  ((H2 a = some (exo a C none) ∧ ∀ dx, H2 dx = none → dx ≠ a → D.nx sg (upd (upd H2 dx (exd dx [(f, y)])) a (exo a C (some dx)))) ∨
    ∃ (dx : Addr) (fs : List (Str × V)), H2 a = some (exo a C (some dx)) ∧ H2 dx = some (exd dx fs) ∧ fs.length ≤ 900 ∧ D.nx sg (upd H2 dx (exd dx ((f, y) :: fs))))
section
variable {X : Cx} {o e : Expr} {es : List Expr} {to te : TE} {ta : TA} {f : Str} {p p' p1 p2 pos : Pos}
theorem xKc (ho : PE X o to) (he : PE X e te) (hs : swapsWith e (some (.Attribute o f p')) pos.line X.env = pure false := by rfl) : PS X (.Assign [.Attribute o f p'] e pos) (wG3 X.K f to te) := by
  refine ⟨fun pins s sg H D I h => ?_⟩
  refine plainObj_wpAny_Assign_Attribute (thn (he.run pins s sg H _ I h) fun v s1 ⟨y, H1, I1, r1, q1⟩ => ?_) hs
  refine thn (ho.run pins s1 sg H1 _ I1 q1) fun u s2 ⟨x, H2, I2, r2, a, C, ex, T, hno, q⟩ => ?_
  subst ex
  obtain rfl : u = Value.ref a := r2
  rcases q with ⟨ea, q⟩ | ⟨dx, fs, ea, ed, hl, q⟩
  · exact xGc T I2 ea hno r1 fun dx s' n ne J => ⟨sg, _, J, q dx n ne⟩
  · exact xGb T I2 ea ed hl hno r1 fun s' J => ⟨sg, _, J, q⟩
end
end Ev

namespace Ev
open PySem PySem.Spec PyProof.Rows L2
def xI (H : Hp) (a C d : Addr) (fs : List (Str × V)) : Hp := upd (upd H d (exd d fs)) a (exo a C (some d))
def spI (K : PySem.W.Frag) (C : Addr) (fs : List Str) : Sp := fun vs H Q _ => ∃ (a : Addr) (ws : List V), vs = .ref a :: ws ∧ ws.length = fs.length ∧ OexG K C ∧ (∀ f, f ∈ fs → PySem.W.findIn K (.ref C) f = some none) ∧ H a = some (exo a C none) ∧
  ∀ d, H d = none → d ≠ a → Q .non (xI H a C d (fs.zip ws).reverse)
theorem xVt {K : PySem.W.Frag} {C : Addr} {fs : List Str} : ∀ vs H Q E, spI K C fs vs H Q E → vs.length = ("self" :: fs : List Str).length := by
  rintro vs H Q E ⟨a, ws, rfl, h, _⟩
  simp [h]
section
variable {P : Program} {w : World} {K : PySem.W.Frag} {mg : Str → Option Value} {base : Heap} {C : Addr}
theorem wZx {f qual : Str} {st : Stmt} {fI : Addr} {fd : FuncData} {k : Nat} {p1 p2 p3 p4 : Pos} (F : Fun K "__init__" qual st fI fd) (S : FnScope ["self", f] ["self", f] (defScope st)) (hb : defBody st = [.Assign [.Attribute (.Name "self" p1) f p2] (.Name f p3) p4])
    (hs : (defScope st).names.lookup ("self" : Str) = some .local) (hf : (defScope st).names.lookup f = some .local) (hd : (f == ("__debug__" : Str)) = false) (hcd : (f == ("__classdict__" : Str)) = false) : FnOk P w K mg base (CXk K P w) (k + 1) fI fd ["self", f] (spI K C [f]) := by
  refine xKk F S xVt fun cdv A outer s H vs Q E hr hsp => ?_
  obtain ⟨a, ws, rfl, hl, T, hno, ea, q⟩ := hsp
  rw [hb]
  match ws, hl with
  | [y], _ =>
    refine ⟨_, pss_one (xKc (pe_var (i := 0) rfl (.inl hs)) (pe_var (i := 1) rfl (.inl hf) hd hcd) (by rfl)), y, rfl, .ref a, rfl, a, C, rfl, T, hno f (by simp), .inl ⟨ea, fun dx n ne => ?_⟩⟩
    exact q dx n ne
theorem wZw {f g qual : Str} {st : Stmt} {fI : Addr} {fd : FuncData} {k : Nat} {p1 p2 p3 p4 r1 r2 r3 r4 : Pos} (F : Fun K "__init__" qual st fI fd) (S : FnScope ["self", f, g] ["self", f, g] (defScope st)) (hb : defBody st = [.Assign [.Attribute (.Name "self" p1) f p2] (.Name f p3) p4, .Assign [.Attribute (.Name "self" r1) g r2] (.Name g r3) r4])
    (hs : (defScope st).names.lookup ("self" : Str) = some .local) (hf : (defScope st).names.lookup f = some .local) (hg : (defScope st).names.lookup g = some .local) (hd : (f == ("__debug__" : Str)) = false) (hcd : (f == ("__classdict__" : Str)) = false) (gd : (g == ("__debug__" : Str)) = false) (gcd : (g == ("__classdict__" : Str)) = false) :
    FnOk P w K mg base (CXk K P w) (k + 1) fI fd ["self", f, g] (spI K C [f, g]) := by
  refine xKk F S xVt fun cdv A outer s H vs Q E hr hsp => ?_
  obtain ⟨a, ws, rfl, hl, T, hno, ea, q⟩ := hsp
  rw [hb]
  match ws, hl with
  | [y, z], _ =>
    refine ⟨_, pss_cons (xKc (pe_var (i := 0) rfl (.inl hs)) (pe_var (i := 1) rfl (.inl hf) hd hcd) (by rfl)) (pss_one (xKc (pe_var (i := 0) rfl (.inl hs)) (pe_var (i := 2) rfl (.inl hg) gd gcd) (by rfl))), y, rfl, .ref a, rfl, a, C, rfl, T, hno f (by simp), .inl ⟨ea, fun dx n ne => ?_⟩⟩
    refine ⟨z, rfl, .ref a, rfl, a, C, rfl, T, hno g (by simp), .inr ⟨dx, [(f, y)], upd_same, ?_, by simp, ?_⟩⟩
    · rw [upd_ne ne, upd_same]
    · have e : upd (upd (upd H dx (exd dx [(f, y)])) a (exo a C (some dx))) dx (exd dx [(g, z), (f, y)]) = xI H a C dx [(g, z), (f, y)] := by
        funext b
        unfold xI
        by_cases h1 : b = dx
        · subst h1
          rw [upd_same, upd_ne ne, upd_same]
        · rw [upd_ne h1]
          by_cases h2 : b = a
          · subst h2
            rw [upd_same, upd_same]
          · rw [upd_ne h2, upd_ne h2, upd_ne h1, upd_ne h1]
      show Q .non _
      rw [e]
      exact q dx n ne
end
def ExX (P : Program) (w : World) (K : PySem.W.Frag) (mg : Str → Option Value) (base : Heap) (k : Nat) (x : Str) (fs : List Str) : Prop :=
  ∃ (C fI : Addr) (fd : FuncData), mg x = some (.ref C) ∧ yG4 K x C ∧ OexG K C ∧ PySem.W.findIn K (.ref C) "__init__" = some (some (.ref fI)) ∧ PySem.W.typeIn K (.ref fI) = some (.type "function") ∧ (∀ f, f ∈ fs → PySem.W.findIn K (.ref C) f = some none) ∧
    FnOk P w K mg base (CXk K P w) k fI fd ("self" :: fs) (spI K C fs) ∧ Binds K fd ("self" :: fs) []
theorem xUk {K : PySem.W.Frag} {F : Hp} : ∀ {fs gs : List (PyData × PyData)} {vs ws : List (Str × V)}, RF K F fs vs → RF K F gs ws → RF K F (fs ++ gs) (vs ++ ws)
  | _, _, _, _, .nil, h => h
  | _, _, _, _, .cons h t, g => .cons h (xUk t g)
theorem xUj {K : PySem.W.Frag} {F : Hp} : ∀ {fs : List Str} {ds : List PyData} {vs : List V}, RA K F ds vs → RF K F (zU7 (fs.zip ds).reverse) (fs.zip vs).reverse
  | [], _, _, _ => .nil
  | f :: fs, _, _, .nil => .nil
  | f :: fs, d :: ds, v :: vs, .cons h t => by
    rw [List.zip_cons_cons, List.zip_cons_cons, List.reverse_cons, List.reverse_cons]
    unfold zU7
    rw [List.map_append]
    exact xUk (xUj t) (.cons h .nil)
section
variable {X : Cx} {B : XBt} {e : Expr} {es : List Expr} {fa : Pg (List AV)} {p pos pos' : Pos} {x : Str} {fs : List Str} {k : Nat}
end

section
variable {X : Cx} {B : XBt} {n : Str} {ty : Expr} {km : Value → Option Bool} {i : Nat} {body suite : List Stmt} {b₀ : Stmt} {pos pos' : Pos} {fb : Pg Fl} {fx : Exn → Pg Fl} {tb : List (Str × Bool)}
theorem xUw {K : PySem.W.Frag} {w : Wd} {x : Exn} {cls : Value} {d : Option Addr} {a : Addr} (h : xWr K w x cls d) (ha : w.F a = some (excO a cls d)) : R K w.F (yGv x.cls x.fs) (.ref a) := by
  obtain ⟨C, h1, rfl, ⟨h2, rfl⟩ | ⟨dd, vs, rfl, h3, h4⟩⟩ := h
  · unfold yGv
    rw [h2]
    exact .exn0 h1 ha
  · exact .exn h1 ha h3 h4
theorem xWr.fol {K : PySem.W.Frag} {w w' : Wd} {x : Exn} {cls : Value} {d : Option Addr} (h : xWr K w x cls d) (f : Same w.F w'.F) : xWr K w' x cls d := by
  obtain ⟨C, h1, h2, h | ⟨dd, vs, h3, h4, h5⟩⟩ := h
  · exact ⟨C, h1, h2, .inl h⟩
  · exact ⟨C, h1, h2, .inr ⟨dd, vs, h3, f _ _ h4, h5.mono f⟩⟩
end
section
variable {m : Mem} {X : Exn → Mem → Prop} {F : Fl → Mem → Prop}
end
end Ev

namespace Ev
open PySem PySem.Spec PyProof.Rows L2
structure ExcF (K : PySem.W.Frag) (D : Addr) : Prop where
  cl : (PySem.W.clsIn K D).isSome = true
  hg : PySem.W.findIn K (.ref D) "__getattribute__" = some (some (.builtin "BaseException.__getattribute__"))
  hk : PySem.W.findIn K (.ref D) "__getattr__" = some none
  hs : PySem.W.subIn K (.ref D) (.type "BaseException") = some true
  ha : PySem.W.findIn K (.ref D) "__class__" = some (some (.builtin "object.__class__"))
  hn : PySem.W.specialIn K (.builtin "object.__class__") "__get__" = some (some (.builtin "getset_descriptor.__get__"))
  ht : PySem.W.takesIn K (.builtin "object.__class__") = some true
  hm : PySem.W.mroIn K D (.type "object") = some true
  hd : PySem.W.hasDictIn K D = true
def xWo : PyData → Option (Str × List (PyData × PyData))
  | .dict ((.none, .int i) :: (.none, .str c) :: fs) => if i = 0 then some (c, fs) else none
  | _ => none
theorem xZn {es : List (PyData × PyData)} {p : Str × List (PyData × PyData)} : ¬ xWo (.dict ((.none, .int 2) :: es)) = some p := by
  intro e
  unfold xWo at e
  split at e
  · rename_i h
    injection h with h
    injection h with h _
    cases h
    cases e
  · cases e
theorem xUv {K : PySem.W.Frag} {F : Hp} {d : PyData} {v : V} {c : Str} {fs : List (PyData × PyData)} (h : R K F d v) (e : xWo d = some (c, fs)) :
    ∃ (a C : Addr) (dd : Option Addr), v = .ref a ∧ yG4 K c C ∧ F a = some (excO a (.ref C) dd) ∧ ((dd = none ∧ fs = []) ∨ ∃ (x : Addr) (vs : List (Str × V)), dd = some x ∧ F x = some (.xd vs) ∧ RF K F fs vs) := by
  cases h with
  | non => cases e
  | bl b => cases e
  | int i => cases e
  | str x => cases e
  | lst _ _ => cases e
  | tup _ _ => cases e
  | dic _ h =>
    cases h with
    | nil => cases e
    | @cons k _ _ _ _ _ _ => cases k <;> cases e
  | ins _ _ _ h => cases e
  | cls _ => cases e
  | exn0 h1 h2 =>
    cases e
    exact ⟨_, _, _, rfl, h1, h2, .inl ⟨rfl, rfl⟩⟩
  | exn h1 h2 h3 h4 =>
    cases e
    exact ⟨_, _, _, rfl, h1, h2, .inr ⟨_, _, rfl, h3, h4⟩⟩
  | cell _ => cases e
  | dit _ _ => exact absurd e xZn
theorem xHg {K : PySem.W.Frag} {w : Wd} {d : PyData} {v : V} {c : Str} {fs : List (PyData × PyData)} (s : yKz w.F w.H) (h : RN K w d v) (e : xWo d = some (c, fs)) :
    ∃ (a C : Addr) (dd : Option Addr), v = .ref a ∧ yG4 K c C ∧ w.H a = some (excO a (.ref C) dd) ∧ ((dd = none ∧ fs = []) ∨ ∃ (x : Addr) (vs : List (Str × V)), dd = some x ∧ w.H x = some (.xd vs) ∧ RF K w.F fs vs) := by
  rcases h with h | ⟨a, o, rfl, rfl, h⟩
  · obtain ⟨a, C, dd, h1, h2, h3, h4⟩ := xUv h e
    refine ⟨a, C, dd, h1, h2, s _ _ h3 (by intro n z; unfold excO at z; cases z), ?_⟩
    rcases h4 with h4 | ⟨x, vs, k1, k2, k3⟩
    · exact .inl h4
    · exact .inr ⟨x, vs, k1, s _ _ k2 xUr, k3⟩
  · cases o with
    | lst xs => cases e
    | dic es =>
      obtain ⟨vs, h1, h2⟩ := h
      cases h2 with
      | nil => cases e
      | @cons k _ _ _ _ _ _ => cases k <;> cases e
    | ins c' fs' => cases e
    | dit W es => exact absurd e xZn
section
variable {X : Cx} {pins : List (Addr × Obj)} {σ : L2.St} {H : Hp} {s : Shared}
theorem xYu {a C : Addr} {dd : Option Addr} (I : L2.Inv X pins σ H s) (ha : H a = some (excO a (.ref C) dd)) (hd : dd = none ∨ ∃ (x : Addr) (vs : List (Str × V)), dd = some x ∧ H x = some (.xd vs)) :
    ∃ (ox : Obj) (od : Option Obj), PySem.W.InstAt s.heap a ox C od := by
  obtain ⟨⟨oe, vs, e1, ⟨z1, z2⟩, e3⟩, _, _⟩ := I.hok a _ ha
  have no : PySem.W.notCls oe = true := by unfold PySem.W.notCls; rw [e3] <;> rfl
  rcases hd with rfl | ⟨x, fs, rfl, hx⟩
  · exact ⟨oe, none, e1, z1, no, by rw [z2]; trivial⟩
  · obtain ⟨mA, hns, hr⟩ := (show ObjOk X.prog X.w H s.heap x (.xd fs) from I.hok x _ hx)
    obtain ⟨od, ho, hl⟩ := lookIn_ns hns
    exact ⟨oe, some od, e1, z1, no, by rw [z2]; exact ho⟩
end
def wYo (K : PySem.W.Frag) (H : Hp) (x : V) (t : Value) : Prop := TyX K H x t ∨ ∃ (a D : Addr) (dd : Option Addr), x = .ref a ∧ t = .ref D ∧ ExcF K D ∧ H a = some (excO a (.ref D) dd) ∧ (dd = none ∨ ∃ (y : Addr) (vs : List (Str × V)), dd = some y ∧ H y = some (.xd vs))
theorem xG9 {X : Cx} {pins : List (Addr × Obj)} {σ : L2.St} {H : Hp} {s : Shared} {x : V} {u t : Value} (I : L2.Inv X pins σ H s) (rx : RelV x u) (ty : wYo X.K H x t) : ∃ P : Heap → Prop, PySem.W.KitX X.K u t P ∧ P s.heap ∧ u ≠ .builtin "__main__.__loader__#opaque" := by
  rcases ty with ty | ⟨a, D, dd, rfl, rfl, E, ha, hd⟩
  · exact kit_of I rx ty
  · cases (show u = Value.ref a from rx)
    obtain ⟨ox, od, J⟩ := xYu I ha hd
    exact ⟨_, PySem.W.kitx_exc (ox := ox) (od := od) E.cl E.hg E.hk E.hs E.ha E.hn E.ht E.hm, J, fun z => nomatch z⟩
theorem xHa {K : PySem.W.Frag} {t u : Value} {b : Bool} (h : PySem.W.kitAny K t [u] = some b) : PySem.W.kitOne K t u = some b := by
  unfold PySem.W.kitAny at h
  split at h
  · rename_i e; cases h; exact e
  · rename_i e
    have h : some false = some b := h
    cases h
    exact e
  · cases h
def wG7 (K : PySem.W.Frag) : List V → Hp → VK → Prop := fun xs H Q => ∃ (x c : V) (t : Value) (us : List Value) (b : Bool), xs = [x, c] ∧ wYo K H x t ∧ PySem.W.kitAny K t us = some b ∧ ((∃ u, us = [u] ∧ ClsV c u) ∨ ∃ (tp : Addr) (cs : List V), c = .ref tp ∧ H tp = some (.tup cs) ∧ Paired ClsV cs us) ∧ Q (.bl b) H
theorem xY0 {X : Cx} : CallR X (.builtin "isinstance") (wG7 X.K) := by
  intro pins s σ H xs us Q I r h
  obtain ⟨x, c, t, ws, b, rfl, ty, e, hc, q⟩ := h
  obtain ⟨u1, u2, rfl, r1, r2⟩ := vals2 r
  obtain ⟨P, Z, p, hx⟩ := xG9 I r1 ty
  rcases hc with ⟨u, rfl, k⟩ | ⟨tp, cs, rfl, hT, k⟩
  · have e2 := k.eq r2
    subst e2
    exact PySem.W.kia_one Z I.kIn p (xHa e) hx fun tk => ⟨.bl b, H, I.tok tk, rfl, q⟩
  · cases (show u2 = Value.ref tp from r2)
    obtain ⟨_, its, rv, o, h1, h2, n, h3⟩ := (show ObjOk X.prog X.w H s.heap tp (.tup cs) from I.hok tp _ hT)
    have e3 := ClsV.all k rv
    subst e3
    obtain ⟨oc, od, dt, sl⟩ := o
    simp only at h2 h3
    subst h2 h3
    exact PySem.W.kia_tup Z I.kIn p h1 e hx fun tk => ⟨.bl b, H, I.tok tk, rfl, q⟩
inductive ClsL (X : Cx) : List Expr → List V → List Value → Prop
  | nil : ClsL X [] [] []
  | cons {e : Expr} {es : List Expr} {c : V} {cs : List V} {u : Value} {us : List Value} : PE X e (tC c) → ClsV c u → starEach (e :: es) X.env = (false, eval e X.env) :: starEach es X.env → ClsL X es cs us → ClsL X (e :: es) (c :: cs) (u :: us)
theorem ClsL.pa {X : Cx} : ∀ {es : List Expr} {cs : List V} {us : List Value}, ClsL X es cs us → PA X es (fun _ H Q => Q cs H)
  | _, _, _, .nil => pa_nil
  | _, _, _, .cons h _ hs t => pa_cons h t.pa hs
theorem ClsL.vs {X : Cx} : ∀ {es : List Expr} {cs : List V} {us : List Value}, ClsL X es cs us → Paired ClsV cs us
  | _, _, _, .nil => .nil
  | _, _, _, .cons _ k _ t => .cons k t.vs
def wVy (K : PySem.W.Frag) (us : List Value) (t1 : List (String × Bool)) (t2 : List (Str × Bool)) : Prop :=
  (∀ t b, t1.lookup t = some b → PySem.W.kitAny K (.type t) us = some b) ∧ ∀ c b, t2.lookup c = some b → ∀ D, yG4 K c D → ExcF K D ∧ PySem.W.kitAny K (.ref D) us = some b
def xVl (t1 : List (String × Bool)) (t2 : List (Str × Bool)) (x : PyData) : Option Bool := match xWo x with
  | some (c, _) => t2.lookup c
  | none => (tyName x).bind fun t => t1.lookup t
def yJp (t1 : List (String × Bool)) (t2 : List (Str × Bool)) (f : Pg EV) : Pg EV := .bind f fun v => look (yGn v) fun x => yGd ((xVl t1 t2 x).map fun b => EV.d (.bool b))
theorem xHd {X : Cx} {w : Wd} (s : yKz w.F w.H) {us : List Value} {t1 : List (String × Bool)} {t2 : List (Str × Bool)} (hI : wVy X.K us t1 t2) {x : PyData} {v : V} {b : Bool} (h : RN X.K w x v) (e : xVl t1 t2 x = some b) :
    ∃ t, wYo X.K w.H v t ∧ PySem.W.kitAny X.K t us = some b := by
  unfold xVl at e
  cases q : xWo x with
  | none =>
    rw [q] at e
    dsimp only at e
    cases q2 : tyName x with
    | none =>
      rw [q2] at e
      cases e
    | some t =>
      rw [q2] at e
      exact ⟨_, .inl (wQr s h q2), hI.1 t b e⟩
  | some p =>
    obtain ⟨c, fs⟩ := p
    rw [q] at e
    dsimp only at e
    obtain ⟨a, C, dd, rfl, hc, ha, hd⟩ := xHg s h q
    obtain ⟨E, hk⟩ := hI.2 c b e C hc
    refine ⟨_, .inr ⟨a, C, dd, rfl, rfl, E, ha, ?_⟩, hk⟩
    rcases hd with ⟨h1, _⟩ | ⟨y, vs, h1, h2, _⟩
    · exact .inl h1
    · exact .inr ⟨y, vs, h1, h2⟩
section
variable {X : Cx} {B : XBt} {e c : Expr} {es : List Expr} {f : Pg EV} {p1 p2 pos : Pos} {x : Str} {us : List Value} {t1 : List (String × Bool)} {t2 : List (Str × Bool)}
theorem xGg {cs : List V} (h : Snd X B e f) (hg : Gl X x) (hm : X.mg x = none) (hv : bootBuiltins x = some (.builtin "isinstance")) (hI : wVy X.K us t1 t2) (hc : ClsL X [c] cs us)
    (hn : x ≠ "__name__" := by decide) (hdb : (x == ("__debug__" : Str)) = false := by decide)
    (he : starEach [e, c] X.env = (false, eval e X.env) :: starEach [c] X.env := by rfl) (hpl : (backTo pos (starEach [c] X.env)).any (·.1) = false := by rfl) : Snd X B (.Call (.Name x p1) [e, c] [] pos) (yJp t1 t2 f) := by
  intro w Q r hw
  refine yYq (pe_callB xY0 hg hm hv (pa_cons yG1 hc.pa he) hn hdb he hpl) ?_
  refine zZx h r hw fun v w1 y e1 f1 r1 re h1 => ?_
  obtain ⟨d, ed, h1⟩ := yJr h1
  obtain ⟨z, ez, q⟩ := yVo h1
  cases eb : xVl t1 t2 d with
  | none =>
    rw [eb] at ez
    cases ez
  | some b =>
    rw [eb] at ez
    cases ez
    obtain ⟨t, hk, ek⟩ := xHd r1.sub hI ((re.ro r1).rn r1 ed) eb
    cases hc with
    | cons _ k _ ht =>
      cases ht
      exact ⟨y, _, t, _, b, rfl, hk, ek, .inl ⟨_, rfl, k⟩, q w1 (.bl b) rfl e1 f1 r1 (.bl b)⟩
def xYt (n : Str) : List (PyData × PyData) → Option PyData
  | (.str k, d) :: r => if n = k then some d else xYt n r
  | _ => none
theorem xKx {K : PySem.W.Frag} {F : Hp} {n : Str} : ∀ {fs : List (PyData × PyData)} {vs : List (Str × V)} {d : PyData}, RF K F fs vs → xYt n fs = some d → ∃ v, vs.lookup n = some v ∧ R K F d v
  | _, _, _, .nil, h => by cases h
  | _, _, d, .cons (k := k) h t, e => by
    unfold xYt at e
    by_cases q : n = k
    · subst q
      rw [if_pos rfl] at e
      cases e
      exact ⟨_, by simp [List.lookup], h⟩
    · rw [if_neg q] at e
      obtain ⟨v, h1, h2⟩ := xKx t e
      exact ⟨v, by rw [List.lookup_cons, show (n == k) = false from beq_eq_false_iff_ne.mpr q]; exact h1, h2⟩
def XfL (K : PySem.W.Frag) (cl : List Str) (n : Str) : Prop := ∀ c, c ∈ cl → ∀ D, yG4 K c D → ExcF K D ∧ PySem.W.findIn K (.ref D) n = some none
def xJs (cl : List Str) (n : Str) (f : Pg EV) : Pg EV := .bind f fun v => look (yGn v) fun x => yGd ((xWo x).bind fun p => if p.1 ∈ cl then (xYt n p.2).map .d else none)
theorem yU9 {n : Str} {cl : List Str} (h : Snd X B e f) (hl : XfL X.K cl n) (hb : attributeBase e n X.env (eval e X.env) = eval e X.env := by rfl) : Snd X B (.Attribute e n pos) (xJs cl n f) := by
  intro w Q r hw
  refine yYq (t := fun σ H Q => WE X e σ H fun x H1 => ∃ (a C : Addr) (fs : List (Str × V)) (v : V) (dd : Addr), x = .ref a ∧ ExcF X.K C ∧ PySem.W.findIn X.K (.ref C) n = some none ∧ H1 a = some (excO a (.ref C) (some dd)) ∧ H1 dd = some (.xd fs) ∧ fs.lookup n = some v ∧ Q v H1) ⟨fun pins s σ H Q I h => ?_⟩ ?_
  · refine attr_of hb (thn (h.go pins s I) fun u s1 hh => ?_)
    obtain ⟨x, H1, I1, rx, a, C, fs, v, dd, rfl, E, hno, ha, hd, l, q⟩ := hh
    obtain rfl : u = Value.ref a := rx
    obtain ⟨⟨oe, vs, e1, ⟨z1, z2⟩, e3⟩, _, _⟩ := I1.hok a _ ha
    obtain ⟨mA, hns, hr⟩ := (show ObjOk X.prog X.w H1 s1.heap dd (.xd fs) from I1.hok dd _ hd)
    obtain ⟨od, ho, hl⟩ := lookIn_ns hns
    obtain ⟨u, hu, ru⟩ := RelO.some_of (v := v) (o := mA n) (by rw [← l]; exact hr n)
    have J : PySem.W.InstAt s1.heap a oe C (some od) := ⟨e1, z1, by unfold PySem.W.notCls; rw [e3] <;> rfl, by rw [z2]; exact ho⟩
    exact HandSPX.exc_get I1.kIn J E.hg E.hk E.hs (PySem.W.findObj_own E.hd hno rfl (by rw [hl, hu])) (handed_of ru) ⟨v, H1, I1.tok _, ru, q⟩
  · refine zZx h r hw fun v w1 y e1 f1 r1 re h1 => ?_
    obtain ⟨d, ed, h1⟩ := yJr h1
    obtain ⟨z, ez, q⟩ := yVo h1
    cases ex : xWo d with
    | none =>
      rw [ex] at ez
      cases ez
    | some p =>
      obtain ⟨c, fs⟩ := p
      rw [ex] at ez
      have ez : (if c ∈ cl then (xYt n fs).map EV.d else none) = some z := ez
      split at ez
      · rename_i hc
        cases eg : xYt n fs with
        | none =>
          rw [eg] at ez
          cases ez
        | some d1 =>
          rw [eg] at ez
          cases ez
          have ro : R X.K w1.F d y := by
            rcases (re.ro r1).rn r1 ed with ro | ⟨a, o, e2, _, oh⟩
            · exact ro
            · subst e2
              cases o with
              | lst xs => cases ex
              | dic es =>
                obtain ⟨kvs, _, rk⟩ := oh
                cases rk with
                | nil => cases ex
                | @cons k _ _ _ _ _ _ => cases k <;> cases ex
              | ins c fs => cases ex
              | dit W es => exact absurd ex xZn
          obtain ⟨a, C, dd, rfl, hcn, ha, ⟨_, hf⟩ | ⟨x, vs, rfl, hx, rf⟩⟩ := xUv ro ex
          · subst hf
            cases eg
          · obtain ⟨E, hno⟩ := hl c hc C hcn
            obtain ⟨v1, l, rv⟩ := xKx rf eg
            exact ⟨a, C, vs, v1, x, rfl, E, hno, r1.sub _ _ ha xG2, r1.sub _ _ hx xUr, l, q w1 v1 rfl e1 f1 r1 rv⟩
      · cases ez
end
end Ev

namespace PySem
open Sem (wp)
section
theorem yGo {v : Value} {o : Obj} {H : Heap → Prop} (B : Begins v o H) :
    Meets (Builtin.«enumerate.__new__» ⟨[.type "enumerate", v], []⟩) (fun _ R s => H s.heap ∧
      R (.ok (.ret (.ref (s.heap.push o).objs.size))) { s with heap := (s.heap.push o).push { cls := .type "enumerate", data := .fields #[.none, .bool false, .ref s.heap.objs.size, rawInt 0, .none, .none] } }) :=
  .of_wp fun prog w A R s h => by
    obtain ⟨hp, g, d, tk, os⟩ := s; obtain ⟨h1, h⟩ := h
    have hsub := sub_enumerate
    have q1 : ∀ {A' : Around} {E : Value → Shared → Prop} {Q : Value → Shared → Prop}, Q (.ref hp.objs.size) ⟨hp.push o, g, d, tk, os⟩ → wpAny (model prog w) A' (pyIter v) Q E ⟨hp, g, d, tk, os⟩ :=
      fun q => B.iter prog w _ _ ⟨hp, g, d, tk, os⟩ _ h1 q
    wp_walk using q1
    refine wpAny_stack_any fun st => wpAny_pure ?_
    split
    · rename_i c _ _ _ _ _
      cases (c == Value.type "enumerate")
      · wp_walk using q1
        exact ⟨_, rfl, h⟩
      · wp_walk using q1
        exact ⟨_, rfl, h⟩
    · wp_walk using q1
      exact ⟨_, rfl, h⟩
variable {prog : Program} {w : World} {A : Around} {E : Value → Shared → Prop} {s : Shared}
theorem xK1 {e it t : Addr} {i : Nat} {j : Int} {items : Array Value} {old : Value} {Q : Option Value → Shared → Prop} (hh : A.handled = none) (he : IsEnum s.heap e it j old) (hit : s.heap.IsTupleIter it t i) (ht : s.heap.IsTuple t items) (hx : items[i]? = none)
    (hQ : ∀ h', Heap.ExtBut it s.heap h' → Q none { s with heap := h' }) : wpAny (model prog w) A (pyNext (.ref e)) Q E s := by
  have hT : s.TypeIs (.ref e) "enumerate" := ⟨_, he, rfl⟩
  unfold pyNext
  refine wpAny_bind (wpAny_attempt (wpAny_callSpecial?_slot (name := Str.ofString "__next__") hT F.slot_enumerate_next
    (wpAny_call_entry F.slot_enumerate_next hT F.entry_enumerate_next ?_ (F.args_enumerate_next_1 _))))
  show wpAny _ _ (field (.ref e) 2 >>= _) _ _ _
  refine wpAny_bind (wpAny_field he rfl (x := .ref it) rfl ?_)
  refine wpAny_bind (wpAny_nextOf_tuple_end hh hit ht hx fun h' x he' hx' => ?_)
  obtain ⟨o, ho, hc⟩ := hx'
  refine wpAny_bind (wpAny_isInstance (T := "StopIteration") (b := true) ⟨o, ho, hc⟩ isSubtype_stop ?_)
  exact wpAny_pure (hQ _ he')
theorem xXh {v : Value} {o : Obj} {H : Heap → Prop} {Q : Value → Shared → Prop} (B : Begins v o H) (h1 : H s.heap)
    (h : ∀ h', IsEnum h' (s.heap.objs.size + 1) s.heap.objs.size 0 .none → h'.get? s.heap.objs.size = some o → h'.objs.size = s.heap.objs.size + 2 →
      (∀ b o, s.heap.get? b = some o → h'.get? b = some o) → Q (.ref (s.heap.objs.size + 1)) { s with heap := h' }) :
    wpAny (model prog w) A (call (.type "enumerate") [v]) Q E s := by
  refine callType_new F.called_enumerate (by decide) (F.typeCall_enumerate_1 _) (F.newCall_enumerate_1 _) (fun obj => F.args_object_init_2 obj _) F.entry_enumerate_new
    (yGo B) ⟨h1, ?_⟩
  have hz : (s.heap.push o).objs.size = s.heap.objs.size + 1 := Heap.size_push ..
  show _ ∧ _
  rw [hz]
  have he : IsEnum ((s.heap.push o).push { cls := .type "enumerate", data := .fields #[.none, .bool false, .ref s.heap.objs.size, rawInt 0, .none, .none] }) (s.heap.objs.size + 1) s.heap.objs.size 0 .none := by
    have := Heap.get?_push_size (s.heap.push o) (o := { cls := .type "enumerate", data := .fields #[.none, .bool false, .ref s.heap.objs.size, rawInt 0, .none, .none] }) rfl
    rw [hz] at this; exact this
  refine ⟨⟨_, he, rfl⟩, h _ he (Heap.get?_push_of_some _ (Heap.get?_push_size _ B.free)) (by rw [Heap.size_push, hz]) fun b o x => Heap.get?_push_of_some _ (Heap.get?_push_of_some _ x)⟩
end
end PySem
namespace Ev
open PySem PySem.Spec PyProof.Rows L2
def wYr (K : PySem.W.Frag) (a : Addr) : It :=
  ⟨fun i H => ∃ (xs : List V) (x : V), SqT K H a xs ∧ xs[i]? = some x, fun i H v H' => ∃ T x, v = .ref T ∧ H T = none ∧ H' = upd H T (.tup [.int (i : Nat), x]) ∧ ∀ xs, SqT K H a xs → xs[i]? = some x, fun i H => ∃ xs : List V, SqT K H a xs ∧ xs.length ≤ i⟩
theorem xJ0 {P : Program} {w : World} {K : PySem.W.Frag} {elts : List Expr} {kk : Nat} {tpos : Pos} (a e it : Addr) :
    Turn P w K (.Tuple elts kk tpos) (wYr K a) [e, it] e (fun i h => (∃ old, IsEnum h e it ((i : Nat) : Int) old) ∧ h.IsTupleIter it a i ∧ e ≠ it) where
  mem := by simp
  obj := fun i h st b hb => by
    obtain ⟨⟨old, he⟩, ⟨o, ho, hc, hd⟩, _⟩ := st
    have e' : b = e ∨ b = it := by simpa using hb
    rcases e' with z | z
    · rw [z]; exact ⟨_, he, fun v q => nomatch q⟩
    · rw [z]; exact ⟨o, ho, fun v q => by rw [hd] at q; cases q⟩
  keep := fun i h h' st k => let ⟨⟨old, he⟩, hi, hne⟩ := st; ⟨⟨old, k e (by simp) _ he⟩, hi.at fun o q => k it (by simp) o q, hne⟩
  item := by
    intro X hP hw hK hc i pins s σ H E I hf st hg
    subst hP hw hK
    obtain ⟨⟨old, he⟩, hit, hne⟩ := st
    obtain ⟨xs, x, hq, hx⟩ := hg
    obtain ⟨its, rv, p, hz⟩ := I.tuple hq
    obtain ⟨u, hu, ru⟩ := rv.get hx
    have hel : e < s.heap.objs.size := Heap.lt_size he
    have hil : it < s.heap.objs.size := by obtain ⟨_, q, _⟩ := hit; exact Heap.lt_size q
    have hp : s.heap.IsTuple a its.toArray := p
    have hai : a ≠ it := fun z => by
      obtain ⟨o1, e1, _, n, d1⟩ := hp
      obtain ⟨o2, e2, _, d2⟩ := hit
      rw [z, e2] at e1
      cases e1
      rw [d1] at d2
      cases d2
    have hea : e ≠ a := fun z => by
      obtain ⟨o1, e1, c1, _⟩ := hp
      have he' : s.heap.get? e = _ := he
      rw [z, e1] at he'
      cases he'
      exact absurd c1 (by simp)
    have hil2 : i < its.toArray.size := by
      have := (List.getElem?_eq_some_iff.mp hu).1
      simpa using this
    refine wpAny_pyNext_enum_itemD (Draws.tuple (show X.A.in1.handled = none from I.ok.hd hc) it a hai its.toArray) he ⟨hit, hp⟩ hil2 hne (by simp [hne, hea]) fun x' h' tk hP ho hst' hT hsz hk => ?_
    have hx' : x' = u := by
      have h1 : its.toArray[i]? = some x' := hP
      have h2 : its.toArray[i]? = some u := by simpa using hu
      rw [h1] at h2
      exact Option.some.inj h2
    subst hx'
    obtain ⟨hit', _⟩ := hst'
    refine ⟨_, rfl, wpAny_letOwnedTupleGo_enum (s := { s with heap := h', toks := tk + 1 }) ho fun h'' he' sb => ?_⟩
    have hT2 : h''.get? s.heap.objs.size = some { cls := .type "tuple", data := .seq #[.int i tk, x'] } := (sb.2 _ (Nat.ne_of_gt hel)).trans hT
    have new : ObjOk X.prog X.w (upd H s.heap.objs.size (.tup [.int (i : Nat), x])) h'' s.heap.objs.size (.tup [.int (i : Nat), x]) :=
      ⟨by show 2 ≤ sizeLine; decide, [.int i tk, x'], .cons ⟨_, rfl⟩ (.cons ru .nil), ⟨_, hT2, rfl, _, rfl⟩⟩
    have I1 : L2.Inv X pins σ (upd H s.heap.objs.size (.tup [.int (i : Nat), x])) { s with heap := h'', toks := tk + 1 } :=
      I.turnedNew (ch := [e, it]) (fun b ob hb q => (sb.2 b (fun z => hb (by simp [z]))).trans (hk b ob (fun z => hb (by simp [z])) (fun z => hb (by simp [z])) q)) hf (Nat.le_refl _) new
    refine ⟨.ref s.heap.objs.size, _, I1, rfl, ⟨_, x, rfl, I.hok.fresh (Nat.le_refl _), rfl, fun ys hy => by rw [I.tuple_inj hy hq]; exact hx⟩, ⟨⟨x', ?_⟩, hit'.at fun o q => (sb.2 it (Ne.symm hne)).trans q, hne⟩, fun b hb => ?_⟩
    · have e1 : ((i + 1 : Nat) : Int) = (i : Int) + 1 := by omega
      rw [e1]; exact he'
    · have hb' : b < s.heap.objs.size := by
        have e' : b = e ∨ b = it := by simpa using hb
        rcases e' with z | z
        · rw [z]; exact hel
        · rw [z]; exact hil
      rw [upd_ne (Nat.ne_of_lt hb')]
      exact (hf b hb).1
  done := by
    intro X hP hw hK hc i pins s σ H E I hf st hg
    subst hP hw hK
    obtain ⟨⟨old, he⟩, hit, hne⟩ := st
    obtain ⟨xs, hq, hx⟩ := hg
    obtain ⟨its, rv, p, hz⟩ := I.tuple hq
    obtain ⟨f0, f1, f2, f3, f4, f5⟩ := hf it (by simp)
    have hp : s.heap.IsTuple a its.toArray := p
    have hai : a ≠ it := fun z => by
      obtain ⟨o1, e1, _, n, d1⟩ := hp
      obtain ⟨o2, e2, _, d2⟩ := hit
      rw [z, e2] at e1
      cases e1
      rw [d1] at d2
      cases d2
    have hl := rv.length
    exact xK1 (I.ok.hd hc) he hit hp (by simp; omega) fun h' eb => ⟨rfl, I.turned (t' := s.toks) (fun b o hb q => eb b o hb q) f0 f1 f3 f4 f5⟩
  self := fun A i s Q E st h => let ⟨⟨_, he⟩, _⟩ := st; wpAny_pyIter_enum he h
def wZy (K : PySem.W.Frag) (ta : TA) : TI := fun σ H R => ta σ H fun vs H1 => ∃ a xs, vs = [.ref a] ∧ ((SqT K H1 a xs ∧ R (wYr K a) H1) ∨ (SqL K H1 a xs ∧ R (Ite K a) H1))
theorem xYe {X : Cx} {e : Expr} {ta : TA} {p pos tpos : Pos} {elts : List Expr} {kk : Nat} (hg : Gl X "enumerate") (hm : X.mg "enumerate" = none) (ha : PA X [e] ta) (hs : starEach [e] X.env = [(false, eval e X.env)] := by rfl) :
    PI X (.Tuple elts kk tpos) (.Call (.Name "enumerate" p) [e] [] pos) (wZy X.K ta) := by
  refine ⟨fun pins s σ H R I h => ?_⟩
  refine Call_ (ld_blt I hg hm boot_enumerate (PyProof.Rows.callWith_type1 (thn (ha.run pos pins s σ H _ I h) fun us s1 ⟨vs, H1, I1, r1, q1⟩ => ?_) hs rfl))
  obtain ⟨a, xs, ex, q1⟩ := q1
  subst ex
  cases r1 with
  | cons r rr =>
    cases rr
    cases r
    have fp : ∀ b, b ∈ [s1.heap.objs.size + 1, s1.heap.objs.size] → s1.heap.objs.size ≤ b := fun b hb => by
      have e' : b = s1.heap.objs.size + 1 ∨ b = s1.heap.objs.size := by simpa using hb
      rcases e' with z | z
      · rw [z]; exact Nat.le_add_right _ _
      · rw [z]; exact Nat.le_refl _
    rcases q1 with ⟨hq, q⟩ | ⟨hq, q⟩
    · obtain ⟨its, rv, p', hz⟩ := I1.tuple hq
      refine xXh (begins_tuple a its.toArray) (show s1.heap.IsTuple a its.toArray from p') fun h' he hit hsz hk => wpAny_pyIter_enum he ?_
      have I2 : L2.Inv X pins σ H1 { s1 with heap := h' } := I1.kept (t' := s1.toks) hk
      have hit' : h'.IsTupleIter s1.heap.objs.size a 0 := ⟨_, hit, rfl, rfl⟩
      exact ⟨s1.heap.objs.size + 1, [s1.heap.objs.size + 1, s1.heap.objs.size], _, _, H1, rfl, I2, xJ0 a (s1.heap.objs.size + 1) s1.heap.objs.size, ⟨⟨.none, he⟩, hit', Nat.succ_ne_self _⟩, fun b hb => I1.fpOk (fp b hb) (I1.hok.fresh (fp b hb)), q⟩
    · obtain ⟨its, rv, p', hz⟩ := I1.list hq
      refine call_enumerate_list p'.isList fun h' he hit hsz hk => wpAny_pyIter_enum he ?_
      have I2 : L2.Inv X pins σ H1 { s1 with heap := h' } := I1.kept (t' := s1.toks) hk
      exact ⟨s1.heap.objs.size + 1, [s1.heap.objs.size + 1, s1.heap.objs.size], _, _, H1, rfl, I2, turn_enum a (s1.heap.objs.size + 1) s1.heap.objs.size, ⟨⟨.none, he⟩, hit, Nat.succ_ne_self _⟩, fun b hb => I1.fpOk (fp b hb) (I1.hok.fresh (fp b hb)), q⟩
theorem xX3 {K : PySem.W.Frag} {w : Wd} {a : Addr} {xs : List V} {ds : List PyData} (ha : SqT K w.F a xs) (ra : RA K w.F ds xs) : xVh K w (wYr K a) (xQr ds) := by
  intro w1 f r i
  have qa : SqT K w1.H a xs := zXs r.sub (xQ2 f.ext ha)
  refine ⟨fun d hd => ?_, fun hl => ⟨xs, qa, ?_⟩⟩
  · unfold xQr at hd
    rw [List.getElem?_mapIdx] at hd
    cases e1 : ds[i]? with
    | none =>
      rw [e1] at hd
      cases hd
    | some d1 =>
      rw [e1] at hd
      cases hd
      obtain ⟨x, hx, rx⟩ := ra.get e1
      refine ⟨⟨xs, x, qa, hx⟩, fun v H' yl => ?_⟩
      obtain ⟨T, x', rfl, hT, rfl, g1⟩ := yl
      have e1 := (g1 xs qa).symm.trans hx
      cases e1
      exact xZ1 r hT (.int _) (rx.mono f.ext)
  · rw [← ra.len]
    unfold xQr at hl
    rw [List.length_mapIdx] at hl
    exact hl
def xXi : List AV → Option (List PyData)
  | [.d (.list xs)] => some (xQr xs)
  | [.d (.tuple xs)] => some (xQr xs)
  | _ => none
def xZp (fa : Pg (List AV)) : Pg (List PyData) := .bind fa fun vs => yGd (xXi vs)
section
variable {X : Cx} {B : XBt} {e : Expr} {fa : Pg (List AV)} {p pos tpos : Pos} {elts : List Expr} {kk : Nat}
theorem xJ4 (hg : Gl X "enumerate") (hm : X.mg "enumerate" = none) (ha : xUd X B [e] fa) (hs : starEach [e] X.env = [(false, eval e X.env)] := by rfl) :
    xHw X B (.Tuple elts kk tpos) (.Call (.Name "enumerate" p) [e] [] pos) (xZp fa) := by
  intro w Q r hw
  refine ⟨_, xYe hg hm xYf hs, ?_⟩
  refine yGb ha r hw fun vs w1 xs e1 f1 r1 rv h1 => ?_
  obtain ⟨ds, ed, q⟩ := yVo h1
  unfold xXi at ed
  split at ed
  · cases ed
    cases rv with
    | cons h t =>
      cases t
      cases h with
      | lst ha ra => exact ⟨_, _, rfl, .inr ⟨(ha.mox r1.sub).sq, q w1 _ rfl e1 f1 r1 (xJ8 ha ra)⟩⟩
  · cases ed
    cases rv with
    | cons h t =>
      cases t
      cases h with
      | tup ha ra => exact ⟨_, _, rfl, .inl ⟨zXs r1.sub ha, q w1 _ rfl e1 f1 r1 (xX3 ha ra)⟩⟩
  · cases ed
end
section
variable {m : Mem} {X : Exn → Mem → Prop}
@[simp] theorem wW9 {fa : Pg (List AV)} {P : List PyData → Mem → Prop} : W (xZp fa) m X P ↔ W fa m X fun vs m1 => ∃ ds, xXi vs = some ds ∧ P ds m1 := by
  unfold xZp
  simp
@[simp] theorem wVf {xs : List PyData} : xXi [.d (.list xs)] = some (xQr xs) := rfl
@[simp] theorem wVe {xs : List PyData} : xXi [.d (.tuple xs)] = some (xQr xs) := rfl
variable {E : EV → Mem → Prop}
@[simp] theorem wH2 {t1 : List (String × Bool)} {t2 : List (Str × Bool)} {f : Pg EV} : W (yJp t1 t2 f) m X E ↔ W f m X fun v m1 => W (look (yGn v) fun x => yGd ((xVl t1 t2 x).map fun b => EV.d (.bool b))) m1 X E := by
  unfold yJp
  rw [zZ0]
@[simp] theorem vQb {cl : List Str} {n : Str} {f : Pg EV} : W (xJs cl n f) m X E ↔ W f m X fun v m1 => W (look (yGn v) fun x => yGd ((xWo x).bind fun p => if p.1 ∈ cl then (xYt n p.2).map .d else none)) m1 X E := by
  unfold xJs
  rw [zZ0]
@[simp] theorem wJ1 {t1 : List (String × Bool)} {t2 : List (Str × Bool)} {c : Str} {fs : List (Str × PyData)} : xVl t1 t2 (yGv c fs) = t2.lookup c := rfl
@[simp] theorem wZt {t1 : List (String × Bool)} {t2 : List (Str × Bool)} : xVl t1 t2 .none = t1.lookup "NoneType" := rfl
@[simp] theorem wJ0 {t1 : List (String × Bool)} {t2 : List (Str × Bool)} {i : Int} : xVl t1 t2 (.int i) = t1.lookup "int" := rfl
@[simp] theorem wZv {t1 : List (String × Bool)} {t2 : List (Str × Bool)} {i : Bool} : xVl t1 t2 (.bool i) = t1.lookup "bool" := rfl
@[simp] theorem wJz {t1 : List (String × Bool)} {t2 : List (Str × Bool)} {i : Str} : xVl t1 t2 (.str i) = t1.lookup "str" := rfl
@[simp] theorem wZu {t1 : List (String × Bool)} {t2 : List (Str × Bool)} {i : List PyData} : xVl t1 t2 (.list i) = t1.lookup "list" := rfl
@[simp] theorem xH9 {t1 : List (String × Bool)} {t2 : List (Str × Bool)} {i : List PyData} : xVl t1 t2 (.tuple i) = t1.lookup "tuple" := rfl
@[simp] theorem wZ5 {c : Str} {fs : List (Str × PyData)} : xWo (yGv c fs) = some (c, zU7 fs) := rfl
@[simp] theorem wZ4 {n k : Str} {d : PyData} {r : List (Str × PyData)} : xYt n (zU7 ((k, d) :: r)) = if n = k then some d else xYt n (zU7 r) := rfl
@[simp] theorem xH8 {c : Str} {fs : List (Str × PyData)} : yZe (yGv c fs) = false := rfl
@[simp] theorem wXd {c : Str} {fs : List (Str × PyData)} : yU5 .Is (yGv c fs) .none = some false := rfl
@[simp] theorem xUz {c : Str} {fs : List (Str × PyData)} : yU5 .IsNot (yGv c fs) .none = some true := rfl
end
def wQj (K : PySem.W.Frag) (mg : Str → Option Value) (x : Str) : Prop :=
  ∃ C : Addr, mg x = some (.ref C) ∧ yG4 K x C ∧ PySem.W.keepIn K (.ref C) = true ∧ PySem.W.excIn K C [.type "ValueError", .type "Exception", .type "BaseException", .type "object"] "ValueError.__new__" = true ∧
    PySem.W.subIn K (.ref C) (.type "BaseException") = some true ∧ PySem.W.typeIn K (.ref C) = some (.type "type")
section
variable {X : Cx} {B : XBt} {x : Str} {p pos pos' : Pos}
end
section
variable {m : Mem} {X : Exn → Mem → Prop} {F : Fl → Mem → Prop}
end
def NmC (mg : Str → Option Value) (n : Str) (u : Value) : Prop := (∃ T, mg n = none ∧ bootBuiltins n = some (.type T) ∧ u = .type T) ∨ ∃ C, mg n = some (.ref C) ∧ u = .ref C
def IsF (K : PySem.W.Frag) (mg : Str → Option Value) (ns : List Str) (t1 : List (String × Bool)) (t2 : List (Str × Bool)) : Prop := ∃ us, Paired (NmC mg) ns us ∧ wVy K us t1 t2
inductive NmL (X : Cx) : List Expr → List Str → Prop
  | nil : NmL X [] []
  | cons {n : Str} {p : Pos} {es : List Expr} {ns : List Str} : Gl X n → (n == ("__debug__" : Str)) = false → n ≠ "__name__" → starEach (.Name n p :: es) X.env = (false, eval (.Name n p) X.env) :: starEach es X.env → NmL X es ns → NmL X (.Name n p :: es) (n :: ns)
theorem xK6 {X : Cx} : ∀ {es : List Expr} {ns : List Str} {us : List Value}, NmL X es ns → Paired (NmC X.mg) ns us → ∃ cs, ClsL X es cs us ∧ cs.length = ns.length
  | _, _, _, .nil, .nil => ⟨[], .nil, rfl⟩
  | _, _, _, .cons hg hd hn hs t, .cons h r => by
    obtain ⟨cs, q, l⟩ := xK6 t r
    rcases h with ⟨T, h1, h2, rfl⟩ | ⟨C, h1, rfl⟩
    · exact ⟨.ty T :: cs, .cons (pe_bltn hg h1 h2 rfl hn hd) (.ty T) hs q, by simp [l]⟩
    · exact ⟨.ref C :: cs, .cons (pe_glob hg h1 rfl hd) (.own C) hs q, by simp [l]⟩
section
variable {X : Cx} {B : XBt} {e c : Expr} {es : List Expr} {f : Pg EV} {p1 p2 pos : Pos} {x : Str} {ns : List Str} {t1 : List (String × Bool)} {t2 : List (Str × Bool)}
theorem zZ8 (h : Snd X B e f) (hg : Gl X "isinstance") (hm : X.mg "isinstance" = none) (hI : IsF X.K X.mg ns t1 t2) (hc : NmL X [c] ns)
    (he : starEach [e, c] X.env = (false, eval e X.env) :: starEach [c] X.env := by rfl) (hpl : (backTo pos (starEach [c] X.env)).any (·.1) = false := by rfl) : Snd X B (.Call (.Name "isinstance" p1) [e, c] [] pos) (yJp t1 t2 f) := by
  obtain ⟨us, hp, hI⟩ := hI
  obtain ⟨cs, hc, _⟩ := xK6 hc hp
  exact xGg h hg hm rfl hI hc (by decide) (by decide) he hpl
end
def ExN (K : PySem.W.Frag) (x : Str) (fs : List Str) : Prop := ∃ D, yG4 K x D ∧ ExcF K D ∧ ∀ f, f ∈ fs → PySem.W.findIn K (.ref D) f = some none
theorem xHc {K : PySem.W.Frag} {us : List Value} {t1 : List (String × Bool)} {t2 : List (Str × Bool)} (h1 : ∀ p, p ∈ t1 → PySem.W.kitAny K (.type p.1) us = some p.2) (h2 : ∀ p, p ∈ t2 → ∃ D, yG4 K p.1 D ∧ ExcF K D ∧ PySem.W.kitAny K (.ref D) us = some p.2) : wVy K us t1 t2 := by
  have mem : ∀ {α : Type} [BEq α] [LawfulBEq α] {l : List (α × Bool)} {a : α} {b : Bool}, l.lookup a = some b → (a, b) ∈ l := by
    intro α _ _ l a b h
    induction l with
    | nil => cases h
    | cons p l ih =>
      obtain ⟨k, c⟩ := p
      rw [List.lookup_cons] at h
      cases q : a == k with
      | true =>
        rw [q] at h
        cases h
        rw [eq_of_beq q]
        exact List.mem_cons_self
      | false =>
        rw [q] at h
        exact List.mem_cons_of_mem _ (ih h)
  refine ⟨fun t b h => h1 (t, b) (mem h), fun c b h D hD => ?_⟩
  obtain ⟨D', e1, e2, e3⟩ := h2 (c, b) (mem h)
  rw [hD.one e1]
  exact ⟨e2, e3⟩
end Ev

namespace Ev
open PySem PySem.Spec PyProof.Rows L2
def yZi (s : Stmt) (j : Nat) : Stmt := match s with
  | .ClassDef _ _ _ b _ _ _ _ _ _ _ => b.getD j (.Pass ⟨0, 0, 0, 0⟩)
  | _ => .Pass ⟨0, 0, 0, 0⟩
def xGv (K : PySem.W.Frag) (C : Addr) (nI : String) (tl : List Value) : Bool := PySem.W.excInitIn K C tl nI && PySem.W.excOver K C tl
def xZr (K : PySem.W.Frag) (C : Addr) : Bool := (xGv K C "ValueError.__new__" [.type "ValueError", .type "Exception", .type "BaseException", .type "object"] || xGv K C "IndexError.__new__" [.type "IndexError", .type "LookupError", .type "Exception", .type "BaseException", .type "object"] ||
  xGv K C "LookupError.__new__" [.type "LookupError", .type "Exception", .type "BaseException", .type "object"] || xGv K C "OverflowError.__new__" [.type "OverflowError", .type "ArithmeticError", .type "Exception", .type "BaseException", .type "object"] || xGv K C "LookupError.__new__" [.type "KeyError", .type "LookupError", .type "Exception", .type "BaseException", .type "object"]) &&
  PySem.W.hasDictIn K C && decide (PySem.W.findIn K (.ref C) "__setattr__" = some (some (.builtin "object.__setattr__"))) && decide (PySem.W.subIn K (.ref C) (.type "BaseException") = some true) && decide (PySem.W.typeIn K (.ref C) = some (.type "type")) && PySem.W.keepIn K (.ref C)
theorem yH9 {K : PySem.W.Frag} {C : Addr} {N nI iI M : String} {tl ml : List Value} (FB : ExcBaseFacts N nI iI tl) (SF : StoreFacts M ml "object.__setattr__" "object") (h : xGv K C nI ml = true)
    (h1 : ml.contains (.type N) = true := by decide +kernel) (h2 : ml.contains (.type "AttributeError") = false := by decide +kernel) (h3 : ml.contains (.type "NameError") = false := by decide +kernel) :
    ∃ (N nI iI M : String) (tl ml : List Value), ExcBaseFacts N nI iI tl ∧ StoreFacts M ml "object.__setattr__" "object" ∧ PySem.W.excInitIn K C ml nI = true ∧ PySem.W.excOver K C ml = true ∧ ml.contains (.type N) = true ∧ ml.contains (.type "AttributeError") = false ∧ ml.contains (.type "NameError") = false := by
  unfold xGv at h
  simp only [Bool.and_eq_true] at h
  exact ⟨_, _, _, _, _, _, FB, SF, h.1, h.2, h1, h2, h3⟩
theorem xGa : StoreFacts "KeyError" [.type "KeyError", .type "LookupError", .type "Exception", .type "BaseException", .type "object"] "object.__setattr__" "object" where
  mro := by kernel_rfl
  slot := .of (owner := "object") (n := "__setattr__") (by rw [typeLookup_type, builtinLookup_eq_fast]; kernel_rfl) (by decide +kernel) (by decide +kernel) (by decide +kernel)
    (by first | exact .inl (by decide +kernel) | exact .inr (by decide +kernel)) (by rw [isSubtype_type]; kernel_rfl)
  entry := PySem.F.entry_object_sa
  kind := by decide +kernel
  split := by decide +kernel
  hasOwner := by decide +kernel
  args := fun a b c => by unfold argsOk; kernel_rfl
  passes := fun self => by kernel_rfl
theorem xGw {K : PySem.W.Frag} {C : Addr} (h : xZr K C = true) : OexG K C := by
  unfold xZr at h
  simp only [Bool.and_eq_true, Bool.or_eq_true, decide_eq_true_eq] at h
  obtain ⟨⟨⟨⟨⟨h, h0⟩, h1⟩, h2⟩, h3⟩, h4⟩ := h
  refine ⟨?_, h0, h1, h2, h3, h4⟩
  rcases h with (((h | h) | h) | h) | h
  · exact yH9 F.excBase_ValueError F.store_ValueError h
  · exact yH9 F.excBase_IndexError F.store_IndexError h
  · exact yH9 F.excBase_LookupError F.store_LookupError h
  · exact yH9 F.excBase_OverflowError F.store_OverflowError h
  · exact yH9 F.excBase_LookupError xGa h
def yGe (K : PySem.W.Frag) (C fI : Addr) (fs : List Str) : Bool := decide (PySem.W.typeIn K (.ref fI) = some (.type "function")) && fs.all fun f => decide (PySem.W.findIn K (.ref C) f = some none)
def wQc (K : PySem.W.Frag) (C : Addr) : Bool := PySem.W.keepIn K (.ref C) && PySem.W.excIn K C [.type "ValueError", .type "Exception", .type "BaseException", .type "object"] "ValueError.__new__" && decide (PySem.W.subIn K (.ref C) (.type "BaseException") = some true) && decide (PySem.W.typeIn K (.ref C) = some (.type "type"))
def xQk (K : PySem.W.Frag) (D : Addr) (fs : List Str) : Bool := (PySem.W.clsIn K D).isSome && decide (PySem.W.findIn K (.ref D) "__getattribute__" = some (some (.builtin "BaseException.__getattribute__"))) && decide (PySem.W.findIn K (.ref D) "__getattr__" = some none) && decide (PySem.W.subIn K (.ref D) (.type "BaseException") = some true) &&
  decide (PySem.W.findIn K (.ref D) "__class__" = some (some (.builtin "object.__class__"))) && decide (PySem.W.specialIn K (.builtin "object.__class__") "__get__" = some (some (.builtin "getset_descriptor.__get__"))) && decide (PySem.W.takesIn K (.builtin "object.__class__") = some true) &&
  decide (PySem.W.mroIn K D (.type "object") = some true) && PySem.W.hasDictIn K D && fs.all fun f => decide (PySem.W.findIn K (.ref D) f = some none)
theorem yZh {K : PySem.W.Frag} {x : Str} {D : Addr} {fs : List Str} (hx : yG4 K x D) (h : xQk K D fs = true) : ExN K x fs := by
  unfold xQk at h
  simp only [Bool.and_eq_true, decide_eq_true_eq, List.all_eq_true] at h
  obtain ⟨⟨⟨⟨⟨⟨⟨⟨⟨h1, h2⟩, h3⟩, h4⟩, h5⟩, h6⟩, h7⟩, h8⟩, h9⟩, h10⟩ := h
  exact ⟨D, hx, ⟨h1, h2, h3, h4, h5, h6, h7, h8, h9⟩, h10⟩
def XI (K : PySem.W.Frag) (mg : Str → Option Value) (x qual : Str) (st : Stmt) (fs : List Str) : Prop :=
  ∃ (C fI : Addr) (fd : FuncData), mg x = some (.ref C) ∧ yG4 K x C ∧ OexG K C ∧ PySem.W.findIn K (.ref C) "__init__" = some (some (.ref fI)) ∧ PySem.W.typeIn K (.ref fI) = some (.type "function") ∧ (∀ f, f ∈ fs → PySem.W.findIn K (.ref C) f = some none) ∧
    Fun K "__init__" qual st fI fd ∧ Binds K fd ("self" :: fs) []
theorem yGw {K : PySem.W.Frag} {mg : Str → Option Value} {x qual : Str} {st : Stmt} {fs : List Str} {C fI : Addr} {oc : Value} {od an : Option Addr} {osl : Array (Option Value)} {kV doc pm cdv ct : Value} (hm : mg x = some (.ref C)) (hx : yG4 K x C) (ho : xZr K C = true) (hi : PySem.W.findIn K (.ref C) "__init__" = some (some (.ref fI))) (hb : yGe K C fI fs = true)
    (l : K.lookup fI = some ⟨oc, od, .func (PySem.W.fnOf "__init__" qual (defArgs st) (defBody st) (defScope st) .none kV doc pm an cdv ct), osl⟩) (c : PySem.W.codeIn K cdv qual = true) (k : PySem.W.keepIn K (.ref fI) = true)
    (hbn : ∀ (kV doc pm : Value) (an : Option Addr) (cdv ct : Value) (us : List Value), us.length = ("self" :: fs : List Str).length → bindArgs (PySem.W.fnOf "__init__" qual (defArgs st) (defBody st) (defScope st) .none kV doc pm an cdv ct) ⟨us, []⟩ = pure (("self" :: fs : List Str).zip us)) : XI K mg x qual st fs := by
  unfold yGe at hb
  simp only [Bool.and_eq_true, decide_eq_true_eq, List.all_eq_true] at hb
  exact ⟨C, fI, _, hm, hx, xGw ho, hi, hb.1, hb.2, fun_mk l c k, (fun_mk l c k).binds hbn⟩
theorem xWy {K : PySem.W.Frag} {mg : Str → Option Value} {x : Str} {C : Addr} (hm : mg x = some (.ref C)) (hx : yG4 K x C) (h : wQc K C = true) : wQj K mg x := by
  unfold wQc at h
  simp only [Bool.and_eq_true, decide_eq_true_eq] at h
  exact ⟨C, hm, hx, h.1.1.1, h.1.1.2, h.1.2, h.2⟩
section
variable {P : Program} {w : World} {K : PySem.W.Frag} {mg : Str → Option Value} {base : Heap} {x qual f g : Str} {st : Stmt} {k : Nat} {p1 p2 p3 p4 r1 r2 r3 r4 : Pos}
theorem xVd (h : XI K mg x qual st [f]) (hk : 1 ≤ k) (S : FnScope ["self", f] ["self", f] (defScope st)) (hb : defBody st = [.Assign [.Attribute (.Name "self" p1) f p2] (.Name f p3) p4])
    (hs : (defScope st).names.lookup ("self" : Str) = some .local) (hf : (defScope st).names.lookup f = some .local) (hd : (f == ("__debug__" : Str)) = false) (hcd : (f == ("__classdict__" : Str)) = false) : ExX P w K mg base k x [f] := by
  obtain ⟨C, fI, fd, h1, h2, h3, h4, h5, h6, h7, h8⟩ := h
  exact ⟨C, fI, fd, h1, h2, h3, h4, h5, h6, (wZx h7 S hb hs hf hd hcd (k := 0)).mono hk, h8⟩
theorem wUs (h : XI K mg x qual st [f, g]) (hk : 1 ≤ k) (S : FnScope ["self", f, g] ["self", f, g] (defScope st)) (hb : defBody st = [.Assign [.Attribute (.Name "self" p1) f p2] (.Name f p3) p4, .Assign [.Attribute (.Name "self" r1) g r2] (.Name g r3) r4])
    (hs : (defScope st).names.lookup ("self" : Str) = some .local) (hf : (defScope st).names.lookup f = some .local) (hg : (defScope st).names.lookup g = some .local) (hd : (f == ("__debug__" : Str)) = false) (hcd : (f == ("__classdict__" : Str)) = false) (gd : (g == ("__debug__" : Str)) = false) (gcd : (g == ("__classdict__" : Str)) = false) : ExX P w K mg base k x [f, g] := by
  obtain ⟨C, fI, fd, h1, h2, h3, h4, h5, h6, h7, h8⟩ := h
  exact ⟨C, fI, fd, h1, h2, h3, h4, h5, h6, (wZw h7 S hb hs hf hg hd hcd gd gcd (k := 0)).mono hk, h8⟩
end
theorem yK0 {K : PySem.W.Frag} {n : Str} : XfL K [] n := fun c h => by cases h
theorem zZz {K : PySem.W.Frag} {c n : Str} {cl fs : List Str} (h : ExN K c fs) (hn : n ∈ fs) (t : XfL K cl n) : XfL K (c :: cl) n := fun c' hc D hD => by
  rcases List.mem_cons.mp hc with rfl | hc
  · obtain ⟨D', h1, h2, h3⟩ := h
    rw [hD.one h1]
    exact ⟨h2, h3 n hn⟩
  · exact t c' hc D hD
section
variable {X : Cx} {B : XBt} {x n v : Str} {i j : Nat} {body : List Stmt} {np p1 p2 p3 pos pos' : Pos} {fb : Pg Fl} {tb : List (Str × Bool)}
end
section
variable {X : Cx} {B : XBt} {n v : Str} {i j k : Nat} {es : List Expr} {ns : List Str} {body : List Stmt} {tpos p1 p2 p3 pos pos' : Pos} {fb : Pg Fl} {tb : List (Str × Bool)}
end
theorem zV4 {K : PySem.W.Frag} {mg : Str → Option Value} {ns : List Str} {us : List Value} {t1 : List (String × Bool)} {t2 : List (Str × Bool)} (h : Paired (NmC mg) ns us) (h1 : (t1.all fun p => decide (PySem.W.kitAny K (.type p.1) us = some p.2)) = true) (h2 : ∀ p, p ∈ t2 → ∃ D, yG4 K p.1 D ∧ ExcF K D ∧ PySem.W.kitAny K (.ref D) us = some p.2) : IsF K mg ns t1 t2 :=
  ⟨us, h, xHc (fun p hp => of_decide_eq_true (List.all_eq_true.mp h1 p hp)) h2⟩
theorem zZ9 {K : PySem.W.Frag} {us : List Value} : ∀ p : Str × Bool, p ∈ ([] : List (Str × Bool)) → ∃ D, yG4 K p.1 D ∧ ExcF K D ∧ PySem.W.kitAny K (.ref D) us = some p.2 := fun p h => by cases h
theorem zQa {K : PySem.W.Frag} {us : List Value} {c : Str} {b : Bool} {D : Addr} {fs : List Str} {t2 : List (Str × Bool)} (hc : yG4 K c D) (he : xQk K D fs = true) (hk : PySem.W.kitAny K (.ref D) us = some b) (t : ∀ p : Str × Bool, p ∈ t2 → ∃ D, yG4 K p.1 D ∧ ExcF K D ∧ PySem.W.kitAny K (.ref D) us = some p.2) :
    ∀ p : Str × Bool, p ∈ (c, b) :: t2 → ∃ D, yG4 K p.1 D ∧ ExcF K D ∧ PySem.W.kitAny K (.ref D) us = some p.2 := fun p hp => by
  rcases List.mem_cons.mp hp with rfl | hp
  · obtain ⟨D', e1, e2, _⟩ := yZh hc he
    rw [e1.one hc] at e2
    exact ⟨D, hc, e2, hk⟩
  · exact t p hp
end Ev

namespace Ev
open PySem PySem.Spec PyProof.Rows L2
structure Landed (X : Cx) (pins : List (Addr × Obj)) (a : Addr) (B : Heap) (sI s' : Shared) (σ : L2.St) (H : Hp) (cls : Value) (d : Option Addr) (h : Heap) : Prop where
  inv : L2.Inv X pins σ H sI
  nb : ∀ b o, sI.heap.get? b = some o → b ∉ frs X.stack → B.get? b = some o
  up : sI.heap.UpToSlots h
  fl : HandSPX.FlyingZ B (X.env :: X.outer) a (Zk X.K cls d) h
  na : H a = none
  os : s'.os = sI.os
  ag : AllBare s'.gens
section
variable {X : Cx} {pins : List (Addr × Obj)} {D : Ends} {W Wout : WX} {hds : List ExceptHandler} {a : Addr} {B : Heap} {sI s' : Shared} {σ : L2.St} {H : Hp} {cls : Value} {d : Option Addr} {h : Heap}
theorem Landed.here (l : Landed X pins a B sI s' σ H cls d h) : L2.Inv X pins σ H { s' with heap := h } := l.inv.landed l.nb l.fl.1 l.up l.os l.ag
theorem Landed.obj (l : Landed X pins a B sI s' σ H cls d h) : ∃ oe vs, h.get? a = some oe ∧ Zk X.K cls d oe ∧ oe.data = .fields vs := l.fl.there
theorem Landed.apart (l : Landed X pins a B sI s' σ H cls d h) (hf : X.env.frame = some X.env.locals) : a ≠ X.env.locals ∧ a ∉ X.fs := by
  obtain ⟨oe, vs, e, _, dd⟩ := l.obj
  have no : a ∉ frs (X.env :: X.outer) := fun m => by
    obtain ⟨_, o, e2, nf⟩ := l.fl.2.2.1.mem m
    rw [e] at e2
    injection e2 with e2
    subst e2
    exact nf vs dd
  refine ⟨fun z => no (List.mem_filterMap.mpr ⟨X.env, List.mem_cons_self, ?_⟩), fun m => ?_⟩
  · rw [hf, z]
  · obtain ⟨e1, m1, q⟩ := List.mem_filterMap.mp m
    exact no (List.mem_filterMap.mpr ⟨e1, List.mem_cons_of_mem _ m1, q⟩)
end
section
variable {X : Cx} {x : Str} {c : Value} {body suite : List Stmt} {b₀ : Stmt} {np pos pos' : Pos} {tb : WX → TS} {ts : Addr → Value → Option Addr → TS} {Wout : WX}
end
end Ev

namespace Ev
open PySem PySem.Spec PyProof.Rows L2
section
variable {X : Cx} {B : XBt} {x : Str} {body suite : List Stmt} {b₀ : Stmt} {np pos pos' : Pos} {fb fg : Pg Fl} {tb : List (Str × Bool)}
end
end Ev

namespace Ev
open PySem PySem.Spec PyProof.Rows L2
def xH2 (P : Program) (w : World) (K : PySem.W.Frag) (mg : Str → Option Value) (base : Heap) (k : Nat) (f : Addr) (ks : List Str) (h : Fn) : Prop :=
  ∀ (A : Around) (outer : List Env) (s : Shared) (w0 : Wd) (us ws : List Value) (args : List AV) (xs ys : List V) (Q : VK) (E : XK), A.guards = some [] → Room k A → Env0 P w K mg base A outer s w0.H → w0.m.sl = [] → w0.sg = [] → (∀ a, w0.H a ≠ none → w0.Z a) → Rep K w0 →
    Paired (RV K w0) args (xs ++ ys) → Vals xs us → Vals ys ws → ys.length = ks.length → wXe K h (fun x w' => ∀ cls d, xWr K w' x cls d → E cls d w'.H) w0 args Q →
    codeAny (model P w) A (.call (.ref f) ⟨us, ks.zip ws⟩) (CR (CXk K P w) outer P w w0.H s Q E) s
theorem xH2.up {P : Program} {w : World} {K : PySem.W.Frag} {mg : Str → Option Value} {base : Heap} {j k : Nat} {f : Addr} {ks : List Str} {h : Fn} (F : xH2 P w K mg base j f ks h) (e : j ≤ k) : xH2 P w K mg base k f ks h :=
  fun A outer s w0 us ws args xs ys Q E hg hr => F A outer s w0 us ws args xs ys Q E hg (hr.mono e)
def wXr (X : Cx) (B : XBt) (u : Value) (ks : List Str) (h : Fn) : Prop :=
  ∀ (w : Wd) (pins : List (Addr × Obj)) (s : Shared) (us ws : List Value) (args : List AV) (xs ys : List V) (Q : VK), L2.Inv X pins w.sg w.H s → Rep X.K w → Paired (RV X.K w) args (xs ++ ys) → Vals xs us → Vals ys ws → ys.length = ks.length →
    (yU0 h args w.m).wp (yYt X.K w Q) (XW X.K B w) → wpAny (model X.prog X.w) X.A (call u us (ks.zip ws)) (EP X pins w.sg Q) X.xe s
section
variable {X : Cx} {B : XBt} {k : Nat} {f : Addr} {ks : List Str} {h : Fn}
end
section
variable {P : Program} {w : World} {K : PySem.W.Frag} {mg : Str → Option Value} {base : Heap} {k : Nat} {f : Addr} {ks ps : List Str} {fd : FuncData}
end
section
variable {K : PySem.W.Frag} {w : Wd} {Cc a dx : Addr} {c : Str}
end
section
variable {X : Cx} {B : XBt} {k : Nat} {Cc fI : Addr} {c : Str} {ks : List Str} {h : Fn}
end
end Ev

namespace Ev
open PySem PySem.Spec PyProof.Rows L2
section
variable {X : Cx} {B : XBt} {e o : Expr} {f fo fe : Pg EV} {pos p1 : Pos} {n : Str} {cl : List Str}
end
section
variable {m : Mem} {X : Exn → Mem → Prop} {E : EV → Mem → Prop} {F : Fl → Mem → Prop}
end
end Ev

namespace PySem.W
open PySem PySem.Spec PySem.Calls PyProof.Rows
section
variable {M : Model} {A : Around} {E : Value → Shared → Prop} {s : Shared}
end
end PySem.W
namespace Ev
open PySem PySem.Spec PyProof.Rows L2
def wYj (X : Cx) (es : List Expr) (kws : List Keyword) (ks : List Str) (σ : L2.St) (H : Hp) (G : List V → List V → Hp → Prop) : Prop :=
  Cl (∀ (f : Value) (pos : Pos) (pins : List (Addr × Obj)) (s : Shared), L2.Inv X pins σ H s → ∀ (Q : Args → Shared → Prop), (∀ us ws xs ys H2 s2, L2.Inv X pins σ H2 s2 → Vals xs us → Vals ys ws → G xs ys H2 → Q ⟨us, ks.zip ws⟩ s2) →
    wpAny (model X.prog X.w) X.A (evalArgs f true (backTo pos (starEach es X.env)) (backToKw pos (keywordEach kws X.env))) Q X.xe s)
structure SndAK (X : Cx) (B : XBt) (es : List Expr) (kws : List Keyword) (ks : List Str) (fa fk : Pg (List AV)) : Prop where
  go : ∀ {α : Type} {cont : List AV → List AV → Pg α} {P : α → Mem → Prop} {w : Wd} {G : List V → List V → Hp → Prop}, Rep X.K w → ((Pg.bind fa fun vs => Pg.bind fk fun zs => cont vs zs) w.m).wp P (XW X.K B w) →
    (∀ (vs zs : List AV) (w2 : Wd) (xs ys : List V), w2.sg = w.sg → FolE w w2 → Rep X.K w2 → Paired (RV X.K w2) vs xs → Paired (RV X.K w2) zs ys → (cont vs zs w2.m).wp P (XW X.K B w2) → G xs ys w2.H) → wYj X es kws ks w.sg w.H G
section
variable {X : Cx} {B : XBt} {e o : Expr} {es : List Expr} {kws : List Keyword} {ks : List Str} {fa fk : Pg (List AV)} {f fo : Pg EV} {p p' apos pos : Pos} {x mn : Str}
theorem zJ1 (ha : xUd X B (e :: es) fa) (hk : wQi X B kws fk) (hall : ∀ pos, (backToKw pos (keywordEach kws X.env)).all (·.1.isSome) = true := by intro _; rfl) (hks : ∀ pos, (backToKw pos (keywordEach kws X.env)).filterMap (·.1) = ks := by intro _; rfl)
    (he : starEach (e :: es) X.env = (false, eval e X.env) :: starEach es X.env := by rfl) : SndAK X B (e :: es) kws ks fa fk := by
  refine ⟨fun {α cont P w G} r hw next => ⟨fun f pos pins s I Q hQ => ?_⟩⟩
  have wa : WA X (e :: es) w.sg w.H fun xs H1 => WK X kws w.sg H1 fun ys H2 => G xs ys H2 := yGb ha r hw fun vs w1 xs e1 f1 r1 rv q => by
    rw [← e1]
    exact yH7 hk r1 q fun zs w2 ys e2 f2 r2 rz q2 => next vs zs w2 xs ys (e2.trans e1) (f1.trans f2) r2 (xV8 f2 rv) rz q2
  refine PyProof.Rows.evalArgs_kw2 (hall pos) (thn (wa.go pos pins s I) fun us s1 ⟨xs, H1, I1, r1, q⟩ => thn (q.go pos pins s1 I1) fun ws s2 ⟨ys, H2, I2, rz, g⟩ => ?_) he
  rw [hks pos]
  exact hQ us ws xs ys H2 s2 I2 r1 rz g
theorem zXa (hk : wQi X B kws fk) (hall : ∀ pos, (backToKw pos (keywordEach kws X.env)).all (·.1.isSome) = true := by intro _; rfl) (hks : ∀ pos, (backToKw pos (keywordEach kws X.env)).filterMap (·.1) = ks := by intro _; rfl) : SndAK X B [] kws ks zZa fk := by
  refine ⟨fun {α cont P w G} r hw next => ⟨fun f pos pins s I Q hQ => ?_⟩⟩
  have wa : WK X kws w.sg w.H fun ys H2 => G [] ys H2 := yH7 hk r (show (Pg.bind fk (fun zs => cont [] zs) w.m).wp P (XW X.K B w) from wp_bind hw) fun zs w2 ys e2 f2 r2 rz q2 => next [] zs w2 [] ys e2 f2 r2 .nil rz q2
  refine PyProof.Rows.evalArgs_kw2_nil (hall pos) (thn (wa.go pos pins s I) fun ws s2 ⟨ys, H2, I2, rz, g⟩ => ?_)
  rw [hks pos]
  exact hQ [] ws [] ys H2 s2 I2 .nil rz g
def zZy (h : Fn) (m : Nat) (fa fk : Pg (List AV)) : Pg EV := .bind fa fun vs => .bind fk fun zs => if zs.length = m then yU0 h (vs ++ zs) else .stuck
theorem xY3 {h : Fn} {u : Value} {m : Nat} {w w2 : Wd} {vs zs : List AV} {xs ys : List V} {Q : VK} (cal : wXr X B u ks h) (hm : ks.length = m) (e2 : w2.sg = w.sg) (f2 : FolE w w2) (r2 : Rep X.K w2) (rv : Paired (RV X.K w2) vs xs) (rz : Paired (RV X.K w2) zs ys)
    (q : ((if zs.length = m then yU0 h (vs ++ zs) else .stuck : Pg EV) w2.m).wp (yYt X.K w Q) (XW X.K B w2)) : ∀ (pins : List (Addr × Obj)) (s : Shared) (us ws : List Value), L2.Inv X pins w.sg w2.H s → Vals xs us → Vals ys ws → wpAny (model X.prog X.w) X.A (call u us (ks.zip ws)) (EP X pins w.sg Q) X.xe s := by
  intro pins s us ws I ru rw'
  split at q
  · rename_i hl
    rw [← e2] at I ⊢
    exact cal w2 pins s us ws _ xs ys Q I r2 (yHp rv rz) ru rw' (by rw [← yYw rz, hl, hm]) (q.imp (fun v m' z w3 y em es f3 r3 re => z w3 y em (es.trans e2) (f2.trans f3) r3 re) fun _ _ z => z)
  · exact q.elim
theorem xJj {h : Fn} {a : Addr} {m : Nat} (cal : wXr X B (.ref a) ks h) (hg : Gl X x) (hx : X.mg x = some (.ref a)) (hk : PySem.W.keepIn X.K (.ref a) = true) (A : SndAK X B es kws ks fa fk) (hm : ks.length = m) (hdb : (x == ("__debug__" : Str)) = false := by decide)
    (hpl : ((backTo pos (starEach es X.env)).any (·.1) || (backToKw pos (keywordEach kws X.env)).any (·.1.isNone)) = false := by rfl) : Snd X B (.Call (.Name x p) es kws pos) (zZy h m fa fk) := by
  intro w Q r hw
  refine ⟨fun pins s I => ?_⟩
  refine wpAny_Call_Name_kw (ld_glob I hg hx ?_ hdb)
  have wa := A.go (G := fun xs ys H2 => ∀ (pins : List (Addr × Obj)) (s : Shared) (us ws : List Value), L2.Inv X pins w.sg H2 s → Vals xs us → Vals ys ws → wpAny (model X.prog X.w) X.A (call (.ref a) us (ks.zip ws)) (EP X pins w.sg Q) X.xe s) r hw fun vs zs w2 xs ys e2 f2 r2 rv rz q => xY3 cal hm e2 f2 r2 rv rz q
  exact PySem.W.callWith_of (P := fun h => X.K.In h) hpl (PySem.W.keeps_K hk) (wa.go _ pos pins s I _ fun us ws xs ys H2 s2 I2 ru rw' g => ⟨I2.kIn, g pins s2 us ws I2 ru rw'⟩)
end
end Ev

namespace Ev
open PySem PySem.Spec PyProof.Rows L2
section
variable {X : Cx} {B : XBt} {o : Expr} {es : List Expr} {kws : List Keyword} {ks : List Str} {fa fk : Pg (List AV)} {fo : Pg EV} {apos pos : Pos} {n : Str} {tb : List (Str × Fn)} {m : Nat}
end
end Ev

namespace Ev
open PySem PySem.Spec PyProof.Rows L2
section
variable {X : Cx} {B : XBt} {e : Expr} {f : Pg EV} {pos : Pos} {n : Str} {tb : List (Str × Fn)} {k : Nat}
end
section
variable {m : Mem} {X : Exn → Mem → Prop} {E : EV → Mem → Prop} {P : List AV → Mem → Prop}
@[simp] theorem wGj {h : Fn} {q : Nat} {fa fk : Pg (List AV)} : W (zZy h q fa fk) m X E ↔ W fa m X fun vs m1 => W fk m1 X fun zs m2 => W (if zs.length = q then yU0 h (vs ++ zs) else .stuck) m2 X E := by
  unfold zZy
  simp only [zZ0]
end
end Ev

namespace Ev
open PySem PySem.Spec PyProof.Rows L2
def wGp (X : Cx) (B : XBt) (u : Value) (ks : List Str) (h : Fn) : Prop :=
  ∀ (w : Wd) (pins : List (Addr × Obj)) (s : Shared) (us ws : List Value) (args : List AV) (xs ys : List V) (Q : VK), L2.Inv X pins w.sg w.H s → Rep X.K w → Paired (RV X.K w) args (xs ++ ys) → Vals xs us → Vals ys ws → ys.length = ks.length →
    (yU0 h args w.m).wp (yYt X.K w Q) (XW X.K B w) → codeAny (model X.prog X.w) X.A (.call u ⟨us, ks.zip ws⟩) (wants (EP X pins w.sg Q) X.xe) s
theorem wGp.v {X : Cx} {B : XBt} {u : Value} {ks : List Str} {h : Fn} (c : wGp X B u ks h) : wXr X B u ks h := fun w pins s us ws args xs ys Q I r hv ru rw hl hw => wpAny_call (c w pins s us ws args xs ys Q I r hv ru rw hl hw)
section
variable {X : Cx} {B : XBt} {o : Expr} {es : List Expr} {kws : List Keyword} {ks : List Str} {fa fk : Pg (List AV)} {fo : Pg EV} {p apos pos : Pos} {n x : Str} {tb : List (Str × Fn)} {m : Nat}
end
end Ev

namespace Ev
open PySem PySem.Spec PyProof.Rows L2
section
variable {X : Cx} {B : XBt} {ea eb : Expr} {fa fb : Pg EV} {pos : Pos} {op : Operator} {tb : List (Str × Fn)}
end
section
variable {m : Mem} {X : Exn → Mem → Prop} {E : EV → Mem → Prop}
end
end Ev

namespace Ev
open PySem PySem.Spec PyProof.Rows L2
section
variable {P : Program} {w : World} {K : PySem.W.Frag} {mg : Str → Option Value} {base : Heap} {c x qual pv : Str} {R : Addr → Addr → Prop} {FF : Addr → FuncData → Prop} {st : Stmt} {ps ks : List Str} {kws : List (Str × V)} {g : Fn} {j k q : Nat} {f : Addr} {fd : FuncData}
end
section
variable {X : Cx} {B : XBt} {k : Nat} {c n : Str} {ks : List Str} {h : Fn} {tb : List (Str × Fn)} {op : Operator}
variable {es : List Expr} {kws : List Keyword} {fa fk : Pg (List AV)} {p pos : Pos} {m : Nat}
end
end Ev

namespace Ev
open PySem PySem.Spec PyProof.Rows L2
section
variable {P : Program} {w : World} {K : PySem.W.Frag} {mg : Str → Option Value} {base : Heap} {x : Str} {st : Stmt} {k : Nat} {ks : List Str} {h : Fn}
end
section
variable {X : Cx} {B : XBt} {k : Nat} {x : Str} {ks : List Str} {h : Fn} {es : List Expr} {kws : List Keyword} {fa fk : Pg (List AV)} {pos p : Pos} {m : Nat}
end
section
variable {K : PySem.W.Frag} {c x qual : Str} {st : Stmt} {C f p D : Addr} {mc oc kV doc pm cdv ct : Value} {od an : Option Addr} {osl : Array (Option Value)} {kws : List (Str × V)} {rest : List Value} {n : Nat} {mg : Str → Option Value}
end
end Ev

namespace Ev
open PySem PySem.Spec PyProof.Rows L2
def xZj : EV → Pg EV
  | .pk i o => fun m => .ok (.d (dOf o)) (yUv m i (dOf o))
  | v => .ret v
def kept : EV → Prop
  | .pk _ _ => False
  | _ => True
theorem xJr {K : PySem.W.Frag} {w : Wd} (r : Rep K w) : ∀ {v : EV} {x : V}, RE K w v x → ∃ (v' : EV) (w' : Wd), xZj v w.m = .ok v' w'.m ∧ w'.sg = w.sg ∧ w'.H = w.H ∧ FolE w w' ∧ Rep K w' ∧ RE K w' v' x ∧ kept v'
  | .d y, x, h => ⟨.d y, w, rfl, rfl, rfl, FolE.refl w, r, h, trivial⟩
  | .cell n, x, h => ⟨.cell n, w, rfl, rfl, rfl, FolE.refl w, r, h, trivial⟩
  | .new o, x, h => ⟨.new o, w, rfl, rfl, rfl, FolE.refl w, r, h, trivial⟩
  | .pk i o, x, ⟨h1, h2⟩ => by
    obtain ⟨w', e1, e2, e3, f, r', q⟩ := xXd r h1 h2
    exact ⟨.d (dOf o), w', by show Res.ok _ _ = _; rw [e1], e2, e3, f, r', q, trivial⟩
def adN : EV → V → Addr → Prop
  | .new _, x, a => x = .ref a
  | _, _, _ => False
def xU5 (w : Wd) (v : EV) (x : V) : Wd := { w with Z := fun b => w.Z b ∨ adN v x b }
theorem xU4 {K : PySem.W.Frag} {w : Wd} {v : EV} {x : V} (r : Rep K w) (h : RE K w v x) : Rep K (xU5 w v x) := by
  have nn : ∀ {a : Addr}, adN v x a → (∃ o, OH K w.F w.H w.Z a o) ∧ w.F a = none ∧ a ∉ w.ro ∧ ¬ Own w a := fun {a} z => by
    cases v with
    | new o =>
      obtain ⟨b, e, h1, h2, h3, h4, h5⟩ := h
      have z : x = .ref a := z
      rw [e] at z
      cases z
      exact ⟨⟨o, h1⟩, h2, h3, h5⟩
    | _ => exact z.elim
  refine ⟨r.sub, r.le, fun i s hs => ?_, r.cs, r.ln, r.rf, r.rk, r.nd, r.ow, fun a z => ?_, r.oo, r.tb⟩
  · obtain ⟨y, h1, h2⟩ := r.sl i s hs
    refine ⟨y, h1, ?_⟩
    cases s with
    | d u => exact h2
    | cell n => exact h2
    | thk t => exact h2
    | ob o =>
      obtain ⟨b, e, q1, q2, q3, q4⟩ := h2
      refine ⟨b, e, q1.keep (Same.refl _) (fun _ z => z) (fun _ z => z) fun d hd z => ?_, q2, q3, fun z => ?_⟩
      · rcases z with z | z
        · exact z
        · obtain ⟨⟨o', g⟩, _⟩ := nn z
          exact absurd hd g.noOwn
      · rcases z with z | z
        · exact q4 z
        · subst e
          exact (nn z).2.2.2 ⟨i, o, hs, h1⟩
  · rcases z with z | z
    · exact r.zl a z
    · obtain ⟨⟨o', g⟩, _⟩ := nn z
      obtain ⟨u, hu⟩ := g.live
      show w.H a ≠ none
      rw [hu]
      simp
theorem xVq {K : PySem.W.Frag} {w w2 : Wd} {v : EV} {x : V} (r : Rep K w) (h : RE K w v x) (hk : kept v) (f : FolE (xU5 w v x) w2) (r2 : Rep K w2) :
    Rep K { w2 with Z := w.Z } ∧ FolE w { w2 with Z := w.Z } ∧ RE K { w2 with Z := w.Z } v x ∧ ∀ (u : EV) (y : V), RE K w2 u y → RE K { w2 with Z := w.Z } u y ∧ ∀ a, adN v x a → ¬ adN u y a := by
  have sz : ∀ {b : Addr}, w.Z b → w2.Z b := fun {b} z => by
    rw [f.z]
    exact .inl z
  have ohz : ∀ {b : Addr} {o : Ob}, OH K w2.F w2.H w2.Z b o → OH K w2.F w2.H w.Z b o := fun h => h.keep (Same.refl _) (fun _ z => z) (fun _ z => z) fun _ _ z => sz z
  refine ⟨⟨r2.sub, r2.le, fun i s hs => ?_, r2.cs, r2.ln, r2.rf, r2.rk, r2.nd, r2.ow, fun a z => r2.zl a (sz z), r2.oo, r2.tb⟩,
    ⟨rfl, f.t, f.ext, f.pre, f.frm, f.new, f.liv, fun a q => (f.grow a q).imp id fun z z2 => z (.inl z2), f.own⟩, ?_, fun u y hu => ⟨?_, fun a z1 z2 => ?_⟩⟩
  · obtain ⟨y, h1, h2⟩ := r2.sl i s hs
    refine ⟨y, h1, ?_⟩
    cases s with
    | d u => exact h2
    | cell n => exact h2
    | thk t => exact h2
    | ob o =>
      obtain ⟨b, e, q1, q2, q3, q4⟩ := h2
      exact ⟨b, e, ohz q1, q2, q3, fun z => q4 (sz z)⟩
  · cases v with
    | d u => exact R.mono f.ext h
    | cell n =>
      obtain ⟨a, e, q⟩ := h
      exact ⟨a, e, f.at q⟩
    | pk i o => exact hk.elim
    | new o =>
      obtain ⟨a, e, h1, h2, h3, h4, h5⟩ := h
      obtain ⟨u, hu⟩ := h1.live
      refine ⟨a, e, h1.keep f.ext (fun u z => f.frm _ _ z h3 (h1.ntbl z)) (fun d z => f.frm _ _ z (r.noOwnDict z).1 (by intro _ q; cases q)) (fun _ _ z => z), Classical.byContradiction fun q => ?_, fun q => ?_, h4, fun q => h5 (f.own _ q)⟩
      · rcases f.grow a q with z | z
        · exact z h2
        · exact z (.inr e)
      · rcases f.new a q with z | z
        · exact h3 z
        · have z : w.H a = none := z
          rw [hu] at z
          cases z
  · cases u with
    | d y => exact hu
    | cell n => exact hu
    | pk i o => exact hu
    | new o =>
      obtain ⟨a, e, h1, h2, h3, h4, h5⟩ := hu
      exact ⟨a, e, ohz h1, h2, h3, fun z => h4 (sz z), h5⟩
  · cases u with
    | d y => exact z2.elim
    | cell n => exact z2.elim
    | pk i o => exact z2.elim
    | new o =>
      obtain ⟨b, e, h1, h2, h3, h4, h5⟩ := hu
      have z2 : y = .ref a := z2
      rw [e] at z2
      cases z2
      exact h4 (by rw [f.z]; exact .inr z1)
def xXp : EV → SV
  | .d x => .d x
  | .new o => .ob o
  | .cell n => .cell n
  | .pk _ o => .d (dOf o)
def wQz (i : Nat) (v : EV) : Pg Unit := fun m => .ok () (setM m i (xXp v))
def xKz (i j : Nat) (fa fb : Pg EV) : Pg Fl := .bind fa fun v => .bind (xZj v) fun v' => .bind (xQb fb) fun u => .bind (xZj u) fun u' => .bind (wQz i v') fun _ => .bind (wQz j u') fun _ => .ret .next
theorem wQ1 {K : PySem.W.Frag} {w : Wd} {v : EV} {x : V} (h : RE K w v x) (hk : kept v) : RS K w (xXp v) x := by
  cases v with
  | d y => exact h
  | cell n => exact h
  | pk i o => exact hk.elim
  | new o =>
    obtain ⟨a, e, h1, h2, h3, h4, h5⟩ := h
    exact ⟨a, e, h1, h2, h3, h4⟩
theorem xGj {K : PySem.W.Frag} {w : Wd} {i : Nat} {v s : SV} {x y : V} (h : RS K w s y) : RS K (xQ4 w i v x) s y := by
  cases s <;> exact h
section
variable {m : Mem} {X : Exn → Mem → Prop} {F : Fl → Mem → Prop}
@[simp] theorem wWy {i : Nat} {o : Ob} {P : EV → Mem → Prop} : W (xZj (.pk i o)) m X P ↔ P (.d (dOf o)) (yUv m i (dOf o)) := ⟨fun h => h.go, fun h => ⟨h⟩⟩
@[simp] theorem wW0 {x : PyData} {P : EV → Mem → Prop} : W (xZj (.d x)) m X P ↔ P (.d x) m := ⟨fun h => h.go, fun h => ⟨h⟩⟩
@[simp] theorem wWz {o : Ob} {P : EV → Mem → Prop} : W (xZj (.new o)) m X P ↔ P (.new o) m := ⟨fun h => h.go, fun h => ⟨h⟩⟩
@[simp] theorem wW1 {n : Nat} {P : EV → Mem → Prop} : W (xZj (.cell n)) m X P ↔ P (.cell n) m := ⟨fun h => h.go, fun h => ⟨h⟩⟩
@[simp] theorem wY1 {x : PyData} : xXp (.d x) = .d x := rfl
@[simp] theorem wY0 {o : Ob} : xXp (.new o) = .ob o := rfl
@[simp] theorem wY2 {n : Nat} : xXp (.cell n) = .cell n := rfl
@[simp] theorem wU4 {i : Nat} {v : EV} {sl : List (Option SV)} {cs : List Ob} {P : Unit → Mem → Prop} : W (wQz i v) ⟨sl, cs⟩ X P ↔ P () ⟨sl.set i (some (xXp v)), cs⟩ := ⟨fun h => h.go, fun h => ⟨h⟩⟩
@[simp] theorem wHw {i j : Nat} {fa fb : Pg EV} : W (xKz i j fa fb) m X F ↔ W fa m X fun v m1 => W (xZj v) m1 X fun v' m2 => W fb m2 noX fun u m3 => W (xZj u) m3 X fun u' m4 => W (wQz i v') m4 X fun _ m5 => W (wQz j u') m5 X fun _ m6 => F .next m6 := by
  unfold xKz
  simp only [zZ0, xWb, xQs]
end
section
variable {X : Cx} {B : XBt} {a b : Expr} {pos : Pos} {fa fb : Pg EV}
theorem xGs {K : PySem.W.Frag} {w : Wd} {v u : EV} {x y : V} (r : Rep K w) (hv : RE K w v x) (hu : RE K w u y) (kv : kept v) (ku : kept u) (dis : ∀ a, adN v x a → ¬ adN u y a) (i j : Nat) :
    Rep K (xQ4 (xQ4 w i (xXp v) x) j (xXp u) y) ∧ FolS w (xQ4 (xQ4 w i (xXp v) x) j (xXp u) y) := by
  obtain ⟨r5, f5⟩ := xQv (i := i) (v := xXp v) (x := x) r (wQ1 hv kv) fun xs a e e' => by
    cases v with
    | d y => cases e
    | cell n => cases e
    | pk i o => exact kv.elim
    | new o =>
      obtain ⟨c, ec, _, _, _, _, h5⟩ := hv
      rw [e'] at ec
      cases ec
      exact h5
  obtain ⟨r6, f6⟩ := xQv (i := j) (v := xXp u) (x := y) r5 (xGj (wQ1 hu ku)) fun xs a e e' => by
    cases u with
    | d y => cases e
    | cell n => cases e
    | pk i o => exact ku.elim
    | new o =>
      obtain ⟨c, ec, _, _, _, _, h5⟩ := hu
      rw [e'] at ec
      cases ec
      rintro ⟨t, ys, z1, z2⟩
      rcases xJm z1 with ⟨q1, q2, q3⟩ | ⟨q1, q2⟩
      · subst q1
        have z2 : (w.sg.set t (some x))[t]? = some (some (.ref a)) := z2
        rw [List.getElem?_set_self (Nat.lt_of_lt_of_le q3 r.le)] at z2
        cases z2
        cases v with
        | d y => cases q2
        | cell n => cases q2
        | pk i o => exact kv.elim
        | new o' => exact dis a rfl e'
      · have z2 : (w.sg.set i (some x))[t]? = some (some (.ref a)) := z2
        rw [List.getElem?_set_ne (Ne.symm q1)] at z2
        exact h5 ⟨t, ys, q2, z2⟩
  exact ⟨r6, f5.trans f6⟩
theorem wZa {i j : Nat} {w : Wd} {D : Ends} {Z : V → V → Hp → Prop} (ha : Snd X B a fa) (hb : Snd X B b fb) (r : Rep X.K w) (hww : (xKz i j fa fb w.m).wp (yG3 X.K w D) (XW X.K B w))
    (fin : ∀ (w5 : Wd) (v u : EV) (x y : V), Rep X.K w5 → FolE w w5 → w5.sg = w.sg → RE X.K w5 v x → RE X.K w5 u y → kept v → kept u → (∀ a, adN v x a → ¬ adN u y a) → yG3 X.K w D .next (setM (setM w5.m i (xXp v)) j (xXp u)) → Z x y w5.H) :
    WE X a w.sg w.H fun x H1 => WE X b w.sg H1 fun y H2 => Z x y H2 := by
  refine zZx ha r hww fun v w1 xv e1 f1 r1 re h1 => ?_
  obtain ⟨v', w2, ev', s2, g2, f2, r2, re2, kv⟩ := xJr r1 re
  have h1 := wp_bind h1
  rw [ev'] at h1
  have h1 : (Pg.bind (xQb fb) _ w2.m).wp (yG3 X.K w D) (XW X.K B w1) := h1
  have h1 := yH3 (wp_bind h1)
  have r2z := xU4 r2 re2
  rw [← e1, ← s2, ← g2]
  refine hb (xU5 w2 v' xv) _ r2z (Res.wp.imp h1 (fun u m' q w3 yv em es f3 r3 re3 => ?_) fun _ _ z => z.elim)
  subst em
  obtain ⟨u', w4, eu', s4, g4, f4, r4, re4, ku⟩ := xJr r3 re3
  have q := wp_bind q
  rw [eu'] at q
  obtain ⟨rb, fb', rv, dis⟩ := xVq r2 re2 kv (f3.trans f4) r4
  obtain ⟨ru, dis⟩ := dis u' yv re4
  have sg2 : w4.sg = w.sg := s4.trans (es.trans (s2.trans e1))
  have z := fin { w4 with Z := w2.Z } v' u' xv yv rb (f1.trans (f2.trans fb')) sg2 rv ru kv ku dis q
  have z : Z xv yv w4.H := z
  rw [g4] at z
  exact z
variable {x y : Str} {px py pt : Pos} {kt k2 : Nat} {pt2 : Pos}
theorem xGe (i j : Nat) (C : Ctx X B) (hc : X.calm = true) (hi : X.N[i]? = some x) (hj : X.N[j]? = some y) (hij : i ≠ j)
    (hx : X.env.scope.names.lookup x = some .local) (hy : X.env.scope.names.lookup y = some .local) (ha : Snd X B a fa) (hb : Snd X B b fb)
    (hw : swappedStores [.Tuple [.Name x px, .Name y py] kt pt] (.Tuple [a, b] k2 pt2) X.env = pure (some [x, y]))
    (hs : swapsWithSole [.Tuple [.Name x px, .Name y py] kt pt] (.Tuple [a, b] k2 pt2) pos.line X.env = pure false := by rfl)
    (he : starEach [a, b] X.env = (false, eval a X.env) :: starEach [b] X.env := by rfl) (he2 : starEach [b] X.env = (false, eval b X.env) :: starEach [] X.env := by rfl) :
    xWp X B (.Assign [.Tuple [.Name x px, .Name y py] kt pt] (.Tuple [a, b] k2 pt2) pos) (xKz i j fa fb) := by
  intro w D r hww
  refine xZs (ps_par hc C.nd hi hj hij hx hy (pa_cons yG1 (pa_cons yG1 pa_nil he2) he) hw hs) ?_
  refine wZa ha hb r hww fun w5 v u x y r5 f5 s5 hv hu kv ku dis q => ⟨x, y, rfl, ?_⟩
  obtain ⟨r6, f6⟩ := xGs r5 hv hu kv ku dis i j
  have z := q (xQ4 (xQ4 w5 i (xXp v) x) j (xXp u) y) rfl ((f5.s r).trans f6) r6
  have z : D.nx ((w5.sg.set i (some x)).set j (some y)) w5.H := z
  rw [s5] at z
  exact z
end
end Ev

namespace Ev
open PySem PySem.Spec PyProof.Rows L2
section
variable {X : Cx} {pins : List (Addr × Obj)} {sg : L2.St} {s : Shared} {k : Nat}
end
end Ev

namespace Ev
open PySem PySem.Spec PyProof.Rows L2
def dA : EV → Option AV
  | .d x => some (.d x)
  | .cell n => some (.cell n)
  | _ => none
section
variable {X : Cx} {B : XBt} {a b : Expr} {fa fb : Pg EV} {pos : Pos} {tb : List (Str × Fn)} {k : Nat}
end
section
variable {m : Mem} {X : Exn → Mem → Prop} {T : Bool → Mem → Prop}
@[simp] theorem wH9 {x : PyData} : dA (.d x) = some (.d x) := rfl
@[simp] theorem vQa {n : Nat} : dA (.cell n) = some (.cell n) := rfl
end
end Ev

namespace Ev
open PySem PySem.Spec PyProof.Rows L2
section
variable {prog : Program} {w : World} {A : Around} {E : Value → Shared → Prop} {s : Shared} {K : PySem.W.Frag} {a C g : Addr} {ox : Obj} {od : Option Obj}
end
section
variable {X : Cx} {B : XBt} {e : Expr} {fa : Pg EV} {pos p : Pos} {tb : List (Str × Fn)} {k : Nat} {x : Str}
end
section
variable {m : Mem} {X : Exn → Mem → Prop} {E : EV → Mem → Prop}
end
end Ev

namespace Ev
open PySem PySem.Spec PyProof.Rows L2
section
variable {K : PySem.W.Frag} {C f : Addr}
end
section
variable {X : Cx} {B : XBt} {k : Nat} {op : CmpOp} {c : Str} {tb : List (Str × Fn)} {h : Fn}
end
end Ev

namespace Ev
open PySem PySem.Spec PyProof.Rows L2
section
variable {X : Cx} {B : XBt} {e c : Expr} {f : Pg EV} {p1 pos : Pos} {ns : List Str} {t1 : List (String × Bool)} {t2 t3 : List (Str × Bool)}
end
end Ev

namespace Ev
open PySem PySem.Spec PyProof.Rows L2
section
variable {P : Program} {w : World} {K : PySem.W.Frag} {mg : Str → Option Value} {base : Heap}
end
section
variable {P : Program} {w : World} {K : PySem.W.Frag} {mg : Str → Option Value} {base : Heap} {x : Str} {st : Stmt} {ps : List Str} {dvs : List V} {kws : List (Str × V)} {g : Fn} {j k q : Nat}
end
section
variable {P : Program} {w : World} {K : PySem.W.Frag} {mg : Str → Option Value} {base : Heap}
end
section
variable {X : Cx} {B : XBt} {o e : Expr} {fo f : Pg EV}
end
end Ev

namespace Ev
open PySem PySem.Spec PyProof.Rows L2
def wG2 (sl : List (Option SV)) (fl : Pg EV) : Pg EV := fun m => match fl ⟨sl, m.cs⟩ with
  | .ok v m' => .ok (xYg v) ⟨m.sl, m'.cs⟩
  | .thr x m' => .thr x ⟨m.sl, m'.cs⟩
  | .bad => .bad
section
variable {X : Cx} {pins : List (Addr × Obj)} {sg0 : L2.St} {H0 : Hp} {s0 : Shared}
end
end Ev
namespace Ev
open PySem PySem.Spec PyProof.Rows L2
section
variable {X : Cx} {pins : List (Addr × Obj)} {sg : L2.St} {H : Hp} {s : Shared}
inductive Made (H : Hp) (P : Addr) (q : Str) (c' : Addr) : Hp → Prop where
  | hit (h : H c' = some (LamX.CodeO c' q)) : Made H P q c' H
  | miss (ps ps' : Array Value) (h : H P = some (.tbl ps)) (n : H c' = none) : Made H P q c' (upd (upd H P (.tbl ps')) c' (LamX.CodeO c' q))
end
end Ev

namespace Ev
open PySem PySem.Spec PyProof.Rows L2
def wUp (i : Nat) : Pg Unit := fun m => match m.sl[i]? with
  | some (some (.ob o)) => .ok () (yUv m i (dOf o))
  | _ => .ok () m
def frzs : List Nat → Pg Unit
  | [] => .ret ()
  | i :: is => .bind (wUp i) fun _ => frzs is
section
variable {K : PySem.W.Frag} {w : Wd} {P c' : Addr} {q : Str} {H1 : Hp}
theorem Made.code (M : Made w.H P q c' H1) : H1 c' = some (LamX.CodeO c' q) := by
  cases M with
  | hit h => exact h
  | miss ps ps' h n => exact upd_same
theorem Made.keep (M : Made w.H P q c' H1) {b : Addr} {o : HO} (e : w.H b = some o) (n : ∀ ps, o ≠ .tbl ps) : H1 b = some o := by
  cases M with
  | hit h => exact e
  | miss ps ps' h nc =>
    rw [upd_ne (ne_of_none e nc), upd_ne (fun z => n ps (by rw [z, h] at e; exact (Option.some.inj e).symm))]
    exact e
theorem Made.live (M : Made w.H P q c' H1) {b : Addr} (e : w.H b ≠ none) : H1 b ≠ none := by
  cases M with
  | hit h => exact e
  | miss ps ps' h nc =>
    by_cases z : b = c'
    · rw [z, upd_same]; simp
    · rw [upd_ne z]
      by_cases y : b = P
      · rw [y, upd_same]; simp
      · rw [upd_ne y]; exact e
theorem Made.tbl (M : Made w.H P q c' H1) (hp : ∃ q, (P, q) ∈ xVk K) (h3 : ∀ b ps, w.H b = some (.tbl ps) → ∃ q, (b, q) ∈ xVk K) (b : Addr) (ps : Array Value) (e : H1 b = some (.tbl ps)) : ∃ q, (b, q) ∈ xVk K := by
  cases M with
  | hit h => exact h3 b ps e
  | miss ps0 ps' h nc =>
    by_cases z : b = c'
    · rw [z, upd_same] at e
      exact absurd (Option.some.inj e) (LamX.codeO_ne ps)
    · rw [upd_ne z] at e
      by_cases y : b = P
      · rw [y]; exact hp
      · rw [upd_ne y] at e; exact h3 b ps e
end
section
variable {X : Cx} {B : XBt}
end
end Ev
namespace Ev
open PySem PySem.Spec PyProof.Rows L2
end Ev
namespace Ev
open PySem PySem.Spec PyProof.Rows L2
section
variable {m : Mem} {X : Exn → Mem → Prop} {P : EV → Mem → Prop}
end
end Ev
namespace Ev
open PySem PySem.Spec PyProof.Rows L2
section
variable {X : Cx} {B : XBt}
end
end Ev
namespace Ev
open PySem PySem.Spec PyProof.Rows L2
section
variable {P : Program} {w : World} {K : PySem.W.Frag} {mg : Str → Option Value} {base : Heap}
end
end Ev
namespace Ev
open PySem PySem.Spec PyProof.Rows L2
section
variable {P : Program} {w : World} {K : PySem.W.Frag} {mg : Str → Option Value} {base : Heap}
end
section
variable {P : Program} {w : World} {K : PySem.W.Frag} {mg : Str → Option Value} {base : Heap}
end
end Ev

namespace Ev
open PySem PySem.Spec PyProof.Rows L2
section
variable {M : Model} {A : Around} {E : Value → Shared → Prop} {s : Shared} {pos : Pos} {f : Value} {Q : Value → Shared → Prop}
end
section
variable {X : Cx} {B : XBt} {es : List Expr} {kws : List Keyword} {ks : List Str} {fa fk : Pg (List AV)} {fo : Pg EV} {p pos : Pos} {x : Str} {tb : List (Str × Fn)} {m : Nat}
end
section
variable {m : Mem} {X : Exn → Mem → Prop} {E : EV → Mem → Prop}
end
end Ev

namespace Ev
open PySem PySem.Spec PyProof.Rows L2
section
variable {X : Cx}
end
section
variable {X : Cx} {B : XBt} {o e e1 e2 : Expr} {fo f f1 f2 : Pg EV} {pos : Pos}
end
section
variable {m : Mem} {X : Exn → Mem → Prop} {E : EV → Mem → Prop} {F : Fl → Mem → Prop}
@[simp] theorem wW2 {P : Unit → Mem → Prop} : W (frzs []) m X P ↔ P () m := ⟨fun h => h.go, fun h => ⟨h⟩⟩
@[simp] theorem wW3 {i : Nat} {is : List Nat} {P : Unit → Mem → Prop} : W (frzs (i :: is)) m X P ↔ W (wUp i) m X fun _ m1 => W (frzs is) m1 X P := zZ0
end
end Ev

namespace Ev
open PySem PySem.Spec PyProof.Rows L2
def sok (x : Str) : Prop := PyData.strOk x = true
theorem yGp (s : String) : sok (Str.ofString s) := by
  unfold sok PyData.strOk
  rw [Str.ofString_eq_toList]
  simp only [List.all_toArray, List.all_map, List.all_eq_true, Function.comp, decide_eq_true_iff]
  intro c _
  have h := c.valid
  show c.val.toNat < 1114112
  rcases h with h | ⟨_, h⟩
  · have : c.val.toNat < 55296 := h
    omega
  · exact h
theorem yGy {a b : Str} (ha : sok a) (hb : sok b) : sok (a ++ b) := by
  show (a.cps ++ b.cps).all _ = true
  rw [Array.all_append, Bool.and_eq_true]
  exact ⟨ha, hb⟩
theorem xJh {s : Str} (hs : sok s) : ∀ {ts : List Str}, (∀ t, t ∈ ts → sok t) → sok (Str.join s ts)
  | [], _ => yGp ""
  | [x], h => h x (List.mem_cons_self ..)
  | x :: y :: r, h => by
    show sok (x ++ s ++ Str.join s (y :: r))
    exact yGy (yGy (h x (List.mem_cons_self ..)) hs) (xJh hs fun t ht => h t (List.mem_cons_of_mem _ ht))
theorem xJi : ∀ {ts : List Str} {k : Nat} {acc : Str}, sok acc → (∀ t, t ∈ ts → sok t) → sok (textFrom k acc ts)
  | [], _, _, h, _ => h
  | t :: ts, k, acc, h, g => by
    refine xJi (ts := ts) (k := k + 1) (yGy (yGy h ?_) (g t (List.mem_cons_self ..))) fun t ht => g t (List.mem_cons_of_mem _ ht)
    exact yGp _
theorem xW4 {ts : List Str} (h : ∀ t, t ∈ ts → sok t) : sok (listText ts) := yGy (xJi (yGp _) h) (yGp _)
theorem xVu {ts : List Str} (h : ∀ t, t ∈ ts → sok t) : sok (tupleText ts) := yGy (yGy (yGp _) (xJh (yGp _) h)) (yGp _)
mutual
def xH4 : PyData → Bool
  | .str x => PyData.strOk (reprText x)
  | .list xs => xVw xs
  | .tuple xs => xVw xs
  | .dict _ => false
  | _ => true
def xVw : List PyData → Bool
  | [] => true
  | x :: xs => xH4 x && xVw xs
end
mutual
theorem xVv : ∀ {d : PyData}, xH4 d = true → sok d.shown
  | .none, _ => yGp _
  | .bool b, _ => by cases b <;> exact yGp _
  | .int i, _ => yGp _
  | .str x, h => by simpa [xH4, PyData.shown, sok] using h
  | .list xs, h => by
    simp only [PyData.shown]
    exact xW4 (yU8 (by simpa [xH4] using h))
  | .tuple xs, h => by
    simp only [PyData.shown]
    exact xVu (yU8 (by simpa [xH4] using h))
  | .dict _, h => by simp [xH4] at h
theorem yU8 : ∀ {xs : List PyData}, xVw xs = true → ∀ t, t ∈ PyData.shownAll xs → sok t
  | [], _, t, ht => by simp [PyData.shownAll] at ht
  | x :: xs, h, t, ht => by
    simp only [xVw, Bool.and_eq_true] at h
    simp only [PyData.shownAll] at ht
    rcases List.mem_cons.mp ht with e | e
    · rw [e]
      exact xVv h.1
    · exact yU8 h.2 t e
end
end Ev

namespace Ev
open PySem PySem.Spec PyProof.Rows L2
section
variable {X : Cx} {B : XBt} {o e e1 e2 : Expr} {fo f f1 f2 : Pg EV}
end
section
variable {m : Mem} {X : Exn → Mem → Prop} {E : EV → Mem → Prop}
end
end Ev

namespace Ev
open PySem PySem.Spec PyProof.Rows L2
section
variable {K : PySem.W.Frag} {F : Hp}
end
section
variable {X : Cx} {B : XBt} {o e a b : Expr} {fo f fa fb : Pg EV}
end
section
variable {m : Mem} {X : Exn → Mem → Prop} {E : EV → Mem → Prop}
end
end Ev

namespace Ev
open PySem PySem.Spec PyProof.Rows L2
section
variable {X : Cx} {B : XBt} {a b : Expr} {fa fb : Pg EV}
end
section
variable {m : Mem} {X : Exn → Mem → Prop} {E : EV → Mem → Prop}
end
end Ev

namespace Ev
open PySem PySem.Spec PyProof.Rows L2
section
variable {prog : Program} {w : World} {A : Around} {E : Value → Shared → Prop} {s : Shared} {K : PySem.W.Frag} {a C g : Addr} {ox : Obj} {od : Option Obj}
end
section
variable {X : Cx} {B : XBt} {e : Expr} {fa : Pg EV} {pos p : Pos} {tb : List (Str × Fn)} {k : Nat}
end
section
variable {m : Mem} {X : Exn → Mem → Prop} {E : EV → Mem → Prop}
end
end Ev

namespace Ev
open PySem PySem.Spec PyProof.Rows L2
section
variable {X : Cx} {B : XBt} {e : Expr} {es : List Expr} {f : Pg EV} {g : Pg (List AV)} {p' : Pos}
end
section
variable {m : Mem} {X : Exn → Mem → Prop} {P : List AV → Mem → Prop}
end
end Ev

namespace Ev
open PySem PySem.Spec PyProof.Rows L2
section
variable {X : Cx} {B : XBt} {pos : Pos} {tg : Expr} {tgs : List Expr}
end
section
variable {m : Mem} {X : Exn → Mem → Prop} {F : Unit → Mem → Prop}
end
end Ev

namespace Ev
open PySem PySem.Spec PyProof.Rows L2
section
variable {X : Cx} {B : XBt} {a b : Expr} {fa fb : Pg EV}
end
section
variable {m : Mem} {X : Exn → Mem → Prop}
end
end Ev

namespace Ev
open PySem PySem.Spec PyProof.Rows L2
theorem yHt.keep {K : PySem.W.Frag} {w w1 : Wd} {Q : VK} {v : EV} (q : yHt K w Q v w1.m) (e1 : w1.sg = w.sg) (f1 : FolE w w1) : xWq K w1 v Q := fun w' x em es f r re hn => q w' x em (es.trans e1) (f1.trans f) r re (hn.back f1)
def cellOf : PyData → Option Nat
  | .dict [(.none, .int i), (.none, .int n)] => if i = 1 ∧ 0 ≤ n then some n.toNat else none
  | _ => none
def nE : EV → EV
  | .d x => match cellOf x with
    | some n => .cell n
    | none => .d x
  | v => v
section
variable {X : Cx} {B : XBt} {e : Expr} {f : Pg EV}
end
section
variable {m : Mem} {X : Exn → Mem → Prop} {E : EV → Mem → Prop} {f : Pg EV}
@[simp] theorem wUj {i : Int} : nE (.d (.int i)) = .d (.int i) := rfl
@[simp] theorem wUh {i : Str} : nE (.d (.str i)) = .d (.str i) := rfl
@[simp] theorem wK1 : nE (.d .none) = .d .none := rfl
@[simp] theorem wK4 {b : Bool} : nE (.d (.bool b)) = .d (.bool b) := rfl
@[simp] theorem wK2 {xs : List PyData} : nE (.d (.list xs)) = .d (.list xs) := rfl
@[simp] theorem wJi {xs : List PyData} : nE (.d (.tuple xs)) = .d (.tuple xs) := rfl
@[simp] theorem wK3 {n : Nat} : nE (.cell n) = .cell n := rfl
@[simp] theorem wUi {o : Ob} : nE (.new o) = .new o := rfl
@[simp] theorem wHb {i : Nat} {o : Ob} : nE (.pk i o) = .pk i o := rfl
end
end Ev

namespace Ev
open PySem PySem.Spec PyProof.Rows L2
section
variable {X : Cx} {B : XBt} {e : Expr} {f : Pg EV} {pos pos' : Pos}
end
section
variable {P : Program} {w : World} {K : PySem.W.Frag} {mg : Str → Option Value} {base : Heap}
end
section
variable {m : Mem} {X : Exn → Mem → Prop} {E : EV → Mem → Prop} {F : Fl → Mem → Prop}
end
section
variable {P : Program} {w : World} {K : PySem.W.Frag} {mg : Str → Option Value} {base : Heap} {x : Str} {st : Stmt} {ps : List Str} {kws : List (Str × PyData)} {g : Fn} {j k : Nat}
end
end Ev

namespace Ev
open PySem PySem.Spec PyProof.Rows L2
section
variable {n : Nat} {xs ds acc : List PyData} {is : List Nat} {g : PyData → Pg Unit} {t : Pg Bool} {e : Pg EV} {m : Mem} {d : PyData}
end
section
variable {X : Cx} {B : XBt} {tg iter elt : Expr} {ifs : List Expr} {scope : Scope} {pos : Pos}
end

section
variable {m : Mem} {X : Exn → Mem → Prop} {E : EV → Mem → Prop} {is : List Nat} {g : PyData → Pg Unit} {t : Pg Bool} {e : Pg EV}
end
end Ev

namespace Ev
open PySem PySem.Spec PyProof.Rows L2
end Ev

namespace Ev
open PySem PySem.Spec PyProof.Rows L2
section
variable {P : Program} {w : World} {A : Around} {R : Result → Shared → Prop} {I S : Addr} {fp wr : List Addr} {n : Nat} {Pv : Nat → Value → Prop} {St : Nat → Heap → Prop}
end
section
variable {X : Cx} {B : XBt}
end
section
variable {X : Cx} {B : XBt} {e : Expr} {pos p pos2 : Pos} {f : Pg EV}
end
section
variable {m : Mem} {X : Exn → Mem → Prop} {E : EV → Mem → Prop}
end
end Ev

namespace Ev
open PySem PySem.Spec PyProof.Rows L2
end Ev

namespace Ev
open PySem PySem.Spec PyProof.Rows L2
section
variable {prog : Program} {w : World} {A : Around} {E : Value → Shared → Prop} {s : Shared}
end
section
variable {X : Cx} {pos : Pos}
end
section
variable {X : Cx} {B : XBt} {is : List Nat} {pos : Pos} {tg : Expr} {tgs : List Expr}
end
section
variable {m : Mem} {X : Exn → Mem → Prop} {F : Fl → Mem → Prop}
end
end Ev

namespace Ev
open PySem PySem.Spec PyProof.Rows L2
namespace F2
end F2
def EnG (h : Heap) (e it : Addr) (i : Int) : Prop := ∃ (f0 : Value) (f1 : Bool) (old : Value),
  h.get? e = some { cls := .type "enumerate", dict := none, data := .fields #[f0, .bool f1, .ref it, rawInt i, .none, old], slots := #[] } ∧ (f0 = .none ∨ ∃ T : Nat, f0 = rawInt T ∧ ∃ o, h.get? T = some o)
theorem EnG.ty {s : Shared} {e it : Addr} {i : Int} (h : EnG s.heap e it i) : s.TypeIs (.ref e) "enumerate" := by
  obtain ⟨f0, f1, old, h, _⟩ := h
  exact ⟨_, h, rfl⟩
section
variable {prog : Program} {w : World} {A : Around} {E : Value → Shared → Prop} {s : Shared}
end
section
variable {X : Cx} {e : Expr} {ta : TA} {p p2 pos pos2 : Pos}
end
section
variable {X : Cx} {B : XBt} {e : Expr} {fa : Pg (List AV)} {p p2 pos pos2 : Pos}
end
section
variable {m : Mem} {X : Exn → Mem → Prop} {E : EV → Mem → Prop}
end
end Ev

namespace Ev
open PySem PySem.Spec PyProof.Rows L2
section
variable {prog : Program} {w : World} {A : Around} {E : Value → Shared → Prop} {s : Shared}
end
section
variable {X : Cx}
end
end Ev

namespace Ev
open PySem PySem.Spec PyProof.Rows L2
namespace F2
end F2
def ZpG (h : Heap) (z TI TO : Addr) : Prop := ∃ (f0 : Value) (f1 : Bool),
  h.get? z = some { cls := .type "zip", dict := none, data := .fields #[f0, .bool f1, .bool false, .ref TI, .ref TO], slots := #[] } ∧ ((f0 = .none ∧ f1 = false) ∨ ∃ T : Nat, f0 = rawInt T ∧ ∃ o, h.get? T = some o)
theorem ZpG.ty {s : Shared} {z TI TO : Addr} (h : ZpG s.heap z TI TO) : s.TypeIs (.ref z) "zip" := by
  obtain ⟨f0, f1, h, _⟩ := h
  exact ⟨_, h, rfl⟩
theorem xJe {h h' : Heap} {it l : Addr} {i : Nat} (k : ∀ o, h.get? it = some o → h'.get? it = some o) (x : h.IsTupleIter it l i) : h'.IsTupleIter it l i := by
  obtain ⟨o, a, b, c⟩ := x
  exact ⟨o, k o a, b, c⟩
theorem xJd {h h' : Heap} {l : Addr} {xs : Array Value} (k : ∀ o, h.get? l = some o → h'.get? l = some o) (x : h.IsTuple l xs) : h'.IsTuple l xs := by
  obtain ⟨o, a, b⟩ := x
  exact ⟨o, k o a, b⟩
structure ZSt (xs ys : Array Value) (z TI TO i1 i2 l1 l2 : Addr) (i : Nat) (h : Heap) : Prop where
  zp : ZpG h z TI TO
  ti : IsPair h TI (.ref i1) (.ref i2)
  to : ∃ a b, IsPair h TO a b
  t1 : h.IsTupleIter i1 l1 i
  t2 : h.IsTupleIter i2 l2 i
  a1 : h.IsTuple l1 xs
  a2 : h.IsTuple l2 ys
theorem ZSt.keep {xs ys : Array Value} {z TI TO i1 i2 l1 l2 : Addr} {i : Nat} {h h' : Heap} (Z : ZSt xs ys z TI TO i1 i2 l1 l2 i h) (S : Addr) (n : z ≠ S ∧ TI ≠ S ∧ TO ≠ S ∧ i1 ≠ S ∧ i2 ≠ S ∧ l1 ≠ S ∧ l2 ≠ S)
    (k : ∀ b o, b ≠ S → h.get? b = some o → h'.get? b = some o) (live : ∃ o, h'.get? S = some o) : ZSt xs ys z TI TO i1 i2 l1 l2 i h' := by
  obtain ⟨n1, n2, n3, n4, n5, n6, n7⟩ := n
  obtain ⟨f0, f1, e, q⟩ := Z.zp
  obtain ⟨a, b, et⟩ := Z.to
  exact ⟨⟨f0, f1, k _ _ n1 e, q.imp id fun ⟨T, e1, o, e2⟩ => ⟨T, e1, by
    by_cases c : T = S
    · rw [c]; exact live
    · exact ⟨o, k _ _ c e2⟩⟩⟩, k _ _ n2 Z.ti, ⟨a, b, k _ _ n3 et⟩, xJe (fun o => k _ o n4) Z.t1, xJe (fun o => k _ o n5) Z.t2, xJd (fun o => k _ o n6) Z.a1, xJd (fun o => k _ o n7) Z.a2⟩
section
variable {prog : Program} {w : World} {A : Around} {E : Value → Shared → Prop} {s : Shared} {xs ys : Array Value} {z TI TO i1 i2 l1 l2 : Addr}
end
section
variable {prog : Program} {w : World} {A : Around} {E : Value → Shared → Prop} {s : Shared} {xs ys : Array Value} {z TI TO i1 i2 l1 l2 : Addr}
end
section
variable {X : Cx} {e e2 : Expr} {ta : TA} {p p2 pos pos2 : Pos}
end
section
variable {X : Cx} {B : XBt} {e e2 : Expr} {fa : Pg (List AV)} {p p2 pos pos2 : Pos}
end
section
variable {m : Mem} {X : Exn → Mem → Prop} {E : EV → Mem → Prop}
end
end Ev

namespace Ev
open PySem PySem.Spec PyProof.Rows L2
namespace F2
end F2
section
variable {prog : Program} {w : World} {K : PySem.W.Frag} {A : Around} {E : Value → Shared → Prop} {s : Shared} {x dx C g : Addr} {mA : Str → Option Value} {n : Str} {v : Value}
end
section
variable {X : Cx} {o value : Expr} {tv ta : TE} {n : Str} {pos pos' : Pos}
end
section
variable {X : Cx} {B : XBt} {e o : Expr} {fe fo : Pg EV} {pos p1 : Pos} {n : Str} {tb : List (Str × Fn)} {k : Nat}
end
section
variable {m : Mem} {X : Exn → Mem → Prop} {F : Fl → Mem → Prop}
end
end Ev

namespace Ev
open PySem PySem.Spec PyProof.Rows L2
section
variable {prog : Program} {w : World} {A : Around} {E : Value → Shared → Prop} {s : Shared} {env : Env} {K : PySem.W.Frag} {x C fe fx : Addr} {ox : Obj} {od : Option Obj} {pos : Pos}
end
section
variable {P : Program} {w : World} {K : PySem.W.Frag} {mg : Str → Option Value} {base : Heap}
end
section
variable {P : Program} {w : World} {K : PySem.W.Frag} {mg : Str → Option Value} {base : Heap}
end
end Ev

namespace Ev
open PySem PySem.Spec PyProof.Rows L2
section
variable {X : Cx} {B : XBt} {k : Nat} {fx : Addr} {ex : Fn} {a : AV} {x : Addr}
end
end Ev

namespace Ev
open PySem PySem.Spec PyProof.Rows L2
section
variable {X : Cx} {B : XBt} {e : Expr} {body : List Stmt} {fm : Pg EV} {fb : Pg Fl} {pos : Pos} {tb : List (Str × (Fn × Fn))} {k : Nat}
end
section
variable {m : Mem} {X : Exn → Mem → Prop} {F : Fl → Mem → Prop}
end
end Ev

namespace Ev
open PySem PySem.Spec PyProof.Rows L2
section
variable {X : Cx} {B : XBt} {ea : Expr} {pos : Pos} {f : Pg EV} {n : Str} {tb : List (Str × PyData)}
end
section
variable {m : Mem} {X : Exn → Mem → Prop} {E : EV → Mem → Prop}
end
end Ev

namespace Ev
open PySem PySem.Spec PyProof.Rows L2
def nA : AV → AV
  | .d x => match cellOf x with
    | some n => .cell n
    | none => .d x
  | .cell n => .cell n
@[simp] theorem wH8 {n : Nat} : nA (.cell n) = .cell n := rfl
section
variable {X : Cx} {B : XBt} {o : Expr} {es : List Expr} {kws : List Keyword} {ks : List Str} {fa fk : Pg (List AV)} {fo : Pg EV} {apos pos : Pos} {n : Str} {tb : List (Str × Fn)} {m : Nat}
end
section
variable {X : Cx} {B : XBt} {e : Expr} {f : Pg EV} {pos : Pos}
end
section
variable {X : Cx} {B : XBt} {e : Expr} {body : List Stmt} {fm : Pg EV} {fb : Pg Fl} {pos : Pos} {tb : List (Str × (Fn × Fn))} {k : Nat}
end

section
variable {m : Mem} {X : Exn → Mem → Prop} {E : EV → Mem → Prop} {F : Fl → Mem → Prop}
end
end Ev

namespace Ev
open PySem PySem.Spec PyProof.Rows L2
section
variable {P : Program} {w : World} {K : PySem.W.Frag} {mg : Str → Option Value} {base : Heap}
end

section
variable {X : Cx} {B : XBt} {k : Nat}
end
end Ev

namespace Ev
open PySem PySem.Spec PyProof.Rows L2
section
variable {X : Cx} {B : XBt} {o e c : Expr} {fo f fc : Pg EV}
end

section
variable {X : Cx} {B : XBt} {tg : Expr} {is : List Nat} {pos : Pos}
end
end Ev

namespace Ev
open PySem PySem.Spec PyProof.Rows L2
section
variable {P : Program} {w : World} {K : PySem.W.Frag} {mg : Str → Option Value} {base : Heap} {c x qual n : Str} {R : Addr → Addr → Prop} {st : Stmt} {ps ks N : List Str} {g : Fn} {j k q : Nat} {f D : Addr} {fd : FuncData} {fb : Pg Fl}
end
section
variable {m : Mem} {X : Exn → Mem → Prop} {E : EV → Mem → Prop} {F : Fl → Mem → Prop}
end
end Ev

namespace Ev
open PySem PySem.Spec PyProof.Rows L2
section
variable {prog : Program} {w : World} {A : Around} {E : Value → Shared → Prop} {s : Shared}
end
section
variable {X : Cx} {pos : Pos}
end
section
variable {X : Cx} {B : XBt} {is : List Nat} {pos : Pos} {tg : Expr} {tgs : List Expr}
end
section
variable {m : Mem} {X : Exn → Mem → Prop} {F : Fl → Mem → Prop}
end
end Ev

namespace Ev
open PySem PySem.Spec PyProof.Rows L2
section
variable {X : Cx} {B : XBt} {tg iter elt : Expr} {ifs : List Expr} {scope : Scope} {pos : Pos}
end

section
variable {m : Mem} {X : Exn → Mem → Prop} {E : EV → Mem → Prop} {is : List Nat} {g : PyData → Pg Unit} {t : Pg Bool} {e : Pg EV}
end
end Ev

namespace Ev
open PySem PySem.Spec PyProof.Rows L2
section
variable {X : Cx} {B : XBt} {k : Nat}
end
end Ev

namespace Ev
open PySem PySem.Spec PyProof.Rows L2
section
variable {P : Program} {w : World} {K : PySem.W.Frag} {mg : Str → Option Value} {base : Heap} {x qual : Str} {st : Stmt} {ps ks : List Str} {dvs : List V} {g : Fn} {j k q : Nat} {f : Addr} {fd : FuncData}
end
end Ev

namespace Ev
open PySem PySem.Spec PyProof.Rows L2
section
variable {X : Cx} {B : XBt} {tg iter elt : Expr} {ifs : List Expr} {scope : Scope} {pos : Pos} {own : List (Str × Nat)} {f : Pg EV} {g : PyData → Pg Unit} {t : Pg Bool} {fe : Pg EV}
end
section
variable {m : Mem} {X : Exn → Mem → Prop} {E : EV → Mem → Prop} {is : List Nat} {f : Pg EV} {g : PyData → Pg Unit} {t : Pg Bool} {e : Pg EV}
end
end Ev

namespace Ev
open PySem PySem.Spec PyProof.Rows L2
section
variable {X : Cx} {B : XBt} {e : Expr} {f : Pg EV}
end
section
variable {X : Cx} {B : XBt} {x : Str} {p pos : Pos} {es : List Expr} {kws : List Keyword} {ks : List Str} {fa fk : Pg (List AV)}
end
section
variable {X : Cx} {B : XBt} {k : Nat} {Cc fI : Addr} {c : Str} {ks : List Str} {h : Fn}
end
section
variable {X : Cx} {B : XBt} {c : Str} {p pos : Pos} {es : List Expr} {kws : List Keyword} {ks : List Str} {fa fk : Pg (List AV)} {k m : Nat} {h : Fn}
end
section
variable {m : Mem} {X : Exn → Mem → Prop} {E : EV → Mem → Prop}
end
end Ev

namespace Ev
open PySem PySem.Spec PyProof.Rows L2
section
variable {prog : Program} {w : World} {A : Around} {E : Value → Shared → Prop} {s : Shared} {K : PySem.W.Frag} {x y C D L f : Addr} {h₀ : Heap} {m : Str → Option Value} {ox oy : Obj} {od od2 : Option Obj}
end
section
variable {X : Cx} {B : XBt} {k : Nat}
end
section
variable {X : Cx} {B : XBt} {a b : Expr} {fa fb : Pg EV} {pos : Pos} {tb : List (Str × Fn)} {sub : List (Str × Str)} {k : Nat}
end
section
variable {m : Mem} {X : Exn → Mem → Prop} {T : Bool → Mem → Prop}
end
end Ev

namespace Ev
open PySem PySem.Spec PyProof.Rows L2
section
variable {X : Cx} {B : XBt} {e e2 : Expr} {pos p pos2 : Pos} {f g : Pg EV}
end
section
variable {m : Mem} {X : Exn → Mem → Prop} {E : EV → Mem → Prop}
end
end Ev

namespace Ev
open PySem PySem.Spec PyProof.Rows L2

structure SKey (P : Program) (w : World) (K : Type) [DecidableEq K] where
  is : Heap → K → Addr → Prop
  hash : K → Int
  cost : K → Nat
  one : ∀ {h : Heap} {x y : K} {b : Addr}, is h x b → is h y b → x = y
  keep : ∀ {h h' : Heap} {k : K} {b : Addr}, is h k b → (∀ o, h.get? b = some o → h'.get? b = some o) → is h' k b
  noSet : ∀ {h : Heap} {k : K} {b : Addr} {o : Obj} {es : Array (Int × Value)} {ep : Nat} {t : SetTable}, is h k b → h.get? b = some o → o.data = .set es ep t → False
  hashed : ∀ {A : Around} {E : Value → Shared → Prop} {s : Shared} {k : K} {b : Addr} {Q : Int → Shared → Prop}, A.units + 2 < cLine → is s.heap k b → Q (hash k) { s with toks := s.toks + cost k } → wpAny (model P w) A (pyHash (.ref b)) Q E s
  alike : ∀ {A : Around} {E : Value → Shared → Prop} {s : Shared} {x y : K} {b c : Addr} {Q : Bool → Shared → Prop}, A.units + 2 < cLine → is s.heap x b → is s.heap y c → Q (decide (x = y)) s → wpAny (model P w) A (eqBool (.ref b) (.ref c)) Q E s
  byVal : ∀ {A : Around} {E : Value → Shared → Prop} {s : Shared} {k : K} {b : Addr} {Q : Bool → Shared → Prop}, is s.heap k b → (∀ v, Q v s) → wpAny (model P w) A (hashByValue 8 (.ref b)) Q E s
  unseen : ∀ {A : Around} {E : Value → Shared → Prop} {s : Shared} {k : K} {b : Addr} {ys : List Value} {Q : Bool → Shared → Prop}, is s.heap k b → (∀ y ∈ ys, ∃ k' c, y = Value.ref c ∧ is s.heap k' c) → Q false s → wpAny (model P w) A (searchCouldBeSeen (.ref b) ys) Q E s

section
variable {P : Program} {w : World} {K : Type} [DecidableEq K] {kd : SKey P w K} {A : Around} {E : Value → Shared → Prop} {s : Shared}
def xQu (kd : SKey P w K) (L : List (Addr × K)) : List (Int × Value) := L.map fun q => (kd.hash q.2, .ref q.1)
def wXw (kd : SKey P w K) (L : List (Addr × K)) : List Int := L.map fun q => kd.hash q.2
structure SetH (kd : SKey P w K) (h : Heap) (a : Addr) (L : List (Addr × K)) (es : Array (Int × Value)) (ep : Nat) (t : SetTable) : Prop where
  here : ∃ o, h.get? a = some o ∧ o.ExactSet ∧ o.data = .set es ep t
  ent : es.toList = xQu kd L
  tb : TabOk t (wXw kd L)
  ones : (L.map Prod.snd).Nodup
  mem : ∀ q ∈ L, kd.is h q.2 q.1
  ldd : w.params.followText "set-order" = true ∨ t.led = true
  gap : 5 * L.length < 3 * t.mask
  small : L.length < 64
variable {a : Addr} {L : List (Addr × K)} {es : Array (Int × Value)} {ep : Nat} {t : SetTable}
theorem SetH.count (R : SetH kd s.heap a L es ep t) : es.size = L.length := by
  simpa [xQu] using congrArg List.length R.ent
theorem SetH.holds (R : SetH kd s.heap a L es ep t) : t.fits es.size = true := by
  have z1 : t.place.size = L.length := by simpa [wXw] using R.tb.sz
  have z2 := R.count; have z3 := R.gap
  simp only [SetTable.fits, SetTable.fill, R.tb.dm, Bool.and_eq_true, beq_iff_eq, decide_eq_true_eq]
  exact ⟨by omega, by show t.place.size + 0 ≤ t.mask; omega⟩
theorem SetH.at_ (R : SetH kd s.heap a L es ep t) {i : Nat} {q : Addr × K} (h : L[i]? = some q) : es[i]? = some (kd.hash q.2, .ref q.1) := by
  have z : es.toList[i]? = some (kd.hash q.2, .ref q.1) := by simp only [R.ent, xQu, List.getElem?_map, h, Option.map_some]
  rwa [Array.getElem?_toList] at z
theorem SetH.stays (R : SetH kd s.heap a L es ep t) : ¬ t.gaveWay = true := by simp [SetTable.gaveWay, mask_odd R.tb.mok]
end
end Ev

namespace Ev
open PySem PySem.Spec PyProof.Rows L2
section
variable {P : Program} {w : World} {K : Type} [DecidableEq K] {kd : SKey P w K} {A : Around} {E : Value → Shared → Prop} {s : Shared} {a : Addr} {L : List (Addr × K)} {es : Array (Int × Value)} {ep : Nat} {t : SetTable}
structure SetB (kd : SKey P w K) (h : Heap) (a : Addr) (L : List (Addr × K)) (es : Array (Int × Value)) (ep : Nat) (t : SetTable) : Prop where
  here : ∃ o, h.get? a = some o ∧ o.ExactSet ∧ o.data = .set es ep t
  ent : es.toList = xQu kd L
  tb : TabOk t (wXw kd L)
  ones : (L.map Prod.snd).Nodup
  mem : ∀ q ∈ L, kd.is h q.2 q.1
  ldd : w.params.followText "set-order" = true ∨ t.led = true
  room : L.length ≤ t.mask
  small : L.length < 64
theorem SetB.full (R : SetB kd s.heap a L es ep t) (g : 5 * L.length < 3 * t.mask) : SetH kd s.heap a L es ep t := ⟨R.here, R.ent, R.tb, R.ones, R.mem, R.ldd, g, R.small⟩
theorem SetB.count (R : SetB kd s.heap a L es ep t) : es.size = L.length := by simpa [xQu] using congrArg List.length R.ent
end
end Ev

namespace Ev
open PySem PySem.Spec PyProof.Rows L2
section
variable {P : Program} {w : World} {K : Type} [DecidableEq K] {kd : SKey P w K} {A : Around} {E : Value → Shared → Prop} {s : Shared}
structure Coll (ks : List (Addr × K)) (i : Nat) (L : List (Addr × K)) : Prop where
  old : ∀ q ∈ L, q ∈ ks.take i
  keys : ∀ q ∈ ks.take i, q.2 ∈ L.map Prod.snd
  le : L.length ≤ i
theorem Coll.next {ks L L' : List (Addr × K)} {i : Nat} {x : Addr × K} (c : Coll ks i L) (h : ks[i]? = some x) (h1 : x.2 ∈ L.map Prod.snd → L' = L) (h2 : x.2 ∉ L.map Prod.snd → L'.Perm (x :: L)) : Coll ks (i + 1) L' := by
  have tk : ks.take (i + 1) = ks.take i ++ [x] := by rw [List.take_succ, h]; rfl
  by_cases z : x.2 ∈ L.map Prod.snd
  · rw [h1 z]
    refine ⟨fun q hq => by rw [tk]; exact List.mem_append_left _ (c.old q hq), fun q hq => ?_, Nat.le_succ_of_le c.le⟩
    rw [tk, List.mem_append, List.mem_singleton] at hq
    rcases hq with hq | rfl
    · exact c.keys q hq
    · exact z
  · have pm := h2 z
    refine ⟨fun q hq => ?_, fun q hq => ?_, by rw [pm.length_eq]; exact Nat.succ_le_succ c.le⟩
    · rw [tk, List.mem_append, List.mem_singleton]
      rcases List.mem_cons.mp (pm.mem_iff.mp hq) with e | e
      · exact .inr e
      · exact .inl (c.old q e)
    · rw [(pm.map Prod.snd).mem_iff, List.map_cons, List.mem_cons]
      rw [tk, List.mem_append, List.mem_singleton] at hq
      rcases hq with hq | rfl
      · exact .inr (c.keys q hq)
      · exact .inl rfl
end
end Ev

namespace Ev
open PySem PySem.Spec PyProof.Rows L2
section
variable {P : Program} {w : World} {A : Around} {E : Value → Shared → Prop} {s : Shared}
abbrev PrK (P : Program) (w : World) (h : Heap) (p : Str × Str) (b : Addr) : Prop := IsTupleKey (PySem.strKind P w) h [p.1, p.2] b
end
end Ev

namespace Ev
open PySem PySem.Spec PyProof.Rows L2
section
variable {P : Program} {w : World} {A : Around} {E : Value → Shared → Prop} {s : Shared}
def xXn (h : Heap) (v : Value) (p : Str × Str) : Prop := ∃ a o t u n, v = .ref a ∧ h.get? a = some o ∧ o.cls = .type "tuple" ∧ o.data = .seq #[.str p.1 t, .str p.2 u] n
theorem xXn.of {h : Heap} {p : Str × Str} {b : Addr} (x : PrK P w h p b) : xXn h (.ref b) p := by
  obtain ⟨o, its, n, ho, hc, hd, hi⟩ := x
  obtain ⟨l⟩ := its
  cases hi with
  | cons h1 r =>
    cases r with
    | cons h2 r =>
      cases r
      obtain ⟨t, rfl⟩ := Value.isStrOf_shape h1
      obtain ⟨u, rfl⟩ := Value.isStrOf_shape h2
      exact ⟨b, o, t, u, n, rfl, ho, hc, hd⟩
theorem xXn.keep {h h' : Heap} {v : Value} {p : Str × Str} (x : xXn h v p) (k : ∀ b o, h.get? b = some o → o.cls = .type "tuple" → h'.get? b = some o) : xXn h' v p := by
  obtain ⟨a, o, t, u, n, e, ho, hc, hd⟩ := x
  exact ⟨a, o, t, u, n, e, k a o ho hc, hc, hd⟩
end
end Ev

namespace Ev
open PySem PySem.Spec PyProof.Rows L2
section
variable {P : Program} {w : World}
def wVx (kd : SKey P w (Str × Str)) (h : Heap) (a : Addr) (L : List (Addr × (Str × Str))) : Prop := ∃ (es : Array (Int × Value)) (ep : Nat) (t : SetTable), (∃ o, h.get? a = some o ∧ o.ExactSet ∧ o.data = .set es ep t) ∧ es.toList = xQu kd L ∧ TabOk t (wXw kd L) ∧ (L.map Prod.snd).Nodup ∧
  (w.params.followText "set-order" = true ∨ t.led = true) ∧ 5 * L.length < 3 * t.mask ∧ L.length < 64
theorem wVx.of {kd : SKey P w (Str × Str)} {h : Heap} {a : Addr} {L : List (Addr × (Str × Str))} {es : Array (Int × Value)} {ep : Nat} {t : SetTable} (R : SetH kd h a L es ep t) : wVx kd h a L := ⟨es, ep, t, R.here, R.ent, R.tb, R.ones, R.ldd, R.gap, R.small⟩
theorem wVx.full {kd : SKey P w (Str × Str)} {h : Heap} {a : Addr} {L : List (Addr × (Str × Str))} (R : wVx kd h a L) (m : ∀ q ∈ L, kd.is h q.2 q.1) : ∃ es ep t, SetH kd h a L es ep t := by
  obtain ⟨es, ep, t, h1, h2, h3, h4, h5, h6, h7⟩ := R
  exact ⟨es, ep, t, h1, h2, h3, h4, m, h5, h6, h7⟩
end
section
variable {X : Cx} {B : XBt} {e : Expr} {pos p p2 pos2 : Pos} {f : Pg EV}
end
section
variable {m : Mem} {X : Exn → Mem → Prop} {E : EV → Mem → Prop}
end
end Ev

namespace Ev
open PySem PySem.Spec PyProof.Rows L2
section
variable {X : Cx} {B : XBt} {e : Expr} {pos : Pos} {f : Pg EV}
end
section
variable {m : Mem} {X : Exn → Mem → Prop} {E : Fl → Mem → Prop}
end
end Ev

namespace Ev
open PySem PySem.Spec PyProof.Rows L2
section
variable {X : Cx} {B : XBt} {e e2 : Expr} {fa : Pg (List AV)} {p pos tpos : Pos} {elts : List Expr} {kk : Nat}
end
section
variable {m : Mem} {X : Exn → Mem → Prop}
end
end Ev

namespace Ev
open PySem PySem.Spec PyProof.Rows L2
section
variable {elt t0 i0 t1 i1 t2 i2 : Expr} {f0 f1 f2 : List Expr} {scope : Scope} {pos : Pos}
end
end Ev

namespace Ev
open PySem PySem.Spec PyProof.Rows L2
abbrev TC := L2.St → Hp → (Hp → Prop) → Prop
section
variable {Y : Cx} {D : Addr} {elt tg iter : Expr} {ifs : List Expr} {vs vs' : List Nat} {g : TG} {tt : TT} {te : TE} {inner : TC} {tl : Value → Env → Sem Unit}
end
end Ev

namespace Ev
open PySem PySem.Spec PyProof.Rows L2
end Ev

namespace Ev
open PySem PySem.Spec PyProof.Rows L2
structure BL (K : PySem.W.Frag) (b : Wd) (D : Addr) (w : Wd) (acc : List PyData) (us : List V) : Prop where
  z : w.Z = fun a => b.Z a ∨ a = D
  fol : FolE b (reZ w b.Z)
  rep : Rep K w
  lst : w.H D = some (.lst us)
  ra : RA K w.F acc us
  nf : w.F D = none
  nr : D ∉ w.ro
section
variable {K : PySem.W.Frag} {b w w' : Wd} {D : Addr} {acc : List PyData} {us : List V}
theorem BL.sub (h : BL K b D w acc us) : ∀ a, b.Z a → w.Z a := fun a q => by rw [h.z]; exact .inl q
theorem BL.guard (h : BL K b D w acc us) : w.Z D := by rw [h.z]; exact .inr rfl
theorem BL.push (h : BL K b D w acc us) (hD : b.H D = none) {d : PyData} {y : V} (rd : R K w.F d y) : BL K b D { w with H := upd w.H D (.lst (us ++ [y])) } (acc ++ [d]) (us ++ [y]) where
  z := h.z
  fol := by
    have f := h.fol
    refine ⟨rfl, f.t, f.ext, f.pre, fun a o e n k => ?_, f.new, fun a e => ?_, f.grow, f.own⟩
    · have ne : a ≠ D := fun q => by rw [q, hD] at e; cases e
      exact (upd_ne ne).trans (f.frm a o e n k)
    · have ne : a ≠ D := fun q => e (by rw [q]; exact hD)
      show upd w.H D _ a ≠ none
      rw [upd_ne ne]
      exact f.liv a e
  rep := by
    have no : ¬ Own w D := fun q => (h.rep.ownAt q).2.2.2 h.guard
    exact wKv (o := .lst (us ++ [y])) h.rep h.nf h.nr no (fun {a d} q e => by rw [e, h.lst] at q; cases q) (fun C d vs q => by rw [h.lst] at q; cases q) ⟨_, h.lst, fun q => q⟩
  lst := upd_same
  ra := h.ra.app (.one rd)
  nf := h.nf
  nr := h.nr
theorem BL.start (r : Rep K b) (hD : b.H D = none) : BL K b D (reZ { b with H := upd b.H D (.lst []) } fun a => b.Z a ∨ a = D) [] [] := by
  obtain ⟨r1, f1⟩ := lay r (p := D) hD (.lst [])
  have own1 : ∀ a, Own { b with H := upd b.H D (.lst []) } a → Own b a := fun a q => q
  have r2 : Rep K (reZ { b with H := upd b.H D (.lst []) } fun a => b.Z a ∨ a = D) := by
    refine yH2 r1 (fun a q => ?_) (fun a q e => ?_) fun d a q e => ?_
    · rcases e : q with q | q
      · exact f1.liv a (r.zl a q)
      · show upd b.H D (.lst []) a ≠ none
        rw [q, upd_same]
        simp
    · rcases e with e | e
      · exact (r1.ownAt q).2.2.2 e
      · subst e
        exact (r.ownAt (own1 _ q)).1 hD
    · rcases e with e | e
      · exact e
      · subst e
        have q : upd b.H d (.lst []) d = some (.own a) := q
        rw [upd_same] at q
        cases q
  exact ⟨rfl, f1, r2, upd_same, .nil, r.noF hD, fun q => r.roLive q hD⟩
end
end Ev

namespace Ev
open PySem PySem.Spec PyProof.Rows L2
def xH0 (K : PySem.W.Frag) (b : Wd) (D : Addr) (sg : L2.St) (vs : List Nat) (w : Wd) (Zf : Hp → Prop) : List PyData → Mem → Prop := fun acc m' => ∀ (w' : Wd) (us : List V), w'.m = m' → SameBut vs sg w'.sg → Same w.F w'.F → BL K b D w' acc us → Zf w'.H
section
variable {X : Cx} {tg iter elt : Expr} {ifs : List Expr} {scope : Scope} {D : Addr}
end
end Ev

namespace Ev
open PySem PySem.Spec PyProof.Rows L2
section
variable {X : Cx} {B : XBt} {tg iter elt : Expr} {ifs : List Expr} {scope : Scope} {D : Addr} {is vs' : List Nat} {fi : Pg (List PyData)} {g : PyData → Pg Unit} {t : Pg Bool} {k : List PyData → Pg (List PyData)}
theorem xH0.after {K : PySem.W.Frag} {b w w1 : Wd} {sg : L2.St} {vs : List Nat} {Zf : Hp → Prop} {acc : List PyData} {m : Mem} (h : xH0 K b D sg vs w Zf acc m) (e : Same w.F w1.F) : xH0 K b D sg vs w1 Zf acc m := fun w' us a b c d => h w' us a b (e.trans c) d
end
end Ev

namespace Ev
open PySem PySem.Spec PyProof.Rows L2
section
variable {X : Cx} {B : XBt} {tg : Expr}
end
section
variable {X : Cx} {B : XBt} {elt t0 i0 t1 i1 t2 i2 : Expr} {f0 f1 f2 : List Expr} {scope : Scope} {pos : Pos} {own : List (Str × Nat)} {js ks : List Nat} {a0 a1 a2 : Pg (List PyData)} {g0 g1 g2 : PyData → Pg Unit} {b0 b1 b2 : Pg Bool} {fe : Pg EV}
end
end Ev

namespace Ev
open PySem PySem.Spec PyProof.Rows L2 GenW
section
variable {X : Cx}
end
end Ev

namespace Ev
open PySem PySem.Spec PyProof.Rows L2 GenW
section
variable {X : Cx}
abbrev behind (env : Env) (K : Flow → Sem PySem.Fin) (J : Value → Sem PySem.Fin) (gd : Bool → Bool) (lv : List Value → List Value) (c : Code) (p : Pos) (fs : List Frame) : List Frame :=
  .ret (fun r => ((match r with | .ok f => (.pure f : Sem Flow) | .error e => .raise e).onRaise (cameBack env)).wrap K J gd lv) none (gd false) (lv []) c p [] :: fs
end
end Ev

namespace Ev
open PySem PySem.Spec PyProof.Rows L2 GenW
end Ev

namespace Ev
open PySem PySem.Spec PyProof.Rows L2 GenW
def wGo (go : Obj) (g : Nat) : Prop := ∃ nm qn, go.cls = .type "generator" ∧ go.data = .fields #[.int g 0, nm, qn] ∧ go.slots = #[]
theorem wGo.cell {go : Obj} {g : Nat} (h : wGo go g) (v : Option Value) : go.data ≠ .cell v := by
  obtain ⟨nm, qn, _, e, _⟩ := h
  rw [e]
  intro z
  cases z
section
variable {P : Program} {w : World} {K : PySem.W.Frag} {mg : Str → Option Value} {base : Heap} {k : Nat} {N ps : List Str} {qual : Str} {scope : Scope} {f : Addr} {cd : Value} {A : Around} {outer : List Env} {s s2 : Shared} {H : Hp} {E : XK} {Q : List V → Hp → Prop} {a S : Addr} {g : Nat} {go : Obj}
structure Born (P : Program) (w : World) (k : Nat) (outer : List Env) (H : Hp) (s : Shared) (Q : List V → Hp → Prop) (E : XK) (a : Addr) (g : Nat) (c : Code) (s' : Shared) : Prop where
  new : s.heap.objs.size ≤ a
  lt : a < s'.heap.objs.size
  isG : s'.heap.IsGen a g
  st : s'.gens[g]? = some (.fresh c)
  os : s'.os = s.os
  bare : AllBare s'.gens
  lim : s'.heap.NoLimit
  keep : ∀ b o, s.heap.get? b = some o → s'.heap.get? b = some o
  wake : ∀ (A : Around) (S : Addr) (s2 : Shared), A.guards = some [] → Room k A → A.frames = some outer → s'.heap.objs.size ≤ S → (∀ b o, s'.heap.get? b = some o → s2.heap.get? b = some o) → (∃ n, s2.heap.get? S = some (lstObj #[] n)) → s2.os = s.os → AllBare s2.gens →
    Seg (model P w) A (REnd P w outer H s [] S a g Q E) (YItem s S a g) sizeLine s2 c ((model P w).den c) [] s2
structure FnY (P : Program) (w : World) (K : PySem.W.Frag) (mg : Str → Option Value) (base : Heap) (k : Nat) (f : Addr) (fd : FuncData) (ps : List Str) (sp : SpG) : Prop where
  len : ∀ vs H Q E, sp vs H Q E → vs.length = ps.length
  run : ∀ (A : Around) (outer : List Env) (s : Shared) (H : Hp) (args : Args) (us : List Value) (vs : List V) (Q : List V → Hp → Prop) (E : XK), A.guards = some [] → Room k A → Env0 P w K mg base A outer s H → BindsTo s fd args (ps.zip us) → Vals vs us → sp vs H Q E →
    codeAny (model P w) A (.call (.ref f) args) (fun r s' => ∃ a g c, r = .ok (.ret (.ref a)) ∧ Born P w k outer H s Q E a g c s') s
end
end Ev

namespace Ev
open PySem PySem.Spec PyProof.Rows L2 GenW
section
variable {P : Program} {w : World} {A : Around} {k : Nat} {outer : List Env} {H : Hp} {sc s : Shared} {Q : List V → Hp → Prop} {a S : Addr} {g : Nat} {c : Code} {E1 : Value → Shared → Prop}
end
end Ev

namespace Ev
open PySem PySem.Spec PyProof.Rows L2 GenW
abbrev GP := List PyData → Pg (Fl × List PyData)
def xHy (K : PySem.W.Frag) (w : Wd) (D : GEnds) : Fl × List PyData → Mem → Prop := fun r m' => ∀ (w' : Wd) (ys : List V), w'.m = m' → FolS w w' → Rep K w' → RA K w'.F r.2 ys → match r.1 with
  | .next => D.nx ys w'.sg w'.H
  | .brk => D.bk ys w'.sg w'.H
  | .cont => D.ct ys w'.sg w'.H
  | .ret v => ∀ x, RE K w' v x → D.rt ys x w'.H
theorem xHy.after {K : PySem.W.Frag} {w w1 : Wd} {D : GEnds} {r : Fl × List PyData} {m : Mem} (h : xHy K w D r m) (f : FolS w w1) : xHy K w1 D r m := fun w' ys em g rp ra => h w' ys em (f.trans g) rp ra
section
variable {X : Cx} {B : XBt} {st : Stmt} {rest sa sb body : List Stmt} {f g fa fb : GP} {e c : Expr} {pos yp : Pos} {tg : Expr} {is : List Nat}
end
end Ev

namespace Ev
open PySem PySem.Spec PyProof.Rows L2 GenW
section
variable {P : Program} {w : World} {K : PySem.W.Frag} {mg : Str → Option Value} {base : Heap}
end
section
variable {X : Cx} {B : XBt}
end
end Ev

namespace Ev
open PySem PySem.Spec PyProof.Rows L2 GenW
theorem Born.more {P : Program} {w : World} {j k : Nat} {outer : List Env} {H : Hp} {s s' : Shared} {Q : List V → Hp → Prop} {E : XK} {a : Addr} {g : Nat} {c : Code} (b : Born P w j outer H s Q E a g c s') (h : j ≤ k) : Born P w k outer H s Q E a g c s' :=
  { b with wake := fun A S s2 gd rm => b.wake A S s2 gd (rm.mono h) }
theorem FnY.more {P : Program} {w : World} {K : PySem.W.Frag} {mg : Str → Option Value} {base : Heap} {j k : Nat} {f : Addr} {fd : FuncData} {ps : List Str} {sp : SpG} (F : FnY P w K mg base j f fd ps sp) (h : j ≤ k) : FnY P w K mg base k f fd ps sp :=
  ⟨F.len, fun A outer s H args us vs Q E gd rm m0 hb r q => codeAny_mono (F.run A outer s H args us vs Q E gd (rm.mono h) m0 hb r q) fun _ _ ⟨a, g, c, e, b⟩ => ⟨a, g, c, e, b.more h⟩⟩
section
variable {P : Program} {w : World} {K : PySem.W.Frag} {mg : Str → Option Value} {base : Heap}
end
end Ev

namespace Ev
open PySem PySem.Spec PyProof.Rows L2
section
variable {m : Mem} {X : Exn → Mem → Prop} {E : EV → Mem → Prop} {Z : List PyData → Mem → Prop} {is : List Nat} {fi : Pg (List PyData)} {g : PyData → Pg Unit} {t : Pg Bool} {e : Pg EV} {k : List PyData → Pg (List PyData)} {acc : List PyData}
def wYs (k : List PyData → Pg (List PyData)) (m : Mem) (out : List PyData) (J : Mem → Prop) : Prop := ∀ acc : List PyData, acc.length + out.length ≤ 16777216 → W (k acc) m noX fun acc' m' => acc' = acc ++ out ∧ J m'
theorem wYs.imp {J J' : Mem → Prop} {out : List PyData} (h : wYs k m out J) (f : ∀ m, J m → J' m) : wYs k m out J' := fun acc hl => (h acc hl).mono fun _ _ z => ⟨z.1, f _ z.2⟩
end
section
variable {m : Mem} {X : Exn → Mem → Prop} {E : EV → Mem → Prop} {out : List PyData} {Z : Fl × List PyData → Mem → Prop}
end
end Ev

namespace Ev
open PySem PySem.Spec PyProof.Rows L2
section
variable {P : Program} {w : World} {K : PySem.W.Frag} {mg : Str → Option Value} {base : Heap} {C : Addr}
end
section
variable {X : Cx} {e : Expr} {es : List Expr} {ta : TA} {p pos : Pos}
end
section
variable {X : Cx} {B : XBt} {e : Expr} {es : List Expr} {fa : Pg (List AV)} {p pos pos' cpos : Pos} {fs : List Str} {k j : Nat}
end
section
variable {X : Cx} {B : XBt} {x : Str} {body suite : List Stmt} {b₀ : Stmt} {np pos pos' : Pos} {fb fg : Pg Fl} {tb : List (Str × Bool)}
end
section
variable {m : Mem} {X : Exn → Mem → Prop} {F : Fl → Mem → Prop}
end
end Ev

namespace Ev
open PySem PySem.Spec PyProof.Rows L2
section
variable {X : Cx} {B : XBt}
end
end Ev

namespace Ev
open PySem PySem.Spec PyProof.Rows L2
section
variable {X : Cx} {B : XBt} {e e2 e3 : Expr} {p pos tpos : Pos} {elts : List Expr} {kk : Nat} {fa : Pg (List AV)}
end
end Ev

namespace Ev
open PySem PySem.Spec PyProof.Rows L2
section
variable {X : Cx} {B : XBt} {tg : Expr}
end
end Ev

namespace Ev
open PySem PySem.Spec PyProof.Rows L2
end Ev

namespace Ev
open PySem PySem.Spec PyProof.Rows L2
section
variable {X : Cx} {B : XBt} {tg iter elt : Expr} {ifs : List Expr} {scope : Scope} {pos : Pos}
end
section
variable {X : Cx} {a : Addr} {oe : Obj} {cls : Value} {d : Option Addr} {pn : List (Addr × Obj)}
end
section
variable {X : Cx} {B : XBt} {x n v c f g z : Str} {i j k1 k2 : Nat} {body : List Stmt} {np p1 p3 pos pos' q1 q2 q3 q4 q5 r1 r2 r3 r4 r5 s1 s2 s3 : Pos} {j1 j2 : Nat} {t1 : List (String × Bool)} {fb : Pg Fl} {tb t2 : List (Str × Bool)}
end
end Ev
namespace Ev
open PySem PySem.Spec PyProof.Rows L2
end Ev
namespace Ev
end Ev
namespace Ev
open PySem PySem.Spec PyProof.Rows L2
section
variable {X : Cx} {B : XBt} {e : Expr} {es : List Expr} {p pos : Pos} {k : Nat} {x : Str} {ps : List Str}
end
end Ev

namespace Ev
open PySem PySem.Spec PyProof.Rows L2 GenW
abbrev YV := PyData × V
abbrev Con := List YV → List (Addr × Obj) → Prop
structure NapC (C : Con) (zs : List YV) (z : YV) (cp : List (Addr × Obj)) (s s' : Shared) : Prop where
  os : s'.os = s.os
  bare : AllBare s'.gens
  keep : ∀ b o, b ∉ cp.map (·.1) → s.heap.get? b = some o → s'.heap.get? b = some o
  own : ∃ cq : List (Addr × Obj), cq.map (·.1) = cp.map (·.1) ∧ (∀ p ∈ cq, s'.heap.get? p.1 = some p.2 ∧ ∀ v, p.2.data ≠ .cell v) ∧ C (zs ++ [z]) cq
section
variable {X : Cx} {C : Con} {ca : List Addr} {ip cp : List (Addr × Obj)} {zs : List YV} {sg : L2.St} {H : Hp} {s s' : Shared}
end
abbrev xWi := PyData → V → Hp → Prop
structure EndsC where
  nx : List YV → L2.St → Hp → Prop
  rt : List YV → VK
  bk : List YV → L2.St → Hp → Prop := fun _ _ _ => False
  ct : List YV → L2.St → Hp → Prop := fun _ _ _ => False
def EndsC.at (D : EndsC) (zs : List YV) : Ends := { nx := D.nx zs, rt := D.rt zs, bk := D.bk zs, ct := D.ct zs }
section
variable {X : Cx} {C : Con} {Im : xWi} {st : Stmt} {rest : List Stmt}
end
end Ev

namespace Ev
open PySem PySem.Spec PyProof.Rows L2 GenW
section
variable {X : Cx} {C : Con} {Im : xWi} {ca : List Addr} {ip : List (Addr × Obj)} {A : Around} {R : GenEnd} {c c' : Code} {fs : List Frame} {K : Flow → Sem PySem.Fin} {J : Value → Sem PySem.Fin} {gd : Bool → Bool} {lv : List Value → List Value} {D : EndsC} {p : Pos}
end
section
variable {X : Cx}
end
end Ev

namespace Ev
open PySem PySem.Spec PyProof.Rows L2 GenW
section
variable (P : Program) (w : World) (outer : List Env) (H : Hp) (s : Shared) (a : Addr) (g : Nat) (C : Con) (ca : List Addr)
def wXn (cp : List (Addr × Obj)) (H' : Hp) (s1 : Shared) : Prop := cp.map (·.1) = ca ∧ ∀ p ∈ cp, s1.heap.get? p.1 = some p.2 ∧ H' p.1 = none
def wH7 (Q : List YV → Hp → Prop) : GenEnd := fun _ _ r s1 => ((r = .ok (.ret .none) ∨ r = .ok .next) ∧ ∃ (H' : Hp) (zs : List YV) (cp : List (Addr × Obj)), wXn ca cp H' s1 ∧ C zs cp ∧ s1.os = s.os ∧ AllBare s1.gens ∧ Un (frs outer) [] H H' s.heap s1.heap ∧ HOk P w H' s1.heap ∧ zs.length ≤ sizeLine ∧ Q zs H') ∨ ∃ e, r = .error e ∧ False
def wYq (Im : xWi) : Protocol := fun n _ v s1 kap => s1.os = s.os ∧ AllBare s1.gens ∧ s1.heap.NoLimit ∧ s1.heap.IsGen a g ∧ ∃ (zs : List YV) (d : PyData) (x : V) (cp : List (Addr × Obj)) (H' : Hp), n + 1 + zs.length = sizeLine ∧ RelV x v ∧ wXn ca cp H' s1 ∧ C zs cp ∧
  Un (frs outer) [] H H' s.heap s1.heap ∧ HOk P w H' s1.heap ∧ Im d x H' ∧ ∀ s', NapC C zs (d, x) cp s1 s' → kap (.send .none) s'
end
section
variable {P : Program} {w : World} {K : PySem.W.Frag} {mg : Str → Option Value} {base : Heap} {k : Nat} {N ps : List Str} {qual : Str} {scope : Scope} {f : Addr} {cd : Value} {A : Around} {outer : List Env} {s s2 : Shared} {H : Hp} {Q : List YV → Hp → Prop} {a : Addr} {g : Nat} {go : Obj} {C : Con} {Im : xWi} {ca : List Addr}
structure BornC (P : Program) (w : World) (k : Nat) (outer : List Env) (H : Hp) (s : Shared) (Im : xWi) (Q : List YV → Hp → Prop) (a : Addr) (g : Nat) (c : Code) (s' : Shared) : Prop where
  new : s.heap.objs.size ≤ a
  lt : a < s'.heap.objs.size
  isG : s'.heap.IsGen a g
  st : s'.gens[g]? = some (.fresh c)
  os : s'.os = s.os
  bare : AllBare s'.gens
  lim : s'.heap.NoLimit
  keep : ∀ b o, s.heap.get? b = some o → s'.heap.get? b = some o
  wake : ∀ (A : Around) (C : Con) (cp : List (Addr × Obj)) (s2 : Shared), A.guards = some [] → Room k A → A.frames = some outer → (∀ p ∈ cp, s'.heap.objs.size ≤ p.1 ∧ s2.heap.get? p.1 = some p.2 ∧ ∀ v, p.2.data ≠ .cell v) → C [] cp → (∀ b o, s'.heap.get? b = some o → s2.heap.get? b = some o) → s2.os = s.os → AllBare s2.gens →
    Seg (model P w) A (wH7 P w outer H s C (cp.map (·.1)) Q) (wYq P w outer H s a g C (cp.map (·.1)) Im) sizeLine s2 c ((model P w).den c) [] s2
abbrev SpC := List V → Hp → xWi → (List YV → Hp → Prop) → Prop
structure FnC (P : Program) (w : World) (K : PySem.W.Frag) (mg : Str → Option Value) (base : Heap) (k : Nat) (f : Addr) (fd : FuncData) (ps : List Str) (sp : SpC) : Prop where
  len : ∀ vs H Im Q, sp vs H Im Q → vs.length = ps.length
  run : ∀ (A : Around) (outer : List Env) (s : Shared) (H : Hp) (args : Args) (us : List Value) (vs : List V) (Im : xWi) (Q : List YV → Hp → Prop), A.guards = some [] → Room k A → Env0 P w K mg base A outer s H → BindsTo s fd args (ps.zip us) → Vals vs us → sp vs H Im Q →
    codeAny (model P w) A (.call (.ref f) args) (fun r s' => ∃ a g c, r = .ok (.ret (.ref a)) ∧ BornC P w k outer H s Im Q a g c s') s
end
end Ev

namespace Ev
open PySem PySem.Spec PyProof.Rows L2 GenW
def ZA (K : PySem.W.Frag) (F : Hp) (out : List PyData) (zs : List YV) : Prop := out = zs.map (·.1) ∧ ∀ z ∈ zs, R K F z.1 z.2
theorem ZA.nil {K : PySem.W.Frag} {F : Hp} : ZA K F [] [] := ⟨rfl, fun _ h => absurd h List.not_mem_nil⟩
theorem ZA.mono {K : PySem.W.Frag} {F F' : Hp} {out : List PyData} {zs : List YV} (h : ZA K F out zs) (s : Same F F') : ZA K F' out zs := ⟨h.1, fun z hz => (h.2 z hz).mono s⟩
theorem ZA.snoc {K : PySem.W.Frag} {F : Hp} {out : List PyData} {zs : List YV} {d : PyData} {x : V} (h : ZA K F out zs) (r : R K F d x) : ZA K F (out ++ [d]) (zs ++ [(d, x)]) :=
  ⟨by rw [h.1, List.map_append]; rfl, fun z hz => (List.mem_append.mp hz).elim (h.2 z) fun q => by rw [List.mem_singleton.mp q]; exact r⟩
theorem ZA.len {K : PySem.W.Frag} {F : Hp} {out : List PyData} {zs : List YV} (h : ZA K F out zs) : out.length = zs.length := by rw [h.1, List.length_map]
def xWh (K : PySem.W.Frag) (w : Wd) (D : EndsC) : Fl × List PyData → Mem → Prop := fun r m' => ∀ (w' : Wd) (ys : List YV), w'.m = m' → FolS w w' → Rep K w' → ZA K w'.F r.2 ys → match r.1 with
  | .next => D.nx ys w'.sg w'.H
  | .brk => D.bk ys w'.sg w'.H
  | .cont => D.ct ys w'.sg w'.H
  | .ret v => ∀ x, RE K w' v x → D.rt ys x w'.H
theorem xWh.after {K : PySem.W.Frag} {w w1 : Wd} {D : EndsC} {r : Fl × List PyData} {m : Mem} (h : xWh K w D r m) (f : FolS w w1) : xWh K w1 D r m := fun w' ys em g rp ra => h w' ys em (f.trans g) rp ra
section
variable {X : Cx} {B : XBt} {st : Stmt} {rest sa sb body : List Stmt} {f g fa fb : GP} {e c : Expr} {pos yp : Pos} {tg : Expr} {is : List Nat}
end
end Ev

namespace Ev
open PySem PySem.Spec PyProof.Rows L2 GenW
section
variable {P : Program} {w : World} {A : Around} {outer : List Env} {H : Hp} {sc : Shared} {Q : List YV → Hp → Prop} {a D L : Addr} {g : Nat} {Im : xWi} {tst : PyData → Bool} {v : Str} {ce : Env} {ifs : List Expr} {pt pv pi : Pos} {iter : Expr} {R : Result → Shared → Prop}
end
end Ev

namespace Ev
open PySem PySem.Spec PyProof.Rows L2 GenW
section
variable {X : Cx} {k : Nat} {v : Str} {pv pt pos : Pos} {iter : Expr} {ifs : List Expr} {scope : Scope} {own : List (Str × Nat)} {Im : xWi} {tst : PyData → Bool} {pins : List (Addr × Obj)} {sg : L2.St} {H : Hp} {sc s1 : Shared} {a : Addr} {g : Nat} {c : Code} {Q : List YV → Hp → Prop} {Q' : VK} {cl : List (Str × Addr)}
end
end Ev

namespace Ev
open PySem PySem.Spec PyProof.Rows L2 GenW
section
variable {P : Program} {w : World} {K : PySem.W.Frag} {mg : Str → Option Value} {base : Heap}
theorem BornC.more {j k : Nat} {outer : List Env} {H : Hp} {s s' : Shared} {Im : xWi} {Q : List YV → Hp → Prop} {a : Addr} {g : Nat} {c : Code} (b : BornC P w j outer H s Im Q a g c s') (h : j ≤ k) : BornC P w k outer H s Im Q a g c s' :=
  { b with wake := fun A C cp s2 gd rm => b.wake A C cp s2 gd (rm.mono h) }
theorem FnC.more {j k : Nat} {f : Addr} {fd : FuncData} {ps : List Str} {sp : SpC} (F : FnC P w K mg base j f fd ps sp) (h : j ≤ k) : FnC P w K mg base k f fd ps sp :=
  ⟨F.len, fun A outer s H args us vs Im Q gd rm m0 hb r q => codeAny_mono (F.run A outer s H args us vs Im Q gd (rm.mono h) m0 hb r q) fun _ _ ⟨a, g, c, e, b⟩ => ⟨a, g, c, e, b.more h⟩⟩
end
section
variable {X : Cx} {B : XBt}
end
end Ev

namespace Ev
open PySem PySem.Spec PyProof.Rows L2 GenW
section
variable {φ : PyData → Bool} {X : Cx} {B : XBt} {st : Stmt} {rest sa sb body : List Stmt} {f g fa fb : GP} {e c : Expr} {pos yp : Pos} {tg : Expr} {is : List Nat}
end
end Ev

namespace Ev
open PySem PySem.Spec PyProof.Rows L2 GenW
section
variable {φ : PyData → Bool} {P : Program} {w : World} {K : PySem.W.Frag} {mg : Str → Option Value} {base : Heap}
end
section
variable {φ : PyData → Bool} {X : Cx} {B : XBt}
end
end Ev

namespace Ev
open PySem PySem.Spec PyProof.Rows L2 GenW
section
variable {P : Program} {w : World} {A : Around} {E : Value → Shared → Prop} {env : Env}
end
section
variable {X : Cx} {v : Str} {ce : Env} {es : List Expr} {xs : List Str} {k : Nat} {pn pt pos : Pos}
end
end Ev

namespace Ev
open PySem PySem.Spec PyProof.Rows L2
mutual
theorem wZk {K : PySem.W.Frag} {F H : Hp} (e : yKz F H) : ∀ {d : PyData} {k : NestedKey} {v : V}, yG2 d = some k → R K F d v → Dp K H v d
  | .none, _, _, _, r => by cases r; exact .non
  | .int i, _, _, _, r => by cases r; exact .int i
  | .str x, _, _, _, r => by cases r; exact .str x
  | .tuple ds, k, _, q, r => by
    rw [yG2] at q
    obtain ⟨ks, e1, rfl⟩ := Option.map_eq_some_iff.mp q
    cases r with
    | tup h a => exact .tup (zXs e h) (xUq e e1 a)
  | .bool _, _, _, q, _ => by simp [yG2] at q
  | .list _, _, _, q, _ => by simp [yG2] at q
  | .dict _, _, _, q, _ => by simp [yG2] at q
theorem xUq {K : PySem.W.Frag} {F H : Hp} (e : yKz F H) : ∀ {ds : List PyData} {ks : List NestedKey} {vs : List V}, xZ5 ds = some ks → RA K F ds vs → DpAll K H vs ds
  | [], _, _, _, r => by cases r; exact .nil
  | d :: ds, _, _, q, r => by
    rw [xZ5] at q
    obtain ⟨k, e1, e2⟩ := Option.bind_eq_some_iff.mp q
    obtain ⟨ks', e3, rfl⟩ := Option.map_eq_some_iff.mp e2
    cases r with
    | cons r1 r2 => exact .cons (wZk e e1 r1) (xUq e e3 r2)
end
end Ev

namespace Ev
open PySem PySem.Spec PyProof.Rows L2
def wXs (v : Value) : Prop := v = .none ∨ (∃ b, v = .bool b) ∨ (∃ i t, v = .int i t) ∨ ∃ x t, v = .str x t
theorem xJy {h : Heap} : ∀ {ks : List NestedKey} {vs : List Value}, NestedAll h ks vs → NestedKey.depthAll ks = 0 → ∀ v ∈ vs, wXs v
  | [], _, r, _, v, hv => by cases r; cases hv
  | k :: ks, _, r, e, v, hv => by
    cases r with
    | cons r1 r2 =>
      simp only [NestedKey.depthAll] at e
      rcases List.mem_cons.mp hv with rfl | hv
      · cases r1 with
        | none => exact .inl rfl
        | bool _ => exact .inr (.inl ⟨_, rfl⟩)
        | int i t => exact .inr (.inr (.inl ⟨_, _, rfl⟩))
        | text x t => exact .inr (.inr (.inr ⟨_, _, rfl⟩))
        | tup _ _ _ _ => simp only [NestedKey.depth] at e; omega
      · exact xJy r2 (by omega) v hv
def xU2 (h : Heap) (k : NestedKey) (b : Addr) : Prop := NestedIs h k (.ref b) ∧ k.depth = 1
theorem xU2.obj {h : Heap} {k : NestedKey} {b : Addr} (x : xU2 h k b) : ∃ o vs n, h.get? b = some o ∧ o.cls = .type "tuple" ∧ o.data = .seq vs n ∧ ∀ v ∈ vs.toList, wXs v := by
  obtain ⟨x1, x2⟩ := x
  cases x1 with
  | tup h1 h2 h3 h4 =>
    simp only [NestedKey.depth] at x2
    exact ⟨_, _, _, h1, h2, h3, xJy h4 (by omega)⟩
section
variable {P : Program} {w : World} {A : Around} {E : Value → Shared → Prop} {s : Shared}
end
end Ev

namespace Ev
open PySem PySem.Spec PyProof.Rows L2
section
variable {P : Program} {w : World}
end
section
variable {X : Cx} {B : XBt} {e : Expr} {pos p p2 pos2 : Pos} {f : Pg EV}
end
section
variable {m : Mem} {X : Exn → Mem → Prop} {E : EV → Mem → Prop}
end
end Ev

namespace Ev
open PySem PySem.Spec PyProof.Rows L2 GenW
section
variable {X : Cx} {k : Nat} {v : Str} {pv pt pos : Pos} {iter : Expr} {ifs : List Expr} {scope : Scope} {own : List (Str × Nat)} {Im : xWi} {tst : PyData → Bool} {pins : List (Addr × Obj)} {sg : L2.St} {H : Hp} {sc s1 : Shared} {a : Addr} {g : Nat} {c : Code} {Q : List YV → Hp → Prop} {Q' : VK} {cl : List (Str × Addr)}
end
section
variable {X : Cx} {B : XBt}
variable {φ : PyData → Bool}
end
end Ev

namespace Ev
open PySem PySem.Spec PyProof.Rows L2
def wYl (K : PySem.W.Frag) (H : Hp) (kvs : List (NestedKey × Addr × V)) : Prop := ∀ p ∈ kvs, ∃ d, yG2 d = some p.1 ∧ p.1.depth ≤ 8 ∧ Dp K H (.ref p.2.1) d
theorem RNk.keys {K : PySem.W.Frag} {F H : Hp} (e : yKz F H) : ∀ {es : List (PyData × PyData)} {kvs : List (NestedKey × Addr × V)}, RNk K F es kvs → wYl K H kvs
  | _, _, .nil, p, h => by cases h
  | _, _, .cons h1 h2 h3 h4 a, p, h => by
    rcases List.mem_cons.mp h with rfl | h
    · exact ⟨_, h1, h2, wZk e h1 h3⟩
    · exact RNk.keys e a p h
def wZj (kvs : List (NestedKey × Addr × V)) (k : NestedKey) : Option V := (kvs.find? fun p => decide (p.1 = k)).map (·.2.2)
def wZn (es : List (PyData × PyData)) (k : NestedKey) : Option PyData := (es.find? fun p => decide (yG2 p.1 = some k)).map (·.2)
theorem RNk.get {K : PySem.W.Frag} {F : Hp} {k : NestedKey} : ∀ {es : List (PyData × PyData)} {kvs : List (NestedKey × Addr × V)}, RNk K F es kvs → (wZn es k = none ∧ wZj kvs k = none) ∨ ∃ d v, wZn es k = some d ∧ wZj kvs k = some v ∧ R K F d v
  | _, _, .nil => .inl ⟨rfl, rfl⟩
  | (d, x) :: es, (k', b, v) :: kvs, .cons h1 h2 h3 h4 a => by
    unfold wZn wZj
    rw [List.find?_cons, List.find?_cons]
    by_cases h : k' = k
    · have g : yG2 d = some k := by rw [h1, h]
      rw [decide_eq_true h, decide_eq_true (show yG2 (d, x).1 = some k from g)]
      exact .inr ⟨_, _, rfl, rfl, h4⟩
    · have g : ¬ yG2 d = some k := fun z => by
        rw [h1] at z
        exact h (Option.some.inj z)
      rw [decide_eq_false h, decide_eq_false (show ¬ yG2 (d, x).1 = some k from g)]
      exact RNk.get a
def wZi (kvs : List (NestedKey × Addr × V)) (k : NestedKey) (b : Addr) (v : V) : List (NestedKey × Addr × V) :=
  if (wZj kvs k).isSome then kvs.map fun p => if p.1 = k then (p.1, p.2.1, v) else p else kvs ++ [(k, b, v)]
def wUg (es : List (PyData × PyData)) (kd : PyData) (k : NestedKey) (x : PyData) : List (PyData × PyData) :=
  if (wZn es k).isSome then es.map fun p => if yG2 p.1 = some k then (p.1, x) else p else es ++ [(kd, x)]
theorem RNk.map {K : PySem.W.Frag} {F : Hp} {k : NestedKey} {x : PyData} {v : V} (h : R K F x v) : ∀ {es : List (PyData × PyData)} {kvs : List (NestedKey × Addr × V)}, RNk K F es kvs → RNk K F (es.map fun p => if yG2 p.1 = some k then (p.1, x) else p) (kvs.map fun p => if p.1 = k then (p.1, p.2.1, v) else p)
  | _, _, .nil => .nil
  | (d, y) :: es, (k', b, u) :: kvs, .cons h1 h2 h3 h4 a => by
    rw [List.map_cons, List.map_cons]
    by_cases e : k' = k
    · have g : yG2 d = some k := by rw [h1, e]
      rw [if_pos (show yG2 (d, y).1 = some k from g), if_pos (show (k', b, u).1 = k from e)]
      exact .cons h1 h2 h3 h (RNk.map h a)
    · have g : ¬ yG2 d = some k := fun z => by
        rw [h1] at z
        exact e (Option.some.inj z)
      rw [if_neg (show ¬ yG2 (d, y).1 = some k from g), if_neg (show ¬ (k', b, u).1 = k from e)]
      exact .cons h1 h2 h3 h4 (RNk.map h a)
theorem RNk.snoc {K : PySem.W.Frag} {F : Hp} {k : NestedKey} {kd x : PyData} {b : Addr} {v : V} (h1 : yG2 kd = some k) (h2 : k.depth ≤ 8) (h3 : R K F kd (.ref b)) (h : R K F x v) : ∀ {es : List (PyData × PyData)} {kvs : List (NestedKey × Addr × V)}, RNk K F es kvs → RNk K F (es ++ [(kd, x)]) (kvs ++ [(k, b, v)])
  | _, _, .nil => .cons h1 h2 h3 h .nil
  | _, _, .cons g1 g2 g3 g4 a => .cons g1 g2 g3 g4 (RNk.snoc h1 h2 h3 h a)
theorem RNk.put {K : PySem.W.Frag} {F : Hp} {k : NestedKey} {kd x : PyData} {b : Addr} {v : V} {es : List (PyData × PyData)} {kvs : List (NestedKey × Addr × V)} (a : RNk K F es kvs) (h1 : yG2 kd = some k) (h2 : k.depth ≤ 8) (h3 : R K F kd (.ref b)) (h : R K F x v) : RNk K F (wUg es kd k x) (wZi kvs k b v) := by
  unfold wUg wZi
  rcases a.get (k := k) with ⟨e1, e2⟩ | ⟨_, _, e1, e2, _⟩
  · rw [e1, e2]
    exact a.snoc h1 h2 h3 h
  · rw [e1, e2]
    exact a.map h
theorem RNk.len {K : PySem.W.Frag} {F : Hp} : ∀ {es : List (PyData × PyData)} {kvs : List (NestedKey × Addr × V)}, RNk K F es kvs → es.length = kvs.length
  | _, _, .nil => rfl
  | _, _, .cons _ _ _ _ a => congrArg (· + 1) (RNk.len a)
section
variable {X : Cx} {pins : List (Addr × Obj)} {sg : L2.St} {H : Hp} {s : Shared} {a : Addr} {kvs : List (NestedKey × Addr × V)}
end
end Ev

namespace Ev
open PySem PySem.Spec PyProof.Rows L2
class WorldC where
  w : World
  is : World → Bool
  ok : ∀ W, is W = true → W = w
  me : is w = true
set_option warn.classDefReducibility false in
section
variable [WorldC]
theorem RNk.some {K : PySem.W.Frag} {F : Hp} {es : List (PyData × PyData)} {kvs : List (NestedKey × Addr × V)} (h : RNk K F es kvs) (k : NestedKey) : (wZn es k).isSome = (wZj kvs k).isSome := by
  rcases h.get (k := k) with ⟨e1, e2⟩ | ⟨_, _, e1, e2, _⟩ <;> rw [e1, e2] <;> rfl
section
variable {X : Cx} {B : XBt} {a b e o i : Expr} {fa fb f fo fi : Pg EV} {pos : Pos}
end
end
end Ev

namespace Ev
open PySem PySem.Spec PyProof.Rows L2
section
variable {X : Cx} {B : XBt} {e o : Expr} {f fo fk fv : Pg EV} {pos : Pos}
section
variable [WorldC]
end
end
end Ev

namespace Ev
open PySem PySem.Spec PyProof.Rows L2
section
variable [WorldC] {m : Mem} {X : Exn → Mem → Prop} {E : EV → Mem → Prop} {T : Bool → Mem → Prop} {F : Fl → Mem → Prop}
end
end Ev

namespace Ev
open PySem PySem.Spec PyProof.Rows L2
section
variable {P : Program} {w : World} {K : Type} [DecidableEq K] {kd : SKey P w K} {A : Around} {E : Value → Shared → Prop} {s : Shared}
end
section
variable {X : Cx} {B : XBt} {e : Expr} {pos p p2 pos2 : Pos} {f : Pg EV}
end
section
variable {m : Mem} {X : Exn → Mem → Prop} {E : EV → Mem → Prop}
end
end Ev

namespace Ev
open PySem PySem.Spec PyProof.Rows L2
section
variable {X : Cx}
end
end Ev

namespace Ev
open PySem PySem.Spec PyProof.Rows L2
section
variable [WorldC] {X : Cx} {B : XBt} {tg iter kx vx : Expr} {ifs : List Expr} {scope : Scope} {pos : Pos}
end
end Ev

namespace Ev
open PySem PySem.Spec PyProof.Rows L2
section
variable {X : Cx} {B : XBt} {e : Expr} {pos p : Pos} {f : Pg EV}
section
variable [WorldC]
end
section
variable [WorldC] {m : Mem} {Y : Exn → Mem → Prop} {E : EV → Mem → Prop}
end
end
end Ev

namespace Ev
open PySem PySem.Spec PyProof.Rows L2
def exF (x : Str) (fs : List Str) (q : Nat) (is : List Nat) : Fn := fun args => match dataOf args with
  | some ds => if ds.length = q ∧ (pick is ds).length = fs.length then (fun m => .ok (.d (yGv x (fs.zip (pick is ds)).reverse)) m) else .stuck
  | none => .stuck
def ExK (P : Program) (w : World) (K : PySem.W.Frag) (mg : Str → Option Value) (base : Heap) (k : Nat) (x : Str) (fs : List Str) (n : Nat) (ks : List Str) (is : List Nat) (C : Addr) : Prop :=
  ∃ (fI : Addr) (fd : FuncData), yG4 K x C ∧ OexG K C ∧ PySem.W.findIn K (.ref C) "__init__" = some (some (.ref fI)) ∧ PySem.W.typeIn K (.ref fI) = some (.type "function") ∧ (∀ f, f ∈ fs → PySem.W.findIn K (.ref C) f = some none) ∧
    FnOk P w K mg base (CXk K P w) k fI fd ("self" :: fs) (spI K C fs) ∧ ∀ (s : Shared) (u : Value) (us ws : List Value), K.In s.heap → us.length = n → ws.length = ks.length → BindsTo s fd ⟨u :: us, ks.zip ws⟩ (("self" :: fs : List Str).zip (u :: pick is (us ++ ws)))
theorem wQ4 {K : PySem.W.Frag} {F : Hp} : ∀ {ds : List PyData} {vs : List V}, RA K F ds vs → Paired (fun d v => R K F d v) ds vs
  | _, _, .nil => .nil
  | _, _, .cons h t => .cons h (wQ4 t)
theorem wQ6 {K : PySem.W.Frag} {F : Hp} : ∀ {ds : List PyData} {vs : List V}, Paired (fun d v => R K F d v) ds vs → RA K F ds vs
  | _, _, .nil => .nil
  | _, _, .cons h t => .cons h (wQ6 t)
section
variable {X : Cx} {B : XBt} {k n q : Nat} {x : Str} {fs ks : List Str} {is : List Nat} {D : Addr}
theorem wXf (C : Ctx X B) (h : ExK X.prog X.w X.K X.mg X.base k x fs n ks is D) (hr : Room (k + 1) X.A) (hn : n ≤ 900) (hnq : n + ks.length = q) : wXr X B (.ref D) ks (exF x fs q is) := by
  obtain ⟨fI, fd, hc, T, iC, tI, hno, F1, hb⟩ := h
  intro w pins s us ws args xs ys Q I r hv ru rw_ hl hw
  obtain ⟨N, nI, iI, M, tl, ml, FB, _, hi, _, hm1, hm2, hm3⟩ := T.bs
  unfold yU0 exF at hw
  cases ed : dataOf args with
  | none =>
    rw [ed] at hw
    exact hw.elim
  | some ds =>
    rw [ed] at hw
    dsimp only at hw
    by_cases hp : ds.length = q ∧ (pick is ds).length = fs.length
    · rw [if_pos hp] at hw
      obtain ⟨hq9, hp⟩ := hp
      have q9 : yYt X.K w Q (.d (yGv x (fs.zip (pick is ds)).reverse)) ⟨w.m.sl, w.m.cs⟩ := hw
      clear hw
      have ra := yHl hv ed
      have hxn : xs.length = n := by
        have := ra.len
        rw [List.length_append] at this
        omega
      have rp : RA X.K w.F (pick is ds) (pick is (xs ++ ys)) := wQ6 (yY4 (wQ4 ra) is)
      have pu : Vals (pick is (xs ++ ys)) (pick is (us ++ ws)) := yH8 (yY4 (yHp (yGx ru) (yGx rw_)) is)
      have lp : (pick is (xs ++ ys)).length = fs.length := by rw [← rp.len, hp]
      obtain ⟨hp0, g, dr, tk, os⟩ := s
      obtain ⟨nm, N', qn, bs, bm, hdct, sn, sub, ab, col, dd, k0, k1, k2, k3, k5, hC, hT⟩ := PySem.W.excInit_of I.kIn hi
      have hsz : hp0.objs.size ≤ hp0.objs.size + 1 := Nat.le_succ _
      have hn1 : w.H (hp0.objs.size + 1) = none := I.hok.fresh hsz
      have kk : ∀ b o, hp0.get? b = some o → ((hp0.push (PySem.W.kdv_tup us)).push (PySem.HandSPX.excO D hp0.objs.size)).get? b = some o := fun b o z => Heap.get?_push_of_some _ (Heap.get?_push_of_some _ z)
      have hget : ((hp0.push (PySem.W.kdv_tup us)).push (PySem.HandSPX.excO D hp0.objs.size)).get? (hp0.objs.size + 1) = some (PySem.HandSPX.excO D hp0.objs.size) := by heap_get
      have I2 : L2.Inv X pins w.sg (upd w.H (hp0.objs.size + 1) (exo (hp0.objs.size + 1) D none)) ⟨(hp0.push (PySem.W.kdv_tup us)).push (PySem.HandSPX.excO D hp0.objs.size), g, dr, tk, os⟩ :=
        I.laid (t' := tk) (a := hp0.objs.size + 1) (o := exo (hp0.objs.size + 1) D none) (h' := (hp0.push (PySem.W.kdv_tup us)).push (PySem.HandSPX.excO D hp0.objs.size)) kk hsz (exo_ok hget)
      have rv : Vals (V.ref (hp0.objs.size + 1) :: pick is (xs ++ ys)) (Value.ref (hp0.objs.size + 1) :: pick is (us ++ ws)) := .cons rfl pu
      have hus : us.length ≤ sizeLine := by
        rw [← ru.length, sizeLine_eq]
        omega
      have hq : spI X.K D fs (V.ref (hp0.objs.size + 1) :: pick is (xs ++ ys)) (upd w.H (hp0.objs.size + 1) (exo (hp0.objs.size + 1) D none))
          (fun v H2 => v = .non ∧ ∃ (d : Addr) (gs : List (Str × V)), H2 (hp0.objs.size + 1) = some (exo (hp0.objs.size + 1) D (some d)) ∧ H2 d = some (exd d gs) ∧ w.H d = none ∧ d ≠ hp0.objs.size + 1 ∧ gs = (fs.zip (pick is (xs ++ ys))).reverse ∧ upd (del H2 (hp0.objs.size + 1)) d (.xd gs) = upd w.H d (.xd gs)) (fun _ _ _ => False) := by
        refine ⟨hp0.objs.size + 1, _, rfl, lp, T, hno, upd_same, fun d hd hda => ⟨rfl, d, (fs.zip (pick is (xs ++ ys))).reverse, upd_same, ?_, ?_, hda, rfl, ?_⟩⟩
        · unfold xI
          rw [upd_ne hda, upd_same]
        · rw [upd_ne hda] at hd
          exact hd
        · funext b
          by_cases h1 : b = d
          · subst h1
            rw [upd_same, upd_same]
          · rw [upd_ne h1, upd_ne h1]
            by_cases h2 : b = hp0.objs.size + 1
            · subst h2
              rw [del_same, hn1]
            · rw [del_ne h2]
              unfold xI
              rw [upd_ne h2, upd_ne h1, upd_ne h2]
      refine wpAny_call (PySem.HandSPX.xHn FB ⟨(hT _).trans hm1, (hT _).trans hm2, (hT _).trans hm3⟩ hC (PySem.W.looks_findIn I.kIn iC) (fun self => PySem.W.bind_fn I.kIn self tI) hus ?_)
      have run := F1.run _ X.stack _ _ ⟨Value.ref (hp0.objs.size + 1) :: us, ks.zip ws⟩ (Value.ref (hp0.objs.size + 1) :: pick is (us ++ ws)) _ _ (fun _ _ _ => False) (hr.make D us (ks.zip ws)) (I2.env0.make D us (ks.zip ws)) (hb _ (Value.ref (hp0.objs.size + 1)) us ws I2.kIn (by rw [← ru.length]; exact hxn) (by rw [← rw_.length]; exact hl)) rv hq
      refine codeAny_mono run fun r' s' hq' => ?_
      match r', hq' with
      | .error er, hq' =>
        have z := wXc (show CXk X.K X.prog X.w X.stack _ _ (fun _ _ _ => False) er s' from hq')
        exact z.elim
      | .ok (.ret u), hq' =>
        obtain ⟨v, H2, os2, bare2, un2, hok2, rv2, ev, d, gs, ea, ed', hd1, hda, egs, eH⟩ := hq'
        subst ev
        obtain ⟨h2, g2, d2, t2, os'⟩ := s'
        obtain ⟨t0, G, J, kG, ge, hoe, na⟩ := mk_end0 (d2 := d2) (t2 := t2) I hsz kk un2 hok2 os2 bare2 ea ed' hd1
        rw [eH] at J na
        subst egs
        have J2 := J.laidN (h' := h2) (t' := t2) (o := excO (hp0.objs.size + 1) (.ref D) (some d)) kG ge na (xKy hoe ⟨rfl, rfl⟩ ⟨_, rfl⟩)
        obtain ⟨r2, f2⟩ := xQc r hd1 (.xd (fs.zip (pick is (xs ++ ys))).reverse)
        obtain ⟨r3, f3⟩ := xQc r2 (p := hp0.objs.size + 1) na (excO (hp0.objs.size + 1) (.ref D) (some d))
        have ex : xWr X.K { w with F := upd w.F d (.xd (fs.zip (pick is (xs ++ ys))).reverse), H := upd w.H d (.xd (fs.zip (pick is (xs ++ ys))).reverse) } ⟨x, (fs.zip (pick is ds)).reverse⟩ (.ref D) (some d) := ⟨D, hc, rfl, .inr ⟨d, _, rfl, upd_same, (xUj rp).mono f2.ext⟩⟩
        have qq := fun e1 e2 => q9 _ (.ref (hp0.objs.size + 1)) e1 e2 (f2.trans f3) r3 (xUw (ex.fol f3.ext) upd_same)
        exact ⟨rv2, .ref (hp0.objs.size + 1), _, J2, rfl, qq rfl rfl⟩
      | .ok .next, hq' => exact False.elim hq'
      | .ok .brk, hq' => exact False.elim hq'
      | .ok .cont, hq' => exact False.elim hq'
    · rw [if_neg hp] at hw
      exact hw.elim
end
end Ev

namespace Ev
open PySem PySem.Spec PyProof.Rows L2
def XK (P : Program) (w : World) (K : PySem.W.Frag) (mg : Str → Option Value) (base : Heap) (k : Nat) (x : Str) (fs : List Str) (n : Nat) (ks : List Str) (is : List Nat) : Prop :=
  ∃ C : Addr, mg x = some (.ref C) ∧ PySem.W.keepIn K (.ref C) = true ∧ ExK P w K mg base k x fs n ks is C
section
variable {P : Program} {w : World} {K : PySem.W.Frag} {mg : Str → Option Value} {base : Heap} {k n : Nat} {x f g qual : Str} {ks : List Str} {is : List Nat} {st : Stmt} {p1 p2 p3 p4 r1 r2 r3 r4 : Pos}
theorem xXl {fs : List Str} {fI : Addr} {fd : FuncData} (F : Fun K "__init__" qual st fI fd)
    (hb : ∀ (kV doc pm : Value) (an : Option Addr) (cdv ct : Value) (u : Value) (us ws : List Value), us.length = n → ws.length = ks.length → bindArgs (PySem.W.fnOf "__init__" qual (defArgs st) (defBody st) (defScope st) .none kV doc pm an cdv ct) ⟨u :: us, ks.zip ws⟩ = pure (("self" :: fs : List Str).zip (u :: pick is (us ++ ws)))) :
    ∀ (s : Shared) (u : Value) (us ws : List Value), K.In s.heap → us.length = n → ws.length = ks.length → BindsTo s fd ⟨u :: us, ks.zip ws⟩ (("self" :: fs : List Str).zip (u :: pick is (us ++ ws))) := by
  obtain ⟨oc, od, kV, doc, pm, an, cdv, ct, osl, rfl, _, _⟩ := F.ex
  exact fun s u us ws _ l1 l2 => .of_eq (hb kV doc pm an cdv ct u us ws l1 l2)
theorem xk1 (h : XI K mg x qual st [f]) (hk : 1 ≤ k) (S : FnScope ["self", f] ["self", f] (defScope st)) (hb : defBody st = [.Assign [.Attribute (.Name "self" p1) f p2] (.Name f p3) p4])
    (hs : (defScope st).names.lookup ("self" : Str) = some .local) (hf : (defScope st).names.lookup f = some .local) (hd : (f == ("__debug__" : Str)) = false) (hcd : (f == ("__classdict__" : Str)) = false)
    (hbk : ∀ (kV doc pm : Value) (an : Option Addr) (cdv ct : Value) (u : Value) (us ws : List Value), us.length = n → ws.length = ks.length → bindArgs (PySem.W.fnOf "__init__" qual (defArgs st) (defBody st) (defScope st) .none kV doc pm an cdv ct) ⟨u :: us, ks.zip ws⟩ = pure (("self" :: [f] : List Str).zip (u :: pick is (us ++ ws)))) : XK P w K mg base k x [f] n ks is := by
  obtain ⟨C, fI, fd, h1, h2, h3, h4, h5, h6, h7, h8⟩ := h
  exact ⟨C, h1, h3.kp, fI, fd, h2, h3, h4, h5, h6, (wZx h7 S hb hs hf hd hcd (k := 0)).mono hk, xXl h7 hbk⟩
theorem xk2 (h : XI K mg x qual st [f, g]) (hk : 1 ≤ k) (S : FnScope ["self", f, g] ["self", f, g] (defScope st)) (hb : defBody st = [.Assign [.Attribute (.Name "self" p1) f p2] (.Name f p3) p4, .Assign [.Attribute (.Name "self" r1) g r2] (.Name g r3) r4])
    (hs : (defScope st).names.lookup ("self" : Str) = some .local) (hf : (defScope st).names.lookup f = some .local) (hg : (defScope st).names.lookup g = some .local) (hd : (f == ("__debug__" : Str)) = false) (hcd : (f == ("__classdict__" : Str)) = false) (gd : (g == ("__debug__" : Str)) = false) (gcd : (g == ("__classdict__" : Str)) = false)
    (hbk : ∀ (kV doc pm : Value) (an : Option Addr) (cdv ct : Value) (u : Value) (us ws : List Value), us.length = n → ws.length = ks.length → bindArgs (PySem.W.fnOf "__init__" qual (defArgs st) (defBody st) (defScope st) .none kV doc pm an cdv ct) ⟨u :: us, ks.zip ws⟩ = pure (("self" :: [f, g] : List Str).zip (u :: pick is (us ++ ws)))) : XK P w K mg base k x [f, g] n ks is := by
  obtain ⟨C, fI, fd, h1, h2, h3, h4, h5, h6, h7, h8⟩ := h
  exact ⟨C, h1, h3.kp, fI, fd, h2, h3, h4, h5, h6, (wZw h7 S hb hs hf hg hd hcd gd gcd (k := 0)).mono hk, xXl h7 hbk⟩
end
section
variable {X : Cx} {B : XBt} {k n q m : Nat} {x : Str} {fs ks : List Str} {is : List Nat} {es : List Expr} {kws : List Keyword} {p pos : Pos} {fa fk : Pg (List AV)}
theorem zZ3 (C : Ctx X B) (h : XK X.prog X.w X.K X.mg X.base k x fs n ks is) (hr : Room (k + 1) X.A) (hg : Gl X x) (A : SndAK X B es kws ks fa fk) (hm : ks.length = m) (hnq : n + ks.length = q) (hn : n ≤ 900 := by decide) (hdb : (x == ("__debug__" : Str)) = false := by decide)
    (hpl : ((backTo pos (starEach es X.env)).any (·.1) || (backToKw pos (keywordEach kws X.env)).any (·.1.isNone)) = false := by rfl) : Snd X B (.Call (.Name x p) es kws pos) (zZy (exF x fs q is) m fa fk) := by
  obtain ⟨D, h1, h2, h3⟩ := h
  exact xJj (wXf C h3 hr hn hnq) hg h1 h2 A hm hdb hpl
def xVm (x : Str) : Fn := fun args => match args with
  | [] => fun m => .ok (.d (yGv x [])) m
  | _ => .stuck
theorem xHo {D : Addr} (hc : yG4 X.K x D) (q : PySem.W.excIn X.K D [.type "ValueError", .type "Exception", .type "BaseException", .type "object"] "ValueError.__new__" = true) : wXr X B (.ref D) [] (xVm x) := by
  intro w pins s us ws args xs ys Q I r hv ru rw_ hl hw
  unfold yU0 xVm at hw
  cases args with
  | cons a as => exact hw.elim
  | nil =>
    have q9 : yYt X.K w Q (.d (yGv x [])) ⟨w.m.sl, w.m.cs⟩ := hw
    have l := yYw hv
    rw [List.length_append] at l
    have l : 0 = xs.length + ys.length := l
    obtain rfl : us = [] := List.length_eq_zero_iff.mp (by rw [← ru.length]; omega)
    obtain rfl : ws = [] := List.length_eq_zero_iff.mp (by rw [← rw_.length]; omega)
    obtain ⟨bm, N, nm, qn, bs, hdct, sn, sub, ab, col, dd, k0, k1, k2, k3, k5, mN, hC, hN, hni, T⟩ := exc_obj I.kIn q
    obtain ⟨hp0, g, dr, tk, os⟩ := s
    refine wpAny_call_exc_subT PySem.F.excBase_ValueError T hC hN hni (fun h' e hm => ?_) (by show 0 ≤ sizeLine; rw [sizeLine_eq]; omega)
    have hn : w.H e = none := I.hok.gone hm.new
    obtain ⟨t, ht, _, _⟩ := hm.there
    obtain ⟨r3, f3⟩ := xQc r hn (excO e (.ref D) none)
    have ex : xWr X.K w ⟨x, []⟩ (.ref D) none := ⟨D, hc, rfl, .inl ⟨rfl, rfl⟩⟩
    have qq := fun e1 e2 => q9 _ (.ref e) e1 e2 f3 r3 (xUw (ex.fol f3.ext) upd_same)
    exact ⟨.ref e, _, I.laidN hm.keeps hm.new hn (xKy ht ⟨rfl, rfl⟩ ⟨_, rfl⟩), rfl, qq rfl rfl⟩
theorem yK8 (C : Ctx X B) (h : wQj X.K X.mg x) (hg : Gl X x) (hdb : (x == ("__debug__" : Str)) = false := by decide)
    (hpl : ((backTo pos (starEach [] X.env)).any (·.1) || (backToKw pos (keywordEach [] X.env)).any (·.1.isNone)) = false := by rfl) : Snd X B (.Call (.Name x p) [] [] pos) (zZy (xVm x) 0 zZa zZa) := by
  obtain ⟨D, h1, h2, h3, h4, _⟩ := h
  exact xJj (xHo h2 h4) hg h1 h3 (zXa zZu) rfl hdb hpl
end
section
variable {m : Mem} {X : Exn → Mem → Prop} {E : EV → Mem → Prop} {x : Str} {fs : List Str} {q : Nat} {is : List Nat}
@[simp] theorem wVw {args : List AV} : W (yU0 (exF x fs q is) args) m X E ↔ ∃ ds, dataOf args = some ds ∧ ds.length = q ∧ (pick is ds).length = fs.length ∧ E (.d (yGv x (fs.zip (pick is ds)).reverse)) m := by
  constructor
  · intro h
    have h := h.go
    unfold yU0 exF at h
    cases ed : dataOf args with
    | none => rw [ed] at h; exact h.elim
    | some ds =>
      rw [ed] at h
      dsimp only at h
      by_cases hp : ds.length = q ∧ (pick is ds).length = fs.length
      · rw [if_pos hp] at h
        exact ⟨ds, rfl, hp.1, hp.2, h⟩
      · rw [if_neg hp] at h
        exact h.elim
  · rintro ⟨ds, ed, h1, h2, h⟩
    refine ⟨?_⟩
    unfold yU0 exF
    rw [ed]
    dsimp only
    rw [if_pos ⟨h1, h2⟩]
    exact h
@[simp] theorem wXl : W (yU0 (xVm x) []) m X E ↔ E (.d (yGv x [])) m := ⟨fun h => h.go, fun h => ⟨h⟩⟩
end
end Ev

namespace Ev
open PySem PySem.Spec PyProof.Rows L2
def yG0 : Pg Fl := yJt (zV5 (zQc (yHk xXc (yJq (wVd (zQ9 0) (.ret none) (xJu (evC (.int 63)))) (zZa))) (zQc (evC (.int 0)) (zQc (evC (.int 0)) (zZa)))))
def yUw : Fn := yVx 1 yG0
def yGc : Pg Fl := zJz (yU3 (zXb .Gt (xZo (zQ9 0) (evC (.int 2))) (evC (.int 0))) (zJz (evSet 2 (zJo .Mod (xZo (zQ9 0) (evC (.int 2))) (zQ9 1))) (zJz (yHr (zJo .FloorDiv (xZo (zQ9 0) (evC (.int 2))) (zQ9 1)) (zQ9 0) (evC (.int 2))) (yJt (zQ9 2)))) (.ret .next)) (zJz (evSet 3 (xZo (zQ9 0) (evC (.int 1)))) (zJz (yHr (zJo .Add (zQ9 3) (evC (.int 1))) (zQ9 0) (evC (.int 1))) (zJz (evSet 4 (zJo .Add (zJo .Mult (evC (.int 65003)) (zQ9 3)) (evC (.int 61)))) (zJz (yU3 (zXb .NotEq (xZo (zQ9 0) (evC (.int 0))) (zV5 (zZa))) (evSet 4 (xZo (xZo (zQ9 0) (evC (.int 0))) (zJo .Mod (zQ9 3) (yHk xYq (yJq (xZo (zQ9 0) (evC (.int 0))) (zZa)))))) (.ret .next)) (zJz (yU3 (xJw (zXb .Lt (zQ9 3) (yHk xYq (yJq (xZo (zQ9 0) (evC (.int 0))) (zZa)))) (zXb .GtE (yHk wVc (yJq (zQ9 4) (zZa))) (zJo .Pow (evC (.int 10)) (evC (.int 18))))) (zJz (evSet 5 (zJo .Add (zJo .Mult (evC (.int 2)) (yHk wVc (yJq (zQ9 4) (zZa)))) (yHk wVa (yJq (asV (zXb .Lt (zQ9 4) (evC (.int 0)))) (zZa))))) (zJz (yHr (zJo .FloorDiv (zQ9 5) (zQ9 1)) (zQ9 0) (evC (.int 2))) (yJt (zJo .Mod (zQ9 5) (zQ9 1))))) (.ret .next)) (zJz (evSet 6 (zJo .Mod (zJo .Pow (zJo .Add (zJo .Add (zJo .Mod (zQ9 4) (evC (.int 2147483563))) (zJo .Mult (evC (.int 40009)) (zQ9 3))) (evC (.int 71))) (evC (.int 3))) (evC (.int 2147483579)))) (zJz (evSet 6 (zJo .Mod (zJo .Pow (zJo .Add (zJo .Add (zQ9 6) (zJo .Mult (zJo .Mult (evC (.int 70001)) (zQ9 3)) (zQ9 3))) (evC (.int 31))) (evC (.int 5))) (evC (.int 2147483629)))) (yJt (zJo .Mod (zJo .FloorDiv (zJo .Mod (zJo .Add (zJo .Mult (zQ9 6) (zJo .Add (zJo .Mult (evC (.int 2)) (zQ9 3)) (evC (.int 29)))) (evC (.int 83))) (evC (.int 2147483587))) (evC (.int 32))) (zQ9 1))))))))))
def yVr : Fn := yVx 7 yGc
def yY3 : Pg Fl := zJz (evSet 1 (zV5 (zQc (evC .none) (zQc (evC (.bool true)) (zQc (evC (.int 0)) (zQc (xYw (evC (.int 1))) (zQc (zJo .Pow (evC (.int 10)) (evC (.int 59))) (zQc (evC (.str "")) (zQc (evC (.str "word")) (zQc (yHj (zZa)) (zQc (yHj (zQc (evC (.int 1)) (zQc (evC (.str "a")) (zZa)))) (zQc (zV5 (zZa)) (zQc (zV5 (zQc (evC (.int 1)) (zZa))) (zQc (wWb) (zQc (xJv (xZq (evC (.str "a")) (zV5 (zQc (evC (.int 1)) (zZa))) (.ret []))) (zQc (zV5 (zQc (zV5 (zQc (evC (.int 2)) (zZa))) (zQc (evC (.int 3)) (zZa)))) (zQc (yHj (zQc (evC (.str "load")) (zQc (evC (.str "grey")) (zZa)))) (zZa)))))))))))))))))) (yJt (xZo (zQ9 1) (yYz yVr (yHs 2 (zQc (zQ9 0) (zQc (yHk xYq (yJq (zQ9 1) (zZa))) (zZa)))))))
def yJo : Fn := yVx 2 yY3
def yG9 : Pg Fl := zJz (evSet 1 (zV5 (zQc (yJp [("NoneType", false), ("bool", false), ("int", false), ("str", false), ("list", false), ("tuple", false), ("dict", false)] [("NoObject", false), ("NoInvariant", false), ("NothingToUndo", false), ("TooMany", false), ("InvalidThreads", false), ("InvalidEntry", true), ("InvalidFresh", false), ("InvalidRoots", false), ("InvalidHeap", false), ("InvalidRegisters", false), ("InvalidState", false), ("InvalidStep", false), ("InvalidCertificate", false), ("InvalidChange", false), ("InvalidGoal", false), ("ParseError", false), ("UnknownCommand", false), ("Started", false), ("Mismatch", false)] (zQ9 0)) (zQc (yJp [("NoneType", false), ("bool", false), ("int", false), ("str", false), ("list", false), ("tuple", false), ("dict", false)] [("NoObject", false), ("NoInvariant", false), ("NothingToUndo", false), ("TooMany", false), ("InvalidThreads", false), ("InvalidEntry", false), ("InvalidFresh", true), ("InvalidRoots", false), ("InvalidHeap", false), ("InvalidRegisters", false), ("InvalidState", false), ("InvalidStep", false), ("InvalidCertificate", false), ("InvalidChange", false), ("InvalidGoal", false), ("ParseError", false), ("UnknownCommand", false), ("Started", false), ("Mismatch", false)] (zQ9 0)) (zQc (yJp [("NoneType", false), ("bool", false), ("int", false), ("str", false), ("list", false), ("tuple", false), ("dict", false)] [("NoObject", false), ("NoInvariant", false), ("NothingToUndo", false), ("TooMany", false), ("InvalidThreads", false), ("InvalidEntry", false), ("InvalidFresh", false), ("InvalidRoots", true), ("InvalidHeap", false), ("InvalidRegisters", false), ("InvalidState", false), ("InvalidStep", false), ("InvalidCertificate", false), ("InvalidChange", false), ("InvalidGoal", false), ("ParseError", false), ("UnknownCommand", false), ("Started", false), ("Mismatch", false)] (zQ9 0)) (zZa)))))) (zJz (evSet 1 (zJo .Add (zQ9 1) (zV5 (zQc (yJp [("NoneType", false), ("bool", false), ("int", false), ("str", false), ("list", false), ("tuple", false), ("dict", false)] [("NoObject", false), ("NoInvariant", false), ("NothingToUndo", false), ("TooMany", false), ("InvalidThreads", false), ("InvalidEntry", false), ("InvalidFresh", false), ("InvalidRoots", false), ("InvalidHeap", true), ("InvalidRegisters", false), ("InvalidState", false), ("InvalidStep", false), ("InvalidCertificate", false), ("InvalidChange", false), ("InvalidGoal", false), ("ParseError", false), ("UnknownCommand", false), ("Started", false), ("Mismatch", false)] (zQ9 0)) (zQc (yJp [("NoneType", false), ("bool", false), ("int", false), ("str", false), ("list", false), ("tuple", false), ("dict", false)] [("NoObject", false), ("NoInvariant", false), ("NothingToUndo", false), ("TooMany", false), ("InvalidThreads", false), ("InvalidEntry", false), ("InvalidFresh", false), ("InvalidRoots", false), ("InvalidHeap", false), ("InvalidRegisters", true), ("InvalidState", false), ("InvalidStep", false), ("InvalidCertificate", false), ("InvalidChange", false), ("InvalidGoal", false), ("ParseError", false), ("UnknownCommand", false), ("Started", false), ("Mismatch", false)] (zQ9 0)) (zQc (yJp [("NoneType", false), ("bool", false), ("int", false), ("str", false), ("list", false), ("tuple", false), ("dict", false)] [("NoObject", false), ("NoInvariant", false), ("NothingToUndo", false), ("TooMany", false), ("InvalidThreads", false), ("InvalidEntry", false), ("InvalidFresh", false), ("InvalidRoots", false), ("InvalidHeap", false), ("InvalidRegisters", false), ("InvalidState", true), ("InvalidStep", false), ("InvalidCertificate", false), ("InvalidChange", false), ("InvalidGoal", false), ("ParseError", false), ("UnknownCommand", false), ("Started", false), ("Mismatch", false)] (zQ9 0)) (zZa))))))) (zJz (evSet 1 (zJo .Add (zQ9 1) (zV5 (zQc (yJp [("NoneType", false), ("bool", false), ("int", false), ("str", false), ("list", false), ("tuple", false), ("dict", false)] [("NoObject", false), ("NoInvariant", false), ("NothingToUndo", false), ("TooMany", false), ("InvalidThreads", false), ("InvalidEntry", false), ("InvalidFresh", false), ("InvalidRoots", false), ("InvalidHeap", false), ("InvalidRegisters", false), ("InvalidState", false), ("InvalidStep", true), ("InvalidCertificate", false), ("InvalidChange", false), ("InvalidGoal", false), ("ParseError", false), ("UnknownCommand", false), ("Started", false), ("Mismatch", false)] (zQ9 0)) (zQc (yJp [("NoneType", false), ("bool", false), ("int", false), ("str", false), ("list", false), ("tuple", false), ("dict", false)] [("NoObject", false), ("NoInvariant", false), ("NothingToUndo", false), ("TooMany", false), ("InvalidThreads", false), ("InvalidEntry", false), ("InvalidFresh", false), ("InvalidRoots", false), ("InvalidHeap", false), ("InvalidRegisters", false), ("InvalidState", false), ("InvalidStep", false), ("InvalidCertificate", true), ("InvalidChange", false), ("InvalidGoal", false), ("ParseError", false), ("UnknownCommand", false), ("Started", false), ("Mismatch", false)] (zQ9 0)) (zQc (yJp [("NoneType", false), ("bool", false), ("int", false), ("str", false), ("list", false), ("tuple", false), ("dict", false)] [("NoObject", false), ("NoInvariant", false), ("NothingToUndo", false), ("TooMany", false), ("InvalidThreads", false), ("InvalidEntry", false), ("InvalidFresh", false), ("InvalidRoots", false), ("InvalidHeap", false), ("InvalidRegisters", false), ("InvalidState", false), ("InvalidStep", false), ("InvalidCertificate", false), ("InvalidChange", true), ("InvalidGoal", false), ("ParseError", false), ("UnknownCommand", false), ("Started", false), ("Mismatch", false)] (zQ9 0)) (zZa))))))) (zJz (evSet 1 (zJo .Add (zQ9 1) (zV5 (zQc (yJp [("NoneType", false), ("bool", false), ("int", false), ("str", false), ("list", false), ("tuple", false), ("dict", false)] [("NoObject", false), ("NoInvariant", false), ("NothingToUndo", false), ("TooMany", false), ("InvalidThreads", false), ("InvalidEntry", false), ("InvalidFresh", false), ("InvalidRoots", false), ("InvalidHeap", false), ("InvalidRegisters", false), ("InvalidState", false), ("InvalidStep", false), ("InvalidCertificate", false), ("InvalidChange", false), ("InvalidGoal", true), ("ParseError", false), ("UnknownCommand", false), ("Started", false), ("Mismatch", false)] (zQ9 0)) (zQc (yJp [("NoneType", false), ("bool", false), ("int", false), ("str", false), ("list", false), ("tuple", false), ("dict", false)] [("NoObject", false), ("NoInvariant", false), ("NothingToUndo", false), ("TooMany", false), ("InvalidThreads", false), ("InvalidEntry", false), ("InvalidFresh", false), ("InvalidRoots", false), ("InvalidHeap", false), ("InvalidRegisters", false), ("InvalidState", false), ("InvalidStep", false), ("InvalidCertificate", false), ("InvalidChange", false), ("InvalidGoal", false), ("ParseError", true), ("UnknownCommand", false), ("Started", false), ("Mismatch", false)] (zQ9 0)) (zQc (yJp [("NoneType", false), ("bool", false), ("int", false), ("str", false), ("list", false), ("tuple", false), ("dict", false)] [("NoObject", false), ("NoInvariant", false), ("NothingToUndo", false), ("TooMany", false), ("InvalidThreads", false), ("InvalidEntry", false), ("InvalidFresh", false), ("InvalidRoots", false), ("InvalidHeap", false), ("InvalidRegisters", false), ("InvalidState", false), ("InvalidStep", false), ("InvalidCertificate", false), ("InvalidChange", false), ("InvalidGoal", false), ("ParseError", false), ("UnknownCommand", true), ("Started", false), ("Mismatch", false)] (zQ9 0)) (zZa))))))) (zJz (evSet 1 (zJo .Add (zQ9 1) (zV5 (zQc (yJp [("NoneType", false), ("bool", false), ("int", false), ("str", false), ("list", false), ("tuple", false), ("dict", false)] [("NoObject", false), ("NoInvariant", false), ("NothingToUndo", false), ("TooMany", false), ("InvalidThreads", false), ("InvalidEntry", false), ("InvalidFresh", false), ("InvalidRoots", false), ("InvalidHeap", false), ("InvalidRegisters", false), ("InvalidState", false), ("InvalidStep", false), ("InvalidCertificate", false), ("InvalidChange", false), ("InvalidGoal", false), ("ParseError", false), ("UnknownCommand", false), ("Started", true), ("Mismatch", false)] (zQ9 0)) (zQc (yJp [("NoneType", false), ("bool", false), ("int", false), ("str", false), ("list", false), ("tuple", false), ("dict", false)] [("NoObject", false), ("NoInvariant", false), ("NothingToUndo", false), ("TooMany", false), ("InvalidThreads", false), ("InvalidEntry", false), ("InvalidFresh", false), ("InvalidRoots", false), ("InvalidHeap", false), ("InvalidRegisters", false), ("InvalidState", false), ("InvalidStep", false), ("InvalidCertificate", false), ("InvalidChange", false), ("InvalidGoal", false), ("ParseError", false), ("UnknownCommand", false), ("Started", false), ("Mismatch", true)] (zQ9 0)) (zQc (yJp [("NoneType", false), ("bool", false), ("int", false), ("str", false), ("list", false), ("tuple", false), ("dict", false)] [("NoObject", true), ("NoInvariant", false), ("NothingToUndo", false), ("TooMany", false), ("InvalidThreads", false), ("InvalidEntry", false), ("InvalidFresh", false), ("InvalidRoots", false), ("InvalidHeap", false), ("InvalidRegisters", false), ("InvalidState", false), ("InvalidStep", false), ("InvalidCertificate", false), ("InvalidChange", false), ("InvalidGoal", false), ("ParseError", false), ("UnknownCommand", false), ("Started", false), ("Mismatch", false)] (zQ9 0)) (zZa))))))) (zJz (evSet 1 (zJo .Add (zQ9 1) (zV5 (zQc (yJp [("NoneType", false), ("bool", false), ("int", false), ("str", false), ("list", false), ("tuple", false), ("dict", false)] [("NoObject", false), ("NoInvariant", true), ("NothingToUndo", false), ("TooMany", false), ("InvalidThreads", false), ("InvalidEntry", false), ("InvalidFresh", false), ("InvalidRoots", false), ("InvalidHeap", false), ("InvalidRegisters", false), ("InvalidState", false), ("InvalidStep", false), ("InvalidCertificate", false), ("InvalidChange", false), ("InvalidGoal", false), ("ParseError", false), ("UnknownCommand", false), ("Started", false), ("Mismatch", false)] (zQ9 0)) (zQc (yJp [("NoneType", false), ("bool", false), ("int", false), ("str", false), ("list", false), ("tuple", false), ("dict", false)] [("NoObject", false), ("NoInvariant", false), ("NothingToUndo", true), ("TooMany", false), ("InvalidThreads", false), ("InvalidEntry", false), ("InvalidFresh", false), ("InvalidRoots", false), ("InvalidHeap", false), ("InvalidRegisters", false), ("InvalidState", false), ("InvalidStep", false), ("InvalidCertificate", false), ("InvalidChange", false), ("InvalidGoal", false), ("ParseError", false), ("UnknownCommand", false), ("Started", false), ("Mismatch", false)] (zQ9 0)) (zQc (yJp [("NoneType", false), ("bool", false), ("int", false), ("str", false), ("list", false), ("tuple", false), ("dict", false)] [("NoObject", false), ("NoInvariant", false), ("NothingToUndo", false), ("TooMany", true), ("InvalidThreads", false), ("InvalidEntry", false), ("InvalidFresh", false), ("InvalidRoots", false), ("InvalidHeap", false), ("InvalidRegisters", false), ("InvalidState", false), ("InvalidStep", false), ("InvalidCertificate", false), ("InvalidChange", false), ("InvalidGoal", false), ("ParseError", false), ("UnknownCommand", false), ("Started", false), ("Mismatch", false)] (zQ9 0)) (zZa))))))) (zJz (xYy 1 (yJp [("NoneType", false), ("bool", false), ("int", false), ("str", false), ("list", false), ("tuple", false), ("dict", false)] [("NoObject", false), ("NoInvariant", false), ("NothingToUndo", false), ("TooMany", false), ("InvalidThreads", true), ("InvalidEntry", false), ("InvalidFresh", false), ("InvalidRoots", false), ("InvalidHeap", false), ("InvalidRegisters", false), ("InvalidState", false), ("InvalidStep", false), ("InvalidCertificate", false), ("InvalidChange", false), ("InvalidGoal", false), ("ParseError", false), ("UnknownCommand", false), ("Started", false), ("Mismatch", false)] (zQ9 0))) (yJt (xQy [2, 3] (xZp (zQc (zQ9 1) (zZa))) (xQ0 2 (xZv (yHu 2) (xZv (yHu 3) (xW1)))) (xYv (zQ9 3)) (zQ9 2)))))))))
def yUy : Fn := yVx 4 yG9
def yHa : Pg Fl := zJz (evSet 1 (zV5 (zQc (yJp [("NoneType", false), ("bool", false), ("int", false), ("str", false), ("list", false), ("tuple", false), ("dict", false)] [("NoObject", false), ("NoInvariant", false), ("NothingToUndo", false), ("TooMany", false), ("InvalidThreads", true), ("InvalidEntry", true), ("InvalidFresh", true), ("InvalidRoots", true), ("InvalidHeap", true), ("InvalidRegisters", true), ("InvalidState", true), ("InvalidStep", true), ("InvalidCertificate", true), ("InvalidChange", true), ("InvalidGoal", true), ("ParseError", true), ("UnknownCommand", true), ("Started", true), ("Mismatch", true)] (zQ9 0)) (zQc (yJp [("NoneType", false), ("bool", false), ("int", false), ("str", false), ("list", false), ("tuple", false), ("dict", false)] [("NoObject", false), ("NoInvariant", false), ("NothingToUndo", false), ("TooMany", false), ("InvalidThreads", true), ("InvalidEntry", true), ("InvalidFresh", true), ("InvalidRoots", true), ("InvalidHeap", true), ("InvalidRegisters", true), ("InvalidState", true), ("InvalidStep", true), ("InvalidCertificate", true), ("InvalidChange", true), ("InvalidGoal", true), ("ParseError", true), ("UnknownCommand", true), ("Started", true), ("Mismatch", true)] (zQ9 0)) (zQc (yJp [("NoneType", false), ("bool", false), ("int", false), ("str", false), ("list", false), ("tuple", false), ("dict", false)] [("NoObject", true), ("NoInvariant", false), ("NothingToUndo", false), ("TooMany", false), ("InvalidThreads", false), ("InvalidEntry", false), ("InvalidFresh", false), ("InvalidRoots", false), ("InvalidHeap", false), ("InvalidRegisters", false), ("InvalidState", false), ("InvalidStep", false), ("InvalidCertificate", false), ("InvalidChange", false), ("InvalidGoal", false), ("ParseError", false), ("UnknownCommand", false), ("Started", false), ("Mismatch", false)] (zQ9 0)) (zQc (yJp [("NoneType", false), ("bool", false), ("int", false), ("str", false), ("list", false), ("tuple", false), ("dict", false)] [("NoObject", false), ("NoInvariant", true), ("NothingToUndo", false), ("TooMany", false), ("InvalidThreads", false), ("InvalidEntry", false), ("InvalidFresh", false), ("InvalidRoots", false), ("InvalidHeap", false), ("InvalidRegisters", false), ("InvalidState", false), ("InvalidStep", false), ("InvalidCertificate", false), ("InvalidChange", false), ("InvalidGoal", false), ("ParseError", false), ("UnknownCommand", false), ("Started", false), ("Mismatch", false)] (zQ9 0)) (zZa))))))) (yJt (zJo .Add (zQ9 1) (zV5 (zQc (yJp [("NoneType", false), ("bool", false), ("int", false), ("str", false), ("list", false), ("tuple", false), ("dict", false)] [("NoObject", true), ("NoInvariant", true), ("NothingToUndo", true), ("TooMany", false), ("InvalidThreads", false), ("InvalidEntry", false), ("InvalidFresh", false), ("InvalidRoots", false), ("InvalidHeap", false), ("InvalidRegisters", false), ("InvalidState", false), ("InvalidStep", false), ("InvalidCertificate", false), ("InvalidChange", false), ("InvalidGoal", false), ("ParseError", false), ("UnknownCommand", false), ("Started", false), ("Mismatch", false)] (zQ9 0)) (zQc (yJp [("NoneType", false), ("bool", false), ("int", false), ("str", false), ("list", false), ("tuple", false), ("dict", false)] [("NoObject", false), ("NoInvariant", false), ("NothingToUndo", false), ("TooMany", true), ("InvalidThreads", false), ("InvalidEntry", false), ("InvalidFresh", false), ("InvalidRoots", false), ("InvalidHeap", false), ("InvalidRegisters", false), ("InvalidState", false), ("InvalidStep", false), ("InvalidCertificate", false), ("InvalidChange", false), ("InvalidGoal", false), ("ParseError", false), ("UnknownCommand", false), ("Started", false), ("Mismatch", false)] (zQ9 0)) (zZa))))))
def yUz : Fn := yVx 2 yHa
def yGq : Pg Fl := zJz (yU3 (zXb .Lt (zQ9 0) (evC (.int 7))) (yJt (xZo (zV5 (zQc (zZy (exF "InvalidEntry" ["index"] 1 [0]) 0 (zQc (zQ9 1) (zZa)) (zZa)) (zQc (zZy (exF "InvalidFresh" ["value"] 1 [0]) 0 (zQc (zQ9 1) (zZa)) (zZa)) (zQc (zZy (exF "InvalidRoots" ["value"] 1 [0]) 0 (zQc (zQ9 1) (zZa)) (zZa)) (zQc (zZy (xVm "InvalidHeap") 0 (zZa) (zZa)) (zQc (zZy (exF "InvalidRegisters" ["index"] 1 [0]) 0 (zQc (zQ9 1) (zZa)) (zZa)) (zQc (zZy (xVm "InvalidState") 0 (zZa) (zZa)) (zQc (zZy (exF "InvalidStep" ["index", "reason"] 2 [0, 1]) 0 (zQc (zQ9 1) (zQc (zQ9 2) (zZa))) (zZa)) (zZa))))))))) (zQ9 0))) (.ret .next)) (zJz (yU3 (zXb .Lt (zQ9 0) (evC (.int 14))) (yJt (xZo (zV5 (zQc (zZy (exF "InvalidCertificate" ["reason"] 1 [0]) 0 (zQc (zQ9 1) (zZa)) (zZa)) (zQc (zZy (exF "InvalidChange" ["index"] 1 [0]) 0 (zQc (zQ9 1) (zZa)) (zZa)) (zQc (zZy (exF "InvalidGoal" ["value"] 1 [0]) 0 (zQc (zQ9 1) (zZa)) (zZa)) (zQc (zZy (exF "ParseError" ["line", "word"] 2 [0, 1]) 0 (zQc (zQ9 1) (zQc (zQ9 2) (zZa))) (zZa)) (zQc (zZy (exF "UnknownCommand" ["command"] 1 [0]) 0 (zQc (zQ9 1) (zZa)) (zZa)) (zQc (zZy (xVm "Started") 0 (zZa) (zZa)) (zQc (zZy (xVm "Mismatch") 0 (zZa) (zZa)) (zZa))))))))) (zJo .Sub (zQ9 0) (evC (.int 7))))) (.ret .next)) (yJt (xZo (zV5 (zQc (zZy (exF "NoObject" ["index"] 1 [0]) 0 (zQc (zQ9 1) (zZa)) (zZa)) (zQc (zZy (exF "NoInvariant" ["name"] 1 [0]) 0 (zQc (zQ9 1) (zZa)) (zZa)) (zQc (zZy (exF "NothingToUndo" ["count"] 1 [0]) 0 (zQc (zQ9 1) (zZa)) (zZa)) (zQc (zZy (exF "TooMany" ["limit"] 1 [0]) 0 (zQc (zQ9 1) (zZa)) (zZa)) (zQc (zZy (exF "InvalidThreads" ["index"] 1 [0]) 0 (zQc (zQ9 1) (zZa)) (zZa)) (zZa))))))) (zJo .Sub (zQ9 0) (evC (.int 14))))))
def yYr : Fn := yVx 3 yGq
def yG8 : Pg Fl := zJz (yU3 (zXb .Lt (zQ9 0) (evC (.int 7))) (yJt (xZo (zV5 (zQc (zZy (exF "InvalidEntry" ["index"] 1 [0]) 1 (zZa) (zQc (zQ9 1) (zZa))) (zQc (zZy (exF "InvalidFresh" ["value"] 1 [0]) 1 (zZa) (zQc (zQ9 1) (zZa))) (zQc (zZy (exF "InvalidRoots" ["value"] 1 [0]) 1 (zZa) (zQc (zQ9 1) (zZa))) (zQc (zZy (xVm "InvalidHeap") 0 (zZa) (zZa)) (zQc (zZy (exF "InvalidRegisters" ["index"] 1 [0]) 1 (zZa) (zQc (zQ9 1) (zZa))) (zQc (zZy (xVm "InvalidState") 0 (zZa) (zZa)) (zQc (zZy (exF "InvalidStep" ["index", "reason"] 2 [1, 0]) 2 (zZa) (zQc (zQ9 2) (zQc (zQ9 1) (zZa)))) (zZa))))))))) (zQ9 0))) (.ret .next)) (zJz (yU3 (zXb .Lt (zQ9 0) (evC (.int 14))) (yJt (xZo (zV5 (zQc (zZy (exF "InvalidCertificate" ["reason"] 1 [0]) 1 (zZa) (zQc (zQ9 1) (zZa))) (zQc (zZy (exF "InvalidChange" ["index"] 1 [0]) 1 (zZa) (zQc (zQ9 1) (zZa))) (zQc (zZy (exF "InvalidGoal" ["value"] 1 [0]) 1 (zZa) (zQc (zQ9 1) (zZa))) (zQc (zZy (exF "ParseError" ["line", "word"] 2 [1, 0]) 2 (zZa) (zQc (zQ9 2) (zQc (zQ9 1) (zZa)))) (zQc (zZy (exF "UnknownCommand" ["command"] 1 [0]) 1 (zZa) (zQc (zQ9 1) (zZa))) (zQc (zZy (xVm "Started") 0 (zZa) (zZa)) (zQc (zZy (xVm "Mismatch") 0 (zZa) (zZa)) (zZa))))))))) (zJo .Sub (zQ9 0) (evC (.int 7))))) (.ret .next)) (yJt (xZo (zV5 (zQc (zZy (exF "NoObject" ["index"] 1 [0]) 1 (zZa) (zQc (zQ9 1) (zZa))) (zQc (zZy (exF "NoInvariant" ["name"] 1 [0]) 1 (zZa) (zQc (zQ9 1) (zZa))) (zQc (zZy (exF "NothingToUndo" ["count"] 1 [0]) 1 (zZa) (zQc (zQ9 1) (zZa))) (zQc (zZy (exF "TooMany" ["limit"] 1 [0]) 1 (zZa) (zQc (zQ9 1) (zZa))) (zQc (zZy (exF "InvalidThreads" ["index"] 1 [0]) 1 (zZa) (zQc (zQ9 1) (zZa))) (zZa))))))) (zJo .Sub (zQ9 0) (evC (.int 14))))))
def yUx : Fn := yVx 3 yG8
def yGr : Pg Fl := zJz (yU3 (zXb .In (zQ9 0) (yHj (zQc (evC (.int 3)) (zQc (evC (.int 5)) (zQc (evC (.int 12)) (zQc (evC (.int 13)) (zZa))))))) (yJt (zV5 (zZa))) (.ret .next)) (zJz (yU3 (zXb .In (zQ9 0) (yHj (zQc (evC (.int 6)) (zQc (evC (.int 10)) (zZa))))) (yJt (xYx (zXb .Eq (zQ9 0) (evC (.int 6))) (zV5 (zQc (xJs ["NoObject", "InvalidThreads", "InvalidEntry", "InvalidRegisters", "InvalidStep", "InvalidChange"] "index" (zQ9 1)) (zQc (xJs ["InvalidStep", "InvalidCertificate"] "reason" (zQ9 1)) (zZa)))) (zV5 (zQc (xJs ["ParseError"] "line" (zQ9 1)) (zQc (xJs ["ParseError"] "word" (zQ9 1)) (zZa)))))) (.ret .next)) (zJz (yU3 (zXb .In (zQ9 0) (yHj (zQc (evC (.int 1)) (zQc (evC (.int 2)) (zQc (evC (.int 9)) (zZa)))))) (yJt (zV5 (zQc (xJs ["InvalidFresh", "InvalidRoots", "InvalidGoal"] "value" (zQ9 1)) (zZa)))) (.ret .next)) (zJz (yU3 (zXb .In (zQ9 0) (yHj (zQc (evC (.int 7)) (zQc (evC (.int 11)) (zQc (evC (.int 15)) (zZa)))))) (yJt (zV5 (zQc (xYx (zXb .Eq (zQ9 0) (evC (.int 7))) (xJs ["InvalidStep", "InvalidCertificate"] "reason" (zQ9 1)) (xYx (zXb .Eq (zQ9 0) (evC (.int 11))) (xJs ["UnknownCommand"] "command" (zQ9 1)) (xJs ["NoInvariant"] "name" (zQ9 1)))) (zZa)))) (.ret .next)) (zJz (yU3 (zXb .In (zQ9 0) (yHj (zQc (evC (.int 16)) (zQc (evC (.int 17)) (zZa))))) (yJt (zV5 (zQc (xYx (zXb .Eq (zQ9 0) (evC (.int 16))) (xJs ["NothingToUndo"] "count" (zQ9 1)) (xJs ["TooMany"] "limit" (zQ9 1))) (zZa)))) (.ret .next)) (yJt (zV5 (zQc (xJs ["NoObject", "InvalidThreads", "InvalidEntry", "InvalidRegisters", "InvalidStep", "InvalidChange"] "index" (zQ9 1)) (zZa))))))))
def yYs : Fn := yVx 2 yGr
def yYv : Pg Fl := zJz (yU3 (xK0 (zXb .Lt (zQ9 0) (evC (.int 14))) (zXb .Eq (zQ9 0) (evC (.int 18)))) (yJt (zV5 (zQc (evC (.bool true)) (zQc (evC (.bool true)) (zQc (evC (.bool false)) (zQc (evC (.bool false)) (zQc (evC (.bool false)) (zQc (evC (.bool false)) (zZa))))))))) (.ret .next)) (yJt (zV5 (zQc (evC (.bool false)) (zQc (evC (.bool false)) (zQc (asV (zXb .Eq (zQ9 0) (evC (.int 14)))) (zQc (asV (zXb .Eq (zQ9 0) (evC (.int 15)))) (zQc (asV (zXb .Lt (zQ9 0) (evC (.int 17)))) (zQc (asV (zXb .Eq (zQ9 0) (evC (.int 17)))) (zZa)))))))))
def yJs : Fn := yVx 1 yYv
def xKe : Pg Fl := zJz (xJt 1 (yYz yUw (yHs 1 (zQc (zQ9 0) (zZa))))) (zJz (xVe (xXg (yJq (evC (.int 19)) (zZa))) (yHu 2) (xVe (xXg (yJq (evC (.int 3)) (zZa))) (yHu 3) (zJz (xKz 4 5 (yYz yJo (yHs 1 (zQc (zQ9 1) (zZa)))) (yYz yJo (yHs 1 (zQc (zQ9 1) (zZa))))) (zJz (evSet 6 (xYx (zXb .In (zQ9 2) (yHj (zQc (evC (.int 3)) (zQc (evC (.int 5)) (zQc (evC (.int 12)) (zQc (evC (.int 13)) (zZa))))))) (zV5 (zZa)) (xYx (zXb .In (zQ9 2) (yHj (zQc (evC (.int 6)) (zQc (evC (.int 10)) (zZa))))) (zV5 (zQc (zQ9 4) (zQc (zQ9 5) (zZa)))) (zV5 (zQc (zQ9 4) (zZa)))))) (xVe (wQd (yHj (zQc (yYz yYr (yHs 3 (zQc (zQ9 2) (zQc (zQ9 4) (zQc (zQ9 5) (zZa)))))) (zQc (yYz yUx (yHs 3 (zQc (zQ9 2) (zQc (zQ9 4) (zQc (zQ9 5) (zZa)))))) (zZa))))) (yHu 7) (zJz (yU3 (xK0 (zXb .NotEq (yHk xKv (yJq (yYz yYs (yHs 2 (zQc (zQ9 2) (zQc (zQ9 7) (zZa))))) (zZa))) (yHk xKv (yJq (zQ9 6) (zZa)))) (zXb .NotEq (yYz yUy (yHs 1 (zQc (zQ9 7) (zZa)))) (zV5 (zQc (zQ9 2) (zZa))))) (yJt (evC (.bool false))) (.ret .next)) (yU3 (zXb .NotEq (yYz yUz (yHs 1 (zQc (zQ9 7) (zZa)))) (yYz yJs (yHs 1 (zQc (zQ9 2) (zZa))))) (yJt (evC (.bool false))) (.ret .next)))))))) (yJt (evC (.bool true))))
def xXe : Fn := yVx 8 xKe
end Ev
namespace Ev
open PySem PySem.Spec PyProof.Rows L2
def wKx (ns : List Int) (a r : Int) : List PyData := [.list (ns.map .int), .int a, .int r]
def Pen (n : Nat) (o : Ob) : Prop := ∃ ns a r, o = .lst (wKx ns a r) ∧ 0 ≤ a ∧ a + n ≤ 1000000 ∧ 0 ≤ r
theorem Pen.le {n m : Nat} {o : Ob} (h : Pen n o) (e : m ≤ n) : Pen m o := by
  obtain ⟨ns, a, r, q, h1, h2, h3⟩ := h
  exact ⟨ns, a, r, q, h1, by omega, h3⟩
theorem wKl {a c : Int} (ha : 0 ≤ a) (ha2 : a ≤ 1000000) (hc : 0 ≤ c) (hc2 : c ≤ 100000) : 0 ≤ c * a * a ∧ c * a * a ≤ 100000000000000000 := by
  have h1 : 0 ≤ c * a := Int.mul_nonneg hc ha
  have h2 : c * a ≤ 100000 * 1000000 := Int.mul_le_mul hc2 ha2 ha (by decide)
  have h3 : 0 ≤ c * a * a := Int.mul_nonneg h1 ha
  have h4 : c * a * a ≤ 100000 * 1000000 * 1000000 := Int.mul_le_mul h2 ha2 ha (by decide)
  omega
theorem xHp {a c : Int} (ha : 0 ≤ a) (ha2 : a ≤ 1000000) : (c % 2147483563 + 40009 * a + 71).natAbs < 18446744073709551616 := by
  have h1 := Int.emod_nonneg c (show (2147483563 : Int) ≠ 0 by decide)
  have h2 := Int.emod_lt_of_pos c (show (0 : Int) < 2147483563 by decide)
  omega
theorem xV7 {a x : Int} (ha : 0 ≤ a) (ha2 : a ≤ 1000000) : (x % 2147483579 + 70001 * a * a + 31).natAbs < 18446744073709551616 := by
  have h1 := Int.emod_nonneg x (show (2147483579 : Int) ≠ 0 by decide)
  have h2 := Int.emod_lt_of_pos x (show (0 : Int) < 2147483579 by decide)
  have h4 := wKl (c := 70001) ha ha2 (by decide) (by decide)
  omega
theorem xHi {X : Exn → Mem → Prop} {n : Nat} {c : Ob} {cs : List Ob} {k : Int} {E : EV → Mem → Prop} (hc : Pen (n + 1) c) (hk : 0 < k) (hk2 : k < 1000000)
    (h : ∀ v c', 0 ≤ v → v < k → Pen n c' → E (.d (.int v)) ⟨[], c' :: cs⟩) : W (yVr [.cell 0, .d (.int k)]) ⟨[], c :: cs⟩ X E := by
  obtain ⟨ns, a, r, rfl, ha, ha2, hr⟩ := hc
  have ha2 : a ≤ 1000000 := by omega
  have kk : k < 1073741824 := by omega
  have md : ∀ x : Int, 0 ≤ x % k ∧ x % k < k := fun x => ⟨Int.emod_nonneg x (by omega), Int.emod_lt_of_pos x hk⟩
  have m1 : -18446744073709551616 < a ∧ a < 18446744073709551616 := by omega
  have m2 : -18446744073709551616 < 2 * a + 29 ∧ 2 * a + 29 < 18446744073709551616 := by omega
  have b1 := fun c => xHp (c := c) ha ha2
  have b2 := fun x => xV7 (x := x) ha ha2
  have hE : ∀ x r', 0 ≤ r' → E (.d (.int (x % k))) ⟨[], .lst [.list (ns.map .int), .int (a + 1), .int r'] :: cs⟩ := fun x r' q => h _ _ (md x).1 (md x).2 ⟨ns, a + 1, r', rfl, by omega, by omega, q⟩
  have hE0 : ∀ x r', 0 ≤ r' → E (.d (.int (x % k))) ⟨[], .lst [.list (ns.map .int), .int a, .int r'] :: cs⟩ := fun x r' q => h _ _ (md x).1 (md x).2 ⟨ns, a, r', rfl, by omega, by omega, q⟩
  have dv : ∀ x : Int, 0 ≤ x → 0 ≤ x / k := fun x q => Int.ediv_nonneg q (by omega)
  unfold yVr
  rw [xY7]
  unfold yGc wKx yU1
  by_cases h0 : 0 < r
  · simp [ixN, h0, hk, kk, Int.not_le.mpr h0]
    exact hE0 _ _ (dv r hr)
  · have h0' : r ≤ 0 := by omega
    cases ns with
    | nil =>
      simp [ixN, h0, h0', hk, kk, m1, m2, b1, b2]
      have l : 0 ≤ a := ha
      have hl : ¬ a < 0 := by omega
      simp [l, hl]
      exact hE _ _ hr
    | cons n0 ns =>
      have hlen : 0 < ((n0 :: ns).length : Int) := by simp only [List.length_cons]; omega
      have hc : ∃ c, atI (n0 :: ns) (a % ((n0 :: ns).length : Int)) = some c := by
        have q1 := Int.emod_nonneg a (show ((n0 :: ns).length : Int) ≠ 0 by omega)
        have q2 := Int.emod_lt_of_pos a hlen
        rw [xU0 q1]
        exact ⟨_, List.getElem?_eq_getElem (by omega)⟩
      obtain ⟨c, hc⟩ := hc
      generalize (n0 :: ns) = ms at *
      have nn : ms ≠ [] := by
        intro e
        subst e
        simp at hlen
      have nn2 : 0 < ms.length := by omega
      simp [ixN, h0, h0', hk, kk, m1, m2, b1, b2, nn, nn2, xHs, hc]
      repeat' first | (refine And.intro ?_ ?_) | intro _
      all_goals first
        | exact hE _ _ hr
        | (refine hE _ _ (dv _ ?_); omega)
        | omega
theorem wZ9 {X : Exn → Mem → Prop} {n : Nat} {c : Ob} {k : Int} {E : EV → Mem → Prop} (hc : Pen (n + 1) c) (hk : 0 < k) (hk2 : k < 1000000)
    (h : ∀ v c', 0 ≤ v → v < k → Pen n c' → E (.d (.int v)) ⟨[], [c']⟩) : W (yVr [.cell 0, .d (.int k)]) ⟨[], [c]⟩ X E := xHi hc hk hk2 h
theorem wKw {X : Exn → Mem → Prop} {ns : List Int} {E : EV → Mem → Prop} (h : ∀ o, Pen 1000000 o → E (.new o) ⟨[], []⟩) : W (yUw [.d (xZh ns)]) ⟨[], []⟩ X E := by
  unfold yUw
  rw [xY7]
  unfold yG0 yU1 xZh
  have e : cutD (ns.map PyData.int) none (some 63) = (ns.take 63).map PyData.int := xYz (k := 63)
  simp [e]
  exact h _ ⟨ns.take 63, 0, 0, by unfold wKx; rw [List.map_take], by omega, by omega, by omega⟩
end Ev

namespace Ev
open PySem PySem.Spec PyProof.Rows L2
end Ev

namespace Ev
open PySem PySem.Spec PyProof.Rows L2
def yU7 : List PyData := [.none, .bool true, .int 0, .int (-1), .int 100000000000000000000000000000000000000000000000000000000000, .str "", .str "word", .tuple [], .tuple [.int 1, .str "a"], .list [], .list [.int 1], .dict [], .dict [(.str "a", .list [.int 1])], .list [.list [.int 2], .int 3], .tuple [.str "load", .str "grey"]]
def wQb (a b : PyData) : Nat → PyData
  | 0 => yGv "InvalidEntry" [("index", a)]
  | 1 => yGv "InvalidFresh" [("value", a)]
  | 2 => yGv "InvalidRoots" [("value", a)]
  | 3 => yGv "InvalidHeap" []
  | 4 => yGv "InvalidRegisters" [("index", a)]
  | 5 => yGv "InvalidState" []
  | 6 => yGv "InvalidStep" [("reason", b), ("index", a)]
  | 7 => yGv "InvalidCertificate" [("reason", a)]
  | 8 => yGv "InvalidChange" [("index", a)]
  | 9 => yGv "InvalidGoal" [("value", a)]
  | 10 => yGv "ParseError" [("word", b), ("line", a)]
  | 11 => yGv "UnknownCommand" [("command", a)]
  | 12 => yGv "Started" []
  | 13 => yGv "Mismatch" []
  | 14 => yGv "NoObject" [("index", a)]
  | 15 => yGv "NoInvariant" [("name", a)]
  | 16 => yGv "NothingToUndo" [("count", a)]
  | 17 => yGv "TooMany" [("limit", a)]
  | _ => yGv "InvalidThreads" [("index", a)]
def fsD (a b : PyData) : Nat → List PyData
  | 3 => []
  | 5 => []
  | 12 => []
  | 13 => []
  | 6 => [a, b]
  | 10 => [a, b]
  | _ => [a]
def baD (k : Nat) : List PyData := if k < 14 ∨ k = 18 then [.bool true, .bool true, .bool false, .bool false, .bool false, .bool false] else [.bool false, .bool false, .bool (decide (k = 14)), .bool (decide (k = 15)), .bool (decide (k < 17)), .bool (decide (k = 17))]
theorem xYk {k : Nat} (h : k < 19) : k = 0 ∨ k = 1 ∨ k = 2 ∨ k = 3 ∨ k = 4 ∨ k = 5 ∨ k = 6 ∨ k = 7 ∨ k = 8 ∨ k = 9 ∨ k = 10 ∨ k = 11 ∨ k = 12 ∨ k = 13 ∨ k = 14 ∨ k = 15 ∨ k = 16 ∨ k = 17 ∨ k = 18 := by omega
section
variable {a b : PyData} {cs : List Ob} {k : Nat}
theorem xKd (h : k < 19) : yYr [.d (.int (k : Int)), .d a, .d b] ⟨[], cs⟩ = .ok (.d (wQb a b k)) ⟨[], cs⟩ := by
  rcases xYk h with rfl | rfl | rfl | rfl | rfl | rfl | rfl | rfl | rfl | rfl | rfl | rfl | rfl | rfl | rfl | rfl | rfl | rfl | rfl <;> kernel_rfl
theorem xYj (h : k < 19) : yUx [.d (.int (k : Int)), .d a, .d b] ⟨[], cs⟩ = .ok (.d (wQb a b k)) ⟨[], cs⟩ := by
  rcases xYk h with rfl | rfl | rfl | rfl | rfl | rfl | rfl | rfl | rfl | rfl | rfl | rfl | rfl | rfl | rfl | rfl | rfl | rfl | rfl <;> kernel_rfl
theorem xKw (h : k < 19) : yYs [.d (.int (k : Int)), .d (wQb a b k)] ⟨[], cs⟩ = .ok (.new (.lst (fsD a b k))) ⟨[], cs⟩ := by
  rcases xYk h with rfl | rfl | rfl | rfl | rfl | rfl | rfl | rfl | rfl | rfl | rfl | rfl | rfl | rfl | rfl | rfl | rfl | rfl | rfl <;> kernel_rfl
theorem xYn (h : k < 19) : yUy [.d (wQb a b k)] ⟨[], cs⟩ = .ok (.fresh [.int (k : Int)]) ⟨[], cs⟩ := by
  rcases xYk h with rfl | rfl | rfl | rfl | rfl | rfl | rfl | rfl | rfl | rfl | rfl | rfl | rfl | rfl | rfl | rfl | rfl | rfl | rfl <;> kernel_rfl
theorem xY4 (h : k < 19) : yUz [.d (wQb a b k)] ⟨[], cs⟩ = .ok (.fresh (baD k)) ⟨[], cs⟩ := by
  rcases xYk h with rfl | rfl | rfl | rfl | rfl | rfl | rfl | rfl | rfl | rfl | rfl | rfl | rfl | rfl | rfl | rfl | rfl | rfl | rfl <;> kernel_rfl
theorem wZ8 (h : k < 19) : yJs [.d (.int (k : Int))] ⟨[], cs⟩ = .ok (.new (.lst (baD k))) ⟨[], cs⟩ := by
  rcases xYk h with rfl | rfl | rfl | rfl | rfl | rfl | rfl | rfl | rfl | rfl | rfl | rfl | rfl | rfl | rfl | rfl | rfl | rfl | rfl <;> kernel_rfl
end
end Ev

namespace Ev
open PySem PySem.Spec PyProof.Rows L2
theorem xXm {α : Type} {p : Pg α} {m m' : Mem} {v : α} {X : Exn → Mem → Prop} {F : α → Mem → Prop} (e : p m = .ok v m') (h : F v m') : W p m X F := ⟨by rw [e]; exact h⟩
theorem xVs {X : Exn → Mem → Prop} {E : EV → Mem → Prop} {n : Nat} {c : Ob} (hc : Pen (n + 1) c) (h : ∀ d c', d ∈ yU7 → Pen n c' → E (.d d) ⟨[], [c']⟩) : W (yJo [.cell 0]) ⟨[], [c]⟩ X E := by
  unfold yJo
  rw [xY7]
  unfold yY3 yU1
  refine xWe (fun m => m = ⟨[some (.cell 0), some (.own yU7)], [c]⟩) ?_ ?_
  · exact xXm (v := Fl.next) (m' := ⟨[some (.cell 0), some (.own yU7)], [c]⟩) (by kernel_rfl) rfl
  rintro _ rfl
  have l15 : yU7.length = 15 := rfl
  simp [-Bool.exists_bool, l15]
  refine wZ9 (n := n) hc (by decide) (by decide) fun v c1 v0 v1 q1 => ?_
  simp [-Bool.exists_bool]
  obtain ⟨d, e, q⟩ := xHr (xs := yU7) v0 (by rw [l15]; exact v1)
  exact ⟨d, e, h d c1 q q1⟩
theorem xGk {a b : PyData} (ha : a ∈ yU7) (hb : b ∈ yU7) {k : Nat} : yU2 (.list (fsD a b k)) = true := by
  have q : ∀ a, a ∈ yU7 → yU2 (.list [a]) = true ∧ ∀ b, b ∈ yU7 → yU2 (.list [a, b]) = true := by decide +kernel
  have q0 : yU2 (.list []) = true := by decide +kernel
  unfold fsD
  split
  · exact q0
  · exact q0
  · exact q0
  · exact q0
  · exact (q a ha).2 b hb
  · exact (q a ha).2 b hb
  · exact (q a ha).1
def M01 (ns : List Int) (v2 v3 v4 v5 v6 v7 : Option SV) (c : Ob) : Mem := ⟨[some (.d (xZh ns)), some (.cell 0), v2, v3, v4, v5, v6, v7], [c]⟩
theorem law_true : wYm 63 xXe := xYm fun ns h1 h2 => by
  unfold xXe
  rw [xY7]
  unfold xKe yU1
  refine xWe (fun m => ∃ o, Pen 900 o ∧ m = M01 ns none none none none none none o) ?_ ?_
  · unfold M01
    simp [-Bool.exists_bool]
    refine wKw fun o ho => ?_
    simp [-Bool.exists_bool]
    exact ho.le (by decide)
  rintro _ ⟨o, ho, rfl⟩
  refine xWe (fun m => ∃ v2 v3 v4 v5 v6 v7 o, m = M01 ns v2 v3 v4 v5 v6 v7 o) ?_ ?_
  · rw [wW4]
    obtain ⟨F, hF⟩ : ∃ F : Int → Mem → Prop, F = fun i m => ∃ v2 v3 v4 v5 v6 v7 o, Pen (10 * (19 - i).toNat) o ∧ m = M01 ns v2 v3 v4 v5 v6 v7 o := ⟨_, rfl⟩
    unfold M01
    simp [-Bool.exists_bool]
    refine xX7 F 19 0 (by rw [hF]; exact ⟨none, none, none, none, none, none, o, ho.le (by decide), rfl⟩) ?_ ?_
    · clear ho
      intro i m i0 i1 hm0
      rw [hF] at hm0
      obtain ⟨v2, v3, v4, v5, v6, v7, o, ho, rfl⟩ := hm0
      obtain ⟨k, rfl⟩ : ∃ k : Nat, i = (k : Int) := ⟨i.toNat, by omega⟩
      have hk : k < 19 := by omega
      rw [xJz]
      obtain ⟨G, hG⟩ : ∃ G : Int → Mem → Prop, G = fun j m => ∃ v3 v4 v5 v6 v7 o, Pen (10 * (19 - ((k : Int) + 1)).toNat + 3 * (3 - j).toNat) o ∧ m = M01 ns (some (.d (.int (k : Int)))) v3 v4 v5 v6 v7 o := ⟨_, rfl⟩
      unfold M01
      simp [-Bool.exists_bool]
      refine xX7 G 3 0 (by rw [hG]; exact ⟨v3, v4, v5, v6, v7, o, ho.le (by omega), rfl⟩) ?_ ?_
      · clear ho
        intro j m j0 j1 hm0
        rw [hG] at hm0
        obtain ⟨v3, v4, v5, v6, v7, o, ho, rfl⟩ := hm0
        rw [xJz]
        refine xWe (fun m => ∃ a b o, a ∈ yU7 ∧ b ∈ yU7 ∧ Pen (10 * (19 - ((k : Int) + 1)).toNat + 3 * (3 - (j + 1)).toNat) o ∧ m = M01 ns (some (.d (.int (k : Int)))) (some (.d (.int j))) (some (.d a)) (some (.d b)) v6 v7 o) ?_ ?_
        · unfold M01
          simp [-Bool.exists_bool]
          refine xVs (n := 10 * (19 - ((k : Int) + 1)).toNat + 3 * (3 - (j + 1)).toNat + 1) (ho.le (by omega)) fun a c1 ha q1 => ?_
          simp [-Bool.exists_bool]
          refine xVs q1 fun b c2 hb q2 => ?_
          simp [-Bool.exists_bool]
          exact ⟨a, ha, b, hb, q2, rfl, rfl⟩
        clear ho
        rintro _ ⟨a, b, o, ha, hb, ho, rfl⟩
        refine xWe (fun m => m = M01 ns (some (.d (.int (k : Int)))) (some (.d (.int j))) (some (.d a)) (some (.d b)) (some (.own (fsD a b k))) v7 o) ?_ ?_
        · rcases xYk hk with rfl | rfl | rfl | rfl | rfl | rfl | rfl | rfl | rfl | rfl | rfl | rfl | rfl | rfl | rfl | rfl | rfl | rfl | rfl <;> exact xXm (v := Fl.next) (m' := M01 ns _ (some (.d (.int j))) (some (.d a)) (some (.d b)) (some (.own _)) v7 o) (by kernel_rfl) rfl
        rintro _ rfl
        unfold M01
        simp [-Bool.exists_bool]
        refine xXm (xKd hk) ?_
        simp [-Bool.exists_bool]
        refine xXm (xYj hk) ?_
        simp [-Bool.exists_bool, xXu]
        have ro := xGk (k := k) ha hb
        have e1 : yU5 .NotEq (.list [.int (k : Int)]) (.list [.int (k : Int)]) = some false := by
          rcases xYk hk with rfl | rfl | rfl | rfl | rfl | rfl | rfl | rfl | rfl | rfl | rfl | rfl | rfl | rfl | rfl | rfl | rfl | rfl | rfl <;> kernel_rfl
        have e2 : yU5 .NotEq (.list (baD k)) (.list (baD k)) = some false := by
          rcases xYk hk with rfl | rfl | rfl | rfl | rfl | rfl | rfl | rfl | rfl | rfl | rfl | rfl | rfl | rfl | rfl | rfl | rfl | rfl | rfl <;> kernel_rfl
        refine xWd (fun ds m => (∀ d, d ∈ ds → d = wQb a b k) ∧ ∃ v6 v7, (v6 = some (.own (fsD a b k)) ∨ v6 = some (.d (.list (fsD a b k)))) ∧ m = M01 ns (some (.d (.int (k : Int)))) (some (.d (.int j))) (some (.d a)) (some (.d b)) v6 v7 o) ⟨by simp, _, _, .inl rfl, rfl⟩ ?_ ?_
        · rintro d ds m ⟨hd, v6, v7, h6, rfl⟩
          have hds := fun e he => hd e (List.mem_cons_of_mem _ he)
          obtain rfl := hd d (List.mem_cons_self ..)
          unfold M01
          rcases h6 with rfl | rfl
          all_goals
            simp [-Bool.exists_bool]
            refine xXm (xKw hk) ?_
            simp [-Bool.exists_bool]
            refine ⟨ro, xXm (xYn hk) ?_⟩
            simp [-Bool.exists_bool, e1]
            refine xXm (xY4 hk) ?_
            simp [-Bool.exists_bool]
            refine xXm (wZ8 hk) ?_
            simp [-Bool.exists_bool, e2]
            exact hds
        · rintro m ⟨_, v6, v7, _, rfl⟩
          rw [hG]
          exact ⟨_, _, _, _, _, o, ho, rfl⟩
      · clear ho
        intro m hm0
        rw [hG] at hm0
        obtain ⟨v3, v4, v5, v6, v7, o, ho, rfl⟩ := hm0
        rw [hF]
        exact ⟨_, v3, v4, v5, v6, v7, o, ho.le (by omega), rfl⟩
    · intro m hm0
      rw [hF] at hm0
      obtain ⟨v2, v3, v4, v5, v6, v7, o, ho, rfl⟩ := hm0
      exact ⟨v2, v3, v4, v5, v6, v7, o, rfl⟩
  rintro _ ⟨v2, v3, v4, v5, v6, v7, o, rfl⟩
  unfold M01
  simp [-Bool.exists_bool]
end Ev

namespace Ev
open PySem PySem.Spec PyProof.Rows L2
def zZ1 (i : Nat) : Stmt := PySem.Challenge.pw_shadeguards_k01_errors_and_their_fields.main.body.getD i (.Pass ⟨0, 0, 0, 0⟩)
structure Top (w : World) (K : PySem.W.Frag) (mg : Str → Option Value) : Prop where
  b_list : mg "list" = none
  b_len : mg "len" = none
  b_abs : mg "abs" = none
  b_int : mg "int" = none
  b_isinstance : mg "isinstance" = none
  b_enumerate : mg "enumerate" = none
  b_range : mg "range" = none
  b_repr : mg "repr" = none
  xi_NoObject : XI K mg "NoObject" "NoObject.__init__" (yZi (zZ1 17) 0) ["index"]
  e_NoObject : ExN K "NoObject" ["index"]
  xi_NoInvariant : XI K mg "NoInvariant" "NoInvariant.__init__" (yZi (zZ1 18) 0) ["name"]
  e_NoInvariant : ExN K "NoInvariant" ["name"]
  xi_NothingToUndo : XI K mg "NothingToUndo" "NothingToUndo.__init__" (yZi (zZ1 19) 0) ["count"]
  e_NothingToUndo : ExN K "NothingToUndo" ["count"]
  xi_TooMany : XI K mg "TooMany" "TooMany.__init__" (yZi (zZ1 20) 0) ["limit"]
  e_TooMany : ExN K "TooMany" ["limit"]
  xi_InvalidThreads : XI K mg "InvalidThreads" "InvalidThreads.__init__" (yZi (zZ1 7) 0) ["index"]
  e_InvalidThreads : ExN K "InvalidThreads" ["index"]
  xi_InvalidEntry : XI K mg "InvalidEntry" "InvalidEntry.__init__" (yZi (zZ1 2) 0) ["index"]
  e_InvalidEntry : ExN K "InvalidEntry" ["index"]
  xi_InvalidFresh : XI K mg "InvalidFresh" "InvalidFresh.__init__" (yZi (zZ1 3) 0) ["value"]
  e_InvalidFresh : ExN K "InvalidFresh" ["value"]
  xi_InvalidRoots : XI K mg "InvalidRoots" "InvalidRoots.__init__" (yZi (zZ1 4) 0) ["value"]
  e_InvalidRoots : ExN K "InvalidRoots" ["value"]
  x0_InvalidHeap : wQj K mg "InvalidHeap"
  e_InvalidHeap : ExN K "InvalidHeap" []
  xi_InvalidRegisters : XI K mg "InvalidRegisters" "InvalidRegisters.__init__" (yZi (zZ1 6) 0) ["index"]
  e_InvalidRegisters : ExN K "InvalidRegisters" ["index"]
  x0_InvalidState : wQj K mg "InvalidState"
  e_InvalidState : ExN K "InvalidState" []
  xi_InvalidStep : XI K mg "InvalidStep" "InvalidStep.__init__" (yZi (zZ1 9) 0) ["index", "reason"]
  e_InvalidStep : ExN K "InvalidStep" ["index", "reason"]
  xi_InvalidCertificate : XI K mg "InvalidCertificate" "InvalidCertificate.__init__" (yZi (zZ1 10) 0) ["reason"]
  e_InvalidCertificate : ExN K "InvalidCertificate" ["reason"]
  xi_InvalidChange : XI K mg "InvalidChange" "InvalidChange.__init__" (yZi (zZ1 11) 0) ["index"]
  e_InvalidChange : ExN K "InvalidChange" ["index"]
  xi_InvalidGoal : XI K mg "InvalidGoal" "InvalidGoal.__init__" (yZi (zZ1 12) 0) ["value"]
  e_InvalidGoal : ExN K "InvalidGoal" ["value"]
  xi_ParseError : XI K mg "ParseError" "ParseError.__init__" (yZi (zZ1 13) 0) ["line", "word"]
  e_ParseError : ExN K "ParseError" ["line", "word"]
  xi_UnknownCommand : XI K mg "UnknownCommand" "UnknownCommand.__init__" (yZi (zZ1 14) 0) ["command"]
  e_UnknownCommand : ExN K "UnknownCommand" ["command"]
  x0_Started : wQj K mg "Started"
  e_Started : ExN K "Started" []
  x0_Mismatch : wQj K mg "Mismatch"
  e_Mismatch : ExN K "Mismatch" []
  is_0 : IsF K mg ["InvalidEntry"] [("NoneType", false), ("bool", false), ("int", false), ("str", false), ("list", false), ("tuple", false), ("dict", false)] [("NoObject", false), ("NoInvariant", false), ("NothingToUndo", false), ("TooMany", false), ("InvalidThreads", false), ("InvalidEntry", true), ("InvalidFresh", false), ("InvalidRoots", false), ("InvalidHeap", false), ("InvalidRegisters", false), ("InvalidState", false), ("InvalidStep", false), ("InvalidCertificate", false), ("InvalidChange", false), ("InvalidGoal", false), ("ParseError", false), ("UnknownCommand", false), ("Started", false), ("Mismatch", false)]
  is_1 : IsF K mg ["InvalidFresh"] [("NoneType", false), ("bool", false), ("int", false), ("str", false), ("list", false), ("tuple", false), ("dict", false)] [("NoObject", false), ("NoInvariant", false), ("NothingToUndo", false), ("TooMany", false), ("InvalidThreads", false), ("InvalidEntry", false), ("InvalidFresh", true), ("InvalidRoots", false), ("InvalidHeap", false), ("InvalidRegisters", false), ("InvalidState", false), ("InvalidStep", false), ("InvalidCertificate", false), ("InvalidChange", false), ("InvalidGoal", false), ("ParseError", false), ("UnknownCommand", false), ("Started", false), ("Mismatch", false)]
  is_2 : IsF K mg ["InvalidRoots"] [("NoneType", false), ("bool", false), ("int", false), ("str", false), ("list", false), ("tuple", false), ("dict", false)] [("NoObject", false), ("NoInvariant", false), ("NothingToUndo", false), ("TooMany", false), ("InvalidThreads", false), ("InvalidEntry", false), ("InvalidFresh", false), ("InvalidRoots", true), ("InvalidHeap", false), ("InvalidRegisters", false), ("InvalidState", false), ("InvalidStep", false), ("InvalidCertificate", false), ("InvalidChange", false), ("InvalidGoal", false), ("ParseError", false), ("UnknownCommand", false), ("Started", false), ("Mismatch", false)]
  is_3 : IsF K mg ["InvalidHeap"] [("NoneType", false), ("bool", false), ("int", false), ("str", false), ("list", false), ("tuple", false), ("dict", false)] [("NoObject", false), ("NoInvariant", false), ("NothingToUndo", false), ("TooMany", false), ("InvalidThreads", false), ("InvalidEntry", false), ("InvalidFresh", false), ("InvalidRoots", false), ("InvalidHeap", true), ("InvalidRegisters", false), ("InvalidState", false), ("InvalidStep", false), ("InvalidCertificate", false), ("InvalidChange", false), ("InvalidGoal", false), ("ParseError", false), ("UnknownCommand", false), ("Started", false), ("Mismatch", false)]
  is_4 : IsF K mg ["InvalidRegisters"] [("NoneType", false), ("bool", false), ("int", false), ("str", false), ("list", false), ("tuple", false), ("dict", false)] [("NoObject", false), ("NoInvariant", false), ("NothingToUndo", false), ("TooMany", false), ("InvalidThreads", false), ("InvalidEntry", false), ("InvalidFresh", false), ("InvalidRoots", false), ("InvalidHeap", false), ("InvalidRegisters", true), ("InvalidState", false), ("InvalidStep", false), ("InvalidCertificate", false), ("InvalidChange", false), ("InvalidGoal", false), ("ParseError", false), ("UnknownCommand", false), ("Started", false), ("Mismatch", false)]
  is_5 : IsF K mg ["InvalidState"] [("NoneType", false), ("bool", false), ("int", false), ("str", false), ("list", false), ("tuple", false), ("dict", false)] [("NoObject", false), ("NoInvariant", false), ("NothingToUndo", false), ("TooMany", false), ("InvalidThreads", false), ("InvalidEntry", false), ("InvalidFresh", false), ("InvalidRoots", false), ("InvalidHeap", false), ("InvalidRegisters", false), ("InvalidState", true), ("InvalidStep", false), ("InvalidCertificate", false), ("InvalidChange", false), ("InvalidGoal", false), ("ParseError", false), ("UnknownCommand", false), ("Started", false), ("Mismatch", false)]
  is_6 : IsF K mg ["InvalidStep"] [("NoneType", false), ("bool", false), ("int", false), ("str", false), ("list", false), ("tuple", false), ("dict", false)] [("NoObject", false), ("NoInvariant", false), ("NothingToUndo", false), ("TooMany", false), ("InvalidThreads", false), ("InvalidEntry", false), ("InvalidFresh", false), ("InvalidRoots", false), ("InvalidHeap", false), ("InvalidRegisters", false), ("InvalidState", false), ("InvalidStep", true), ("InvalidCertificate", false), ("InvalidChange", false), ("InvalidGoal", false), ("ParseError", false), ("UnknownCommand", false), ("Started", false), ("Mismatch", false)]
  is_7 : IsF K mg ["InvalidCertificate"] [("NoneType", false), ("bool", false), ("int", false), ("str", false), ("list", false), ("tuple", false), ("dict", false)] [("NoObject", false), ("NoInvariant", false), ("NothingToUndo", false), ("TooMany", false), ("InvalidThreads", false), ("InvalidEntry", false), ("InvalidFresh", false), ("InvalidRoots", false), ("InvalidHeap", false), ("InvalidRegisters", false), ("InvalidState", false), ("InvalidStep", false), ("InvalidCertificate", true), ("InvalidChange", false), ("InvalidGoal", false), ("ParseError", false), ("UnknownCommand", false), ("Started", false), ("Mismatch", false)]
  is_8 : IsF K mg ["InvalidChange"] [("NoneType", false), ("bool", false), ("int", false), ("str", false), ("list", false), ("tuple", false), ("dict", false)] [("NoObject", false), ("NoInvariant", false), ("NothingToUndo", false), ("TooMany", false), ("InvalidThreads", false), ("InvalidEntry", false), ("InvalidFresh", false), ("InvalidRoots", false), ("InvalidHeap", false), ("InvalidRegisters", false), ("InvalidState", false), ("InvalidStep", false), ("InvalidCertificate", false), ("InvalidChange", true), ("InvalidGoal", false), ("ParseError", false), ("UnknownCommand", false), ("Started", false), ("Mismatch", false)]
  is_9 : IsF K mg ["InvalidGoal"] [("NoneType", false), ("bool", false), ("int", false), ("str", false), ("list", false), ("tuple", false), ("dict", false)] [("NoObject", false), ("NoInvariant", false), ("NothingToUndo", false), ("TooMany", false), ("InvalidThreads", false), ("InvalidEntry", false), ("InvalidFresh", false), ("InvalidRoots", false), ("InvalidHeap", false), ("InvalidRegisters", false), ("InvalidState", false), ("InvalidStep", false), ("InvalidCertificate", false), ("InvalidChange", false), ("InvalidGoal", true), ("ParseError", false), ("UnknownCommand", false), ("Started", false), ("Mismatch", false)]
  is_10 : IsF K mg ["ParseError"] [("NoneType", false), ("bool", false), ("int", false), ("str", false), ("list", false), ("tuple", false), ("dict", false)] [("NoObject", false), ("NoInvariant", false), ("NothingToUndo", false), ("TooMany", false), ("InvalidThreads", false), ("InvalidEntry", false), ("InvalidFresh", false), ("InvalidRoots", false), ("InvalidHeap", false), ("InvalidRegisters", false), ("InvalidState", false), ("InvalidStep", false), ("InvalidCertificate", false), ("InvalidChange", false), ("InvalidGoal", false), ("ParseError", true), ("UnknownCommand", false), ("Started", false), ("Mismatch", false)]
  is_11 : IsF K mg ["UnknownCommand"] [("NoneType", false), ("bool", false), ("int", false), ("str", false), ("list", false), ("tuple", false), ("dict", false)] [("NoObject", false), ("NoInvariant", false), ("NothingToUndo", false), ("TooMany", false), ("InvalidThreads", false), ("InvalidEntry", false), ("InvalidFresh", false), ("InvalidRoots", false), ("InvalidHeap", false), ("InvalidRegisters", false), ("InvalidState", false), ("InvalidStep", false), ("InvalidCertificate", false), ("InvalidChange", false), ("InvalidGoal", false), ("ParseError", false), ("UnknownCommand", true), ("Started", false), ("Mismatch", false)]
  is_12 : IsF K mg ["Started"] [("NoneType", false), ("bool", false), ("int", false), ("str", false), ("list", false), ("tuple", false), ("dict", false)] [("NoObject", false), ("NoInvariant", false), ("NothingToUndo", false), ("TooMany", false), ("InvalidThreads", false), ("InvalidEntry", false), ("InvalidFresh", false), ("InvalidRoots", false), ("InvalidHeap", false), ("InvalidRegisters", false), ("InvalidState", false), ("InvalidStep", false), ("InvalidCertificate", false), ("InvalidChange", false), ("InvalidGoal", false), ("ParseError", false), ("UnknownCommand", false), ("Started", true), ("Mismatch", false)]
  is_13 : IsF K mg ["Mismatch"] [("NoneType", false), ("bool", false), ("int", false), ("str", false), ("list", false), ("tuple", false), ("dict", false)] [("NoObject", false), ("NoInvariant", false), ("NothingToUndo", false), ("TooMany", false), ("InvalidThreads", false), ("InvalidEntry", false), ("InvalidFresh", false), ("InvalidRoots", false), ("InvalidHeap", false), ("InvalidRegisters", false), ("InvalidState", false), ("InvalidStep", false), ("InvalidCertificate", false), ("InvalidChange", false), ("InvalidGoal", false), ("ParseError", false), ("UnknownCommand", false), ("Started", false), ("Mismatch", true)]
  is_14 : IsF K mg ["NoObject"] [("NoneType", false), ("bool", false), ("int", false), ("str", false), ("list", false), ("tuple", false), ("dict", false)] [("NoObject", true), ("NoInvariant", false), ("NothingToUndo", false), ("TooMany", false), ("InvalidThreads", false), ("InvalidEntry", false), ("InvalidFresh", false), ("InvalidRoots", false), ("InvalidHeap", false), ("InvalidRegisters", false), ("InvalidState", false), ("InvalidStep", false), ("InvalidCertificate", false), ("InvalidChange", false), ("InvalidGoal", false), ("ParseError", false), ("UnknownCommand", false), ("Started", false), ("Mismatch", false)]
  is_15 : IsF K mg ["NoInvariant"] [("NoneType", false), ("bool", false), ("int", false), ("str", false), ("list", false), ("tuple", false), ("dict", false)] [("NoObject", false), ("NoInvariant", true), ("NothingToUndo", false), ("TooMany", false), ("InvalidThreads", false), ("InvalidEntry", false), ("InvalidFresh", false), ("InvalidRoots", false), ("InvalidHeap", false), ("InvalidRegisters", false), ("InvalidState", false), ("InvalidStep", false), ("InvalidCertificate", false), ("InvalidChange", false), ("InvalidGoal", false), ("ParseError", false), ("UnknownCommand", false), ("Started", false), ("Mismatch", false)]
  is_16 : IsF K mg ["NothingToUndo"] [("NoneType", false), ("bool", false), ("int", false), ("str", false), ("list", false), ("tuple", false), ("dict", false)] [("NoObject", false), ("NoInvariant", false), ("NothingToUndo", true), ("TooMany", false), ("InvalidThreads", false), ("InvalidEntry", false), ("InvalidFresh", false), ("InvalidRoots", false), ("InvalidHeap", false), ("InvalidRegisters", false), ("InvalidState", false), ("InvalidStep", false), ("InvalidCertificate", false), ("InvalidChange", false), ("InvalidGoal", false), ("ParseError", false), ("UnknownCommand", false), ("Started", false), ("Mismatch", false)]
  is_17 : IsF K mg ["TooMany"] [("NoneType", false), ("bool", false), ("int", false), ("str", false), ("list", false), ("tuple", false), ("dict", false)] [("NoObject", false), ("NoInvariant", false), ("NothingToUndo", false), ("TooMany", true), ("InvalidThreads", false), ("InvalidEntry", false), ("InvalidFresh", false), ("InvalidRoots", false), ("InvalidHeap", false), ("InvalidRegisters", false), ("InvalidState", false), ("InvalidStep", false), ("InvalidCertificate", false), ("InvalidChange", false), ("InvalidGoal", false), ("ParseError", false), ("UnknownCommand", false), ("Started", false), ("Mismatch", false)]
  is_18 : IsF K mg ["InvalidThreads"] [("NoneType", false), ("bool", false), ("int", false), ("str", false), ("list", false), ("tuple", false), ("dict", false)] [("NoObject", false), ("NoInvariant", false), ("NothingToUndo", false), ("TooMany", false), ("InvalidThreads", true), ("InvalidEntry", false), ("InvalidFresh", false), ("InvalidRoots", false), ("InvalidHeap", false), ("InvalidRegisters", false), ("InvalidState", false), ("InvalidStep", false), ("InvalidCertificate", false), ("InvalidChange", false), ("InvalidGoal", false), ("ParseError", false), ("UnknownCommand", false), ("Started", false), ("Mismatch", false)]
  is_19 : IsF K mg ["ShadeError"] [("NoneType", false), ("bool", false), ("int", false), ("str", false), ("list", false), ("tuple", false), ("dict", false)] [("NoObject", false), ("NoInvariant", false), ("NothingToUndo", false), ("TooMany", false), ("InvalidThreads", true), ("InvalidEntry", true), ("InvalidFresh", true), ("InvalidRoots", true), ("InvalidHeap", true), ("InvalidRegisters", true), ("InvalidState", true), ("InvalidStep", true), ("InvalidCertificate", true), ("InvalidChange", true), ("InvalidGoal", true), ("ParseError", true), ("UnknownCommand", true), ("Started", true), ("Mismatch", true)]
  is_20 : IsF K mg ["ValueError"] [("NoneType", false), ("bool", false), ("int", false), ("str", false), ("list", false), ("tuple", false), ("dict", false)] [("NoObject", false), ("NoInvariant", false), ("NothingToUndo", false), ("TooMany", false), ("InvalidThreads", true), ("InvalidEntry", true), ("InvalidFresh", true), ("InvalidRoots", true), ("InvalidHeap", true), ("InvalidRegisters", true), ("InvalidState", true), ("InvalidStep", true), ("InvalidCertificate", true), ("InvalidChange", true), ("InvalidGoal", true), ("ParseError", true), ("UnknownCommand", true), ("Started", true), ("Mismatch", true)]
  is_21 : IsF K mg ["IndexError"] [("NoneType", false), ("bool", false), ("int", false), ("str", false), ("list", false), ("tuple", false), ("dict", false)] [("NoObject", true), ("NoInvariant", false), ("NothingToUndo", false), ("TooMany", false), ("InvalidThreads", false), ("InvalidEntry", false), ("InvalidFresh", false), ("InvalidRoots", false), ("InvalidHeap", false), ("InvalidRegisters", false), ("InvalidState", false), ("InvalidStep", false), ("InvalidCertificate", false), ("InvalidChange", false), ("InvalidGoal", false), ("ParseError", false), ("UnknownCommand", false), ("Started", false), ("Mismatch", false)]
  is_22 : IsF K mg ["KeyError"] [("NoneType", false), ("bool", false), ("int", false), ("str", false), ("list", false), ("tuple", false), ("dict", false)] [("NoObject", false), ("NoInvariant", true), ("NothingToUndo", false), ("TooMany", false), ("InvalidThreads", false), ("InvalidEntry", false), ("InvalidFresh", false), ("InvalidRoots", false), ("InvalidHeap", false), ("InvalidRegisters", false), ("InvalidState", false), ("InvalidStep", false), ("InvalidCertificate", false), ("InvalidChange", false), ("InvalidGoal", false), ("ParseError", false), ("UnknownCommand", false), ("Started", false), ("Mismatch", false)]
  is_23 : IsF K mg ["LookupError"] [("NoneType", false), ("bool", false), ("int", false), ("str", false), ("list", false), ("tuple", false), ("dict", false)] [("NoObject", true), ("NoInvariant", true), ("NothingToUndo", true), ("TooMany", false), ("InvalidThreads", false), ("InvalidEntry", false), ("InvalidFresh", false), ("InvalidRoots", false), ("InvalidHeap", false), ("InvalidRegisters", false), ("InvalidState", false), ("InvalidStep", false), ("InvalidCertificate", false), ("InvalidChange", false), ("InvalidGoal", false), ("ParseError", false), ("UnknownCommand", false), ("Started", false), ("Mismatch", false)]
  is_24 : IsF K mg ["OverflowError"] [("NoneType", false), ("bool", false), ("int", false), ("str", false), ("list", false), ("tuple", false), ("dict", false)] [("NoObject", false), ("NoInvariant", false), ("NothingToUndo", false), ("TooMany", true), ("InvalidThreads", false), ("InvalidEntry", false), ("InvalidFresh", false), ("InvalidRoots", false), ("InvalidHeap", false), ("InvalidRegisters", false), ("InvalidState", false), ("InvalidStep", false), ("InvalidCertificate", false), ("InvalidChange", false), ("InvalidGoal", false), ("ParseError", false), ("UnknownCommand", false), ("Started", false), ("Mismatch", false)]
  f__law_pen : FM K mg "_law_pen" (zZ1 22) ["_law_script"]
  f__law_draw : FM K mg "_law_draw" (zZ1 23) ["_law_pen_here", "_law_many"]
  f__law_thing : FM K mg "_law_thing" (zZ1 24) ["_law_pen_here"]
  f__law_kinds : FM K mg "_law_kinds" (zZ1 25) ["_law_e"]
  f__law_bases : FM K mg "_law_bases" (zZ1 26) ["_law_e"]
  f__law_placed : FM K mg "_law_placed" (zZ1 27) ["_law_k", "_law_a", "_law_b"]
  f__law_named : FM K mg "_law_named" (zZ1 28) ["_law_k", "_law_a", "_law_b"]
  f__law_fields : FM K mg "_law_fields" (zZ1 29) ["_law_k", "_law_e"]
  f__law_due_bases : FM K mg "_law_due_bases" (zZ1 30) ["_law_k"]
  f_law : FM K mg "law" (zZ1 31) ["_law_script"]
section
variable {P : Program} {w : World} {K : PySem.W.Frag} {mg : Str → Option Value} {base : Heap}
theorem yGt : (("_law_script" : Str) == ("__debug__" : Str)) = false := by decide
theorem yGs : (("_law_script" : Str) == ("__classdict__" : Str)) = false := by decide
theorem zZs : (("_law_pen_here" : Str) == ("__debug__" : Str)) = false := by decide
theorem zZr : (("_law_pen_here" : Str) == ("__classdict__" : Str)) = false := by decide
theorem yVq : (("_law_many" : Str) == ("__debug__" : Str)) = false := by decide
theorem yVp : (("_law_many" : Str) == ("__classdict__" : Str)) = false := by decide
theorem xZf : (("_law_digit" : Str) == ("__debug__" : Str)) = false := by decide
theorem xZe : (("_law_digit" : Str) == ("__classdict__" : Str)) = false := by decide
theorem yZg : (("_law_at" : Str) == ("__debug__" : Str)) = false := by decide
theorem yZf : (("_law_at" : Str) == ("__classdict__" : Str)) = false := by decide
theorem yYp : (("_law_cell" : Str) == ("__debug__" : Str)) = false := by decide
theorem yYo : (("_law_cell" : Str) == ("__classdict__" : Str)) = false := by decide
theorem yHg : (("_law_large" : Str) == ("__debug__" : Str)) = false := by decide
theorem yHe : (("_law_large" : Str) == ("__classdict__" : Str)) = false := by decide
theorem yHf : (("_law_mixed" : Str) == ("__debug__" : Str)) = false := by decide
theorem yHd : (("_law_mixed" : Str) == ("__classdict__" : Str)) = false := by decide
theorem yHx : (("_law_some" : Str) == ("__debug__" : Str)) = false := by decide
theorem yHw : (("_law_some" : Str) == ("__classdict__" : Str)) = false := by decide
theorem zZh : (("_law_e" : Str) == ("__debug__" : Str)) = false := by decide
theorem zZg : (("_law_e" : Str) == ("__classdict__" : Str)) = false := by decide
theorem zV0 : (("_law_found" : Str) == ("__debug__" : Str)) = false := by decide
theorem zVz : (("_law_found" : Str) == ("__classdict__" : Str)) = false := by decide
theorem xZ7 : (("_law_told" : Str) == ("__debug__" : Str)) = false := by decide
theorem xZ6 : (("_law_told" : Str) == ("__classdict__" : Str)) = false := by decide
theorem zZq : (("_law_k" : Str) == ("__debug__" : Str)) = false := by decide
theorem zZp : (("_law_k" : Str) == ("__classdict__" : Str)) = false := by decide
theorem zZo : (("_law_a" : Str) == ("__debug__" : Str)) = false := by decide
theorem zZn : (("_law_a" : Str) == ("__classdict__" : Str)) = false := by decide
theorem yK5 : (("_law_b" : Str) == ("__debug__" : Str)) = false := by decide
theorem yK4 : (("_law_b" : Str) == ("__classdict__" : Str)) = false := by decide
theorem xX0 : (("_law_due" : Str) == ("__debug__" : Str)) = false := by decide
theorem xXz : (("_law_due" : Str) == ("__classdict__" : Str)) = false := by decide
theorem xH3 (T : Top w K mg) {k : Nat} (hk : 1 ≤ k) : ExX P w K mg base k "NoObject" ["index"] := xVd T.xi_NoObject hk ⟨rfl, rfl, rfl, by decide +kernel, rfl, by decide +kernel, by decide +kernel⟩ rfl rfl rfl (by decide) (by decide)
theorem xWv (T : Top w K mg) {k : Nat} (hk : 1 ≤ k) : ExX P w K mg base k "NoInvariant" ["name"] := xVd T.xi_NoInvariant hk ⟨rfl, rfl, rfl, by decide +kernel, rfl, by decide +kernel, by decide +kernel⟩ rfl rfl rfl (by decide) (by decide)
theorem xVn (T : Top w K mg) {k : Nat} (hk : 1 ≤ k) : ExX P w K mg base k "NothingToUndo" ["count"] := xVd T.xi_NothingToUndo hk ⟨rfl, rfl, rfl, by decide +kernel, rfl, by decide +kernel, by decide +kernel⟩ rfl rfl rfl (by decide) (by decide)
theorem wQk (T : Top w K mg) {k : Nat} (hk : 1 ≤ k) : ExX P w K mg base k "TooMany" ["limit"] := xVd T.xi_TooMany hk ⟨rfl, rfl, rfl, by decide +kernel, rfl, by decide +kernel, by decide +kernel⟩ rfl rfl rfl (by decide) (by decide)
theorem xVj (T : Top w K mg) {k : Nat} (hk : 1 ≤ k) : ExX P w K mg base k "InvalidThreads" ["index"] := xVd T.xi_InvalidThreads hk ⟨rfl, rfl, rfl, by decide +kernel, rfl, by decide +kernel, by decide +kernel⟩ rfl rfl rfl (by decide) (by decide)
theorem xWm (T : Top w K mg) {k : Nat} (hk : 1 ≤ k) : ExX P w K mg base k "InvalidEntry" ["index"] := xVd T.xi_InvalidEntry hk ⟨rfl, rfl, rfl, by decide +kernel, rfl, by decide +kernel, by decide +kernel⟩ rfl rfl rfl (by decide) (by decide)
theorem xWl (T : Top w K mg) {k : Nat} (hk : 1 ≤ k) : ExX P w K mg base k "InvalidFresh" ["value"] := xVd T.xi_InvalidFresh hk ⟨rfl, rfl, rfl, by decide +kernel, rfl, by decide +kernel, by decide +kernel⟩ rfl rfl rfl (by decide) (by decide)
theorem xWk (T : Top w K mg) {k : Nat} (hk : 1 ≤ k) : ExX P w K mg base k "InvalidRoots" ["value"] := xVd T.xi_InvalidRoots hk ⟨rfl, rfl, rfl, by decide +kernel, rfl, by decide +kernel, by decide +kernel⟩ rfl rfl rfl (by decide) (by decide)
theorem xJc (T : Top w K mg) {k : Nat} (hk : 1 ≤ k) : ExX P w K mg base k "InvalidRegisters" ["index"] := xVd T.xi_InvalidRegisters hk ⟨rfl, rfl, rfl, by decide +kernel, rfl, by decide +kernel, by decide +kernel⟩ rfl rfl rfl (by decide) (by decide)
theorem xWw (T : Top w K mg) {k : Nat} (hk : 1 ≤ k) : ExX P w K mg base k "InvalidStep" ["index", "reason"] := wUs T.xi_InvalidStep hk ⟨rfl, rfl, rfl, by decide +kernel, rfl, by decide +kernel, by decide +kernel⟩ rfl rfl rfl rfl (by decide) (by decide) (by decide) (by decide)
theorem xXo (T : Top w K mg) {k : Nat} (hk : 1 ≤ k) : ExX P w K mg base k "InvalidCertificate" ["reason"] := xVd T.xi_InvalidCertificate hk ⟨rfl, rfl, rfl, by decide +kernel, rfl, by decide +kernel, by decide +kernel⟩ rfl rfl rfl (by decide) (by decide)
theorem xVo (T : Top w K mg) {k : Nat} (hk : 1 ≤ k) : ExX P w K mg base k "InvalidChange" ["index"] := xVd T.xi_InvalidChange hk ⟨rfl, rfl, rfl, by decide +kernel, rfl, by decide +kernel, by decide +kernel⟩ rfl rfl rfl (by decide) (by decide)
theorem xWx (T : Top w K mg) {k : Nat} (hk : 1 ≤ k) : ExX P w K mg base k "InvalidGoal" ["value"] := xVd T.xi_InvalidGoal hk ⟨rfl, rfl, rfl, by decide +kernel, rfl, by decide +kernel, by decide +kernel⟩ rfl rfl rfl (by decide) (by decide)
theorem xUf (T : Top w K mg) {k : Nat} (hk : 1 ≤ k) : ExX P w K mg base k "ParseError" ["line", "word"] := wUs T.xi_ParseError hk ⟨rfl, rfl, rfl, by decide +kernel, rfl, by decide +kernel, by decide +kernel⟩ rfl rfl rfl rfl (by decide) (by decide) (by decide) (by decide)
theorem xVi (T : Top w K mg) {k : Nat} (hk : 1 ≤ k) : ExX P w K mg base k "UnknownCommand" ["command"] := xVd T.xi_UnknownCommand hk ⟨rfl, rfl, rfl, by decide +kernel, rfl, by decide +kernel, by decide +kernel⟩ rfl rfl rfl (by decide) (by decide)
theorem wGz (T : Top w K mg) {k : Nat} (hk : 1 ≤ k) : XK P w K mg base k "InvalidEntry" ["index"] 1 [] [0] := xk1 T.xi_InvalidEntry hk ⟨rfl, rfl, rfl, by decide +kernel, rfl, by decide +kernel, by decide +kernel⟩ rfl rfl rfl (by decide) (by decide) fun _ _ _ _ _ _ u us ws h1 h2 => match us, ws, h1, h2 with | [_], [], _, _ => rfl
theorem wGy (T : Top w K mg) {k : Nat} (hk : 1 ≤ k) : XK P w K mg base k "InvalidFresh" ["value"] 1 [] [0] := xk1 T.xi_InvalidFresh hk ⟨rfl, rfl, rfl, by decide +kernel, rfl, by decide +kernel, by decide +kernel⟩ rfl rfl rfl (by decide) (by decide) fun _ _ _ _ _ _ u us ws h1 h2 => match us, ws, h1, h2 with | [_], [], _, _ => rfl
theorem wGx (T : Top w K mg) {k : Nat} (hk : 1 ≤ k) : XK P w K mg base k "InvalidRoots" ["value"] 1 [] [0] := xk1 T.xi_InvalidRoots hk ⟨rfl, rfl, rfl, by decide +kernel, rfl, by decide +kernel, by decide +kernel⟩ rfl rfl rfl (by decide) (by decide) fun _ _ _ _ _ _ u us ws h1 h2 => match us, ws, h1, h2 with | [_], [], _, _ => rfl
theorem wGw (T : Top w K mg) {k : Nat} (hk : 1 ≤ k) : XK P w K mg base k "InvalidRegisters" ["index"] 1 [] [0] := xk1 T.xi_InvalidRegisters hk ⟨rfl, rfl, rfl, by decide +kernel, rfl, by decide +kernel, by decide +kernel⟩ rfl rfl rfl (by decide) (by decide) fun _ _ _ _ _ _ u us ws h1 h2 => match us, ws, h1, h2 with | [_], [], _, _ => rfl
theorem wGv (T : Top w K mg) {k : Nat} (hk : 1 ≤ k) : XK P w K mg base k "InvalidStep" ["index", "reason"] 2 [] [0, 1] := xk2 T.xi_InvalidStep hk ⟨rfl, rfl, rfl, by decide +kernel, rfl, by decide +kernel, by decide +kernel⟩ rfl rfl rfl rfl (by decide) (by decide) (by decide) (by decide) fun _ _ _ _ _ _ u us ws h1 h2 => match us, ws, h1, h2 with | [_, _], [], _, _ => rfl
theorem wGu (T : Top w K mg) {k : Nat} (hk : 1 ≤ k) : XK P w K mg base k "InvalidCertificate" ["reason"] 1 [] [0] := xk1 T.xi_InvalidCertificate hk ⟨rfl, rfl, rfl, by decide +kernel, rfl, by decide +kernel, by decide +kernel⟩ rfl rfl rfl (by decide) (by decide) fun _ _ _ _ _ _ u us ws h1 h2 => match us, ws, h1, h2 with | [_], [], _, _ => rfl
theorem wGt (T : Top w K mg) {k : Nat} (hk : 1 ≤ k) : XK P w K mg base k "InvalidChange" ["index"] 1 [] [0] := xk1 T.xi_InvalidChange hk ⟨rfl, rfl, rfl, by decide +kernel, rfl, by decide +kernel, by decide +kernel⟩ rfl rfl rfl (by decide) (by decide) fun _ _ _ _ _ _ u us ws h1 h2 => match us, ws, h1, h2 with | [_], [], _, _ => rfl
theorem wGs (T : Top w K mg) {k : Nat} (hk : 1 ≤ k) : XK P w K mg base k "InvalidGoal" ["value"] 1 [] [0] := xk1 T.xi_InvalidGoal hk ⟨rfl, rfl, rfl, by decide +kernel, rfl, by decide +kernel, by decide +kernel⟩ rfl rfl rfl (by decide) (by decide) fun _ _ _ _ _ _ u us ws h1 h2 => match us, ws, h1, h2 with | [_], [], _, _ => rfl
theorem wGr (T : Top w K mg) {k : Nat} (hk : 1 ≤ k) : XK P w K mg base k "ParseError" ["line", "word"] 2 [] [0, 1] := xk2 T.xi_ParseError hk ⟨rfl, rfl, rfl, by decide +kernel, rfl, by decide +kernel, by decide +kernel⟩ rfl rfl rfl rfl (by decide) (by decide) (by decide) (by decide) fun _ _ _ _ _ _ u us ws h1 h2 => match us, ws, h1, h2 with | [_, _], [], _, _ => rfl
theorem wGq (T : Top w K mg) {k : Nat} (hk : 1 ≤ k) : XK P w K mg base k "UnknownCommand" ["command"] 1 [] [0] := xk1 T.xi_UnknownCommand hk ⟨rfl, rfl, rfl, by decide +kernel, rfl, by decide +kernel, by decide +kernel⟩ rfl rfl rfl (by decide) (by decide) fun _ _ _ _ _ _ u us ws h1 h2 => match us, ws, h1, h2 with | [_], [], _, _ => rfl
theorem wKi (T : Top w K mg) {k : Nat} (hk : 1 ≤ k) : XK P w K mg base k "NoObject" ["index"] 1 [] [0] := xk1 T.xi_NoObject hk ⟨rfl, rfl, rfl, by decide +kernel, rfl, by decide +kernel, by decide +kernel⟩ rfl rfl rfl (by decide) (by decide) fun _ _ _ _ _ _ u us ws h1 h2 => match us, ws, h1, h2 with | [_], [], _, _ => rfl
theorem wKh (T : Top w K mg) {k : Nat} (hk : 1 ≤ k) : XK P w K mg base k "NoInvariant" ["name"] 1 [] [0] := xk1 T.xi_NoInvariant hk ⟨rfl, rfl, rfl, by decide +kernel, rfl, by decide +kernel, by decide +kernel⟩ rfl rfl rfl (by decide) (by decide) fun _ _ _ _ _ _ u us ws h1 h2 => match us, ws, h1, h2 with | [_], [], _, _ => rfl
theorem wKg (T : Top w K mg) {k : Nat} (hk : 1 ≤ k) : XK P w K mg base k "NothingToUndo" ["count"] 1 [] [0] := xk1 T.xi_NothingToUndo hk ⟨rfl, rfl, rfl, by decide +kernel, rfl, by decide +kernel, by decide +kernel⟩ rfl rfl rfl (by decide) (by decide) fun _ _ _ _ _ _ u us ws h1 h2 => match us, ws, h1, h2 with | [_], [], _, _ => rfl
theorem wKf (T : Top w K mg) {k : Nat} (hk : 1 ≤ k) : XK P w K mg base k "TooMany" ["limit"] 1 [] [0] := xk1 T.xi_TooMany hk ⟨rfl, rfl, rfl, by decide +kernel, rfl, by decide +kernel, by decide +kernel⟩ rfl rfl rfl (by decide) (by decide) fun _ _ _ _ _ _ u us ws h1 h2 => match us, ws, h1, h2 with | [_], [], _, _ => rfl
theorem wKe (T : Top w K mg) {k : Nat} (hk : 1 ≤ k) : XK P w K mg base k "InvalidThreads" ["index"] 1 [] [0] := xk1 T.xi_InvalidThreads hk ⟨rfl, rfl, rfl, by decide +kernel, rfl, by decide +kernel, by decide +kernel⟩ rfl rfl rfl (by decide) (by decide) fun _ _ _ _ _ _ u us ws h1 h2 => match us, ws, h1, h2 with | [_], [], _, _ => rfl
theorem wKd (T : Top w K mg) {k : Nat} (hk : 1 ≤ k) : XK P w K mg base k "InvalidEntry" ["index"] 0 ["index"] [0] := xk1 T.xi_InvalidEntry hk ⟨rfl, rfl, rfl, by decide +kernel, rfl, by decide +kernel, by decide +kernel⟩ rfl rfl rfl (by decide) (by decide) fun _ _ _ _ _ _ u us ws h1 h2 => match us, ws, h1, h2 with | [], [_], _, _ => rfl
theorem wKc (T : Top w K mg) {k : Nat} (hk : 1 ≤ k) : XK P w K mg base k "InvalidFresh" ["value"] 0 ["value"] [0] := xk1 T.xi_InvalidFresh hk ⟨rfl, rfl, rfl, by decide +kernel, rfl, by decide +kernel, by decide +kernel⟩ rfl rfl rfl (by decide) (by decide) fun _ _ _ _ _ _ u us ws h1 h2 => match us, ws, h1, h2 with | [], [_], _, _ => rfl
theorem wKb (T : Top w K mg) {k : Nat} (hk : 1 ≤ k) : XK P w K mg base k "InvalidRoots" ["value"] 0 ["value"] [0] := xk1 T.xi_InvalidRoots hk ⟨rfl, rfl, rfl, by decide +kernel, rfl, by decide +kernel, by decide +kernel⟩ rfl rfl rfl (by decide) (by decide) fun _ _ _ _ _ _ u us ws h1 h2 => match us, ws, h1, h2 with | [], [_], _, _ => rfl
theorem wKa (T : Top w K mg) {k : Nat} (hk : 1 ≤ k) : XK P w K mg base k "InvalidRegisters" ["index"] 0 ["index"] [0] := xk1 T.xi_InvalidRegisters hk ⟨rfl, rfl, rfl, by decide +kernel, rfl, by decide +kernel, by decide +kernel⟩ rfl rfl rfl (by decide) (by decide) fun _ _ _ _ _ _ u us ws h1 h2 => match us, ws, h1, h2 with | [], [_], _, _ => rfl
theorem wV9 (T : Top w K mg) {k : Nat} (hk : 1 ≤ k) : XK P w K mg base k "InvalidStep" ["index", "reason"] 0 ["reason", "index"] [1, 0] := xk2 T.xi_InvalidStep hk ⟨rfl, rfl, rfl, by decide +kernel, rfl, by decide +kernel, by decide +kernel⟩ rfl rfl rfl rfl (by decide) (by decide) (by decide) (by decide) fun _ _ _ _ _ _ u us ws h1 h2 => match us, ws, h1, h2 with | [], [_, _], _, _ => rfl
theorem wV8 (T : Top w K mg) {k : Nat} (hk : 1 ≤ k) : XK P w K mg base k "InvalidCertificate" ["reason"] 0 ["reason"] [0] := xk1 T.xi_InvalidCertificate hk ⟨rfl, rfl, rfl, by decide +kernel, rfl, by decide +kernel, by decide +kernel⟩ rfl rfl rfl (by decide) (by decide) fun _ _ _ _ _ _ u us ws h1 h2 => match us, ws, h1, h2 with | [], [_], _, _ => rfl
theorem wV7 (T : Top w K mg) {k : Nat} (hk : 1 ≤ k) : XK P w K mg base k "InvalidChange" ["index"] 0 ["index"] [0] := xk1 T.xi_InvalidChange hk ⟨rfl, rfl, rfl, by decide +kernel, rfl, by decide +kernel, by decide +kernel⟩ rfl rfl rfl (by decide) (by decide) fun _ _ _ _ _ _ u us ws h1 h2 => match us, ws, h1, h2 with | [], [_], _, _ => rfl
theorem wV6 (T : Top w K mg) {k : Nat} (hk : 1 ≤ k) : XK P w K mg base k "InvalidGoal" ["value"] 0 ["value"] [0] := xk1 T.xi_InvalidGoal hk ⟨rfl, rfl, rfl, by decide +kernel, rfl, by decide +kernel, by decide +kernel⟩ rfl rfl rfl (by decide) (by decide) fun _ _ _ _ _ _ u us ws h1 h2 => match us, ws, h1, h2 with | [], [_], _, _ => rfl
theorem wV5 (T : Top w K mg) {k : Nat} (hk : 1 ≤ k) : XK P w K mg base k "ParseError" ["line", "word"] 0 ["word", "line"] [1, 0] := xk2 T.xi_ParseError hk ⟨rfl, rfl, rfl, by decide +kernel, rfl, by decide +kernel, by decide +kernel⟩ rfl rfl rfl rfl (by decide) (by decide) (by decide) (by decide) fun _ _ _ _ _ _ u us ws h1 h2 => match us, ws, h1, h2 with | [], [_, _], _, _ => rfl
theorem wV4 (T : Top w K mg) {k : Nat} (hk : 1 ≤ k) : XK P w K mg base k "UnknownCommand" ["command"] 0 ["command"] [0] := xk1 T.xi_UnknownCommand hk ⟨rfl, rfl, rfl, by decide +kernel, rfl, by decide +kernel, by decide +kernel⟩ rfl rfl rfl (by decide) (by decide) fun _ _ _ _ _ _ u us ws h1 h2 => match us, ws, h1, h2 with | [], [_], _, _ => rfl
theorem wV3 (T : Top w K mg) {k : Nat} (hk : 1 ≤ k) : XK P w K mg base k "NoObject" ["index"] 0 ["index"] [0] := xk1 T.xi_NoObject hk ⟨rfl, rfl, rfl, by decide +kernel, rfl, by decide +kernel, by decide +kernel⟩ rfl rfl rfl (by decide) (by decide) fun _ _ _ _ _ _ u us ws h1 h2 => match us, ws, h1, h2 with | [], [_], _, _ => rfl
theorem wV2 (T : Top w K mg) {k : Nat} (hk : 1 ≤ k) : XK P w K mg base k "NoInvariant" ["name"] 0 ["name"] [0] := xk1 T.xi_NoInvariant hk ⟨rfl, rfl, rfl, by decide +kernel, rfl, by decide +kernel, by decide +kernel⟩ rfl rfl rfl (by decide) (by decide) fun _ _ _ _ _ _ u us ws h1 h2 => match us, ws, h1, h2 with | [], [_], _, _ => rfl
theorem wV1 (T : Top w K mg) {k : Nat} (hk : 1 ≤ k) : XK P w K mg base k "NothingToUndo" ["count"] 0 ["count"] [0] := xk1 T.xi_NothingToUndo hk ⟨rfl, rfl, rfl, by decide +kernel, rfl, by decide +kernel, by decide +kernel⟩ rfl rfl rfl (by decide) (by decide) fun _ _ _ _ _ _ u us ws h1 h2 => match us, ws, h1, h2 with | [], [_], _, _ => rfl
theorem wV0 (T : Top w K mg) {k : Nat} (hk : 1 ≤ k) : XK P w K mg base k "TooMany" ["limit"] 0 ["limit"] [0] := xk1 T.xi_TooMany hk ⟨rfl, rfl, rfl, by decide +kernel, rfl, by decide +kernel, by decide +kernel⟩ rfl rfl rfl (by decide) (by decide) fun _ _ _ _ _ _ u us ws h1 h2 => match us, ws, h1, h2 with | [], [_], _, _ => rfl
theorem wVz (T : Top w K mg) {k : Nat} (hk : 1 ≤ k) : XK P w K mg base k "InvalidThreads" ["index"] 0 ["index"] [0] := xk1 T.xi_InvalidThreads hk ⟨rfl, rfl, rfl, by decide +kernel, rfl, by decide +kernel, by decide +kernel⟩ rfl rfl rfl (by decide) (by decide) fun _ _ _ _ _ _ u us ws h1 h2 => match us, ws, h1, h2 with | [], [_], _, _ => rfl
theorem xXv : FnScope ["_law_script"] ["_law_script"] (defScope (zZ1 22)) := ⟨rfl, rfl, rfl, by decide +kernel, rfl, by decide +kernel, by decide +kernel⟩
theorem xXy (T : Top w K mg) (sm : SM base) {f : Addr} {fd : FuncData} (F : Fun K "_law_pen" "_law_pen" (zZ1 22) f fd) : FnG P w K mg base 1 f fd ["_law_script"] (spG K 1 (yVx 1 yG0)) :=
  xQp F xXv sm rfl rfl fun cdv A outer s H E B C po hr => zZv (zXc (zZw (zQb (xJk (xYi C) rfl T.b_list rfl (zWl (wQx (zQd 0 rfl (.inl rfl) yGt yGs) (xV3) (xV2 (zQ3))) (yZl))) (zQb (zQ3) (zQb (zQ3) (zQu))))))
theorem xVc (T : Top w K mg) (sm : SM base) {k : Nat} (hk : 1 ≤ k) : xWj P w K mg base k "_law_pen" ["_law_script"] yUw := yGu T.f__law_pen hk (xXy T sm)
theorem xZy : FnScope ["_law_pen_here", "_law_many", "_law_digit", "_law_at", "_law_cell", "_law_large", "_law_mixed"] ["_law_pen_here", "_law_many"] (defScope (zZ1 23)) := ⟨rfl, rfl, rfl, by decide +kernel, rfl, by decide +kernel, by decide +kernel⟩
theorem xZ3 (T : Top w K mg) (sm : SM base) {f : Addr} {fd : FuncData} (F : Fun K "_law_draw" "_law_draw" (zZ1 23) f fd) : FnG P w K mg base 1 f fd ["_law_pen_here", "_law_many"] (spG K 2 (yVx 7 yGc)) :=
  xQp F xZy sm rfl rfl fun cdv A outer s H E B C po hr => zZk (yK3 (zZ2 C (yVu C (zQd 0 rfl (.inl rfl) zZs zZr) (zQ3) yK9) (zQ3)) (zZk (zU6 2 C rfl (.inl rfl) (zZt (yVu C (zQd 0 rfl (.inl rfl) zZs zZr) (zQ3) yK9) (zQd 1 rfl (.inl rfl) yVq yVp))) (zZk (yH4 C (zZt (yVu C (zQd 0 rfl (.inl rfl) zZs zZr) (zQ3) yK9) (zQd 1 rfl (.inl rfl) yVq yVp)) (zQd 0 rfl (.inl rfl) zZs zZr) (zQ3)) (zZv (zXc (zQd 2 rfl (.inl rfl) xZf xZe))))) (zJ0)) (zZk (zU6 3 C rfl (.inl rfl) (yVu C (zQd 0 rfl (.inl rfl) zZs zZr) (zQ3) yK9)) (zZk (yH4 C (zZt (zQd 3 rfl (.inl rfl) yZg yZf) (zQ3)) (zQd 0 rfl (.inl rfl) zZs zZr) (zQ3)) (zZk (zU6 4 C rfl (.inl rfl) (zZt (zZt (zQ3) (zQd 3 rfl (.inl rfl) yZg yZf)) (zQ3))) (zZk (yK3 (zZ2 C (yVu C (zQd 0 rfl (.inl rfl) zZs zZr) (zQ3) yK9) (zZw (zQu))) (zZv (zU6 4 C rfl (.inl rfl) (yVu C (yVu C (zQd 0 rfl (.inl rfl) zZs zZr) (zQ3) yK9) (zZt (zQd 3 rfl (.inl rfl) yZg yZf) (yGz (xKj) rfl T.b_len rfl (zWl (yVu C (zQd 0 rfl (.inl rfl) zZs zZr) (zQ3) yK9) (yZl)))) xZz))) (zJ0)) (zZk (yK3 (xWf.t (xW8 (zZ2 C (zQd 3 rfl (.inl rfl) yZg yZf) (yGz (xKj) rfl T.b_len rfl (zWl (yVu C (zQd 0 rfl (.inl rfl) zZs zZr) (zQ3) yK9) (yZl)))) (xVz (zZ2 C (yGz (xUo) rfl T.b_abs rfl (zWl (zQd 4 rfl (.inl rfl) yYp yYo) (yZl))) (zZt (zQ3) (zQ3)))))) (zZk (zU6 5 C rfl (.inl rfl) (zZt (zZt (zQ3) (yGz (xUo) rfl T.b_abs rfl (zWl (zQd 4 rfl (.inl rfl) yYp yYo) (yZl)))) (xJk (wZg) rfl T.b_int rfl (zWl (yH5 C (zQd 4 rfl (.inl rfl) yYp yYo) (zQ3)) (yZl))))) (zZk (yH4 C (zZt (zQd 5 rfl (.inl rfl) yHg yHe) (zQd 1 rfl (.inl rfl) yVq yVp)) (zQd 0 rfl (.inl rfl) zZs zZr) (zQ3)) (zZv (zXc (zZt (zQd 5 rfl (.inl rfl) yHg yHe) (zQd 1 rfl (.inl rfl) yVq yVp)))))) (zJ0)) (zZk (zU6 6 C rfl (.inl rfl) (zZt (zZt (zZt (zZt (zZt (zQd 4 rfl (.inl rfl) yYp yYo) (zQ3)) (zZt (zQ3) (zQd 3 rfl (.inl rfl) yZg yZf))) (zQ3)) (zQ3)) (zQ3))) (zZk (zU6 6 C rfl (.inl rfl) (zZt (zZt (zZt (zZt (zQd 6 rfl (.inl rfl) yHf yHd) (zZt (zZt (zQ3) (zQd 3 rfl (.inl rfl) yZg yZf)) (zQd 3 rfl (.inl rfl) yZg yZf))) (zQ3)) (zQ3)) (zQ3))) (zZv (zXc (zZt (zZt (zZt (zZt (zZt (zQd 6 rfl (.inl rfl) yHf yHd) (zZt (zZt (zQ3) (zQd 3 rfl (.inl rfl) yZg yZf)) (zQ3))) (zQ3)) (zQ3)) (zQ3)) (zQd 1 rfl (.inl rfl) yVq yVp)))))))))))
theorem xX4 (T : Top w K mg) (sm : SM base) {k : Nat} (hk : 1 ≤ k) : xWj P w K mg base k "_law_draw" ["_law_pen_here", "_law_many"] yVr := yGu T.f__law_draw hk (xZ3 T sm)
theorem xQ5 : FnScope ["_law_pen_here", "_law_some"] ["_law_pen_here"] (defScope (zZ1 24)) := ⟨rfl, rfl, rfl, by decide +kernel, rfl, by decide +kernel, by decide +kernel⟩
theorem xZa (T : Top w K mg) (sm : SM base) {f : Addr} {fd : FuncData} (F : Fun K "_law_thing" "_law_thing" (zZ1 24) f fd) : FnG P w K mg base 2 f fd ["_law_pen_here"] (spG K 1 (yVx 2 yY3)) :=
  xQp F xQ5 sm rfl rfl fun cdv A outer s H E B C po hr => zZk (zU6 1 C rfl (.inl rfl) (zZw (zQb (xW6) (zQb (zU9) (zQb (zQ3) (zQb (xGf (zQ3)) (zQb (zZt (zQ3) (zQ3)) (zQb (yHn) (zQb (yHn) (zQb (yK2 (zQu)) (zQb (yK2 (zQb (zQ3) (zQb (yHn) (zQu)))) (zQb (zZw (zQu)) (zQb (zZw (zQb (zQ3) (zQu))) (zQb (xVx) (zQb (xW7 (xJ3 (yHn) (zZw (zQb (zQ3) (zQu))) (xV1))) (zQb (zZw (zQb (zZw (zQb (zQ3) (zQu))) (zQb (zQ3) (zQu)))) (zQb (yK2 (zQb (yHn) (zQb (yHn) (zQu)))) (zQu)))))))))))))))))) (zZv (zXc (yVu C (zQd 1 rfl (.inl rfl) yHx yHw) (yJu C ⟨xX4 T sm (by decide)⟩ rfl hr rfl (zQb (zQd 0 rfl (.inl rfl) zZs zZr) (zQb (yGz (xKj) rfl T.b_len rfl (zWl (zQd 1 rfl (.inl rfl) yHx yHw) (yZl))) (zQu)))) xGo)))
theorem yHy (T : Top w K mg) (sm : SM base) {k : Nat} (hk : 2 ≤ k) : xWj P w K mg base k "_law_thing" ["_law_pen_here"] yJo := yGu T.f__law_thing hk (xZa T sm)
theorem xQ7 : FnScope ["_law_e", "_law_found", "_law_k", "_law_told"] ["_law_e"] (defScope (zZ1 25)) := ⟨rfl, rfl, rfl, by decide +kernel, rfl, by decide +kernel, by decide +kernel⟩
theorem xZc (T : Top w K mg) (sm : SM base) {f : Addr} {fd : FuncData} (F : Fun K "_law_kinds" "_law_kinds" (zZ1 25) f fd) : FnG P w K mg base 1 f fd ["_law_e"] (spG K 1 (yVx 4 yG9)) :=
  xQp F xQ7 sm rfl rfl fun cdv A outer s H E B C po hr => zZk (zU6 1 C rfl (.inl rfl) (zZw (zQb (zZ8 (zQd 0 rfl (.inl rfl) zZh zZg) rfl T.b_isinstance T.is_0 (.cons rfl (by decide) (by decide) rfl (.nil))) (zQb (zZ8 (zQd 0 rfl (.inl rfl) zZh zZg) rfl T.b_isinstance T.is_1 (.cons rfl (by decide) (by decide) rfl (.nil))) (zQb (zZ8 (zQd 0 rfl (.inl rfl) zZh zZg) rfl T.b_isinstance T.is_2 (.cons rfl (by decide) (by decide) rfl (.nil))) (zQu)))))) (zZk (zU6 1 C rfl (.inl rfl) (zZt (zQd 1 rfl (.inl rfl) zV0 zVz) (zZw (zQb (zZ8 (zQd 0 rfl (.inl rfl) zZh zZg) rfl T.b_isinstance T.is_3 (.cons rfl (by decide) (by decide) rfl (.nil))) (zQb (zZ8 (zQd 0 rfl (.inl rfl) zZh zZg) rfl T.b_isinstance T.is_4 (.cons rfl (by decide) (by decide) rfl (.nil))) (zQb (zZ8 (zQd 0 rfl (.inl rfl) zZh zZg) rfl T.b_isinstance T.is_5 (.cons rfl (by decide) (by decide) rfl (.nil))) (zQu))))))) (zZk (zU6 1 C rfl (.inl rfl) (zZt (zQd 1 rfl (.inl rfl) zV0 zVz) (zZw (zQb (zZ8 (zQd 0 rfl (.inl rfl) zZh zZg) rfl T.b_isinstance T.is_6 (.cons rfl (by decide) (by decide) rfl (.nil))) (zQb (zZ8 (zQd 0 rfl (.inl rfl) zZh zZg) rfl T.b_isinstance T.is_7 (.cons rfl (by decide) (by decide) rfl (.nil))) (zQb (zZ8 (zQd 0 rfl (.inl rfl) zZh zZg) rfl T.b_isinstance T.is_8 (.cons rfl (by decide) (by decide) rfl (.nil))) (zQu))))))) (zZk (zU6 1 C rfl (.inl rfl) (zZt (zQd 1 rfl (.inl rfl) zV0 zVz) (zZw (zQb (zZ8 (zQd 0 rfl (.inl rfl) zZh zZg) rfl T.b_isinstance T.is_9 (.cons rfl (by decide) (by decide) rfl (.nil))) (zQb (zZ8 (zQd 0 rfl (.inl rfl) zZh zZg) rfl T.b_isinstance T.is_10 (.cons rfl (by decide) (by decide) rfl (.nil))) (zQb (zZ8 (zQd 0 rfl (.inl rfl) zZh zZg) rfl T.b_isinstance T.is_11 (.cons rfl (by decide) (by decide) rfl (.nil))) (zQu))))))) (zZk (zU6 1 C rfl (.inl rfl) (zZt (zQd 1 rfl (.inl rfl) zV0 zVz) (zZw (zQb (zZ8 (zQd 0 rfl (.inl rfl) zZh zZg) rfl T.b_isinstance T.is_12 (.cons rfl (by decide) (by decide) rfl (.nil))) (zQb (zZ8 (zQd 0 rfl (.inl rfl) zZh zZg) rfl T.b_isinstance T.is_13 (.cons rfl (by decide) (by decide) rfl (.nil))) (zQb (zZ8 (zQd 0 rfl (.inl rfl) zZh zZg) rfl T.b_isinstance T.is_14 (.cons rfl (by decide) (by decide) rfl (.nil))) (zQu))))))) (zZk (zU6 1 C rfl (.inl rfl) (zZt (zQd 1 rfl (.inl rfl) zV0 zVz) (zZw (zQb (zZ8 (zQd 0 rfl (.inl rfl) zZh zZg) rfl T.b_isinstance T.is_15 (.cons rfl (by decide) (by decide) rfl (.nil))) (zQb (zZ8 (zQd 0 rfl (.inl rfl) zZh zZg) rfl T.b_isinstance T.is_16 (.cons rfl (by decide) (by decide) rfl (.nil))) (zQb (zZ8 (zQd 0 rfl (.inl rfl) zZh zZg) rfl T.b_isinstance T.is_17 (.cons rfl (by decide) (by decide) rfl (.nil))) (zQu))))))) (zZk (xGh 1 rfl (.inl rfl) (zZ8 (zQd 0 rfl (.inl rfl) zZh zZg) rfl T.b_isinstance T.is_18 (.cons rfl (by decide) (by decide) rfl (.nil)))) (zZv (zXc (wQy (own := [("_law_k", 2), ("_law_told", 3)]) C (wXg (by rfl)) (wZh (xJn (xQa) (xJn (xQa) (xGx)))) (xHw.e (xJ4 rfl T.b_enumerate (zQb (zQd 1 rfl (.inl rfl) zV0 zVz) (zQu)))) (fun s1 H1 K1 l1 p1 => xYb 2 (xX5 C s1 H1 K1 l1 p1) (xQt (yGa 2 (xX5 C s1 H1 K1 l1 p1) rfl (.inl rfl) (by decide)) (xQt (yGa 3 (xX5 C s1 H1 K1 l1 p1) rfl (.inl rfl) (by decide)) (xV4)))) (fun s1 H1 K1 l1 p1 => xV0 (xW9 (zQd 3 rfl (.inl rfl) xZ7 xZ6))) (fun s1 H1 K1 l1 p1 => zQd 2 rfl (.inl rfl) zZq zZp))))))))))
theorem xXa (T : Top w K mg) (sm : SM base) {k : Nat} (hk : 1 ≤ k) : xWj P w K mg base k "_law_kinds" ["_law_e"] yUy := yGu T.f__law_kinds hk (xZc T sm)
theorem xQ8 : FnScope ["_law_e", "_law_found"] ["_law_e"] (defScope (zZ1 26)) := ⟨rfl, rfl, rfl, by decide +kernel, rfl, by decide +kernel, by decide +kernel⟩
theorem xZd (T : Top w K mg) (sm : SM base) {f : Addr} {fd : FuncData} (F : Fun K "_law_bases" "_law_bases" (zZ1 26) f fd) : FnG P w K mg base 1 f fd ["_law_e"] (spG K 1 (yVx 2 yHa)) :=
  xQp F xQ8 sm rfl rfl fun cdv A outer s H E B C po hr => zZk (zU6 1 C rfl (.inl rfl) (zZw (zQb (zZ8 (zQd 0 rfl (.inl rfl) zZh zZg) rfl T.b_isinstance T.is_19 (.cons rfl (by decide) (by decide) rfl (.nil))) (zQb (zZ8 (zQd 0 rfl (.inl rfl) zZh zZg) rfl T.b_isinstance T.is_20 (.cons rfl (by decide) (by decide) rfl (.nil))) (zQb (zZ8 (zQd 0 rfl (.inl rfl) zZh zZg) rfl T.b_isinstance T.is_21 (.cons rfl (by decide) (by decide) rfl (.nil))) (zQb (zZ8 (zQd 0 rfl (.inl rfl) zZh zZg) rfl T.b_isinstance T.is_22 (.cons rfl (by decide) (by decide) rfl (.nil))) (zQu))))))) (zZv (zXc (zZt (zQd 1 rfl (.inl rfl) zV0 zVz) (zZw (zQb (zZ8 (zQd 0 rfl (.inl rfl) zZh zZg) rfl T.b_isinstance T.is_23 (.cons rfl (by decide) (by decide) rfl (.nil))) (zQb (zZ8 (zQd 0 rfl (.inl rfl) zZh zZg) rfl T.b_isinstance T.is_24 (.cons rfl (by decide) (by decide) rfl (.nil))) (zQu)))))))
theorem xXb (T : Top w K mg) (sm : SM base) {k : Nat} (hk : 1 ≤ k) : xWj P w K mg base k "_law_bases" ["_law_e"] yUz := yGu T.f__law_bases hk (xZd T sm)
theorem xQl : FnScope ["_law_k", "_law_a", "_law_b"] ["_law_k", "_law_a", "_law_b"] (defScope (zZ1 27)) := ⟨rfl, rfl, rfl, by decide +kernel, rfl, by decide +kernel, by decide +kernel⟩
theorem xQn (T : Top w K mg) (sm : SM base) {f : Addr} {fd : FuncData} (F : Fun K "_law_placed" "_law_placed" (zZ1 27) f fd) : FnG P w K mg base 3 f fd ["_law_k", "_law_a", "_law_b"] (spG K 3 (yVx 3 yGq)) :=
  xQp F xQl sm rfl rfl fun cdv A outer s H E B C po hr => zZk (yK3 (zZ2 C (zQd 0 rfl (.inl rfl) zZq zZp) (zQ3)) (zZv (zXc (yVu C (zZw (zQb (zZ3 C (wGz T (k := 1) (by decide)) (hr.mono (by decide)) rfl (zJ1 (zQb (zQd 1 rfl (.inl rfl) zZo zZn) (zQu)) (zZu)) rfl rfl) (zQb (zZ3 C (wGy T (k := 1) (by decide)) (hr.mono (by decide)) rfl (zJ1 (zQb (zQd 1 rfl (.inl rfl) zZo zZn) (zQu)) (zZu)) rfl rfl) (zQb (zZ3 C (wGx T (k := 1) (by decide)) (hr.mono (by decide)) rfl (zJ1 (zQb (zQd 1 rfl (.inl rfl) zZo zZn) (zQu)) (zZu)) rfl rfl) (zQb (yK8 C T.x0_InvalidHeap rfl) (zQb (zZ3 C (wGw T (k := 1) (by decide)) (hr.mono (by decide)) rfl (zJ1 (zQb (zQd 1 rfl (.inl rfl) zZo zZn) (zQu)) (zZu)) rfl rfl) (zQb (yK8 C T.x0_InvalidState rfl) (zQb (zZ3 C (wGv T (k := 1) (by decide)) (hr.mono (by decide)) rfl (zJ1 (zQb (zQd 1 rfl (.inl rfl) zZo zZn) (zQb (zQd 2 rfl (.inl rfl) yK5 yK4) (zQu))) (zZu)) rfl rfl) (zQu))))))))) (zQd 0 rfl (.inl rfl) zZq zZp) xKb))) (zJ0)) (zZk (yK3 (zZ2 C (zQd 0 rfl (.inl rfl) zZq zZp) (zQ3)) (zZv (zXc (yVu C (zZw (zQb (zZ3 C (wGu T (k := 1) (by decide)) (hr.mono (by decide)) rfl (zJ1 (zQb (zQd 1 rfl (.inl rfl) zZo zZn) (zQu)) (zZu)) rfl rfl) (zQb (zZ3 C (wGt T (k := 1) (by decide)) (hr.mono (by decide)) rfl (zJ1 (zQb (zQd 1 rfl (.inl rfl) zZo zZn) (zQu)) (zZu)) rfl rfl) (zQb (zZ3 C (wGs T (k := 1) (by decide)) (hr.mono (by decide)) rfl (zJ1 (zQb (zQd 1 rfl (.inl rfl) zZo zZn) (zQu)) (zZu)) rfl rfl) (zQb (zZ3 C (wGr T (k := 1) (by decide)) (hr.mono (by decide)) rfl (zJ1 (zQb (zQd 1 rfl (.inl rfl) zZo zZn) (zQb (zQd 2 rfl (.inl rfl) yK5 yK4) (zQu))) (zZu)) rfl rfl) (zQb (zZ3 C (wGq T (k := 1) (by decide)) (hr.mono (by decide)) rfl (zJ1 (zQb (zQd 1 rfl (.inl rfl) zZo zZn) (zQu)) (zZu)) rfl rfl) (zQb (yK8 C T.x0_Started rfl) (zQb (yK8 C T.x0_Mismatch rfl) (zQu))))))))) (zZt (zQd 0 rfl (.inl rfl) zZq zZp) (zQ3)) xZz))) (zJ0)) (zZv (zXc (yVu C (zZw (zQb (zZ3 C (wKi T (k := 1) (by decide)) (hr.mono (by decide)) rfl (zJ1 (zQb (zQd 1 rfl (.inl rfl) zZo zZn) (zQu)) (zZu)) rfl rfl) (zQb (zZ3 C (wKh T (k := 1) (by decide)) (hr.mono (by decide)) rfl (zJ1 (zQb (zQd 1 rfl (.inl rfl) zZo zZn) (zQu)) (zZu)) rfl rfl) (zQb (zZ3 C (wKg T (k := 1) (by decide)) (hr.mono (by decide)) rfl (zJ1 (zQb (zQd 1 rfl (.inl rfl) zZo zZn) (zQu)) (zZu)) rfl rfl) (zQb (zZ3 C (wKf T (k := 1) (by decide)) (hr.mono (by decide)) rfl (zJ1 (zQb (zQd 1 rfl (.inl rfl) zZo zZn) (zQu)) (zZu)) rfl rfl) (zQb (zZ3 C (wKe T (k := 1) (by decide)) (hr.mono (by decide)) rfl (zJ1 (zQb (zQd 1 rfl (.inl rfl) zZo zZn) (zQu)) (zZu)) rfl rfl) (zQu))))))) (zZt (zQd 0 rfl (.inl rfl) zZq zZp) (zQ3)) xZz))))
theorem xZk (T : Top w K mg) (sm : SM base) {k : Nat} (hk : 3 ≤ k) : xWj P w K mg base k "_law_placed" ["_law_k", "_law_a", "_law_b"] yYr := yGu T.f__law_placed hk (xQn T sm)
theorem xQ6 : FnScope ["_law_k", "_law_a", "_law_b"] ["_law_k", "_law_a", "_law_b"] (defScope (zZ1 28)) := ⟨rfl, rfl, rfl, by decide +kernel, rfl, by decide +kernel, by decide +kernel⟩
theorem xZb (T : Top w K mg) (sm : SM base) {f : Addr} {fd : FuncData} (F : Fun K "_law_named" "_law_named" (zZ1 28) f fd) : FnG P w K mg base 3 f fd ["_law_k", "_law_a", "_law_b"] (spG K 3 (yVx 3 yG8)) :=
  xQp F xQ6 sm rfl rfl fun cdv A outer s H E B C po hr => zZk (yK3 (zZ2 C (zQd 0 rfl (.inl rfl) zZq zZp) (zQ3)) (zZv (zXc (yVu C (zZw (zQb (zZ3 C (wKd T (k := 1) (by decide)) (hr.mono (by decide)) rfl (zXa (zZ7 (zQd 1 rfl (.inl rfl) zZo zZn) (zZu))) rfl rfl) (zQb (zZ3 C (wKc T (k := 1) (by decide)) (hr.mono (by decide)) rfl (zXa (zZ7 (zQd 1 rfl (.inl rfl) zZo zZn) (zZu))) rfl rfl) (zQb (zZ3 C (wKb T (k := 1) (by decide)) (hr.mono (by decide)) rfl (zXa (zZ7 (zQd 1 rfl (.inl rfl) zZo zZn) (zZu))) rfl rfl) (zQb (yK8 C T.x0_InvalidHeap rfl) (zQb (zZ3 C (wKa T (k := 1) (by decide)) (hr.mono (by decide)) rfl (zXa (zZ7 (zQd 1 rfl (.inl rfl) zZo zZn) (zZu))) rfl rfl) (zQb (yK8 C T.x0_InvalidState rfl) (zQb (zZ3 C (wV9 T (k := 1) (by decide)) (hr.mono (by decide)) rfl (zXa (zZ7 (zQd 2 rfl (.inl rfl) yK5 yK4) (zZ7 (zQd 1 rfl (.inl rfl) zZo zZn) (zZu)))) rfl rfl) (zQu))))))))) (zQd 0 rfl (.inl rfl) zZq zZp) xKb))) (zJ0)) (zZk (yK3 (zZ2 C (zQd 0 rfl (.inl rfl) zZq zZp) (zQ3)) (zZv (zXc (yVu C (zZw (zQb (zZ3 C (wV8 T (k := 1) (by decide)) (hr.mono (by decide)) rfl (zXa (zZ7 (zQd 1 rfl (.inl rfl) zZo zZn) (zZu))) rfl rfl) (zQb (zZ3 C (wV7 T (k := 1) (by decide)) (hr.mono (by decide)) rfl (zXa (zZ7 (zQd 1 rfl (.inl rfl) zZo zZn) (zZu))) rfl rfl) (zQb (zZ3 C (wV6 T (k := 1) (by decide)) (hr.mono (by decide)) rfl (zXa (zZ7 (zQd 1 rfl (.inl rfl) zZo zZn) (zZu))) rfl rfl) (zQb (zZ3 C (wV5 T (k := 1) (by decide)) (hr.mono (by decide)) rfl (zXa (zZ7 (zQd 2 rfl (.inl rfl) yK5 yK4) (zZ7 (zQd 1 rfl (.inl rfl) zZo zZn) (zZu)))) rfl rfl) (zQb (zZ3 C (wV4 T (k := 1) (by decide)) (hr.mono (by decide)) rfl (zXa (zZ7 (zQd 1 rfl (.inl rfl) zZo zZn) (zZu))) rfl rfl) (zQb (yK8 C T.x0_Started rfl) (zQb (yK8 C T.x0_Mismatch rfl) (zQu))))))))) (zZt (zQd 0 rfl (.inl rfl) zZq zZp) (zQ3)) xZz))) (zJ0)) (zZv (zXc (yVu C (zZw (zQb (zZ3 C (wV3 T (k := 1) (by decide)) (hr.mono (by decide)) rfl (zXa (zZ7 (zQd 1 rfl (.inl rfl) zZo zZn) (zZu))) rfl rfl) (zQb (zZ3 C (wV2 T (k := 1) (by decide)) (hr.mono (by decide)) rfl (zXa (zZ7 (zQd 1 rfl (.inl rfl) zZo zZn) (zZu))) rfl rfl) (zQb (zZ3 C (wV1 T (k := 1) (by decide)) (hr.mono (by decide)) rfl (zXa (zZ7 (zQd 1 rfl (.inl rfl) zZo zZn) (zZu))) rfl rfl) (zQb (zZ3 C (wV0 T (k := 1) (by decide)) (hr.mono (by decide)) rfl (zXa (zZ7 (zQd 1 rfl (.inl rfl) zZo zZn) (zZu))) rfl rfl) (zQb (zZ3 C (wVz T (k := 1) (by decide)) (hr.mono (by decide)) rfl (zXa (zZ7 (zQd 1 rfl (.inl rfl) zZo zZn) (zZu))) rfl rfl) (zQu))))))) (zZt (zQd 0 rfl (.inl rfl) zZq zZp) (zQ3)) xZz))))
theorem xZ9 (T : Top w K mg) (sm : SM base) {k : Nat} (hk : 3 ≤ k) : xWj P w K mg base k "_law_named" ["_law_k", "_law_a", "_law_b"] yUx := yGu T.f__law_named hk (xZb T sm)
theorem xQm : FnScope ["_law_k", "_law_e"] ["_law_k", "_law_e"] (defScope (zZ1 29)) := ⟨rfl, rfl, rfl, by decide +kernel, rfl, by decide +kernel, by decide +kernel⟩
theorem xQo (T : Top w K mg) (sm : SM base) {f : Addr} {fd : FuncData} (F : Fun K "_law_fields" "_law_fields" (zZ1 29) f fd) : FnG P w K mg base 1 f fd ["_law_k", "_law_e"] (spG K 2 (yVx 2 yGr)) :=
  xQp F xQm sm rfl rfl fun cdv A outer s H E B C po hr => zZk (yK3 (zZ2 C (zQd 0 rfl (.inl rfl) zZq zZp) (yK2 (zQb (zQ3) (zQb (zQ3) (zQb (zQ3) (zQb (zQ3) (zQu))))))) (zZv (zXc (zZw (zQu)))) (zJ0)) (zZk (yK3 (zZ2 C (zQd 0 rfl (.inl rfl) zZq zZp) (yK2 (zQb (zQ3) (zQb (zQ3) (zQu))))) (zZv (zXc (yYu (zZ2 C (zQd 0 rfl (.inl rfl) zZq zZp) (zQ3)) (zZw (zQb (yU9 (zQd 1 rfl (.inl rfl) zZh zZg) (zZz T.e_NoObject (by decide) (zZz T.e_InvalidThreads (by decide) (zZz T.e_InvalidEntry (by decide) (zZz T.e_InvalidRegisters (by decide) (zZz T.e_InvalidStep (by decide) (zZz T.e_InvalidChange (by decide) (yK0)))))))) (zQb (yU9 (zQd 1 rfl (.inl rfl) zZh zZg) (zZz T.e_InvalidStep (by decide) (zZz T.e_InvalidCertificate (by decide) (yK0)))) (zQu)))) (zZw (zQb (yU9 (zQd 1 rfl (.inl rfl) zZh zZg) (zZz T.e_ParseError (by decide) (yK0))) (zQb (yU9 (zQd 1 rfl (.inl rfl) zZh zZg) (zZz T.e_ParseError (by decide) (yK0))) (zQu))))))) (zJ0)) (zZk (yK3 (zZ2 C (zQd 0 rfl (.inl rfl) zZq zZp) (yK2 (zQb (zQ3) (zQb (zQ3) (zQb (zQ3) (zQu)))))) (zZv (zXc (zZw (zQb (yU9 (zQd 1 rfl (.inl rfl) zZh zZg) (zZz T.e_InvalidFresh (by decide) (zZz T.e_InvalidRoots (by decide) (zZz T.e_InvalidGoal (by decide) (yK0))))) (zQu))))) (zJ0)) (zZk (yK3 (zZ2 C (zQd 0 rfl (.inl rfl) zZq zZp) (yK2 (zQb (zQ3) (zQb (zQ3) (zQb (zQ3) (zQu)))))) (zZv (zXc (zZw (zQb (yYu (zZ2 C (zQd 0 rfl (.inl rfl) zZq zZp) (zQ3)) (yU9 (zQd 1 rfl (.inl rfl) zZh zZg) (zZz T.e_InvalidStep (by decide) (zZz T.e_InvalidCertificate (by decide) (yK0)))) (yYu (zZ2 C (zQd 0 rfl (.inl rfl) zZq zZp) (zQ3)) (yU9 (zQd 1 rfl (.inl rfl) zZh zZg) (zZz T.e_UnknownCommand (by decide) (yK0))) (yU9 (zQd 1 rfl (.inl rfl) zZh zZg) (zZz T.e_NoInvariant (by decide) (yK0))))) (zQu))))) (zJ0)) (zZk (yK3 (zZ2 C (zQd 0 rfl (.inl rfl) zZq zZp) (yK2 (zQb (zQ3) (zQb (zQ3) (zQu))))) (zZv (zXc (zZw (zQb (yYu (zZ2 C (zQd 0 rfl (.inl rfl) zZq zZp) (zQ3)) (yU9 (zQd 1 rfl (.inl rfl) zZh zZg) (zZz T.e_NothingToUndo (by decide) (yK0))) (yU9 (zQd 1 rfl (.inl rfl) zZh zZg) (zZz T.e_TooMany (by decide) (yK0)))) (zQu))))) (zJ0)) (zZv (zXc (zZw (zQb (yU9 (zQd 1 rfl (.inl rfl) zZh zZg) (zZz T.e_NoObject (by decide) (zZz T.e_InvalidThreads (by decide) (zZz T.e_InvalidEntry (by decide) (zZz T.e_InvalidRegisters (by decide) (zZz T.e_InvalidStep (by decide) (zZz T.e_InvalidChange (by decide) (yK0)))))))) (zQu)))))))))
theorem xZl (T : Top w K mg) (sm : SM base) {k : Nat} (hk : 1 ≤ k) : xWj P w K mg base k "_law_fields" ["_law_k", "_law_e"] yYs := yGu T.f__law_fields hk (xQo T sm)
theorem yHo : FnScope ["_law_k"] ["_law_k"] (defScope (zZ1 30)) := ⟨rfl, rfl, rfl, by decide +kernel, rfl, by decide +kernel, by decide +kernel⟩
theorem yHq (T : Top w K mg) (sm : SM base) {f : Addr} {fd : FuncData} (F : Fun K "_law_due_bases" "_law_due_bases" (zZ1 30) f fd) : FnG P w K mg base 1 f fd ["_law_k"] (spG K 1 (yVx 1 yYv)) :=
  xQp F yHo sm rfl rfl fun cdv A outer s H E B C po hr => zZk (yK3 (xWf.t (xVy (zZ2 C (zQd 0 rfl (.inl rfl) zZq zZp) (zQ3)) (xJl (zZ2 C (zQd 0 rfl (.inl rfl) zZq zZp) (zQ3))))) (zZv (zXc (zZw (zQb (zU9) (zQb (zU9) (zQb (zU9) (zQb (zU9) (zQb (zU9) (zQb (zU9) (zQu)))))))))) (zJ0)) (zZv (zXc (zZw (zQb (zU9) (zQb (zU9) (zQb (yH5 C (zQd 0 rfl (.inl rfl) zZq zZp) (zQ3)) (zQb (yH5 C (zQd 0 rfl (.inl rfl) zZq zZp) (zQ3)) (zQb (yH5 C (zQd 0 rfl (.inl rfl) zZq zZp) (zQ3)) (zQb (yH5 C (zQd 0 rfl (.inl rfl) zZq zZp) (zQ3)) (zQu))))))))))
theorem yH0 (T : Top w K mg) (sm : SM base) {k : Nat} (hk : 1 ≤ k) : xWj P w K mg base k "_law_due_bases" ["_law_k"] yJs := yGu T.f__law_due_bases hk (yHq T sm)
theorem wQ0 : FnScope ["_law_script", "_law_pen_here", "_law_k", "_law_turn", "_law_a", "_law_b", "_law_due", "_law_e"] ["_law_script"] (defScope (zZ1 31)) := ⟨rfl, rfl, rfl, by decide +kernel, rfl, by decide +kernel, by decide +kernel⟩
theorem xUn (T : Top w K mg) (sm : SM base) {f : Addr} {fd : FuncData} (F : Fun K "law" "law" (zZ1 31) f fd) : FnG P w K mg base 4 f fd ["_law_script"] (spG K 1 (yVx 8 xKe)) :=
  xQp F wQ0 sm rfl rfl fun cdv A outer s H E B C po hr => zZk (xW5 1 C rfl (.inl rfl) (yJu C ⟨xVc T sm (by decide)⟩ rfl hr rfl (zQb (zQd 0 rfl (.inl rfl) yGt yGs) (zQu)))) (zZk (xXs (is := [2]) C po (xZx rfl T.b_range (zWl (zQ3) (yZl))) (yGa 2 C rfl (.inl rfl) (by decide)) (xQa) (zZv (xXs (is := [3]) C po (xZx rfl T.b_range (zWl (zQ3) (yZl))) (yGa 3 C rfl (.inl rfl) (by decide)) (xQa) (zZk (xGe 4 5 C rfl rfl rfl (by decide) rfl rfl (yJu C ⟨yHy T sm (by decide)⟩ rfl hr rfl (zQb (zQd 1 rfl (.inl rfl) zZs zZr) (zQu))) (yJu C ⟨yHy T sm (by decide)⟩ rfl hr rfl (zQb (zQd 1 rfl (.inl rfl) zZs zZr) (zQu))) (by rfl)) (zZk (zU6 6 C rfl (.inl rfl) (yYu (zZ2 C (zQd 2 rfl (.inl rfl) zZq zZp) (yK2 (zQb (zQ3) (zQb (zQ3) (zQb (zQ3) (zQb (zQ3) (zQu))))))) (zZw (zQu)) (yYu (zZ2 C (zQd 2 rfl (.inl rfl) zZq zZp) (yK2 (zQb (zQ3) (zQb (zQ3) (zQu))))) (zZw (zQb (zQd 4 rfl (.inl rfl) zZo zZn) (zQb (zQd 5 rfl (.inl rfl) yK5 yK4) (zQu)))) (zZw (zQb (zQd 4 rfl (.inl rfl) zZo zZn) (zQu)))))) (zZv (xXs (is := [7]) C po (xYa (yK2 (zQb (yJu C ⟨xZk T sm (by decide)⟩ rfl hr rfl (zQb (zQd 2 rfl (.inl rfl) zZq zZp) (zQb (zQd 4 rfl (.inl rfl) zZo zZn) (zQb (zQd 5 rfl (.inl rfl) yK5 yK4) (zQu))))) (zQb (yJu C ⟨xZ9 T sm (by decide)⟩ rfl hr rfl (zQb (zQd 2 rfl (.inl rfl) zZq zZp) (zQb (zQd 4 rfl (.inl rfl) zZo zZn) (zQb (zQd 5 rfl (.inl rfl) yK5 yK4) (zQu))))) (zQu))))) (yGa 7 C rfl (.inl rfl) (by decide)) (xQa) (zZk (yK3 (xWf.t (xVy (zZ2 C (yGz (xKh C) rfl T.b_repr rfl (zWl (yJu C ⟨xZl T sm (by decide)⟩ rfl hr rfl (zQb (zQd 2 rfl (.inl rfl) zZq zZp) (zQb (zQd 7 rfl (.inl rfl) zZh zZg) (zQu)))) (yZl))) (yGz (xKh C) rfl T.b_repr rfl (zWl (zQd 6 rfl (.inl rfl) xX0 xXz) (yZl)))) (xJl (zZ2 C (yJu C ⟨xXa T sm (by decide)⟩ rfl hr rfl (zQb (zQd 7 rfl (.inl rfl) zZh zZg) (zQu))) (zZw (zQb (zQd 2 rfl (.inl rfl) zZq zZp) (zQu))))))) (zZv (zXc (zU9))) (zJ0)) (zZv (yK3 (zZ2 C (yJu C ⟨xXb T sm (by decide)⟩ rfl hr rfl (zQb (zQd 7 rfl (.inl rfl) zZh zZg) (zQu))) (yJu C ⟨yH0 T sm (by decide)⟩ rfl hr rfl (zQb (zQd 2 rfl (.inl rfl) zZq zZp) (zQu)))) (zZv (zXc (zU9))) (zJ0))))))))))) (zZv (zXc (zU9))))
theorem wHe (T : Top w K mg) (sm : SM base) {k : Nat} (hk : 4 ≤ k) : xWj P w K mg base k "law" ["_law_script"] xXe := yGu T.f_law hk (xUn T sm)
end
theorem all_mk {w : World} {K : PySem.W.Frag} {h : Heap} {mg : Str → Option Value} {fa : Addr} (X : K.In h) (G : h.Ns mainGlobals mg) (hfa : mg "law" = some (.ref fa))
    (xJb : PySem.W.nsIn K mainGlobals "list" = some none)
    (xWs : PySem.W.nsIn K mainGlobals "len" = some none)
    (xWu : PySem.W.nsIn K mainGlobals "abs" = some none)
    (xWt : PySem.W.nsIn K mainGlobals "int" = some none)
    (yK7 : PySem.W.nsIn K mainGlobals "isinstance" = some none)
    (yY0 : PySem.W.nsIn K mainGlobals "enumerate" = some none)
    (xQz : PySem.W.nsIn K mainGlobals "range" = some none)
    (xJa : PySem.W.nsIn K mainGlobals "repr" = some none)
    {Ck_NoObject : Addr} (zZc : PySem.W.nsIn K mainGlobals "NoObject" = some (some (.ref Ck_NoObject)))
    {Ck_NoInvariant : Addr} (zQv : PySem.W.nsIn K mainGlobals "NoInvariant" = some (some (.ref Ck_NoInvariant)))
    {Ck_NothingToUndo : Addr} (zQk : PySem.W.nsIn K mainGlobals "NothingToUndo" = some (some (.ref Ck_NothingToUndo)))
    {Ck_TooMany : Addr} (zZi : PySem.W.nsIn K mainGlobals "TooMany" = some (some (.ref Ck_TooMany)))
    {Ck_InvalidThreads : Addr} (zQj : PySem.W.nsIn K mainGlobals "InvalidThreads" = some (some (.ref Ck_InvalidThreads)))
    {Ck_InvalidEntry : Addr} (zQr : PySem.W.nsIn K mainGlobals "InvalidEntry" = some (some (.ref Ck_InvalidEntry)))
    {Ck_InvalidFresh : Addr} (zQq : PySem.W.nsIn K mainGlobals "InvalidFresh" = some (some (.ref Ck_InvalidFresh)))
    {Ck_InvalidRoots : Addr} (zQp : PySem.W.nsIn K mainGlobals "InvalidRoots" = some (some (.ref Ck_InvalidRoots)))
    {Ck_InvalidHeap : Addr} (zQx : PySem.W.nsIn K mainGlobals "InvalidHeap" = some (some (.ref Ck_InvalidHeap)))
    {Ck_InvalidRegisters : Addr} (zQg : PySem.W.nsIn K mainGlobals "InvalidRegisters" = some (some (.ref Ck_InvalidRegisters)))
    {Ck_InvalidState : Addr} (zQo : PySem.W.nsIn K mainGlobals "InvalidState" = some (some (.ref Ck_InvalidState)))
    {Ck_InvalidStep : Addr} (zQw : PySem.W.nsIn K mainGlobals "InvalidStep" = some (some (.ref Ck_InvalidStep)))
    {Ck_InvalidCertificate : Addr} (zQe : PySem.W.nsIn K mainGlobals "InvalidCertificate" = some (some (.ref Ck_InvalidCertificate)))
    {Ck_InvalidChange : Addr} (zQl : PySem.W.nsIn K mainGlobals "InvalidChange" = some (some (.ref Ck_InvalidChange)))
    {Ck_InvalidGoal : Addr} (zQy : PySem.W.nsIn K mainGlobals "InvalidGoal" = some (some (.ref Ck_InvalidGoal)))
    {Ck_ParseError : Addr} (zQ4 : PySem.W.nsIn K mainGlobals "ParseError" = some (some (.ref Ck_ParseError)))
    {Ck_UnknownCommand : Addr} (zQi : PySem.W.nsIn K mainGlobals "UnknownCommand" = some (some (.ref Ck_UnknownCommand)))
    {Ck_Started : Addr} (zZj : PySem.W.nsIn K mainGlobals "Started" = some (some (.ref Ck_Started)))
    {Ck_Mismatch : Addr} (zZd : PySem.W.nsIn K mainGlobals "Mismatch" = some (some (.ref Ck_Mismatch)))
    {Ck_ShadeError : Addr} (yVw : PySem.W.nsIn K mainGlobals "ShadeError" = some (some (.ref Ck_ShadeError)))
    {odx_NoObject anx_NoObject : Option Addr} {slx_NoObject : Array (Option Value)} {fx_NoObject : Addr} {ocx_NoObject kVx_NoObject dcx_NoObject pmx_NoObject cdx_NoObject ctx_NoObject : Value}
    (yY5 : xZr K Ck_NoObject = true) (yUu : PySem.W.findIn K (.ref Ck_NoObject) "__init__" = some (some (.ref fx_NoObject))) (yUr : yGe K Ck_NoObject fx_NoObject ["index"] = true)
    (yUs : K.lookup fx_NoObject = some ⟨ocx_NoObject, odx_NoObject, .func (PySem.W.fnOf "__init__" "NoObject.__init__" (defArgs (yZi (zZ1 17) 0)) (defBody (yZi (zZ1 17) 0)) (defScope (yZi (zZ1 17) 0)) .none kVx_NoObject dcx_NoObject pmx_NoObject anx_NoObject cdx_NoObject ctx_NoObject), slx_NoObject⟩) (yY1 : PySem.W.codeIn K cdx_NoObject "NoObject.__init__" = true) (yUt : PySem.W.keepIn K (.ref fx_NoObject) = true)
    (zZe : xQk K Ck_NoObject ["index"] = true)
    {odx_NoInvariant anx_NoInvariant : Option Addr} {slx_NoInvariant : Array (Option Value)} {fx_NoInvariant : Addr} {ocx_NoInvariant kVx_NoInvariant dcx_NoInvariant pmx_NoInvariant cdx_NoInvariant ctx_NoInvariant : Value}
    (yJy : xZr K Ck_NoInvariant = true) (yVl : PySem.W.findIn K (.ref Ck_NoInvariant) "__init__" = some (some (.ref fx_NoInvariant))) (yVc : yGe K Ck_NoInvariant fx_NoInvariant ["name"] = true)
    (yVf : K.lookup fx_NoInvariant = some ⟨ocx_NoInvariant, odx_NoInvariant, .func (PySem.W.fnOf "__init__" "NoInvariant.__init__" (defArgs (yZi (zZ1 18) 0)) (defBody (yZi (zZ1 18) 0)) (defScope (yZi (zZ1 18) 0)) .none kVx_NoInvariant dcx_NoInvariant pmx_NoInvariant anx_NoInvariant cdx_NoInvariant ctx_NoInvariant), slx_NoInvariant⟩) (yJv : PySem.W.codeIn K cdx_NoInvariant "NoInvariant.__init__" = true) (yVi : PySem.W.keepIn K (.ref fx_NoInvariant) = true)
    (zQ5 : xQk K Ck_NoInvariant ["name"] = true)
    {odx_NothingToUndo anx_NothingToUndo : Option Addr} {slx_NothingToUndo : Array (Option Value)} {fx_NothingToUndo : Addr} {ocx_NothingToUndo kVx_NothingToUndo dcx_NothingToUndo pmx_NothingToUndo cdx_NothingToUndo ctx_NothingToUndo : Value}
    (zGc : xZr K Ck_NothingToUndo = true) (yZc : PySem.W.findIn K (.ref Ck_NothingToUndo) "__init__" = some (some (.ref fx_NothingToUndo))) (yQ6 : yGe K Ck_NothingToUndo fx_NothingToUndo ["count"] = true)
    (yQ8 : K.lookup fx_NothingToUndo = some ⟨ocx_NothingToUndo, odx_NothingToUndo, .func (PySem.W.fnOf "__init__" "NothingToUndo.__init__" (defArgs (yZi (zZ1 19) 0)) (defBody (yZi (zZ1 19) 0)) (defScope (yZi (zZ1 19) 0)) .none kVx_NothingToUndo dcx_NothingToUndo pmx_NothingToUndo anx_NothingToUndo cdx_NothingToUndo ctx_NothingToUndo), slx_NothingToUndo⟩) (zGa : PySem.W.codeIn K cdx_NothingToUndo "NothingToUndo.__init__" = true) (yZa : PySem.W.keepIn K (.ref fx_NothingToUndo) = true)
    (zQs : xQk K Ck_NothingToUndo ["count"] = true)
    {odx_TooMany anx_TooMany : Option Addr} {slx_TooMany : Array (Option Value)} {fx_TooMany : Addr} {ocx_TooMany kVx_TooMany dcx_TooMany pmx_TooMany cdx_TooMany ctx_TooMany : Value}
    (yGh : xZr K Ck_TooMany = true) (yGm : PySem.W.findIn K (.ref Ck_TooMany) "__init__" = some (some (.ref fx_TooMany))) (yGj : yGe K Ck_TooMany fx_TooMany ["limit"] = true)
    (yGk : K.lookup fx_TooMany = some ⟨ocx_TooMany, odx_TooMany, .func (PySem.W.fnOf "__init__" "TooMany.__init__" (defArgs (yZi (zZ1 20) 0)) (defBody (yZi (zZ1 20) 0)) (defScope (yZi (zZ1 20) 0)) .none kVx_TooMany dcx_TooMany pmx_TooMany anx_TooMany cdx_TooMany ctx_TooMany), slx_TooMany⟩) (yGg : PySem.W.codeIn K cdx_TooMany "TooMany.__init__" = true) (yGl : PySem.W.keepIn K (.ref fx_TooMany) = true)
    (zZl : xQk K Ck_TooMany ["limit"] = true)
    {odx_InvalidThreads anx_InvalidThreads : Option Addr} {slx_InvalidThreads : Array (Option Value)} {fx_InvalidThreads : Addr} {ocx_InvalidThreads kVx_InvalidThreads dcx_InvalidThreads pmx_InvalidThreads cdx_InvalidThreads ctx_InvalidThreads : Value}
    (zWp : xZr K Ck_InvalidThreads = true) (zU5 : PySem.W.findIn K (.ref Ck_InvalidThreads) "__init__" = some (some (.ref fx_InvalidThreads))) (zUz : yGe K Ck_InvalidThreads fx_InvalidThreads ["index"] = true)
    (zU1 : K.lookup fx_InvalidThreads = some ⟨ocx_InvalidThreads, odx_InvalidThreads, .func (PySem.W.fnOf "__init__" "InvalidThreads.__init__" (defArgs (yZi (zZ1 7) 0)) (defBody (yZi (zZ1 7) 0)) (defScope (yZi (zZ1 7) 0)) .none kVx_InvalidThreads dcx_InvalidThreads pmx_InvalidThreads anx_InvalidThreads cdx_InvalidThreads ctx_InvalidThreads), slx_InvalidThreads⟩) (zWn : PySem.W.codeIn K cdx_InvalidThreads "InvalidThreads.__init__" = true) (zU3 : PySem.W.keepIn K (.ref fx_InvalidThreads) = true)
    (zQn : xQk K Ck_InvalidThreads ["index"] = true)
    {odx_InvalidEntry anx_InvalidEntry : Option Addr} {slx_InvalidEntry : Array (Option Value)} {fx_InvalidEntry : Addr} {ocx_InvalidEntry kVx_InvalidEntry dcx_InvalidEntry pmx_InvalidEntry cdx_InvalidEntry ctx_InvalidEntry : Value}
    (yZs : xZr K Ck_InvalidEntry = true) (yJn : PySem.W.findIn K (.ref Ck_InvalidEntry) "__init__" = some (some (.ref fx_InvalidEntry))) (yJe : yGe K Ck_InvalidEntry fx_InvalidEntry ["index"] = true)
    (yJh : K.lookup fx_InvalidEntry = some ⟨ocx_InvalidEntry, odx_InvalidEntry, .func (PySem.W.fnOf "__init__" "InvalidEntry.__init__" (defArgs (yZi (zZ1 2) 0)) (defBody (yZi (zZ1 2) 0)) (defScope (yZi (zZ1 2) 0)) .none kVx_InvalidEntry dcx_InvalidEntry pmx_InvalidEntry anx_InvalidEntry cdx_InvalidEntry ctx_InvalidEntry), slx_InvalidEntry⟩) (yZo : PySem.W.codeIn K cdx_InvalidEntry "InvalidEntry.__init__" = true) (yJk : PySem.W.keepIn K (.ref fx_InvalidEntry) = true)
    (zQ2 : xQk K Ck_InvalidEntry ["index"] = true)
    {odx_InvalidFresh anx_InvalidFresh : Option Addr} {slx_InvalidFresh : Array (Option Value)} {fx_InvalidFresh : Addr} {ocx_InvalidFresh kVx_InvalidFresh dcx_InvalidFresh pmx_InvalidFresh cdx_InvalidFresh ctx_InvalidFresh : Value}
    (yZr : xZr K Ck_InvalidFresh = true) (yJm : PySem.W.findIn K (.ref Ck_InvalidFresh) "__init__" = some (some (.ref fx_InvalidFresh))) (yJd : yGe K Ck_InvalidFresh fx_InvalidFresh ["value"] = true)
    (yJg : K.lookup fx_InvalidFresh = some ⟨ocx_InvalidFresh, odx_InvalidFresh, .func (PySem.W.fnOf "__init__" "InvalidFresh.__init__" (defArgs (yZi (zZ1 3) 0)) (defBody (yZi (zZ1 3) 0)) (defScope (yZi (zZ1 3) 0)) .none kVx_InvalidFresh dcx_InvalidFresh pmx_InvalidFresh anx_InvalidFresh cdx_InvalidFresh ctx_InvalidFresh), slx_InvalidFresh⟩) (yZn : PySem.W.codeIn K cdx_InvalidFresh "InvalidFresh.__init__" = true) (yJj : PySem.W.keepIn K (.ref fx_InvalidFresh) = true)
    (zQ1 : xQk K Ck_InvalidFresh ["value"] = true)
    {odx_InvalidRoots anx_InvalidRoots : Option Addr} {slx_InvalidRoots : Array (Option Value)} {fx_InvalidRoots : Addr} {ocx_InvalidRoots kVx_InvalidRoots dcx_InvalidRoots pmx_InvalidRoots cdx_InvalidRoots ctx_InvalidRoots : Value}
    (yZq : xZr K Ck_InvalidRoots = true) (yJl : PySem.W.findIn K (.ref Ck_InvalidRoots) "__init__" = some (some (.ref fx_InvalidRoots))) (yJc : yGe K Ck_InvalidRoots fx_InvalidRoots ["value"] = true)
    (yJf : K.lookup fx_InvalidRoots = some ⟨ocx_InvalidRoots, odx_InvalidRoots, .func (PySem.W.fnOf "__init__" "InvalidRoots.__init__" (defArgs (yZi (zZ1 4) 0)) (defBody (yZi (zZ1 4) 0)) (defScope (yZi (zZ1 4) 0)) .none kVx_InvalidRoots dcx_InvalidRoots pmx_InvalidRoots anx_InvalidRoots cdx_InvalidRoots ctx_InvalidRoots), slx_InvalidRoots⟩) (yZm : PySem.W.codeIn K cdx_InvalidRoots "InvalidRoots.__init__" = true) (yJi : PySem.W.keepIn K (.ref fx_InvalidRoots) = true)
    (zQ0 : xQk K Ck_InvalidRoots ["value"] = true)
    (yJ0 : wQc K Ck_InvalidHeap = true)
    (zQ7 : xQk K Ck_InvalidHeap [] = true)
    {odx_InvalidRegisters anx_InvalidRegisters : Option Addr} {slx_InvalidRegisters : Array (Option Value)} {fx_InvalidRegisters : Addr} {ocx_InvalidRegisters kVx_InvalidRegisters dcx_InvalidRegisters pmx_InvalidRegisters cdx_InvalidRegisters ctx_InvalidRegisters : Value}
    (zJ3 : xZr K Ck_InvalidRegisters = true) (zV3 : PySem.W.findIn K (.ref Ck_InvalidRegisters) "__init__" = some (some (.ref fx_InvalidRegisters))) (zVy : yGe K Ck_InvalidRegisters fx_InvalidRegisters ["index"] = true)
    (zV1 : K.lookup fx_InvalidRegisters = some ⟨ocx_InvalidRegisters, odx_InvalidRegisters, .func (PySem.W.fnOf "__init__" "InvalidRegisters.__init__" (defArgs (yZi (zZ1 6) 0)) (defBody (yZi (zZ1 6) 0)) (defScope (yZi (zZ1 6) 0)) .none kVx_InvalidRegisters dcx_InvalidRegisters pmx_InvalidRegisters anx_InvalidRegisters cdx_InvalidRegisters ctx_InvalidRegisters), slx_InvalidRegisters⟩) (zJ2 : PySem.W.codeIn K cdx_InvalidRegisters "InvalidRegisters.__init__" = true) (zV2 : PySem.W.keepIn K (.ref fx_InvalidRegisters) = true)
    (zQh : xQk K Ck_InvalidRegisters ["index"] = true)
    (yZp : wQc K Ck_InvalidState = true)
    (zQz : xQk K Ck_InvalidState [] = true)
    {odx_InvalidStep anx_InvalidStep : Option Addr} {slx_InvalidStep : Array (Option Value)} {fx_InvalidStep : Addr} {ocx_InvalidStep kVx_InvalidStep dcx_InvalidStep pmx_InvalidStep cdx_InvalidStep ctx_InvalidStep : Value}
    (yJz : xZr K Ck_InvalidStep = true) (yVm : PySem.W.findIn K (.ref Ck_InvalidStep) "__init__" = some (some (.ref fx_InvalidStep))) (yVd : yGe K Ck_InvalidStep fx_InvalidStep ["index", "reason"] = true)
    (yVg : K.lookup fx_InvalidStep = some ⟨ocx_InvalidStep, odx_InvalidStep, .func (PySem.W.fnOf "__init__" "InvalidStep.__init__" (defArgs (yZi (zZ1 9) 0)) (defBody (yZi (zZ1 9) 0)) (defScope (yZi (zZ1 9) 0)) .none kVx_InvalidStep dcx_InvalidStep pmx_InvalidStep anx_InvalidStep cdx_InvalidStep ctx_InvalidStep), slx_InvalidStep⟩) (yJw : PySem.W.codeIn K cdx_InvalidStep "InvalidStep.__init__" = true) (yVj : PySem.W.keepIn K (.ref fx_InvalidStep) = true)
    (zQ6 : xQk K Ck_InvalidStep ["index", "reason"] = true)
    {odx_InvalidCertificate anx_InvalidCertificate : Option Addr} {slx_InvalidCertificate : Array (Option Value)} {fx_InvalidCertificate : Addr} {ocx_InvalidCertificate kVx_InvalidCertificate dcx_InvalidCertificate pmx_InvalidCertificate cdx_InvalidCertificate ctx_InvalidCertificate : Value}
    (zX4 : xZr K Ck_InvalidCertificate = true) (zJn : PySem.W.findIn K (.ref Ck_InvalidCertificate) "__init__" = some (some (.ref fx_InvalidCertificate))) (zJk : yGe K Ck_InvalidCertificate fx_InvalidCertificate ["reason"] = true)
    (zJl : K.lookup fx_InvalidCertificate = some ⟨ocx_InvalidCertificate, odx_InvalidCertificate, .func (PySem.W.fnOf "__init__" "InvalidCertificate.__init__" (defArgs (yZi (zZ1 10) 0)) (defBody (yZi (zZ1 10) 0)) (defScope (yZi (zZ1 10) 0)) .none kVx_InvalidCertificate dcx_InvalidCertificate pmx_InvalidCertificate anx_InvalidCertificate cdx_InvalidCertificate ctx_InvalidCertificate), slx_InvalidCertificate⟩) (zX3 : PySem.W.codeIn K cdx_InvalidCertificate "InvalidCertificate.__init__" = true) (zJm : PySem.W.keepIn K (.ref fx_InvalidCertificate) = true)
    (zQf : xQk K Ck_InvalidCertificate ["reason"] = true)
    {odx_InvalidChange anx_InvalidChange : Option Addr} {slx_InvalidChange : Array (Option Value)} {fx_InvalidChange : Addr} {ocx_InvalidChange kVx_InvalidChange dcx_InvalidChange pmx_InvalidChange cdx_InvalidChange ctx_InvalidChange : Value}
    (zGd : xZr K Ck_InvalidChange = true) (yZd : PySem.W.findIn K (.ref Ck_InvalidChange) "__init__" = some (some (.ref fx_InvalidChange))) (yQ7 : yGe K Ck_InvalidChange fx_InvalidChange ["index"] = true)
    (yQ9 : K.lookup fx_InvalidChange = some ⟨ocx_InvalidChange, odx_InvalidChange, .func (PySem.W.fnOf "__init__" "InvalidChange.__init__" (defArgs (yZi (zZ1 11) 0)) (defBody (yZi (zZ1 11) 0)) (defScope (yZi (zZ1 11) 0)) .none kVx_InvalidChange dcx_InvalidChange pmx_InvalidChange anx_InvalidChange cdx_InvalidChange ctx_InvalidChange), slx_InvalidChange⟩) (zGb : PySem.W.codeIn K cdx_InvalidChange "InvalidChange.__init__" = true) (yZb : PySem.W.keepIn K (.ref fx_InvalidChange) = true)
    (zQt : xQk K Ck_InvalidChange ["index"] = true)
    {odx_InvalidGoal anx_InvalidGoal : Option Addr} {slx_InvalidGoal : Array (Option Value)} {fx_InvalidGoal : Addr} {ocx_InvalidGoal kVx_InvalidGoal dcx_InvalidGoal pmx_InvalidGoal cdx_InvalidGoal ctx_InvalidGoal : Value}
    (yJ1 : xZr K Ck_InvalidGoal = true) (yVn : PySem.W.findIn K (.ref Ck_InvalidGoal) "__init__" = some (some (.ref fx_InvalidGoal))) (yVe : yGe K Ck_InvalidGoal fx_InvalidGoal ["value"] = true)
    (yVh : K.lookup fx_InvalidGoal = some ⟨ocx_InvalidGoal, odx_InvalidGoal, .func (PySem.W.fnOf "__init__" "InvalidGoal.__init__" (defArgs (yZi (zZ1 12) 0)) (defBody (yZi (zZ1 12) 0)) (defScope (yZi (zZ1 12) 0)) .none kVx_InvalidGoal dcx_InvalidGoal pmx_InvalidGoal anx_InvalidGoal cdx_InvalidGoal ctx_InvalidGoal), slx_InvalidGoal⟩) (yJx : PySem.W.codeIn K cdx_InvalidGoal "InvalidGoal.__init__" = true) (yVk : PySem.W.keepIn K (.ref fx_InvalidGoal) = true)
    (zQ8 : xQk K Ck_InvalidGoal ["value"] = true)
    {odx_ParseError anx_ParseError : Option Addr} {slx_ParseError : Array (Option Value)} {fx_ParseError : Addr} {ocx_ParseError kVx_ParseError dcx_ParseError pmx_ParseError cdx_ParseError ctx_ParseError : Value}
    (yVz : xZr K Ck_ParseError = true) (yKy : PySem.W.findIn K (.ref Ck_ParseError) "__init__" = some (some (.ref fx_ParseError))) (yKu : yGe K Ck_ParseError fx_ParseError ["line", "word"] = true)
    (yKv : K.lookup fx_ParseError = some ⟨ocx_ParseError, odx_ParseError, .func (PySem.W.fnOf "__init__" "ParseError.__init__" (defArgs (yZi (zZ1 13) 0)) (defBody (yZi (zZ1 13) 0)) (defScope (yZi (zZ1 13) 0)) .none kVx_ParseError dcx_ParseError pmx_ParseError anx_ParseError cdx_ParseError ctx_ParseError), slx_ParseError⟩) (yVy : PySem.W.codeIn K cdx_ParseError "ParseError.__init__" = true) (yKx : PySem.W.keepIn K (.ref fx_ParseError) = true)
    (zZb : xQk K Ck_ParseError ["line", "word"] = true)
    {odx_UnknownCommand anx_UnknownCommand : Option Addr} {slx_UnknownCommand : Array (Option Value)} {fx_UnknownCommand : Addr} {ocx_UnknownCommand kVx_UnknownCommand dcx_UnknownCommand pmx_UnknownCommand cdx_UnknownCommand ctx_UnknownCommand : Value}
    (zWo : xZr K Ck_UnknownCommand = true) (zU4 : PySem.W.findIn K (.ref Ck_UnknownCommand) "__init__" = some (some (.ref fx_UnknownCommand))) (zUy : yGe K Ck_UnknownCommand fx_UnknownCommand ["command"] = true)
    (zU0 : K.lookup fx_UnknownCommand = some ⟨ocx_UnknownCommand, odx_UnknownCommand, .func (PySem.W.fnOf "__init__" "UnknownCommand.__init__" (defArgs (yZi (zZ1 14) 0)) (defBody (yZi (zZ1 14) 0)) (defScope (yZi (zZ1 14) 0)) .none kVx_UnknownCommand dcx_UnknownCommand pmx_UnknownCommand anx_UnknownCommand cdx_UnknownCommand ctx_UnknownCommand), slx_UnknownCommand⟩) (zWm : PySem.W.codeIn K cdx_UnknownCommand "UnknownCommand.__init__" = true) (zU2 : PySem.W.keepIn K (.ref fx_UnknownCommand) = true)
    (zQm : xQk K Ck_UnknownCommand ["command"] = true)
    (yGi : wQc K Ck_Started = true)
    (zZm : xQk K Ck_Started [] = true)
    (yY6 : wQc K Ck_Mismatch = true)
    (zZf : xQk K Ck_Mismatch [] = true)
    (oi0 : (([("NoneType", false), ("bool", false), ("int", false), ("str", false), ("list", false), ("tuple", false), ("dict", false)] : List (String × Bool)).all fun p => decide (PySem.W.kitAny K (.type p.1) [.ref Ck_InvalidEntry] = some p.2)) = true)
    (yYn : PySem.W.kitAny K (.ref Ck_Mismatch) [.ref Ck_InvalidEntry] = some false)
    (yUq : PySem.W.kitAny K (.ref Ck_Started) [.ref Ck_InvalidEntry] = some false)
    (zWj : PySem.W.kitAny K (.ref Ck_UnknownCommand) [.ref Ck_InvalidEntry] = some false)
    (yVb : PySem.W.kitAny K (.ref Ck_ParseError) [.ref Ck_InvalidEntry] = some false)
    (yJb : PySem.W.kitAny K (.ref Ck_InvalidGoal) [.ref Ck_InvalidEntry] = some false)
    (zUx : PySem.W.kitAny K (.ref Ck_InvalidChange) [.ref Ck_InvalidEntry] = some false)
    (zX2 : PySem.W.kitAny K (.ref Ck_InvalidCertificate) [.ref Ck_InvalidEntry] = some false)
    (yX9 : PySem.W.kitAny K (.ref Ck_InvalidStep) [.ref Ck_InvalidEntry] = some false)
    (yQ2 : PySem.W.kitAny K (.ref Ck_InvalidState) [.ref Ck_InvalidEntry] = some false)
    (zJy : PySem.W.kitAny K (.ref Ck_InvalidRegisters) [.ref Ck_InvalidEntry] = some false)
    (yJa : PySem.W.kitAny K (.ref Ck_InvalidHeap) [.ref Ck_InvalidEntry] = some false)
    (yQ3 : PySem.W.kitAny K (.ref Ck_InvalidRoots) [.ref Ck_InvalidEntry] = some false)
    (yQ4 : PySem.W.kitAny K (.ref Ck_InvalidFresh) [.ref Ck_InvalidEntry] = some false)
    (yQ5 : PySem.W.kitAny K (.ref Ck_InvalidEntry) [.ref Ck_InvalidEntry] = some true)
    (zWk : PySem.W.kitAny K (.ref Ck_InvalidThreads) [.ref Ck_InvalidEntry] = some false)
    (yUp : PySem.W.kitAny K (.ref Ck_TooMany) [.ref Ck_InvalidEntry] = some false)
    (zUw : PySem.W.kitAny K (.ref Ck_NothingToUndo) [.ref Ck_InvalidEntry] = some false)
    (yX8 : PySem.W.kitAny K (.ref Ck_NoInvariant) [.ref Ck_InvalidEntry] = some false)
    (yYm : PySem.W.kitAny K (.ref Ck_NoObject) [.ref Ck_InvalidEntry] = some false)
    (oi1 : (([("NoneType", false), ("bool", false), ("int", false), ("str", false), ("list", false), ("tuple", false), ("dict", false)] : List (String × Bool)).all fun p => decide (PySem.W.kitAny K (.type p.1) [.ref Ck_InvalidFresh] = some p.2)) = true)
    (yW1 : PySem.W.kitAny K (.ref Ck_Mismatch) [.ref Ck_InvalidFresh] = some false)
    (yUo : PySem.W.kitAny K (.ref Ck_Started) [.ref Ck_InvalidFresh] = some false)
    (zKx : PySem.W.kitAny K (.ref Ck_UnknownCommand) [.ref Ck_InvalidFresh] = some false)
    (yVa : PySem.W.kitAny K (.ref Ck_ParseError) [.ref Ck_InvalidFresh] = some false)
    (yXx : PySem.W.kitAny K (.ref Ck_InvalidGoal) [.ref Ck_InvalidFresh] = some false)
    (zYr : PySem.W.kitAny K (.ref Ck_InvalidChange) [.ref Ck_InvalidFresh] = some false)
    (zX1 : PySem.W.kitAny K (.ref Ck_InvalidCertificate) [.ref Ck_InvalidFresh] = some false)
    (yXv : PySem.W.kitAny K (.ref Ck_InvalidStep) [.ref Ck_InvalidFresh] = some false)
    (zHu : PySem.W.kitAny K (.ref Ck_InvalidState) [.ref Ck_InvalidFresh] = some false)
    (zJx : PySem.W.kitAny K (.ref Ck_InvalidRegisters) [.ref Ck_InvalidFresh] = some false)
    (yXw : PySem.W.kitAny K (.ref Ck_InvalidHeap) [.ref Ck_InvalidFresh] = some false)
    (zHv : PySem.W.kitAny K (.ref Ck_InvalidRoots) [.ref Ck_InvalidFresh] = some false)
    (zHw : PySem.W.kitAny K (.ref Ck_InvalidFresh) [.ref Ck_InvalidFresh] = some true)
    (zHx : PySem.W.kitAny K (.ref Ck_InvalidEntry) [.ref Ck_InvalidFresh] = some false)
    (zKy : PySem.W.kitAny K (.ref Ck_InvalidThreads) [.ref Ck_InvalidFresh] = some false)
    (yUn : PySem.W.kitAny K (.ref Ck_TooMany) [.ref Ck_InvalidFresh] = some false)
    (zYq : PySem.W.kitAny K (.ref Ck_NothingToUndo) [.ref Ck_InvalidFresh] = some false)
    (yXu : PySem.W.kitAny K (.ref Ck_NoInvariant) [.ref Ck_InvalidFresh] = some false)
    (yW0 : PySem.W.kitAny K (.ref Ck_NoObject) [.ref Ck_InvalidFresh] = some false)
    (oi2 : (([("NoneType", false), ("bool", false), ("int", false), ("str", false), ("list", false), ("tuple", false), ("dict", false)] : List (String × Bool)).all fun p => decide (PySem.W.kitAny K (.type p.1) [.ref Ck_InvalidRoots] = some p.2)) = true)
    (yWp : PySem.W.kitAny K (.ref Ck_Mismatch) [.ref Ck_InvalidRoots] = some false)
    (yUm : PySem.W.kitAny K (.ref Ck_Started) [.ref Ck_InvalidRoots] = some false)
    (zKl : PySem.W.kitAny K (.ref Ck_UnknownCommand) [.ref Ck_InvalidRoots] = some false)
    (yJ9 : PySem.W.kitAny K (.ref Ck_ParseError) [.ref Ck_InvalidRoots] = some false)
    (yXo : PySem.W.kitAny K (.ref Ck_InvalidGoal) [.ref Ck_InvalidRoots] = some false)
    (zW5 : PySem.W.kitAny K (.ref Ck_InvalidChange) [.ref Ck_InvalidRoots] = some false)
    (zX0 : PySem.W.kitAny K (.ref Ck_InvalidCertificate) [.ref Ck_InvalidRoots] = some false)
    (yXm : PySem.W.kitAny K (.ref Ck_InvalidStep) [.ref Ck_InvalidRoots] = some false)
    (zG6 : PySem.W.kitAny K (.ref Ck_InvalidState) [.ref Ck_InvalidRoots] = some false)
    (zJw : PySem.W.kitAny K (.ref Ck_InvalidRegisters) [.ref Ck_InvalidRoots] = some false)
    (yXn : PySem.W.kitAny K (.ref Ck_InvalidHeap) [.ref Ck_InvalidRoots] = some false)
    (zG7 : PySem.W.kitAny K (.ref Ck_InvalidRoots) [.ref Ck_InvalidRoots] = some true)
    (zG8 : PySem.W.kitAny K (.ref Ck_InvalidFresh) [.ref Ck_InvalidRoots] = some false)
    (zG9 : PySem.W.kitAny K (.ref Ck_InvalidEntry) [.ref Ck_InvalidRoots] = some false)
    (zKm : PySem.W.kitAny K (.ref Ck_InvalidThreads) [.ref Ck_InvalidRoots] = some false)
    (yUl : PySem.W.kitAny K (.ref Ck_TooMany) [.ref Ck_InvalidRoots] = some false)
    (zW4 : PySem.W.kitAny K (.ref Ck_NothingToUndo) [.ref Ck_InvalidRoots] = some false)
    (yXl : PySem.W.kitAny K (.ref Ck_NoInvariant) [.ref Ck_InvalidRoots] = some false)
    (yWo : PySem.W.kitAny K (.ref Ck_NoObject) [.ref Ck_InvalidRoots] = some false)
    (oi3 : (([("NoneType", false), ("bool", false), ("int", false), ("str", false), ("list", false), ("tuple", false), ("dict", false)] : List (String × Bool)).all fun p => decide (PySem.W.kitAny K (.type p.1) [.ref Ck_InvalidHeap] = some p.2)) = true)
    (yWn : PySem.W.kitAny K (.ref Ck_Mismatch) [.ref Ck_InvalidHeap] = some false)
    (yUk : PySem.W.kitAny K (.ref Ck_Started) [.ref Ck_InvalidHeap] = some false)
    (zKj : PySem.W.kitAny K (.ref Ck_UnknownCommand) [.ref Ck_InvalidHeap] = some false)
    (yJ8 : PySem.W.kitAny K (.ref Ck_ParseError) [.ref Ck_InvalidHeap] = some false)
    (yXk : PySem.W.kitAny K (.ref Ck_InvalidGoal) [.ref Ck_InvalidHeap] = some false)
    (zW3 : PySem.W.kitAny K (.ref Ck_InvalidChange) [.ref Ck_InvalidHeap] = some false)
    (zXz : PySem.W.kitAny K (.ref Ck_InvalidCertificate) [.ref Ck_InvalidHeap] = some false)
    (yXi : PySem.W.kitAny K (.ref Ck_InvalidStep) [.ref Ck_InvalidHeap] = some false)
    (zG2 : PySem.W.kitAny K (.ref Ck_InvalidState) [.ref Ck_InvalidHeap] = some false)
    (zJv : PySem.W.kitAny K (.ref Ck_InvalidRegisters) [.ref Ck_InvalidHeap] = some false)
    (yXj : PySem.W.kitAny K (.ref Ck_InvalidHeap) [.ref Ck_InvalidHeap] = some true)
    (zG3 : PySem.W.kitAny K (.ref Ck_InvalidRoots) [.ref Ck_InvalidHeap] = some false)
    (zG4 : PySem.W.kitAny K (.ref Ck_InvalidFresh) [.ref Ck_InvalidHeap] = some false)
    (zG5 : PySem.W.kitAny K (.ref Ck_InvalidEntry) [.ref Ck_InvalidHeap] = some false)
    (zKk : PySem.W.kitAny K (.ref Ck_InvalidThreads) [.ref Ck_InvalidHeap] = some false)
    (yUj : PySem.W.kitAny K (.ref Ck_TooMany) [.ref Ck_InvalidHeap] = some false)
    (zW2 : PySem.W.kitAny K (.ref Ck_NothingToUndo) [.ref Ck_InvalidHeap] = some false)
    (yXh : PySem.W.kitAny K (.ref Ck_NoInvariant) [.ref Ck_InvalidHeap] = some false)
    (yWm : PySem.W.kitAny K (.ref Ck_NoObject) [.ref Ck_InvalidHeap] = some false)
    (oi4 : (([("NoneType", false), ("bool", false), ("int", false), ("str", false), ("list", false), ("tuple", false), ("dict", false)] : List (String × Bool)).all fun p => decide (PySem.W.kitAny K (.type p.1) [.ref Ck_InvalidRegisters] = some p.2)) = true)
    (yWl : PySem.W.kitAny K (.ref Ck_Mismatch) [.ref Ck_InvalidRegisters] = some false)
    (yUi : PySem.W.kitAny K (.ref Ck_Started) [.ref Ck_InvalidRegisters] = some false)
    (zKh : PySem.W.kitAny K (.ref Ck_UnknownCommand) [.ref Ck_InvalidRegisters] = some false)
    (yJ7 : PySem.W.kitAny K (.ref Ck_ParseError) [.ref Ck_InvalidRegisters] = some false)
    (yXg : PySem.W.kitAny K (.ref Ck_InvalidGoal) [.ref Ck_InvalidRegisters] = some false)
    (zW1 : PySem.W.kitAny K (.ref Ck_InvalidChange) [.ref Ck_InvalidRegisters] = some false)
    (zXy : PySem.W.kitAny K (.ref Ck_InvalidCertificate) [.ref Ck_InvalidRegisters] = some false)
    (yXe : PySem.W.kitAny K (.ref Ck_InvalidStep) [.ref Ck_InvalidRegisters] = some false)
    (zGy : PySem.W.kitAny K (.ref Ck_InvalidState) [.ref Ck_InvalidRegisters] = some false)
    (zJu : PySem.W.kitAny K (.ref Ck_InvalidRegisters) [.ref Ck_InvalidRegisters] = some true)
    (yXf : PySem.W.kitAny K (.ref Ck_InvalidHeap) [.ref Ck_InvalidRegisters] = some false)
    (zGz : PySem.W.kitAny K (.ref Ck_InvalidRoots) [.ref Ck_InvalidRegisters] = some false)
    (zG0 : PySem.W.kitAny K (.ref Ck_InvalidFresh) [.ref Ck_InvalidRegisters] = some false)
    (zG1 : PySem.W.kitAny K (.ref Ck_InvalidEntry) [.ref Ck_InvalidRegisters] = some false)
    (zKi : PySem.W.kitAny K (.ref Ck_InvalidThreads) [.ref Ck_InvalidRegisters] = some false)
    (yUh : PySem.W.kitAny K (.ref Ck_TooMany) [.ref Ck_InvalidRegisters] = some false)
    (zW0 : PySem.W.kitAny K (.ref Ck_NothingToUndo) [.ref Ck_InvalidRegisters] = some false)
    (yXd : PySem.W.kitAny K (.ref Ck_NoInvariant) [.ref Ck_InvalidRegisters] = some false)
    (yWk : PySem.W.kitAny K (.ref Ck_NoObject) [.ref Ck_InvalidRegisters] = some false)
    (oi5 : (([("NoneType", false), ("bool", false), ("int", false), ("str", false), ("list", false), ("tuple", false), ("dict", false)] : List (String × Bool)).all fun p => decide (PySem.W.kitAny K (.type p.1) [.ref Ck_InvalidState] = some p.2)) = true)
    (yWj : PySem.W.kitAny K (.ref Ck_Mismatch) [.ref Ck_InvalidState] = some false)
    (yUg : PySem.W.kitAny K (.ref Ck_Started) [.ref Ck_InvalidState] = some false)
    (zKf : PySem.W.kitAny K (.ref Ck_UnknownCommand) [.ref Ck_InvalidState] = some false)
    (yJ6 : PySem.W.kitAny K (.ref Ck_ParseError) [.ref Ck_InvalidState] = some false)
    (yXc : PySem.W.kitAny K (.ref Ck_InvalidGoal) [.ref Ck_InvalidState] = some false)
    (zWz : PySem.W.kitAny K (.ref Ck_InvalidChange) [.ref Ck_InvalidState] = some false)
    (zXx : PySem.W.kitAny K (.ref Ck_InvalidCertificate) [.ref Ck_InvalidState] = some false)
    (yXa : PySem.W.kitAny K (.ref Ck_InvalidStep) [.ref Ck_InvalidState] = some false)
    (zGu : PySem.W.kitAny K (.ref Ck_InvalidState) [.ref Ck_InvalidState] = some true)
    (zJt : PySem.W.kitAny K (.ref Ck_InvalidRegisters) [.ref Ck_InvalidState] = some false)
    (yXb : PySem.W.kitAny K (.ref Ck_InvalidHeap) [.ref Ck_InvalidState] = some false)
    (zGv : PySem.W.kitAny K (.ref Ck_InvalidRoots) [.ref Ck_InvalidState] = some false)
    (zGw : PySem.W.kitAny K (.ref Ck_InvalidFresh) [.ref Ck_InvalidState] = some false)
    (zGx : PySem.W.kitAny K (.ref Ck_InvalidEntry) [.ref Ck_InvalidState] = some false)
    (zKg : PySem.W.kitAny K (.ref Ck_InvalidThreads) [.ref Ck_InvalidState] = some false)
    (yUf : PySem.W.kitAny K (.ref Ck_TooMany) [.ref Ck_InvalidState] = some false)
    (zWy : PySem.W.kitAny K (.ref Ck_NothingToUndo) [.ref Ck_InvalidState] = some false)
    (yZ9 : PySem.W.kitAny K (.ref Ck_NoInvariant) [.ref Ck_InvalidState] = some false)
    (yWi : PySem.W.kitAny K (.ref Ck_NoObject) [.ref Ck_InvalidState] = some false)
    (oi6 : (([("NoneType", false), ("bool", false), ("int", false), ("str", false), ("list", false), ("tuple", false), ("dict", false)] : List (String × Bool)).all fun p => decide (PySem.W.kitAny K (.type p.1) [.ref Ck_InvalidStep] = some p.2)) = true)
    (yWh : PySem.W.kitAny K (.ref Ck_Mismatch) [.ref Ck_InvalidStep] = some false)
    (yUe : PySem.W.kitAny K (.ref Ck_Started) [.ref Ck_InvalidStep] = some false)
    (zKd : PySem.W.kitAny K (.ref Ck_UnknownCommand) [.ref Ck_InvalidStep] = some false)
    (yJ5 : PySem.W.kitAny K (.ref Ck_ParseError) [.ref Ck_InvalidStep] = some false)
    (yZ8 : PySem.W.kitAny K (.ref Ck_InvalidGoal) [.ref Ck_InvalidStep] = some false)
    (zWx : PySem.W.kitAny K (.ref Ck_InvalidChange) [.ref Ck_InvalidStep] = some false)
    (zXw : PySem.W.kitAny K (.ref Ck_InvalidCertificate) [.ref Ck_InvalidStep] = some false)
    (yZ6 : PySem.W.kitAny K (.ref Ck_InvalidStep) [.ref Ck_InvalidStep] = some true)
    (zGq : PySem.W.kitAny K (.ref Ck_InvalidState) [.ref Ck_InvalidStep] = some false)
    (zJs : PySem.W.kitAny K (.ref Ck_InvalidRegisters) [.ref Ck_InvalidStep] = some false)
    (yZ7 : PySem.W.kitAny K (.ref Ck_InvalidHeap) [.ref Ck_InvalidStep] = some false)
    (zGr : PySem.W.kitAny K (.ref Ck_InvalidRoots) [.ref Ck_InvalidStep] = some false)
    (zGs : PySem.W.kitAny K (.ref Ck_InvalidFresh) [.ref Ck_InvalidStep] = some false)
    (zGt : PySem.W.kitAny K (.ref Ck_InvalidEntry) [.ref Ck_InvalidStep] = some false)
    (zKe : PySem.W.kitAny K (.ref Ck_InvalidThreads) [.ref Ck_InvalidStep] = some false)
    (yUd : PySem.W.kitAny K (.ref Ck_TooMany) [.ref Ck_InvalidStep] = some false)
    (zWw : PySem.W.kitAny K (.ref Ck_NothingToUndo) [.ref Ck_InvalidStep] = some false)
    (yZ5 : PySem.W.kitAny K (.ref Ck_NoInvariant) [.ref Ck_InvalidStep] = some false)
    (yWg : PySem.W.kitAny K (.ref Ck_NoObject) [.ref Ck_InvalidStep] = some false)
    (oi7 : (([("NoneType", false), ("bool", false), ("int", false), ("str", false), ("list", false), ("tuple", false), ("dict", false)] : List (String × Bool)).all fun p => decide (PySem.W.kitAny K (.type p.1) [.ref Ck_InvalidCertificate] = some p.2)) = true)
    (yWf : PySem.W.kitAny K (.ref Ck_Mismatch) [.ref Ck_InvalidCertificate] = some false)
    (yUc : PySem.W.kitAny K (.ref Ck_Started) [.ref Ck_InvalidCertificate] = some false)
    (zKb : PySem.W.kitAny K (.ref Ck_UnknownCommand) [.ref Ck_InvalidCertificate] = some false)
    (yJ4 : PySem.W.kitAny K (.ref Ck_ParseError) [.ref Ck_InvalidCertificate] = some false)
    (yZ4 : PySem.W.kitAny K (.ref Ck_InvalidGoal) [.ref Ck_InvalidCertificate] = some false)
    (zWv : PySem.W.kitAny K (.ref Ck_InvalidChange) [.ref Ck_InvalidCertificate] = some false)
    (zXv : PySem.W.kitAny K (.ref Ck_InvalidCertificate) [.ref Ck_InvalidCertificate] = some true)
    (yZ2 : PySem.W.kitAny K (.ref Ck_InvalidStep) [.ref Ck_InvalidCertificate] = some false)
    (zGm : PySem.W.kitAny K (.ref Ck_InvalidState) [.ref Ck_InvalidCertificate] = some false)
    (zJr : PySem.W.kitAny K (.ref Ck_InvalidRegisters) [.ref Ck_InvalidCertificate] = some false)
    (yZ3 : PySem.W.kitAny K (.ref Ck_InvalidHeap) [.ref Ck_InvalidCertificate] = some false)
    (zGn : PySem.W.kitAny K (.ref Ck_InvalidRoots) [.ref Ck_InvalidCertificate] = some false)
    (zGo : PySem.W.kitAny K (.ref Ck_InvalidFresh) [.ref Ck_InvalidCertificate] = some false)
    (zGp : PySem.W.kitAny K (.ref Ck_InvalidEntry) [.ref Ck_InvalidCertificate] = some false)
    (zKc : PySem.W.kitAny K (.ref Ck_InvalidThreads) [.ref Ck_InvalidCertificate] = some false)
    (yUb : PySem.W.kitAny K (.ref Ck_TooMany) [.ref Ck_InvalidCertificate] = some false)
    (zWu : PySem.W.kitAny K (.ref Ck_NothingToUndo) [.ref Ck_InvalidCertificate] = some false)
    (yZ1 : PySem.W.kitAny K (.ref Ck_NoInvariant) [.ref Ck_InvalidCertificate] = some false)
    (yWe : PySem.W.kitAny K (.ref Ck_NoObject) [.ref Ck_InvalidCertificate] = some false)
    (oi8 : (([("NoneType", false), ("bool", false), ("int", false), ("str", false), ("list", false), ("tuple", false), ("dict", false)] : List (String × Bool)).all fun p => decide (PySem.W.kitAny K (.type p.1) [.ref Ck_InvalidChange] = some p.2)) = true)
    (yWd : PySem.W.kitAny K (.ref Ck_Mismatch) [.ref Ck_InvalidChange] = some false)
    (yUa : PySem.W.kitAny K (.ref Ck_Started) [.ref Ck_InvalidChange] = some false)
    (zV9 : PySem.W.kitAny K (.ref Ck_UnknownCommand) [.ref Ck_InvalidChange] = some false)
    (yJ3 : PySem.W.kitAny K (.ref Ck_ParseError) [.ref Ck_InvalidChange] = some false)
    (yZ0 : PySem.W.kitAny K (.ref Ck_InvalidGoal) [.ref Ck_InvalidChange] = some false)
    (zWt : PySem.W.kitAny K (.ref Ck_InvalidChange) [.ref Ck_InvalidChange] = some true)
    (zXu : PySem.W.kitAny K (.ref Ck_InvalidCertificate) [.ref Ck_InvalidChange] = some false)
    (yZy : PySem.W.kitAny K (.ref Ck_InvalidStep) [.ref Ck_InvalidChange] = some false)
    (zGi : PySem.W.kitAny K (.ref Ck_InvalidState) [.ref Ck_InvalidChange] = some false)
    (zJq : PySem.W.kitAny K (.ref Ck_InvalidRegisters) [.ref Ck_InvalidChange] = some false)
    (yZz : PySem.W.kitAny K (.ref Ck_InvalidHeap) [.ref Ck_InvalidChange] = some false)
    (zGj : PySem.W.kitAny K (.ref Ck_InvalidRoots) [.ref Ck_InvalidChange] = some false)
    (zGk : PySem.W.kitAny K (.ref Ck_InvalidFresh) [.ref Ck_InvalidChange] = some false)
    (zGl : PySem.W.kitAny K (.ref Ck_InvalidEntry) [.ref Ck_InvalidChange] = some false)
    (zKa : PySem.W.kitAny K (.ref Ck_InvalidThreads) [.ref Ck_InvalidChange] = some false)
    (yY9 : PySem.W.kitAny K (.ref Ck_TooMany) [.ref Ck_InvalidChange] = some false)
    (zWs : PySem.W.kitAny K (.ref Ck_NothingToUndo) [.ref Ck_InvalidChange] = some false)
    (yZx : PySem.W.kitAny K (.ref Ck_NoInvariant) [.ref Ck_InvalidChange] = some false)
    (yWc : PySem.W.kitAny K (.ref Ck_NoObject) [.ref Ck_InvalidChange] = some false)
    (oi9 : (([("NoneType", false), ("bool", false), ("int", false), ("str", false), ("list", false), ("tuple", false), ("dict", false)] : List (String × Bool)).all fun p => decide (PySem.W.kitAny K (.type p.1) [.ref Ck_InvalidGoal] = some p.2)) = true)
    (yWb : PySem.W.kitAny K (.ref Ck_Mismatch) [.ref Ck_InvalidGoal] = some false)
    (yY8 : PySem.W.kitAny K (.ref Ck_Started) [.ref Ck_InvalidGoal] = some false)
    (zV7 : PySem.W.kitAny K (.ref Ck_UnknownCommand) [.ref Ck_InvalidGoal] = some false)
    (yJ2 : PySem.W.kitAny K (.ref Ck_ParseError) [.ref Ck_InvalidGoal] = some false)
    (yZw : PySem.W.kitAny K (.ref Ck_InvalidGoal) [.ref Ck_InvalidGoal] = some true)
    (zWr : PySem.W.kitAny K (.ref Ck_InvalidChange) [.ref Ck_InvalidGoal] = some false)
    (zXt : PySem.W.kitAny K (.ref Ck_InvalidCertificate) [.ref Ck_InvalidGoal] = some false)
    (yZu : PySem.W.kitAny K (.ref Ck_InvalidStep) [.ref Ck_InvalidGoal] = some false)
    (zGe : PySem.W.kitAny K (.ref Ck_InvalidState) [.ref Ck_InvalidGoal] = some false)
    (zJp : PySem.W.kitAny K (.ref Ck_InvalidRegisters) [.ref Ck_InvalidGoal] = some false)
    (yZv : PySem.W.kitAny K (.ref Ck_InvalidHeap) [.ref Ck_InvalidGoal] = some false)
    (zGf : PySem.W.kitAny K (.ref Ck_InvalidRoots) [.ref Ck_InvalidGoal] = some false)
    (zGg : PySem.W.kitAny K (.ref Ck_InvalidFresh) [.ref Ck_InvalidGoal] = some false)
    (zGh : PySem.W.kitAny K (.ref Ck_InvalidEntry) [.ref Ck_InvalidGoal] = some false)
    (zV8 : PySem.W.kitAny K (.ref Ck_InvalidThreads) [.ref Ck_InvalidGoal] = some false)
    (yY7 : PySem.W.kitAny K (.ref Ck_TooMany) [.ref Ck_InvalidGoal] = some false)
    (zWq : PySem.W.kitAny K (.ref Ck_NothingToUndo) [.ref Ck_InvalidGoal] = some false)
    (yZt : PySem.W.kitAny K (.ref Ck_NoInvariant) [.ref Ck_InvalidGoal] = some false)
    (yWa : PySem.W.kitAny K (.ref Ck_NoObject) [.ref Ck_InvalidGoal] = some false)
    (wJf : (([("NoneType", false), ("bool", false), ("int", false), ("str", false), ("list", false), ("tuple", false), ("dict", false)] : List (String × Bool)).all fun p => decide (PySem.W.kitAny K (.type p.1) [.ref Ck_ParseError] = some p.2)) = true)
    (yKt : PySem.W.kitAny K (.ref Ck_Mismatch) [.ref Ck_ParseError] = some false)
    (yYl : PySem.W.kitAny K (.ref Ck_Started) [.ref Ck_ParseError] = some false)
    (zVw : PySem.W.kitAny K (.ref Ck_UnknownCommand) [.ref Ck_ParseError] = some false)
    (yX7 : PySem.W.kitAny K (.ref Ck_ParseError) [.ref Ck_ParseError] = some true)
    (yQ1 : PySem.W.kitAny K (.ref Ck_InvalidGoal) [.ref Ck_ParseError] = some false)
    (zWi : PySem.W.kitAny K (.ref Ck_InvalidChange) [.ref Ck_ParseError] = some false)
    (zXr : PySem.W.kitAny K (.ref Ck_InvalidCertificate) [.ref Ck_ParseError] = some false)
    (yQz : PySem.W.kitAny K (.ref Ck_InvalidStep) [.ref Ck_ParseError] = some false)
    (zUs : PySem.W.kitAny K (.ref Ck_InvalidState) [.ref Ck_ParseError] = some false)
    (zJj : PySem.W.kitAny K (.ref Ck_InvalidRegisters) [.ref Ck_ParseError] = some false)
    (yQ0 : PySem.W.kitAny K (.ref Ck_InvalidHeap) [.ref Ck_ParseError] = some false)
    (zUt : PySem.W.kitAny K (.ref Ck_InvalidRoots) [.ref Ck_ParseError] = some false)
    (zUu : PySem.W.kitAny K (.ref Ck_InvalidFresh) [.ref Ck_ParseError] = some false)
    (zUv : PySem.W.kitAny K (.ref Ck_InvalidEntry) [.ref Ck_ParseError] = some false)
    (zVx : PySem.W.kitAny K (.ref Ck_InvalidThreads) [.ref Ck_ParseError] = some false)
    (yYk : PySem.W.kitAny K (.ref Ck_TooMany) [.ref Ck_ParseError] = some false)
    (zWh : PySem.W.kitAny K (.ref Ck_NothingToUndo) [.ref Ck_ParseError] = some false)
    (yQy : PySem.W.kitAny K (.ref Ck_NoInvariant) [.ref Ck_ParseError] = some false)
    (yKs : PySem.W.kitAny K (.ref Ck_NoObject) [.ref Ck_ParseError] = some false)
    (wJe : (([("NoneType", false), ("bool", false), ("int", false), ("str", false), ("list", false), ("tuple", false), ("dict", false)] : List (String × Bool)).all fun p => decide (PySem.W.kitAny K (.type p.1) [.ref Ck_UnknownCommand] = some p.2)) = true)
    (yKr : PySem.W.kitAny K (.ref Ck_Mismatch) [.ref Ck_UnknownCommand] = some false)
    (yYj : PySem.W.kitAny K (.ref Ck_Started) [.ref Ck_UnknownCommand] = some false)
    (zVu : PySem.W.kitAny K (.ref Ck_UnknownCommand) [.ref Ck_UnknownCommand] = some true)
    (yX6 : PySem.W.kitAny K (.ref Ck_ParseError) [.ref Ck_UnknownCommand] = some false)
    (yQx : PySem.W.kitAny K (.ref Ck_InvalidGoal) [.ref Ck_UnknownCommand] = some false)
    (zWg : PySem.W.kitAny K (.ref Ck_InvalidChange) [.ref Ck_UnknownCommand] = some false)
    (zXq : PySem.W.kitAny K (.ref Ck_InvalidCertificate) [.ref Ck_UnknownCommand] = some false)
    (yQv : PySem.W.kitAny K (.ref Ck_InvalidStep) [.ref Ck_UnknownCommand] = some false)
    (zUo : PySem.W.kitAny K (.ref Ck_InvalidState) [.ref Ck_UnknownCommand] = some false)
    (zJi : PySem.W.kitAny K (.ref Ck_InvalidRegisters) [.ref Ck_UnknownCommand] = some false)
    (yQw : PySem.W.kitAny K (.ref Ck_InvalidHeap) [.ref Ck_UnknownCommand] = some false)
    (zUp : PySem.W.kitAny K (.ref Ck_InvalidRoots) [.ref Ck_UnknownCommand] = some false)
    (zUq : PySem.W.kitAny K (.ref Ck_InvalidFresh) [.ref Ck_UnknownCommand] = some false)
    (zUr : PySem.W.kitAny K (.ref Ck_InvalidEntry) [.ref Ck_UnknownCommand] = some false)
    (zVv : PySem.W.kitAny K (.ref Ck_InvalidThreads) [.ref Ck_UnknownCommand] = some false)
    (yYi : PySem.W.kitAny K (.ref Ck_TooMany) [.ref Ck_UnknownCommand] = some false)
    (zWf : PySem.W.kitAny K (.ref Ck_NothingToUndo) [.ref Ck_UnknownCommand] = some false)
    (yQu : PySem.W.kitAny K (.ref Ck_NoInvariant) [.ref Ck_UnknownCommand] = some false)
    (yKq : PySem.W.kitAny K (.ref Ck_NoObject) [.ref Ck_UnknownCommand] = some false)
    (wJd : (([("NoneType", false), ("bool", false), ("int", false), ("str", false), ("list", false), ("tuple", false), ("dict", false)] : List (String × Bool)).all fun p => decide (PySem.W.kitAny K (.type p.1) [.ref Ck_Started] = some p.2)) = true)
    (yKp : PySem.W.kitAny K (.ref Ck_Mismatch) [.ref Ck_Started] = some false)
    (yYh : PySem.W.kitAny K (.ref Ck_Started) [.ref Ck_Started] = some true)
    (zVs : PySem.W.kitAny K (.ref Ck_UnknownCommand) [.ref Ck_Started] = some false)
    (yX5 : PySem.W.kitAny K (.ref Ck_ParseError) [.ref Ck_Started] = some false)
    (yQt : PySem.W.kitAny K (.ref Ck_InvalidGoal) [.ref Ck_Started] = some false)
    (zWe : PySem.W.kitAny K (.ref Ck_InvalidChange) [.ref Ck_Started] = some false)
    (zXp : PySem.W.kitAny K (.ref Ck_InvalidCertificate) [.ref Ck_Started] = some false)
    (yQr : PySem.W.kitAny K (.ref Ck_InvalidStep) [.ref Ck_Started] = some false)
    (zUk : PySem.W.kitAny K (.ref Ck_InvalidState) [.ref Ck_Started] = some false)
    (zJh : PySem.W.kitAny K (.ref Ck_InvalidRegisters) [.ref Ck_Started] = some false)
    (yQs : PySem.W.kitAny K (.ref Ck_InvalidHeap) [.ref Ck_Started] = some false)
    (zUl : PySem.W.kitAny K (.ref Ck_InvalidRoots) [.ref Ck_Started] = some false)
    (zUm : PySem.W.kitAny K (.ref Ck_InvalidFresh) [.ref Ck_Started] = some false)
    (zUn : PySem.W.kitAny K (.ref Ck_InvalidEntry) [.ref Ck_Started] = some false)
    (zVt : PySem.W.kitAny K (.ref Ck_InvalidThreads) [.ref Ck_Started] = some false)
    (yYg : PySem.W.kitAny K (.ref Ck_TooMany) [.ref Ck_Started] = some false)
    (zWd : PySem.W.kitAny K (.ref Ck_NothingToUndo) [.ref Ck_Started] = some false)
    (yQq : PySem.W.kitAny K (.ref Ck_NoInvariant) [.ref Ck_Started] = some false)
    (yKo : PySem.W.kitAny K (.ref Ck_NoObject) [.ref Ck_Started] = some false)
    (wJc : (([("NoneType", false), ("bool", false), ("int", false), ("str", false), ("list", false), ("tuple", false), ("dict", false)] : List (String × Bool)).all fun p => decide (PySem.W.kitAny K (.type p.1) [.ref Ck_Mismatch] = some p.2)) = true)
    (yKn : PySem.W.kitAny K (.ref Ck_Mismatch) [.ref Ck_Mismatch] = some true)
    (yYf : PySem.W.kitAny K (.ref Ck_Started) [.ref Ck_Mismatch] = some false)
    (zVq : PySem.W.kitAny K (.ref Ck_UnknownCommand) [.ref Ck_Mismatch] = some false)
    (yX4 : PySem.W.kitAny K (.ref Ck_ParseError) [.ref Ck_Mismatch] = some false)
    (yQp : PySem.W.kitAny K (.ref Ck_InvalidGoal) [.ref Ck_Mismatch] = some false)
    (zWc : PySem.W.kitAny K (.ref Ck_InvalidChange) [.ref Ck_Mismatch] = some false)
    (zXo : PySem.W.kitAny K (.ref Ck_InvalidCertificate) [.ref Ck_Mismatch] = some false)
    (yQn : PySem.W.kitAny K (.ref Ck_InvalidStep) [.ref Ck_Mismatch] = some false)
    (zUg : PySem.W.kitAny K (.ref Ck_InvalidState) [.ref Ck_Mismatch] = some false)
    (zJg : PySem.W.kitAny K (.ref Ck_InvalidRegisters) [.ref Ck_Mismatch] = some false)
    (yQo : PySem.W.kitAny K (.ref Ck_InvalidHeap) [.ref Ck_Mismatch] = some false)
    (zUh : PySem.W.kitAny K (.ref Ck_InvalidRoots) [.ref Ck_Mismatch] = some false)
    (zUi : PySem.W.kitAny K (.ref Ck_InvalidFresh) [.ref Ck_Mismatch] = some false)
    (zUj : PySem.W.kitAny K (.ref Ck_InvalidEntry) [.ref Ck_Mismatch] = some false)
    (zVr : PySem.W.kitAny K (.ref Ck_InvalidThreads) [.ref Ck_Mismatch] = some false)
    (yYe : PySem.W.kitAny K (.ref Ck_TooMany) [.ref Ck_Mismatch] = some false)
    (zWb : PySem.W.kitAny K (.ref Ck_NothingToUndo) [.ref Ck_Mismatch] = some false)
    (yQm : PySem.W.kitAny K (.ref Ck_NoInvariant) [.ref Ck_Mismatch] = some false)
    (yKm : PySem.W.kitAny K (.ref Ck_NoObject) [.ref Ck_Mismatch] = some false)
    (wJb : (([("NoneType", false), ("bool", false), ("int", false), ("str", false), ("list", false), ("tuple", false), ("dict", false)] : List (String × Bool)).all fun p => decide (PySem.W.kitAny K (.type p.1) [.ref Ck_NoObject] = some p.2)) = true)
    (yKl : PySem.W.kitAny K (.ref Ck_Mismatch) [.ref Ck_NoObject] = some false)
    (yYd : PySem.W.kitAny K (.ref Ck_Started) [.ref Ck_NoObject] = some false)
    (zVo : PySem.W.kitAny K (.ref Ck_UnknownCommand) [.ref Ck_NoObject] = some false)
    (yX3 : PySem.W.kitAny K (.ref Ck_ParseError) [.ref Ck_NoObject] = some false)
    (yQl : PySem.W.kitAny K (.ref Ck_InvalidGoal) [.ref Ck_NoObject] = some false)
    (zWa : PySem.W.kitAny K (.ref Ck_InvalidChange) [.ref Ck_NoObject] = some false)
    (zXn : PySem.W.kitAny K (.ref Ck_InvalidCertificate) [.ref Ck_NoObject] = some false)
    (yQj : PySem.W.kitAny K (.ref Ck_InvalidStep) [.ref Ck_NoObject] = some false)
    (zUc : PySem.W.kitAny K (.ref Ck_InvalidState) [.ref Ck_NoObject] = some false)
    (zJf : PySem.W.kitAny K (.ref Ck_InvalidRegisters) [.ref Ck_NoObject] = some false)
    (yQk : PySem.W.kitAny K (.ref Ck_InvalidHeap) [.ref Ck_NoObject] = some false)
    (zUd : PySem.W.kitAny K (.ref Ck_InvalidRoots) [.ref Ck_NoObject] = some false)
    (zUe : PySem.W.kitAny K (.ref Ck_InvalidFresh) [.ref Ck_NoObject] = some false)
    (zUf : PySem.W.kitAny K (.ref Ck_InvalidEntry) [.ref Ck_NoObject] = some false)
    (zVp : PySem.W.kitAny K (.ref Ck_InvalidThreads) [.ref Ck_NoObject] = some false)
    (yYc : PySem.W.kitAny K (.ref Ck_TooMany) [.ref Ck_NoObject] = some false)
    (zK9 : PySem.W.kitAny K (.ref Ck_NothingToUndo) [.ref Ck_NoObject] = some false)
    (yQi : PySem.W.kitAny K (.ref Ck_NoInvariant) [.ref Ck_NoObject] = some false)
    (yKk : PySem.W.kitAny K (.ref Ck_NoObject) [.ref Ck_NoObject] = some true)
    (wJa : (([("NoneType", false), ("bool", false), ("int", false), ("str", false), ("list", false), ("tuple", false), ("dict", false)] : List (String × Bool)).all fun p => decide (PySem.W.kitAny K (.type p.1) [.ref Ck_NoInvariant] = some p.2)) = true)
    (yKj : PySem.W.kitAny K (.ref Ck_Mismatch) [.ref Ck_NoInvariant] = some false)
    (yYb : PySem.W.kitAny K (.ref Ck_Started) [.ref Ck_NoInvariant] = some false)
    (zVm : PySem.W.kitAny K (.ref Ck_UnknownCommand) [.ref Ck_NoInvariant] = some false)
    (yX2 : PySem.W.kitAny K (.ref Ck_ParseError) [.ref Ck_NoInvariant] = some false)
    (yQh : PySem.W.kitAny K (.ref Ck_InvalidGoal) [.ref Ck_NoInvariant] = some false)
    (zK8 : PySem.W.kitAny K (.ref Ck_InvalidChange) [.ref Ck_NoInvariant] = some false)
    (zXm : PySem.W.kitAny K (.ref Ck_InvalidCertificate) [.ref Ck_NoInvariant] = some false)
    (yQf : PySem.W.kitAny K (.ref Ck_InvalidStep) [.ref Ck_NoInvariant] = some false)
    (zY8 : PySem.W.kitAny K (.ref Ck_InvalidState) [.ref Ck_NoInvariant] = some false)
    (zJe : PySem.W.kitAny K (.ref Ck_InvalidRegisters) [.ref Ck_NoInvariant] = some false)
    (yQg : PySem.W.kitAny K (.ref Ck_InvalidHeap) [.ref Ck_NoInvariant] = some false)
    (zY9 : PySem.W.kitAny K (.ref Ck_InvalidRoots) [.ref Ck_NoInvariant] = some false)
    (zUa : PySem.W.kitAny K (.ref Ck_InvalidFresh) [.ref Ck_NoInvariant] = some false)
    (zUb : PySem.W.kitAny K (.ref Ck_InvalidEntry) [.ref Ck_NoInvariant] = some false)
    (zVn : PySem.W.kitAny K (.ref Ck_InvalidThreads) [.ref Ck_NoInvariant] = some false)
    (yYa : PySem.W.kitAny K (.ref Ck_TooMany) [.ref Ck_NoInvariant] = some false)
    (zK7 : PySem.W.kitAny K (.ref Ck_NothingToUndo) [.ref Ck_NoInvariant] = some false)
    (yQe : PySem.W.kitAny K (.ref Ck_NoInvariant) [.ref Ck_NoInvariant] = some true)
    (yKi : PySem.W.kitAny K (.ref Ck_NoObject) [.ref Ck_NoInvariant] = some false)
    (wX9 : (([("NoneType", false), ("bool", false), ("int", false), ("str", false), ("list", false), ("tuple", false), ("dict", false)] : List (String × Bool)).all fun p => decide (PySem.W.kitAny K (.type p.1) [.ref Ck_NothingToUndo] = some p.2)) = true)
    (yKh : PySem.W.kitAny K (.ref Ck_Mismatch) [.ref Ck_NothingToUndo] = some false)
    (yW9 : PySem.W.kitAny K (.ref Ck_Started) [.ref Ck_NothingToUndo] = some false)
    (zVk : PySem.W.kitAny K (.ref Ck_UnknownCommand) [.ref Ck_NothingToUndo] = some false)
    (yX1 : PySem.W.kitAny K (.ref Ck_ParseError) [.ref Ck_NothingToUndo] = some false)
    (yQd : PySem.W.kitAny K (.ref Ck_InvalidGoal) [.ref Ck_NothingToUndo] = some false)
    (zK6 : PySem.W.kitAny K (.ref Ck_InvalidChange) [.ref Ck_NothingToUndo] = some false)
    (zXl : PySem.W.kitAny K (.ref Ck_InvalidCertificate) [.ref Ck_NothingToUndo] = some false)
    (yQb : PySem.W.kitAny K (.ref Ck_InvalidStep) [.ref Ck_NothingToUndo] = some false)
    (zY4 : PySem.W.kitAny K (.ref Ck_InvalidState) [.ref Ck_NothingToUndo] = some false)
    (zJd : PySem.W.kitAny K (.ref Ck_InvalidRegisters) [.ref Ck_NothingToUndo] = some false)
    (yQc : PySem.W.kitAny K (.ref Ck_InvalidHeap) [.ref Ck_NothingToUndo] = some false)
    (zY5 : PySem.W.kitAny K (.ref Ck_InvalidRoots) [.ref Ck_NothingToUndo] = some false)
    (zY6 : PySem.W.kitAny K (.ref Ck_InvalidFresh) [.ref Ck_NothingToUndo] = some false)
    (zY7 : PySem.W.kitAny K (.ref Ck_InvalidEntry) [.ref Ck_NothingToUndo] = some false)
    (zVl : PySem.W.kitAny K (.ref Ck_InvalidThreads) [.ref Ck_NothingToUndo] = some false)
    (yW8 : PySem.W.kitAny K (.ref Ck_TooMany) [.ref Ck_NothingToUndo] = some false)
    (zK5 : PySem.W.kitAny K (.ref Ck_NothingToUndo) [.ref Ck_NothingToUndo] = some true)
    (yQa : PySem.W.kitAny K (.ref Ck_NoInvariant) [.ref Ck_NothingToUndo] = some false)
    (yKg : PySem.W.kitAny K (.ref Ck_NoObject) [.ref Ck_NothingToUndo] = some false)
    (wX8 : (([("NoneType", false), ("bool", false), ("int", false), ("str", false), ("list", false), ("tuple", false), ("dict", false)] : List (String × Bool)).all fun p => decide (PySem.W.kitAny K (.type p.1) [.ref Ck_TooMany] = some p.2)) = true)
    (yKf : PySem.W.kitAny K (.ref Ck_Mismatch) [.ref Ck_TooMany] = some false)
    (yW7 : PySem.W.kitAny K (.ref Ck_Started) [.ref Ck_TooMany] = some false)
    (zVi : PySem.W.kitAny K (.ref Ck_UnknownCommand) [.ref Ck_TooMany] = some false)
    (yX0 : PySem.W.kitAny K (.ref Ck_ParseError) [.ref Ck_TooMany] = some false)
    (zH9 : PySem.W.kitAny K (.ref Ck_InvalidGoal) [.ref Ck_TooMany] = some false)
    (zK4 : PySem.W.kitAny K (.ref Ck_InvalidChange) [.ref Ck_TooMany] = some false)
    (zXk : PySem.W.kitAny K (.ref Ck_InvalidCertificate) [.ref Ck_TooMany] = some false)
    (zH7 : PySem.W.kitAny K (.ref Ck_InvalidStep) [.ref Ck_TooMany] = some false)
    (zY0 : PySem.W.kitAny K (.ref Ck_InvalidState) [.ref Ck_TooMany] = some false)
    (zJc : PySem.W.kitAny K (.ref Ck_InvalidRegisters) [.ref Ck_TooMany] = some false)
    (zH8 : PySem.W.kitAny K (.ref Ck_InvalidHeap) [.ref Ck_TooMany] = some false)
    (zY1 : PySem.W.kitAny K (.ref Ck_InvalidRoots) [.ref Ck_TooMany] = some false)
    (zY2 : PySem.W.kitAny K (.ref Ck_InvalidFresh) [.ref Ck_TooMany] = some false)
    (zY3 : PySem.W.kitAny K (.ref Ck_InvalidEntry) [.ref Ck_TooMany] = some false)
    (zVj : PySem.W.kitAny K (.ref Ck_InvalidThreads) [.ref Ck_TooMany] = some false)
    (yW6 : PySem.W.kitAny K (.ref Ck_TooMany) [.ref Ck_TooMany] = some true)
    (zK3 : PySem.W.kitAny K (.ref Ck_NothingToUndo) [.ref Ck_TooMany] = some false)
    (zH6 : PySem.W.kitAny K (.ref Ck_NoInvariant) [.ref Ck_TooMany] = some false)
    (yKe : PySem.W.kitAny K (.ref Ck_NoObject) [.ref Ck_TooMany] = some false)
    (wX7 : (([("NoneType", false), ("bool", false), ("int", false), ("str", false), ("list", false), ("tuple", false), ("dict", false)] : List (String × Bool)).all fun p => decide (PySem.W.kitAny K (.type p.1) [.ref Ck_InvalidThreads] = some p.2)) = true)
    (yKd : PySem.W.kitAny K (.ref Ck_Mismatch) [.ref Ck_InvalidThreads] = some false)
    (yW5 : PySem.W.kitAny K (.ref Ck_Started) [.ref Ck_InvalidThreads] = some false)
    (zVg : PySem.W.kitAny K (.ref Ck_UnknownCommand) [.ref Ck_InvalidThreads] = some false)
    (yXz : PySem.W.kitAny K (.ref Ck_ParseError) [.ref Ck_InvalidThreads] = some false)
    (zH5 : PySem.W.kitAny K (.ref Ck_InvalidGoal) [.ref Ck_InvalidThreads] = some false)
    (zK2 : PySem.W.kitAny K (.ref Ck_InvalidChange) [.ref Ck_InvalidThreads] = some false)
    (zXj : PySem.W.kitAny K (.ref Ck_InvalidCertificate) [.ref Ck_InvalidThreads] = some false)
    (zH3 : PySem.W.kitAny K (.ref Ck_InvalidStep) [.ref Ck_InvalidThreads] = some false)
    (zYw : PySem.W.kitAny K (.ref Ck_InvalidState) [.ref Ck_InvalidThreads] = some false)
    (zJb : PySem.W.kitAny K (.ref Ck_InvalidRegisters) [.ref Ck_InvalidThreads] = some false)
    (zH4 : PySem.W.kitAny K (.ref Ck_InvalidHeap) [.ref Ck_InvalidThreads] = some false)
    (zYx : PySem.W.kitAny K (.ref Ck_InvalidRoots) [.ref Ck_InvalidThreads] = some false)
    (zYy : PySem.W.kitAny K (.ref Ck_InvalidFresh) [.ref Ck_InvalidThreads] = some false)
    (zYz : PySem.W.kitAny K (.ref Ck_InvalidEntry) [.ref Ck_InvalidThreads] = some false)
    (zVh : PySem.W.kitAny K (.ref Ck_InvalidThreads) [.ref Ck_InvalidThreads] = some true)
    (yW4 : PySem.W.kitAny K (.ref Ck_TooMany) [.ref Ck_InvalidThreads] = some false)
    (zK1 : PySem.W.kitAny K (.ref Ck_NothingToUndo) [.ref Ck_InvalidThreads] = some false)
    (zH2 : PySem.W.kitAny K (.ref Ck_NoInvariant) [.ref Ck_InvalidThreads] = some false)
    (yKc : PySem.W.kitAny K (.ref Ck_NoObject) [.ref Ck_InvalidThreads] = some false)
    (wX6 : (([("NoneType", false), ("bool", false), ("int", false), ("str", false), ("list", false), ("tuple", false), ("dict", false)] : List (String × Bool)).all fun p => decide (PySem.W.kitAny K (.type p.1) [.ref Ck_ShadeError] = some p.2)) = true)
    (yKb : PySem.W.kitAny K (.ref Ck_Mismatch) [.ref Ck_ShadeError] = some true)
    (yW3 : PySem.W.kitAny K (.ref Ck_Started) [.ref Ck_ShadeError] = some true)
    (zVe : PySem.W.kitAny K (.ref Ck_UnknownCommand) [.ref Ck_ShadeError] = some true)
    (yXy : PySem.W.kitAny K (.ref Ck_ParseError) [.ref Ck_ShadeError] = some true)
    (zH1 : PySem.W.kitAny K (.ref Ck_InvalidGoal) [.ref Ck_ShadeError] = some true)
    (zK0 : PySem.W.kitAny K (.ref Ck_InvalidChange) [.ref Ck_ShadeError] = some true)
    (zXi : PySem.W.kitAny K (.ref Ck_InvalidCertificate) [.ref Ck_ShadeError] = some true)
    (zHz : PySem.W.kitAny K (.ref Ck_InvalidStep) [.ref Ck_ShadeError] = some true)
    (zYs : PySem.W.kitAny K (.ref Ck_InvalidState) [.ref Ck_ShadeError] = some true)
    (zJa : PySem.W.kitAny K (.ref Ck_InvalidRegisters) [.ref Ck_ShadeError] = some true)
    (zH0 : PySem.W.kitAny K (.ref Ck_InvalidHeap) [.ref Ck_ShadeError] = some true)
    (zYt : PySem.W.kitAny K (.ref Ck_InvalidRoots) [.ref Ck_ShadeError] = some true)
    (zYu : PySem.W.kitAny K (.ref Ck_InvalidFresh) [.ref Ck_ShadeError] = some true)
    (zYv : PySem.W.kitAny K (.ref Ck_InvalidEntry) [.ref Ck_ShadeError] = some true)
    (zVf : PySem.W.kitAny K (.ref Ck_InvalidThreads) [.ref Ck_ShadeError] = some true)
    (yW2 : PySem.W.kitAny K (.ref Ck_TooMany) [.ref Ck_ShadeError] = some false)
    (zKz : PySem.W.kitAny K (.ref Ck_NothingToUndo) [.ref Ck_ShadeError] = some false)
    (zHy : PySem.W.kitAny K (.ref Ck_NoInvariant) [.ref Ck_ShadeError] = some false)
    (yKa : PySem.W.kitAny K (.ref Ck_NoObject) [.ref Ck_ShadeError] = some false)
    (wX5 : (([("NoneType", false), ("bool", false), ("int", false), ("str", false), ("list", false), ("tuple", false), ("dict", false)] : List (String × Bool)).all fun p => decide (PySem.W.kitAny K (.type p.1) [.type "ValueError"] = some p.2)) = true)
    (yV9 : PySem.W.kitAny K (.ref Ck_Mismatch) [.type "ValueError"] = some true)
    (yWz : PySem.W.kitAny K (.ref Ck_Started) [.type "ValueError"] = some true)
    (zVc : PySem.W.kitAny K (.ref Ck_UnknownCommand) [.type "ValueError"] = some true)
    (yXt : PySem.W.kitAny K (.ref Ck_ParseError) [.type "ValueError"] = some true)
    (zHt : PySem.W.kitAny K (.ref Ck_InvalidGoal) [.type "ValueError"] = some true)
    (zKw : PySem.W.kitAny K (.ref Ck_InvalidChange) [.type "ValueError"] = some true)
    (zXh : PySem.W.kitAny K (.ref Ck_InvalidCertificate) [.type "ValueError"] = some true)
    (zHr : PySem.W.kitAny K (.ref Ck_InvalidStep) [.type "ValueError"] = some true)
    (zYm : PySem.W.kitAny K (.ref Ck_InvalidState) [.type "ValueError"] = some true)
    (zX9 : PySem.W.kitAny K (.ref Ck_InvalidRegisters) [.type "ValueError"] = some true)
    (zHs : PySem.W.kitAny K (.ref Ck_InvalidHeap) [.type "ValueError"] = some true)
    (zYn : PySem.W.kitAny K (.ref Ck_InvalidRoots) [.type "ValueError"] = some true)
    (zYo : PySem.W.kitAny K (.ref Ck_InvalidFresh) [.type "ValueError"] = some true)
    (zYp : PySem.W.kitAny K (.ref Ck_InvalidEntry) [.type "ValueError"] = some true)
    (zVd : PySem.W.kitAny K (.ref Ck_InvalidThreads) [.type "ValueError"] = some true)
    (yWy : PySem.W.kitAny K (.ref Ck_TooMany) [.type "ValueError"] = some false)
    (zKv : PySem.W.kitAny K (.ref Ck_NothingToUndo) [.type "ValueError"] = some false)
    (zHq : PySem.W.kitAny K (.ref Ck_NoInvariant) [.type "ValueError"] = some false)
    (yV8 : PySem.W.kitAny K (.ref Ck_NoObject) [.type "ValueError"] = some false)
    (yZk : PySem.W.nsIn K mainGlobals "ValueError" = some none)
    (wX4 : (([("NoneType", false), ("bool", false), ("int", false), ("str", false), ("list", false), ("tuple", false), ("dict", false)] : List (String × Bool)).all fun p => decide (PySem.W.kitAny K (.type p.1) [.type "IndexError"] = some p.2)) = true)
    (yV7 : PySem.W.kitAny K (.ref Ck_Mismatch) [.type "IndexError"] = some false)
    (yWx : PySem.W.kitAny K (.ref Ck_Started) [.type "IndexError"] = some false)
    (zVa : PySem.W.kitAny K (.ref Ck_UnknownCommand) [.type "IndexError"] = some false)
    (yXs : PySem.W.kitAny K (.ref Ck_ParseError) [.type "IndexError"] = some false)
    (zHp : PySem.W.kitAny K (.ref Ck_InvalidGoal) [.type "IndexError"] = some false)
    (zKu : PySem.W.kitAny K (.ref Ck_InvalidChange) [.type "IndexError"] = some false)
    (zXg : PySem.W.kitAny K (.ref Ck_InvalidCertificate) [.type "IndexError"] = some false)
    (zHn : PySem.W.kitAny K (.ref Ck_InvalidStep) [.type "IndexError"] = some false)
    (zYi : PySem.W.kitAny K (.ref Ck_InvalidState) [.type "IndexError"] = some false)
    (zX8 : PySem.W.kitAny K (.ref Ck_InvalidRegisters) [.type "IndexError"] = some false)
    (zHo : PySem.W.kitAny K (.ref Ck_InvalidHeap) [.type "IndexError"] = some false)
    (zYj : PySem.W.kitAny K (.ref Ck_InvalidRoots) [.type "IndexError"] = some false)
    (zYk : PySem.W.kitAny K (.ref Ck_InvalidFresh) [.type "IndexError"] = some false)
    (zYl : PySem.W.kitAny K (.ref Ck_InvalidEntry) [.type "IndexError"] = some false)
    (zVb : PySem.W.kitAny K (.ref Ck_InvalidThreads) [.type "IndexError"] = some false)
    (yWw : PySem.W.kitAny K (.ref Ck_TooMany) [.type "IndexError"] = some false)
    (zKt : PySem.W.kitAny K (.ref Ck_NothingToUndo) [.type "IndexError"] = some false)
    (zHm : PySem.W.kitAny K (.ref Ck_NoInvariant) [.type "IndexError"] = some false)
    (yV6 : PySem.W.kitAny K (.ref Ck_NoObject) [.type "IndexError"] = some true)
    (yZj : PySem.W.nsIn K mainGlobals "IndexError" = some none)
    (wX3 : (([("NoneType", false), ("bool", false), ("int", false), ("str", false), ("list", false), ("tuple", false), ("dict", false)] : List (String × Bool)).all fun p => decide (PySem.W.kitAny K (.type p.1) [.type "KeyError"] = some p.2)) = true)
    (yV5 : PySem.W.kitAny K (.ref Ck_Mismatch) [.type "KeyError"] = some false)
    (yWv : PySem.W.kitAny K (.ref Ck_Started) [.type "KeyError"] = some false)
    (zJ8 : PySem.W.kitAny K (.ref Ck_UnknownCommand) [.type "KeyError"] = some false)
    (yXr : PySem.W.kitAny K (.ref Ck_ParseError) [.type "KeyError"] = some false)
    (zHl : PySem.W.kitAny K (.ref Ck_InvalidGoal) [.type "KeyError"] = some false)
    (zKs : PySem.W.kitAny K (.ref Ck_InvalidChange) [.type "KeyError"] = some false)
    (zXf : PySem.W.kitAny K (.ref Ck_InvalidCertificate) [.type "KeyError"] = some false)
    (zHj : PySem.W.kitAny K (.ref Ck_InvalidStep) [.type "KeyError"] = some false)
    (zYe : PySem.W.kitAny K (.ref Ck_InvalidState) [.type "KeyError"] = some false)
    (zX7 : PySem.W.kitAny K (.ref Ck_InvalidRegisters) [.type "KeyError"] = some false)
    (zHk : PySem.W.kitAny K (.ref Ck_InvalidHeap) [.type "KeyError"] = some false)
    (zYf : PySem.W.kitAny K (.ref Ck_InvalidRoots) [.type "KeyError"] = some false)
    (zYg : PySem.W.kitAny K (.ref Ck_InvalidFresh) [.type "KeyError"] = some false)
    (zYh : PySem.W.kitAny K (.ref Ck_InvalidEntry) [.type "KeyError"] = some false)
    (zJ9 : PySem.W.kitAny K (.ref Ck_InvalidThreads) [.type "KeyError"] = some false)
    (yWu : PySem.W.kitAny K (.ref Ck_TooMany) [.type "KeyError"] = some false)
    (zKr : PySem.W.kitAny K (.ref Ck_NothingToUndo) [.type "KeyError"] = some false)
    (zHi : PySem.W.kitAny K (.ref Ck_NoInvariant) [.type "KeyError"] = some true)
    (yV4 : PySem.W.kitAny K (.ref Ck_NoObject) [.type "KeyError"] = some false)
    (yVv : PySem.W.nsIn K mainGlobals "KeyError" = some none)
    (wX2 : (([("NoneType", false), ("bool", false), ("int", false), ("str", false), ("list", false), ("tuple", false), ("dict", false)] : List (String × Bool)).all fun p => decide (PySem.W.kitAny K (.type p.1) [.type "LookupError"] = some p.2)) = true)
    (yV3 : PySem.W.kitAny K (.ref Ck_Mismatch) [.type "LookupError"] = some false)
    (yWt : PySem.W.kitAny K (.ref Ck_Started) [.type "LookupError"] = some false)
    (zJ6 : PySem.W.kitAny K (.ref Ck_UnknownCommand) [.type "LookupError"] = some false)
    (yXq : PySem.W.kitAny K (.ref Ck_ParseError) [.type "LookupError"] = some false)
    (zHh : PySem.W.kitAny K (.ref Ck_InvalidGoal) [.type "LookupError"] = some false)
    (zKq : PySem.W.kitAny K (.ref Ck_InvalidChange) [.type "LookupError"] = some false)
    (zXe : PySem.W.kitAny K (.ref Ck_InvalidCertificate) [.type "LookupError"] = some false)
    (zHf : PySem.W.kitAny K (.ref Ck_InvalidStep) [.type "LookupError"] = some false)
    (zYa : PySem.W.kitAny K (.ref Ck_InvalidState) [.type "LookupError"] = some false)
    (zX6 : PySem.W.kitAny K (.ref Ck_InvalidRegisters) [.type "LookupError"] = some false)
    (zHg : PySem.W.kitAny K (.ref Ck_InvalidHeap) [.type "LookupError"] = some false)
    (zYb : PySem.W.kitAny K (.ref Ck_InvalidRoots) [.type "LookupError"] = some false)
    (zYc : PySem.W.kitAny K (.ref Ck_InvalidFresh) [.type "LookupError"] = some false)
    (zYd : PySem.W.kitAny K (.ref Ck_InvalidEntry) [.type "LookupError"] = some false)
    (zJ7 : PySem.W.kitAny K (.ref Ck_InvalidThreads) [.type "LookupError"] = some false)
    (yWs : PySem.W.kitAny K (.ref Ck_TooMany) [.type "LookupError"] = some false)
    (zKp : PySem.W.kitAny K (.ref Ck_NothingToUndo) [.type "LookupError"] = some true)
    (zHe : PySem.W.kitAny K (.ref Ck_NoInvariant) [.type "LookupError"] = some true)
    (yV2 : PySem.W.kitAny K (.ref Ck_NoObject) [.type "LookupError"] = some true)
    (zU8 : PySem.W.nsIn K mainGlobals "LookupError" = some none)
    (wX1 : (([("NoneType", false), ("bool", false), ("int", false), ("str", false), ("list", false), ("tuple", false), ("dict", false)] : List (String × Bool)).all fun p => decide (PySem.W.kitAny K (.type p.1) [.type "OverflowError"] = some p.2)) = true)
    (yV1 : PySem.W.kitAny K (.ref Ck_Mismatch) [.type "OverflowError"] = some false)
    (yWr : PySem.W.kitAny K (.ref Ck_Started) [.type "OverflowError"] = some false)
    (zJ4 : PySem.W.kitAny K (.ref Ck_UnknownCommand) [.type "OverflowError"] = some false)
    (yXp : PySem.W.kitAny K (.ref Ck_ParseError) [.type "OverflowError"] = some false)
    (zHd : PySem.W.kitAny K (.ref Ck_InvalidGoal) [.type "OverflowError"] = some false)
    (zKo : PySem.W.kitAny K (.ref Ck_InvalidChange) [.type "OverflowError"] = some false)
    (zXd : PySem.W.kitAny K (.ref Ck_InvalidCertificate) [.type "OverflowError"] = some false)
    (zHb : PySem.W.kitAny K (.ref Ck_InvalidStep) [.type "OverflowError"] = some false)
    (zW6 : PySem.W.kitAny K (.ref Ck_InvalidState) [.type "OverflowError"] = some false)
    (zX5 : PySem.W.kitAny K (.ref Ck_InvalidRegisters) [.type "OverflowError"] = some false)
    (zHc : PySem.W.kitAny K (.ref Ck_InvalidHeap) [.type "OverflowError"] = some false)
    (zW7 : PySem.W.kitAny K (.ref Ck_InvalidRoots) [.type "OverflowError"] = some false)
    (zW8 : PySem.W.kitAny K (.ref Ck_InvalidFresh) [.type "OverflowError"] = some false)
    (zW9 : PySem.W.kitAny K (.ref Ck_InvalidEntry) [.type "OverflowError"] = some false)
    (zJ5 : PySem.W.kitAny K (.ref Ck_InvalidThreads) [.type "OverflowError"] = some false)
    (yWq : PySem.W.kitAny K (.ref Ck_TooMany) [.type "OverflowError"] = some true)
    (zKn : PySem.W.kitAny K (.ref Ck_NothingToUndo) [.type "OverflowError"] = some false)
    (zHa : PySem.W.kitAny K (.ref Ck_NoInvariant) [.type "OverflowError"] = some false)
    (yV0 : PySem.W.kitAny K (.ref Ck_NoObject) [.type "OverflowError"] = some false)
    (zV6 : PySem.W.nsIn K mainGlobals "OverflowError" = some none)
    {od0 an0 : Option Addr} {sl0 : Array (Option Value)} {f0 : Addr} {oc0 kV0 dc0 pm0 cd0 ct0 : Value}
    (a0 : PySem.W.nsIn K mainGlobals "_law_pen" = some (some (.ref f0))) (l0 : K.lookup f0 = some ⟨oc0, od0, .func (PySem.W.fnOf "_law_pen" "_law_pen" (defArgs (zZ1 22)) (defBody (zZ1 22)) (defScope (zZ1 22)) .none kV0 dc0 pm0 an0 cd0 ct0), sl0⟩) (c0 : PySem.W.codeIn K cd0 "_law_pen" = true) (k0 : PySem.W.keepIn K (.ref f0) = true)
    {od1 an1 : Option Addr} {sl1 : Array (Option Value)} {f1 : Addr} {oc1 kV1 dc1 pm1 cd1 ct1 : Value}
    (a1 : PySem.W.nsIn K mainGlobals "_law_draw" = some (some (.ref f1))) (l1 : K.lookup f1 = some ⟨oc1, od1, .func (PySem.W.fnOf "_law_draw" "_law_draw" (defArgs (zZ1 23)) (defBody (zZ1 23)) (defScope (zZ1 23)) .none kV1 dc1 pm1 an1 cd1 ct1), sl1⟩) (c1 : PySem.W.codeIn K cd1 "_law_draw" = true) (k1 : PySem.W.keepIn K (.ref f1) = true)
    {od2 an2 : Option Addr} {sl2 : Array (Option Value)} {f2 : Addr} {oc2 kV2 dc2 pm2 cd2 ct2 : Value}
    (a2 : PySem.W.nsIn K mainGlobals "_law_thing" = some (some (.ref f2))) (l2 : K.lookup f2 = some ⟨oc2, od2, .func (PySem.W.fnOf "_law_thing" "_law_thing" (defArgs (zZ1 24)) (defBody (zZ1 24)) (defScope (zZ1 24)) .none kV2 dc2 pm2 an2 cd2 ct2), sl2⟩) (c2 : PySem.W.codeIn K cd2 "_law_thing" = true) (k2 : PySem.W.keepIn K (.ref f2) = true)
    {od3 an3 : Option Addr} {sl3 : Array (Option Value)} {f3 : Addr} {oc3 kV3 dc3 pm3 cd3 ct3 : Value}
    (a3 : PySem.W.nsIn K mainGlobals "_law_kinds" = some (some (.ref f3))) (l3 : K.lookup f3 = some ⟨oc3, od3, .func (PySem.W.fnOf "_law_kinds" "_law_kinds" (defArgs (zZ1 25)) (defBody (zZ1 25)) (defScope (zZ1 25)) .none kV3 dc3 pm3 an3 cd3 ct3), sl3⟩) (c3 : PySem.W.codeIn K cd3 "_law_kinds" = true) (k3 : PySem.W.keepIn K (.ref f3) = true)
    {od4 an4 : Option Addr} {sl4 : Array (Option Value)} {f4 : Addr} {oc4 kV4 dc4 pm4 cd4 ct4 : Value}
    (a4 : PySem.W.nsIn K mainGlobals "_law_bases" = some (some (.ref f4))) (l4 : K.lookup f4 = some ⟨oc4, od4, .func (PySem.W.fnOf "_law_bases" "_law_bases" (defArgs (zZ1 26)) (defBody (zZ1 26)) (defScope (zZ1 26)) .none kV4 dc4 pm4 an4 cd4 ct4), sl4⟩) (c4 : PySem.W.codeIn K cd4 "_law_bases" = true) (k4 : PySem.W.keepIn K (.ref f4) = true)
    {od5 an5 : Option Addr} {sl5 : Array (Option Value)} {f5 : Addr} {oc5 kV5 dc5 pm5 cd5 ct5 : Value}
    (a5 : PySem.W.nsIn K mainGlobals "_law_placed" = some (some (.ref f5))) (l5 : K.lookup f5 = some ⟨oc5, od5, .func (PySem.W.fnOf "_law_placed" "_law_placed" (defArgs (zZ1 27)) (defBody (zZ1 27)) (defScope (zZ1 27)) .none kV5 dc5 pm5 an5 cd5 ct5), sl5⟩) (c5 : PySem.W.codeIn K cd5 "_law_placed" = true) (k5 : PySem.W.keepIn K (.ref f5) = true)
    {od6 an6 : Option Addr} {sl6 : Array (Option Value)} {f6 : Addr} {oc6 kV6 dc6 pm6 cd6 ct6 : Value}
    (a6 : PySem.W.nsIn K mainGlobals "_law_named" = some (some (.ref f6))) (l6 : K.lookup f6 = some ⟨oc6, od6, .func (PySem.W.fnOf "_law_named" "_law_named" (defArgs (zZ1 28)) (defBody (zZ1 28)) (defScope (zZ1 28)) .none kV6 dc6 pm6 an6 cd6 ct6), sl6⟩) (c6 : PySem.W.codeIn K cd6 "_law_named" = true) (k6 : PySem.W.keepIn K (.ref f6) = true)
    {od7 an7 : Option Addr} {sl7 : Array (Option Value)} {f7 : Addr} {oc7 kV7 dc7 pm7 cd7 ct7 : Value}
    (a7 : PySem.W.nsIn K mainGlobals "_law_fields" = some (some (.ref f7))) (l7 : K.lookup f7 = some ⟨oc7, od7, .func (PySem.W.fnOf "_law_fields" "_law_fields" (defArgs (zZ1 29)) (defBody (zZ1 29)) (defScope (zZ1 29)) .none kV7 dc7 pm7 an7 cd7 ct7), sl7⟩) (c7 : PySem.W.codeIn K cd7 "_law_fields" = true) (k7 : PySem.W.keepIn K (.ref f7) = true)
    {od8 an8 : Option Addr} {sl8 : Array (Option Value)} {f8 : Addr} {oc8 kV8 dc8 pm8 cd8 ct8 : Value}
    (a8 : PySem.W.nsIn K mainGlobals "_law_due_bases" = some (some (.ref f8))) (l8 : K.lookup f8 = some ⟨oc8, od8, .func (PySem.W.fnOf "_law_due_bases" "_law_due_bases" (defArgs (zZ1 30)) (defBody (zZ1 30)) (defScope (zZ1 30)) .none kV8 dc8 pm8 an8 cd8 ct8), sl8⟩) (c8 : PySem.W.codeIn K cd8 "_law_due_bases" = true) (k8 : PySem.W.keepIn K (.ref f8) = true)
    {od9 an9 : Option Addr} {sl9 : Array (Option Value)} {f9 : Addr} {oc9 kV9 dc9 pm9 cd9 ct9 : Value}
    (a9 : PySem.W.nsIn K mainGlobals "law" = some (some (.ref f9))) (l9 : K.lookup f9 = some ⟨oc9, od9, .func (PySem.W.fnOf "law" "law" (defArgs (zZ1 31)) (defBody (zZ1 31)) (defScope (zZ1 31)) .none kV9 dc9 pm9 an9 cd9 ct9), sl9⟩) (c9 : PySem.W.codeIn K cd9 "law" = true) (k9 : PySem.W.keepIn K (.ref f9) = true)
    : ∃ fd : FuncData, (∀ (s : Shared) (v : Value), BindsTo s fd ⟨[v], []⟩ [("_law_script", v)]) ∧ ∀ base : Heap, K.In base → base.Ns mainGlobals mg → SM base → TabG K mg base → FnG PySem.Challenge.rw_shadeguards_k01_errors_and_their_fields.prog w K mg base 4 fa fd ["_law_script"] (spG K 1 xXe) := by
  have e := hfa.symm.trans (PySem.W.mg_of X G a9)
  cases e
  have T : Top w K mg := ⟨PySem.W.mg_none_of X G xJb, PySem.W.mg_none_of X G xWs, PySem.W.mg_none_of X G xWu, PySem.W.mg_none_of X G xWt, PySem.W.mg_none_of X G yK7, PySem.W.mg_none_of X G yY0, PySem.W.mg_none_of X G xQz, PySem.W.mg_none_of X G xJa, yGw (PySem.W.mg_of X G zZc) zZc yY5 yUu yUr yUs yY1 yUt (fun _ _ _ _ _ _ us hl => match us, hl with | [_, _], _ => rfl), yZh zZc zZe, yGw (PySem.W.mg_of X G zQv) zQv yJy yVl yVc yVf yJv yVi (fun _ _ _ _ _ _ us hl => match us, hl with | [_, _], _ => rfl), yZh zQv zQ5, yGw (PySem.W.mg_of X G zQk) zQk zGc yZc yQ6 yQ8 zGa yZa (fun _ _ _ _ _ _ us hl => match us, hl with | [_, _], _ => rfl), yZh zQk zQs, yGw (PySem.W.mg_of X G zZi) zZi yGh yGm yGj yGk yGg yGl (fun _ _ _ _ _ _ us hl => match us, hl with | [_, _], _ => rfl), yZh zZi zZl, yGw (PySem.W.mg_of X G zQj) zQj zWp zU5 zUz zU1 zWn zU3 (fun _ _ _ _ _ _ us hl => match us, hl with | [_, _], _ => rfl), yZh zQj zQn, yGw (PySem.W.mg_of X G zQr) zQr yZs yJn yJe yJh yZo yJk (fun _ _ _ _ _ _ us hl => match us, hl with | [_, _], _ => rfl), yZh zQr zQ2, yGw (PySem.W.mg_of X G zQq) zQq yZr yJm yJd yJg yZn yJj (fun _ _ _ _ _ _ us hl => match us, hl with | [_, _], _ => rfl), yZh zQq zQ1, yGw (PySem.W.mg_of X G zQp) zQp yZq yJl yJc yJf yZm yJi (fun _ _ _ _ _ _ us hl => match us, hl with | [_, _], _ => rfl), yZh zQp zQ0, xWy (PySem.W.mg_of X G zQx) zQx yJ0, yZh zQx zQ7, yGw (PySem.W.mg_of X G zQg) zQg zJ3 zV3 zVy zV1 zJ2 zV2 (fun _ _ _ _ _ _ us hl => match us, hl with | [_, _], _ => rfl), yZh zQg zQh, xWy (PySem.W.mg_of X G zQo) zQo yZp, yZh zQo zQz, yGw (PySem.W.mg_of X G zQw) zQw yJz yVm yVd yVg yJw yVj (fun _ _ _ _ _ _ us hl => match us, hl with | [_, _, _], _ => rfl), yZh zQw zQ6, yGw (PySem.W.mg_of X G zQe) zQe zX4 zJn zJk zJl zX3 zJm (fun _ _ _ _ _ _ us hl => match us, hl with | [_, _], _ => rfl), yZh zQe zQf, yGw (PySem.W.mg_of X G zQl) zQl zGd yZd yQ7 yQ9 zGb yZb (fun _ _ _ _ _ _ us hl => match us, hl with | [_, _], _ => rfl), yZh zQl zQt, yGw (PySem.W.mg_of X G zQy) zQy yJ1 yVn yVe yVh yJx yVk (fun _ _ _ _ _ _ us hl => match us, hl with | [_, _], _ => rfl), yZh zQy zQ8, yGw (PySem.W.mg_of X G zQ4) zQ4 yVz yKy yKu yKv yVy yKx (fun _ _ _ _ _ _ us hl => match us, hl with | [_, _, _], _ => rfl), yZh zQ4 zZb, yGw (PySem.W.mg_of X G zQi) zQi zWo zU4 zUy zU0 zWm zU2 (fun _ _ _ _ _ _ us hl => match us, hl with | [_, _], _ => rfl), yZh zQi zQm, xWy (PySem.W.mg_of X G zZj) zZj yGi, yZh zZj zZm, xWy (PySem.W.mg_of X G zZd) zZd yY6, yZh zZd zZf, zV4 (.cons (.inr ⟨_, PySem.W.mg_of X G zQr, rfl⟩) (.nil)) oi0 (zQa zZc zZe yYm (zQa zQv zQ5 yX8 (zQa zQk zQs zUw (zQa zZi zZl yUp (zQa zQj zQn zWk (zQa zQr zQ2 yQ5 (zQa zQq zQ1 yQ4 (zQa zQp zQ0 yQ3 (zQa zQx zQ7 yJa (zQa zQg zQh zJy (zQa zQo zQz yQ2 (zQa zQw zQ6 yX9 (zQa zQe zQf zX2 (zQa zQl zQt zUx (zQa zQy zQ8 yJb (zQa zQ4 zZb yVb (zQa zQi zQm zWj (zQa zZj zZm yUq (zQa zZd zZf yYn (zZ9)))))))))))))))))))), zV4 (.cons (.inr ⟨_, PySem.W.mg_of X G zQq, rfl⟩) (.nil)) oi1 (zQa zZc zZe yW0 (zQa zQv zQ5 yXu (zQa zQk zQs zYq (zQa zZi zZl yUn (zQa zQj zQn zKy (zQa zQr zQ2 zHx (zQa zQq zQ1 zHw (zQa zQp zQ0 zHv (zQa zQx zQ7 yXw (zQa zQg zQh zJx (zQa zQo zQz zHu (zQa zQw zQ6 yXv (zQa zQe zQf zX1 (zQa zQl zQt zYr (zQa zQy zQ8 yXx (zQa zQ4 zZb yVa (zQa zQi zQm zKx (zQa zZj zZm yUo (zQa zZd zZf yW1 (zZ9)))))))))))))))))))), zV4 (.cons (.inr ⟨_, PySem.W.mg_of X G zQp, rfl⟩) (.nil)) oi2 (zQa zZc zZe yWo (zQa zQv zQ5 yXl (zQa zQk zQs zW4 (zQa zZi zZl yUl (zQa zQj zQn zKm (zQa zQr zQ2 zG9 (zQa zQq zQ1 zG8 (zQa zQp zQ0 zG7 (zQa zQx zQ7 yXn (zQa zQg zQh zJw (zQa zQo zQz zG6 (zQa zQw zQ6 yXm (zQa zQe zQf zX0 (zQa zQl zQt zW5 (zQa zQy zQ8 yXo (zQa zQ4 zZb yJ9 (zQa zQi zQm zKl (zQa zZj zZm yUm (zQa zZd zZf yWp (zZ9)))))))))))))))))))), zV4 (.cons (.inr ⟨_, PySem.W.mg_of X G zQx, rfl⟩) (.nil)) oi3 (zQa zZc zZe yWm (zQa zQv zQ5 yXh (zQa zQk zQs zW2 (zQa zZi zZl yUj (zQa zQj zQn zKk (zQa zQr zQ2 zG5 (zQa zQq zQ1 zG4 (zQa zQp zQ0 zG3 (zQa zQx zQ7 yXj (zQa zQg zQh zJv (zQa zQo zQz zG2 (zQa zQw zQ6 yXi (zQa zQe zQf zXz (zQa zQl zQt zW3 (zQa zQy zQ8 yXk (zQa zQ4 zZb yJ8 (zQa zQi zQm zKj (zQa zZj zZm yUk (zQa zZd zZf yWn (zZ9)))))))))))))))))))), zV4 (.cons (.inr ⟨_, PySem.W.mg_of X G zQg, rfl⟩) (.nil)) oi4 (zQa zZc zZe yWk (zQa zQv zQ5 yXd (zQa zQk zQs zW0 (zQa zZi zZl yUh (zQa zQj zQn zKi (zQa zQr zQ2 zG1 (zQa zQq zQ1 zG0 (zQa zQp zQ0 zGz (zQa zQx zQ7 yXf (zQa zQg zQh zJu (zQa zQo zQz zGy (zQa zQw zQ6 yXe (zQa zQe zQf zXy (zQa zQl zQt zW1 (zQa zQy zQ8 yXg (zQa zQ4 zZb yJ7 (zQa zQi zQm zKh (zQa zZj zZm yUi (zQa zZd zZf yWl (zZ9)))))))))))))))))))), zV4 (.cons (.inr ⟨_, PySem.W.mg_of X G zQo, rfl⟩) (.nil)) oi5 (zQa zZc zZe yWi (zQa zQv zQ5 yZ9 (zQa zQk zQs zWy (zQa zZi zZl yUf (zQa zQj zQn zKg (zQa zQr zQ2 zGx (zQa zQq zQ1 zGw (zQa zQp zQ0 zGv (zQa zQx zQ7 yXb (zQa zQg zQh zJt (zQa zQo zQz zGu (zQa zQw zQ6 yXa (zQa zQe zQf zXx (zQa zQl zQt zWz (zQa zQy zQ8 yXc (zQa zQ4 zZb yJ6 (zQa zQi zQm zKf (zQa zZj zZm yUg (zQa zZd zZf yWj (zZ9)))))))))))))))))))), zV4 (.cons (.inr ⟨_, PySem.W.mg_of X G zQw, rfl⟩) (.nil)) oi6 (zQa zZc zZe yWg (zQa zQv zQ5 yZ5 (zQa zQk zQs zWw (zQa zZi zZl yUd (zQa zQj zQn zKe (zQa zQr zQ2 zGt (zQa zQq zQ1 zGs (zQa zQp zQ0 zGr (zQa zQx zQ7 yZ7 (zQa zQg zQh zJs (zQa zQo zQz zGq (zQa zQw zQ6 yZ6 (zQa zQe zQf zXw (zQa zQl zQt zWx (zQa zQy zQ8 yZ8 (zQa zQ4 zZb yJ5 (zQa zQi zQm zKd (zQa zZj zZm yUe (zQa zZd zZf yWh (zZ9)))))))))))))))))))), zV4 (.cons (.inr ⟨_, PySem.W.mg_of X G zQe, rfl⟩) (.nil)) oi7 (zQa zZc zZe yWe (zQa zQv zQ5 yZ1 (zQa zQk zQs zWu (zQa zZi zZl yUb (zQa zQj zQn zKc (zQa zQr zQ2 zGp (zQa zQq zQ1 zGo (zQa zQp zQ0 zGn (zQa zQx zQ7 yZ3 (zQa zQg zQh zJr (zQa zQo zQz zGm (zQa zQw zQ6 yZ2 (zQa zQe zQf zXv (zQa zQl zQt zWv (zQa zQy zQ8 yZ4 (zQa zQ4 zZb yJ4 (zQa zQi zQm zKb (zQa zZj zZm yUc (zQa zZd zZf yWf (zZ9)))))))))))))))))))), zV4 (.cons (.inr ⟨_, PySem.W.mg_of X G zQl, rfl⟩) (.nil)) oi8 (zQa zZc zZe yWc (zQa zQv zQ5 yZx (zQa zQk zQs zWs (zQa zZi zZl yY9 (zQa zQj zQn zKa (zQa zQr zQ2 zGl (zQa zQq zQ1 zGk (zQa zQp zQ0 zGj (zQa zQx zQ7 yZz (zQa zQg zQh zJq (zQa zQo zQz zGi (zQa zQw zQ6 yZy (zQa zQe zQf zXu (zQa zQl zQt zWt (zQa zQy zQ8 yZ0 (zQa zQ4 zZb yJ3 (zQa zQi zQm zV9 (zQa zZj zZm yUa (zQa zZd zZf yWd (zZ9)))))))))))))))))))), zV4 (.cons (.inr ⟨_, PySem.W.mg_of X G zQy, rfl⟩) (.nil)) oi9 (zQa zZc zZe yWa (zQa zQv zQ5 yZt (zQa zQk zQs zWq (zQa zZi zZl yY7 (zQa zQj zQn zV8 (zQa zQr zQ2 zGh (zQa zQq zQ1 zGg (zQa zQp zQ0 zGf (zQa zQx zQ7 yZv (zQa zQg zQh zJp (zQa zQo zQz zGe (zQa zQw zQ6 yZu (zQa zQe zQf zXt (zQa zQl zQt zWr (zQa zQy zQ8 yZw (zQa zQ4 zZb yJ2 (zQa zQi zQm zV7 (zQa zZj zZm yY8 (zQa zZd zZf yWb (zZ9)))))))))))))))))))), zV4 (.cons (.inr ⟨_, PySem.W.mg_of X G zQ4, rfl⟩) (.nil)) wJf (zQa zZc zZe yKs (zQa zQv zQ5 yQy (zQa zQk zQs zWh (zQa zZi zZl yYk (zQa zQj zQn zVx (zQa zQr zQ2 zUv (zQa zQq zQ1 zUu (zQa zQp zQ0 zUt (zQa zQx zQ7 yQ0 (zQa zQg zQh zJj (zQa zQo zQz zUs (zQa zQw zQ6 yQz (zQa zQe zQf zXr (zQa zQl zQt zWi (zQa zQy zQ8 yQ1 (zQa zQ4 zZb yX7 (zQa zQi zQm zVw (zQa zZj zZm yYl (zQa zZd zZf yKt (zZ9)))))))))))))))))))), zV4 (.cons (.inr ⟨_, PySem.W.mg_of X G zQi, rfl⟩) (.nil)) wJe (zQa zZc zZe yKq (zQa zQv zQ5 yQu (zQa zQk zQs zWf (zQa zZi zZl yYi (zQa zQj zQn zVv (zQa zQr zQ2 zUr (zQa zQq zQ1 zUq (zQa zQp zQ0 zUp (zQa zQx zQ7 yQw (zQa zQg zQh zJi (zQa zQo zQz zUo (zQa zQw zQ6 yQv (zQa zQe zQf zXq (zQa zQl zQt zWg (zQa zQy zQ8 yQx (zQa zQ4 zZb yX6 (zQa zQi zQm zVu (zQa zZj zZm yYj (zQa zZd zZf yKr (zZ9)))))))))))))))))))), zV4 (.cons (.inr ⟨_, PySem.W.mg_of X G zZj, rfl⟩) (.nil)) wJd (zQa zZc zZe yKo (zQa zQv zQ5 yQq (zQa zQk zQs zWd (zQa zZi zZl yYg (zQa zQj zQn zVt (zQa zQr zQ2 zUn (zQa zQq zQ1 zUm (zQa zQp zQ0 zUl (zQa zQx zQ7 yQs (zQa zQg zQh zJh (zQa zQo zQz zUk (zQa zQw zQ6 yQr (zQa zQe zQf zXp (zQa zQl zQt zWe (zQa zQy zQ8 yQt (zQa zQ4 zZb yX5 (zQa zQi zQm zVs (zQa zZj zZm yYh (zQa zZd zZf yKp (zZ9)))))))))))))))))))), zV4 (.cons (.inr ⟨_, PySem.W.mg_of X G zZd, rfl⟩) (.nil)) wJc (zQa zZc zZe yKm (zQa zQv zQ5 yQm (zQa zQk zQs zWb (zQa zZi zZl yYe (zQa zQj zQn zVr (zQa zQr zQ2 zUj (zQa zQq zQ1 zUi (zQa zQp zQ0 zUh (zQa zQx zQ7 yQo (zQa zQg zQh zJg (zQa zQo zQz zUg (zQa zQw zQ6 yQn (zQa zQe zQf zXo (zQa zQl zQt zWc (zQa zQy zQ8 yQp (zQa zQ4 zZb yX4 (zQa zQi zQm zVq (zQa zZj zZm yYf (zQa zZd zZf yKn (zZ9)))))))))))))))))))), zV4 (.cons (.inr ⟨_, PySem.W.mg_of X G zZc, rfl⟩) (.nil)) wJb (zQa zZc zZe yKk (zQa zQv zQ5 yQi (zQa zQk zQs zK9 (zQa zZi zZl yYc (zQa zQj zQn zVp (zQa zQr zQ2 zUf (zQa zQq zQ1 zUe (zQa zQp zQ0 zUd (zQa zQx zQ7 yQk (zQa zQg zQh zJf (zQa zQo zQz zUc (zQa zQw zQ6 yQj (zQa zQe zQf zXn (zQa zQl zQt zWa (zQa zQy zQ8 yQl (zQa zQ4 zZb yX3 (zQa zQi zQm zVo (zQa zZj zZm yYd (zQa zZd zZf yKl (zZ9)))))))))))))))))))), zV4 (.cons (.inr ⟨_, PySem.W.mg_of X G zQv, rfl⟩) (.nil)) wJa (zQa zZc zZe yKi (zQa zQv zQ5 yQe (zQa zQk zQs zK7 (zQa zZi zZl yYa (zQa zQj zQn zVn (zQa zQr zQ2 zUb (zQa zQq zQ1 zUa (zQa zQp zQ0 zY9 (zQa zQx zQ7 yQg (zQa zQg zQh zJe (zQa zQo zQz zY8 (zQa zQw zQ6 yQf (zQa zQe zQf zXm (zQa zQl zQt zK8 (zQa zQy zQ8 yQh (zQa zQ4 zZb yX2 (zQa zQi zQm zVm (zQa zZj zZm yYb (zQa zZd zZf yKj (zZ9)))))))))))))))))))), zV4 (.cons (.inr ⟨_, PySem.W.mg_of X G zQk, rfl⟩) (.nil)) wX9 (zQa zZc zZe yKg (zQa zQv zQ5 yQa (zQa zQk zQs zK5 (zQa zZi zZl yW8 (zQa zQj zQn zVl (zQa zQr zQ2 zY7 (zQa zQq zQ1 zY6 (zQa zQp zQ0 zY5 (zQa zQx zQ7 yQc (zQa zQg zQh zJd (zQa zQo zQz zY4 (zQa zQw zQ6 yQb (zQa zQe zQf zXl (zQa zQl zQt zK6 (zQa zQy zQ8 yQd (zQa zQ4 zZb yX1 (zQa zQi zQm zVk (zQa zZj zZm yW9 (zQa zZd zZf yKh (zZ9)))))))))))))))))))), zV4 (.cons (.inr ⟨_, PySem.W.mg_of X G zZi, rfl⟩) (.nil)) wX8 (zQa zZc zZe yKe (zQa zQv zQ5 zH6 (zQa zQk zQs zK3 (zQa zZi zZl yW6 (zQa zQj zQn zVj (zQa zQr zQ2 zY3 (zQa zQq zQ1 zY2 (zQa zQp zQ0 zY1 (zQa zQx zQ7 zH8 (zQa zQg zQh zJc (zQa zQo zQz zY0 (zQa zQw zQ6 zH7 (zQa zQe zQf zXk (zQa zQl zQt zK4 (zQa zQy zQ8 zH9 (zQa zQ4 zZb yX0 (zQa zQi zQm zVi (zQa zZj zZm yW7 (zQa zZd zZf yKf (zZ9)))))))))))))))))))), zV4 (.cons (.inr ⟨_, PySem.W.mg_of X G zQj, rfl⟩) (.nil)) wX7 (zQa zZc zZe yKc (zQa zQv zQ5 zH2 (zQa zQk zQs zK1 (zQa zZi zZl yW4 (zQa zQj zQn zVh (zQa zQr zQ2 zYz (zQa zQq zQ1 zYy (zQa zQp zQ0 zYx (zQa zQx zQ7 zH4 (zQa zQg zQh zJb (zQa zQo zQz zYw (zQa zQw zQ6 zH3 (zQa zQe zQf zXj (zQa zQl zQt zK2 (zQa zQy zQ8 zH5 (zQa zQ4 zZb yXz (zQa zQi zQm zVg (zQa zZj zZm yW5 (zQa zZd zZf yKd (zZ9)))))))))))))))))))), zV4 (.cons (.inr ⟨_, PySem.W.mg_of X G yVw, rfl⟩) (.nil)) wX6 (zQa zZc zZe yKa (zQa zQv zQ5 zHy (zQa zQk zQs zKz (zQa zZi zZl yW2 (zQa zQj zQn zVf (zQa zQr zQ2 zYv (zQa zQq zQ1 zYu (zQa zQp zQ0 zYt (zQa zQx zQ7 zH0 (zQa zQg zQh zJa (zQa zQo zQz zYs (zQa zQw zQ6 zHz (zQa zQe zQf zXi (zQa zQl zQt zK0 (zQa zQy zQ8 zH1 (zQa zQ4 zZb yXy (zQa zQi zQm zVe (zQa zZj zZm yW3 (zQa zZd zZf yKb (zZ9)))))))))))))))))))), zV4 (.cons (.inl ⟨_, PySem.W.mg_none_of X G yZk, rfl, rfl⟩) (.nil)) wX5 (zQa zZc zZe yV8 (zQa zQv zQ5 zHq (zQa zQk zQs zKv (zQa zZi zZl yWy (zQa zQj zQn zVd (zQa zQr zQ2 zYp (zQa zQq zQ1 zYo (zQa zQp zQ0 zYn (zQa zQx zQ7 zHs (zQa zQg zQh zX9 (zQa zQo zQz zYm (zQa zQw zQ6 zHr (zQa zQe zQf zXh (zQa zQl zQt zKw (zQa zQy zQ8 zHt (zQa zQ4 zZb yXt (zQa zQi zQm zVc (zQa zZj zZm yWz (zQa zZd zZf yV9 (zZ9)))))))))))))))))))), zV4 (.cons (.inl ⟨_, PySem.W.mg_none_of X G yZj, rfl, rfl⟩) (.nil)) wX4 (zQa zZc zZe yV6 (zQa zQv zQ5 zHm (zQa zQk zQs zKt (zQa zZi zZl yWw (zQa zQj zQn zVb (zQa zQr zQ2 zYl (zQa zQq zQ1 zYk (zQa zQp zQ0 zYj (zQa zQx zQ7 zHo (zQa zQg zQh zX8 (zQa zQo zQz zYi (zQa zQw zQ6 zHn (zQa zQe zQf zXg (zQa zQl zQt zKu (zQa zQy zQ8 zHp (zQa zQ4 zZb yXs (zQa zQi zQm zVa (zQa zZj zZm yWx (zQa zZd zZf yV7 (zZ9)))))))))))))))))))), zV4 (.cons (.inl ⟨_, PySem.W.mg_none_of X G yVv, rfl, rfl⟩) (.nil)) wX3 (zQa zZc zZe yV4 (zQa zQv zQ5 zHi (zQa zQk zQs zKr (zQa zZi zZl yWu (zQa zQj zQn zJ9 (zQa zQr zQ2 zYh (zQa zQq zQ1 zYg (zQa zQp zQ0 zYf (zQa zQx zQ7 zHk (zQa zQg zQh zX7 (zQa zQo zQz zYe (zQa zQw zQ6 zHj (zQa zQe zQf zXf (zQa zQl zQt zKs (zQa zQy zQ8 zHl (zQa zQ4 zZb yXr (zQa zQi zQm zJ8 (zQa zZj zZm yWv (zQa zZd zZf yV5 (zZ9)))))))))))))))))))), zV4 (.cons (.inl ⟨_, PySem.W.mg_none_of X G zU8, rfl, rfl⟩) (.nil)) wX2 (zQa zZc zZe yV2 (zQa zQv zQ5 zHe (zQa zQk zQs zKp (zQa zZi zZl yWs (zQa zQj zQn zJ7 (zQa zQr zQ2 zYd (zQa zQq zQ1 zYc (zQa zQp zQ0 zYb (zQa zQx zQ7 zHg (zQa zQg zQh zX6 (zQa zQo zQz zYa (zQa zQw zQ6 zHf (zQa zQe zQf zXe (zQa zQl zQt zKq (zQa zQy zQ8 zHh (zQa zQ4 zZb yXq (zQa zQi zQm zJ6 (zQa zZj zZm yWt (zQa zZd zZf yV3 (zZ9)))))))))))))))))))), zV4 (.cons (.inl ⟨_, PySem.W.mg_none_of X G zV6, rfl, rfl⟩) (.nil)) wX1 (zQa zZc zZe yV0 (zQa zQv zQ5 zHa (zQa zQk zQs zKn (zQa zZi zZl yWq (zQa zQj zQn zJ5 (zQa zQr zQ2 zW9 (zQa zQq zQ1 zW8 (zQa zQp zQ0 zW7 (zQa zQx zQ7 zHc (zQa zQg zQh zX5 (zQa zQo zQz zW6 (zQa zQw zQ6 zHb (zQa zQe zQf zXd (zQa zQl zQt zKo (zQa zQy zQ8 zHd (zQa zQ4 zZb yXp (zQa zQi zQm zJ4 (zQa zZj zZm yWr (zQa zZd zZf yV1 (zZ9)))))))))))))))))))), xQq (PySem.W.mg_of X G a0) l0 c0 k0 fun _ _ _ _ _ _ us hl => match us, hl with | [_], _ => rfl, xQq (PySem.W.mg_of X G a1) l1 c1 k1 fun _ _ _ _ _ _ us hl => match us, hl with | [_, _], _ => rfl, xQq (PySem.W.mg_of X G a2) l2 c2 k2 fun _ _ _ _ _ _ us hl => match us, hl with | [_], _ => rfl, xQq (PySem.W.mg_of X G a3) l3 c3 k3 fun _ _ _ _ _ _ us hl => match us, hl with | [_], _ => rfl, xQq (PySem.W.mg_of X G a4) l4 c4 k4 fun _ _ _ _ _ _ us hl => match us, hl with | [_], _ => rfl, xQq (PySem.W.mg_of X G a5) l5 c5 k5 fun _ _ _ _ _ _ us hl => match us, hl with | [_, _, _], _ => rfl, xQq (PySem.W.mg_of X G a6) l6 c6 k6 fun _ _ _ _ _ _ us hl => match us, hl with | [_, _, _], _ => rfl, xQq (PySem.W.mg_of X G a7) l7 c7 k7 fun _ _ _ _ _ _ us hl => match us, hl with | [_, _], _ => rfl, xQq (PySem.W.mg_of X G a8) l8 c8 k8 fun _ _ _ _ _ _ us hl => match us, hl with | [_], _ => rfl, xQq (PySem.W.mg_of X G a9) l9 c9 k9 fun _ _ _ _ _ _ us hl => match us, hl with | [_], _ => rfl⟩
  exact ⟨PySem.W.fnOf "law" "law" (defArgs (zZ1 31)) (defBody (zZ1 31)) (defScope (zZ1 31)) .none kV9 dc9 pm9 an9 cd9 ct9, fun s v => .of_eq rfl, fun base _ _ sm tg => xUn T sm (fun_mk (st := zZ1 31) l9 c9 k9)⟩
end Ev

open PySem PySem.W PyProof.Rows
set_option maxHeartbeats 0 in
theorem PySem.Challenge.cw_shadeguards_k01_errors_and_their_fields_holds : PySem.Challenge.rw_shadeguards_k01_errors_and_their_fields.Holds := by
  w_on; o_law
  refine Ev.wZz (r := Ev.hq9R) (q := Ev.hq9V) (K := Ev.hq9S.heap_1) (as := Ev.hq9A) (ek := Ev.hq9E) (M := 40000) (loose := Ev.hq9N) (d := HandSHeadRun.topDef Ev.hq9R.prog 31) (kwd := []) (Ev.wUn _) (by kernel_rfl) (fun s => by kernel_rfl) (Ev.wQu "special-get-raises" Ev.hq9_false Ev.hq9_true) (by kernel_rfl) (by kernel_rfl) (by kernel_rfl) (by rfl) (by first | assumption | decide +kernel) (by decide +kernel) ⟨rfl, rfl, rfl, rfl, rfl, by decide +kernel⟩ ?hw ?hc
  case hw => w_witness2
  k_fill
  refine Ev.wQq (l := PySem.Challenge.rw_shadeguards_k01_errors_and_their_fields) (n := 63) (k := 4) (x := "_law_script") (g := Ev.xXe) rfl rfl (by decide) rfl ⟨rfl, by decide, by decide⟩ (fun w h Y => by first | exact PySem.W.kIn_of Y | exact PySem.W.km_in_of Y) ?hd ?ho ?F Ev.law_true
  case hd => intro w; kernel_rfl
  case ho => intro w; kernel_rfl
  case F =>
    intro w mg fa h KX G hmg
    refine' Ev.all_mk KX G hmg (xJb := ?xJb) (xWs := ?xWs) (xWu := ?xWu) (xWt := ?xWt) (yK7 := ?yK7) (yY0 := ?yY0) (xQz := ?xQz) (xJa := ?xJa) (zZc := ?zZc) (zQv := ?zQv) (zQk := ?zQk) (zZi := ?zZi) (zQj := ?zQj) (zQr := ?zQr) (zQq := ?zQq) (zQp := ?zQp) (zQx := ?zQx) (zQg := ?zQg) (zQo := ?zQo) (zQw := ?zQw) (zQe := ?zQe) (zQl := ?zQl) (zQy := ?zQy) (zQ4 := ?zQ4) (zQi := ?zQi) (zZj := ?zZj) (zZd := ?zZd) (yVw := ?yVw) (yY5 := ?yY5) (yUu := ?yUu) (yUr := ?yUr) (yUs := ?yUs) (yY1 := ?yY1) (yUt := ?yUt) (zZe := ?zZe) (yJy := ?yJy) (yVl := ?yVl) (yVc := ?yVc) (yVf := ?yVf) (yJv := ?yJv) (yVi := ?yVi) (zQ5 := ?zQ5) (zGc := ?zGc) (yZc := ?yZc) (yQ6 := ?yQ6) (yQ8 := ?yQ8) (zGa := ?zGa) (yZa := ?yZa) (zQs := ?zQs) (yGh := ?yGh) (yGm := ?yGm) (yGj := ?yGj) (yGk := ?yGk) (yGg := ?yGg) (yGl := ?yGl) (zZl := ?zZl) (zWp := ?zWp) (zU5 := ?zU5) (zUz := ?zUz) (zU1 := ?zU1) (zWn := ?zWn) (zU3 := ?zU3) (zQn := ?zQn) (yZs := ?yZs) (yJn := ?yJn) (yJe := ?yJe) (yJh := ?yJh) (yZo := ?yZo) (yJk := ?yJk) (zQ2 := ?zQ2) (yZr := ?yZr) (yJm := ?yJm) (yJd := ?yJd) (yJg := ?yJg) (yZn := ?yZn) (yJj := ?yJj) (zQ1 := ?zQ1) (yZq := ?yZq) (yJl := ?yJl) (yJc := ?yJc) (yJf := ?yJf) (yZm := ?yZm) (yJi := ?yJi) (zQ0 := ?zQ0) (yJ0 := ?yJ0) (zQ7 := ?zQ7) (zJ3 := ?zJ3) (zV3 := ?zV3) (zVy := ?zVy) (zV1 := ?zV1) (zJ2 := ?zJ2) (zV2 := ?zV2) (zQh := ?zQh) (yZp := ?yZp) (zQz := ?zQz) (yJz := ?yJz) (yVm := ?yVm) (yVd := ?yVd) (yVg := ?yVg) (yJw := ?yJw) (yVj := ?yVj) (zQ6 := ?zQ6) (zX4 := ?zX4) (zJn := ?zJn) (zJk := ?zJk) (zJl := ?zJl) (zX3 := ?zX3) (zJm := ?zJm) (zQf := ?zQf) (zGd := ?zGd) (yZd := ?yZd) (yQ7 := ?yQ7) (yQ9 := ?yQ9) (zGb := ?zGb) (yZb := ?yZb) (zQt := ?zQt) (yJ1 := ?yJ1) (yVn := ?yVn) (yVe := ?yVe) (yVh := ?yVh) (yJx := ?yJx) (yVk := ?yVk) (zQ8 := ?zQ8) (yVz := ?yVz) (yKy := ?yKy) (yKu := ?yKu) (yKv := ?yKv) (yVy := ?yVy) (yKx := ?yKx) (zZb := ?zZb) (zWo := ?zWo) (zU4 := ?zU4) (zUy := ?zUy) (zU0 := ?zU0) (zWm := ?zWm) (zU2 := ?zU2) (zQm := ?zQm) (yGi := ?yGi) (zZm := ?zZm) (yY6 := ?yY6) (zZf := ?zZf) (oi0 := ?oi0) (yYn := ?yYn) (yUq := ?yUq) (zWj := ?zWj) (yVb := ?yVb) (yJb := ?yJb) (zUx := ?zUx) (zX2 := ?zX2) (yX9 := ?yX9) (yQ2 := ?yQ2) (zJy := ?zJy) (yJa := ?yJa) (yQ3 := ?yQ3) (yQ4 := ?yQ4) (yQ5 := ?yQ5) (zWk := ?zWk) (yUp := ?yUp) (zUw := ?zUw) (yX8 := ?yX8) (yYm := ?yYm) (oi1 := ?oi1) (yW1 := ?yW1) (yUo := ?yUo) (zKx := ?zKx) (yVa := ?yVa) (yXx := ?yXx) (zYr := ?zYr) (zX1 := ?zX1) (yXv := ?yXv) (zHu := ?zHu) (zJx := ?zJx) (yXw := ?yXw) (zHv := ?zHv) (zHw := ?zHw) (zHx := ?zHx) (zKy := ?zKy) (yUn := ?yUn) (zYq := ?zYq) (yXu := ?yXu) (yW0 := ?yW0) (oi2 := ?oi2) (yWp := ?yWp) (yUm := ?yUm) (zKl := ?zKl) (yJ9 := ?yJ9) (yXo := ?yXo) (zW5 := ?zW5) (zX0 := ?zX0) (yXm := ?yXm) (zG6 := ?zG6) (zJw := ?zJw) (yXn := ?yXn) (zG7 := ?zG7) (zG8 := ?zG8) (zG9 := ?zG9) (zKm := ?zKm) (yUl := ?yUl) (zW4 := ?zW4) (yXl := ?yXl) (yWo := ?yWo) (oi3 := ?oi3) (yWn := ?yWn) (yUk := ?yUk) (zKj := ?zKj) (yJ8 := ?yJ8) (yXk := ?yXk) (zW3 := ?zW3) (zXz := ?zXz) (yXi := ?yXi) (zG2 := ?zG2) (zJv := ?zJv) (yXj := ?yXj) (zG3 := ?zG3) (zG4 := ?zG4) (zG5 := ?zG5) (zKk := ?zKk) (yUj := ?yUj) (zW2 := ?zW2) (yXh := ?yXh) (yWm := ?yWm) (oi4 := ?oi4) (yWl := ?yWl) (yUi := ?yUi) (zKh := ?zKh) (yJ7 := ?yJ7) (yXg := ?yXg) (zW1 := ?zW1) (zXy := ?zXy) (yXe := ?yXe) (zGy := ?zGy) (zJu := ?zJu) (yXf := ?yXf) (zGz := ?zGz) (zG0 := ?zG0) (zG1 := ?zG1) (zKi := ?zKi) (yUh := ?yUh) (zW0 := ?zW0) (yXd := ?yXd) (yWk := ?yWk) (oi5 := ?oi5) (yWj := ?yWj) (yUg := ?yUg) (zKf := ?zKf) (yJ6 := ?yJ6) (yXc := ?yXc) (zWz := ?zWz) (zXx := ?zXx) (yXa := ?yXa) (zGu := ?zGu) (zJt := ?zJt) (yXb := ?yXb) (zGv := ?zGv) (zGw := ?zGw) (zGx := ?zGx) (zKg := ?zKg) (yUf := ?yUf) (zWy := ?zWy) (yZ9 := ?yZ9) (yWi := ?yWi) (oi6 := ?oi6) (yWh := ?yWh) (yUe := ?yUe) (zKd := ?zKd) (yJ5 := ?yJ5) (yZ8 := ?yZ8) (zWx := ?zWx) (zXw := ?zXw) (yZ6 := ?yZ6) (zGq := ?zGq) (zJs := ?zJs) (yZ7 := ?yZ7) (zGr := ?zGr) (zGs := ?zGs) (zGt := ?zGt) (zKe := ?zKe) (yUd := ?yUd) (zWw := ?zWw) (yZ5 := ?yZ5) (yWg := ?yWg) (oi7 := ?oi7) (yWf := ?yWf) (yUc := ?yUc) (zKb := ?zKb) (yJ4 := ?yJ4) (yZ4 := ?yZ4) (zWv := ?zWv) (zXv := ?zXv) (yZ2 := ?yZ2) (zGm := ?zGm) (zJr := ?zJr) (yZ3 := ?yZ3) (zGn := ?zGn) (zGo := ?zGo) (zGp := ?zGp) (zKc := ?zKc) (yUb := ?yUb) (zWu := ?zWu) (yZ1 := ?yZ1) (yWe := ?yWe) (oi8 := ?oi8) (yWd := ?yWd) (yUa := ?yUa) (zV9 := ?zV9) (yJ3 := ?yJ3) (yZ0 := ?yZ0) (zWt := ?zWt) (zXu := ?zXu) (yZy := ?yZy) (zGi := ?zGi) (zJq := ?zJq) (yZz := ?yZz) (zGj := ?zGj) (zGk := ?zGk) (zGl := ?zGl) (zKa := ?zKa) (yY9 := ?yY9) (zWs := ?zWs) (yZx := ?yZx) (yWc := ?yWc) (oi9 := ?oi9) (yWb := ?yWb) (yY8 := ?yY8) (zV7 := ?zV7) (yJ2 := ?yJ2) (yZw := ?yZw) (zWr := ?zWr) (zXt := ?zXt) (yZu := ?yZu) (zGe := ?zGe) (zJp := ?zJp) (yZv := ?yZv) (zGf := ?zGf) (zGg := ?zGg) (zGh := ?zGh) (zV8 := ?zV8) (yY7 := ?yY7) (zWq := ?zWq) (yZt := ?yZt) (yWa := ?yWa) (wJf := ?wJf) (yKt := ?yKt) (yYl := ?yYl) (zVw := ?zVw) (yX7 := ?yX7) (yQ1 := ?yQ1) (zWi := ?zWi) (zXr := ?zXr) (yQz := ?yQz) (zUs := ?zUs) (zJj := ?zJj) (yQ0 := ?yQ0) (zUt := ?zUt) (zUu := ?zUu) (zUv := ?zUv) (zVx := ?zVx) (yYk := ?yYk) (zWh := ?zWh) (yQy := ?yQy) (yKs := ?yKs) (wJe := ?wJe) (yKr := ?yKr) (yYj := ?yYj) (zVu := ?zVu) (yX6 := ?yX6) (yQx := ?yQx) (zWg := ?zWg) (zXq := ?zXq) (yQv := ?yQv) (zUo := ?zUo) (zJi := ?zJi) (yQw := ?yQw) (zUp := ?zUp) (zUq := ?zUq) (zUr := ?zUr) (zVv := ?zVv) (yYi := ?yYi) (zWf := ?zWf) (yQu := ?yQu) (yKq := ?yKq) (wJd := ?wJd) (yKp := ?yKp) (yYh := ?yYh) (zVs := ?zVs) (yX5 := ?yX5) (yQt := ?yQt) (zWe := ?zWe) (zXp := ?zXp) (yQr := ?yQr) (zUk := ?zUk) (zJh := ?zJh) (yQs := ?yQs) (zUl := ?zUl) (zUm := ?zUm) (zUn := ?zUn) (zVt := ?zVt) (yYg := ?yYg) (zWd := ?zWd) (yQq := ?yQq) (yKo := ?yKo) (wJc := ?wJc) (yKn := ?yKn) (yYf := ?yYf) (zVq := ?zVq) (yX4 := ?yX4) (yQp := ?yQp) (zWc := ?zWc) (zXo := ?zXo) (yQn := ?yQn) (zUg := ?zUg) (zJg := ?zJg) (yQo := ?yQo) (zUh := ?zUh) (zUi := ?zUi) (zUj := ?zUj) (zVr := ?zVr) (yYe := ?yYe) (zWb := ?zWb) (yQm := ?yQm) (yKm := ?yKm) (wJb := ?wJb) (yKl := ?yKl) (yYd := ?yYd) (zVo := ?zVo) (yX3 := ?yX3) (yQl := ?yQl) (zWa := ?zWa) (zXn := ?zXn) (yQj := ?yQj) (zUc := ?zUc) (zJf := ?zJf) (yQk := ?yQk) (zUd := ?zUd) (zUe := ?zUe) (zUf := ?zUf) (zVp := ?zVp) (yYc := ?yYc) (zK9 := ?zK9) (yQi := ?yQi) (yKk := ?yKk) (wJa := ?wJa) (yKj := ?yKj) (yYb := ?yYb) (zVm := ?zVm) (yX2 := ?yX2) (yQh := ?yQh) (zK8 := ?zK8) (zXm := ?zXm) (yQf := ?yQf) (zY8 := ?zY8) (zJe := ?zJe) (yQg := ?yQg) (zY9 := ?zY9) (zUa := ?zUa) (zUb := ?zUb) (zVn := ?zVn) (yYa := ?yYa) (zK7 := ?zK7) (yQe := ?yQe) (yKi := ?yKi) (wX9 := ?wX9) (yKh := ?yKh) (yW9 := ?yW9) (zVk := ?zVk) (yX1 := ?yX1) (yQd := ?yQd) (zK6 := ?zK6) (zXl := ?zXl) (yQb := ?yQb) (zY4 := ?zY4) (zJd := ?zJd) (yQc := ?yQc) (zY5 := ?zY5) (zY6 := ?zY6) (zY7 := ?zY7) (zVl := ?zVl) (yW8 := ?yW8) (zK5 := ?zK5) (yQa := ?yQa) (yKg := ?yKg) (wX8 := ?wX8) (yKf := ?yKf) (yW7 := ?yW7) (zVi := ?zVi) (yX0 := ?yX0) (zH9 := ?zH9) (zK4 := ?zK4) (zXk := ?zXk) (zH7 := ?zH7) (zY0 := ?zY0) (zJc := ?zJc) (zH8 := ?zH8) (zY1 := ?zY1) (zY2 := ?zY2) (zY3 := ?zY3) (zVj := ?zVj) (yW6 := ?yW6) (zK3 := ?zK3) (zH6 := ?zH6) (yKe := ?yKe) (wX7 := ?wX7) (yKd := ?yKd) (yW5 := ?yW5) (zVg := ?zVg) (yXz := ?yXz) (zH5 := ?zH5) (zK2 := ?zK2) (zXj := ?zXj) (zH3 := ?zH3) (zYw := ?zYw) (zJb := ?zJb) (zH4 := ?zH4) (zYx := ?zYx) (zYy := ?zYy) (zYz := ?zYz) (zVh := ?zVh) (yW4 := ?yW4) (zK1 := ?zK1) (zH2 := ?zH2) (yKc := ?yKc) (wX6 := ?wX6) (yKb := ?yKb) (yW3 := ?yW3) (zVe := ?zVe) (yXy := ?yXy) (zH1 := ?zH1) (zK0 := ?zK0) (zXi := ?zXi) (zHz := ?zHz) (zYs := ?zYs) (zJa := ?zJa) (zH0 := ?zH0) (zYt := ?zYt) (zYu := ?zYu) (zYv := ?zYv) (zVf := ?zVf) (yW2 := ?yW2) (zKz := ?zKz) (zHy := ?zHy) (yKa := ?yKa) (wX5 := ?wX5) (yV9 := ?yV9) (yWz := ?yWz) (zVc := ?zVc) (yXt := ?yXt) (zHt := ?zHt) (zKw := ?zKw) (zXh := ?zXh) (zHr := ?zHr) (zYm := ?zYm) (zX9 := ?zX9) (zHs := ?zHs) (zYn := ?zYn) (zYo := ?zYo) (zYp := ?zYp) (zVd := ?zVd) (yWy := ?yWy) (zKv := ?zKv) (zHq := ?zHq) (yV8 := ?yV8) (yZk := ?yZk) (wX4 := ?wX4) (yV7 := ?yV7) (yWx := ?yWx) (zVa := ?zVa) (yXs := ?yXs) (zHp := ?zHp) (zKu := ?zKu) (zXg := ?zXg) (zHn := ?zHn) (zYi := ?zYi) (zX8 := ?zX8) (zHo := ?zHo) (zYj := ?zYj) (zYk := ?zYk) (zYl := ?zYl) (zVb := ?zVb) (yWw := ?yWw) (zKt := ?zKt) (zHm := ?zHm) (yV6 := ?yV6) (yZj := ?yZj) (wX3 := ?wX3) (yV5 := ?yV5) (yWv := ?yWv) (zJ8 := ?zJ8) (yXr := ?yXr) (zHl := ?zHl) (zKs := ?zKs) (zXf := ?zXf) (zHj := ?zHj) (zYe := ?zYe) (zX7 := ?zX7) (zHk := ?zHk) (zYf := ?zYf) (zYg := ?zYg) (zYh := ?zYh) (zJ9 := ?zJ9) (yWu := ?yWu) (zKr := ?zKr) (zHi := ?zHi) (yV4 := ?yV4) (yVv := ?yVv) (wX2 := ?wX2) (yV3 := ?yV3) (yWt := ?yWt) (zJ6 := ?zJ6) (yXq := ?yXq) (zHh := ?zHh) (zKq := ?zKq) (zXe := ?zXe) (zHf := ?zHf) (zYa := ?zYa) (zX6 := ?zX6) (zHg := ?zHg) (zYb := ?zYb) (zYc := ?zYc) (zYd := ?zYd) (zJ7 := ?zJ7) (yWs := ?yWs) (zKp := ?zKp) (zHe := ?zHe) (yV2 := ?yV2) (zU8 := ?zU8) (wX1 := ?wX1) (yV1 := ?yV1) (yWr := ?yWr) (zJ4 := ?zJ4) (yXp := ?yXp) (zHd := ?zHd) (zKo := ?zKo) (zXd := ?zXd) (zHb := ?zHb) (zW6 := ?zW6) (zX5 := ?zX5) (zHc := ?zHc) (zW7 := ?zW7) (zW8 := ?zW8) (zW9 := ?zW9) (zJ5 := ?zJ5) (yWq := ?yWq) (zKn := ?zKn) (zHa := ?zHa) (yV0 := ?yV0) (zV6 := ?zV6) (a0 := ?a0) (l0 := ?l0) (c0 := ?c0) (k0 := ?k0) (a1 := ?a1) (l1 := ?l1) (c1 := ?c1) (k1 := ?k1) (a2 := ?a2) (l2 := ?l2) (c2 := ?c2) (k2 := ?k2) (a3 := ?a3) (l3 := ?l3) (c3 := ?c3) (k3 := ?k3) (a4 := ?a4) (l4 := ?l4) (c4 := ?c4) (k4 := ?k4) (a5 := ?a5) (l5 := ?l5) (c5 := ?c5) (k5 := ?k5) (a6 := ?a6) (l6 := ?l6) (c6 := ?c6) (k6 := ?k6) (a7 := ?a7) (l7 := ?l7) (c7 := ?c7) (k7 := ?k7) (a8 := ?a8) (l8 := ?l8) (c8 := ?c8) (k8 := ?k8) (a9 := ?a9) (l9 := ?l9) (c9 := ?c9) (k9 := ?k9)
    (case xJb => k_is); (case xWs => k_is); (case xWu => k_is); (case xWt => k_is); (case yK7 => k_is); (case yY0 => k_is); (case xQz => k_is); (case xJa => k_is); (case zZc => k_is); (case zQv => k_is); (case zQk => k_is); (case zZi => k_is); (case zQj => k_is); (case zQr => k_is); (case zQq => k_is); (case zQp => k_is); (case zQx => k_is); (case zQg => k_is); (case zQo => k_is); (case zQw => k_is); (case zQe => k_is); (case zQl => k_is); (case zQy => k_is); (case zQ4 => k_is); (case zQi => k_is); (case zZj => k_is); (case zZd => k_is); (case yVw => k_is); (case yY5 => kernel_rfl); (case yUu => k_is); (case yUr => kernel_rfl); (case yUs => k_is); (case yY1 => k_is); (case yUt => k_is); (case zZe => kernel_rfl); (case yJy => kernel_rfl); (case yVl => k_is); (case yVc => kernel_rfl); (case yVf => k_is); (case yJv => k_is); (case yVi => k_is); (case zQ5 => kernel_rfl); (case zGc => kernel_rfl); (case yZc => k_is); (case yQ6 => kernel_rfl); (case yQ8 => k_is); (case zGa => k_is); (case yZa => k_is); (case zQs => kernel_rfl); (case yGh => kernel_rfl); (case yGm => k_is); (case yGj => kernel_rfl); (case yGk => k_is); (case yGg => k_is); (case yGl => k_is); (case zZl => kernel_rfl); (case zWp => kernel_rfl); (case zU5 => k_is); (case zUz => kernel_rfl); (case zU1 => k_is); (case zWn => k_is); (case zU3 => k_is); (case zQn => kernel_rfl); (case yZs => kernel_rfl); (case yJn => k_is); (case yJe => kernel_rfl); (case yJh => k_is); (case yZo => k_is); (case yJk => k_is); (case zQ2 => kernel_rfl); (case yZr => kernel_rfl); (case yJm => k_is); (case yJd => kernel_rfl); (case yJg => k_is); (case yZn => k_is); (case yJj => k_is); (case zQ1 => kernel_rfl); (case yZq => kernel_rfl); (case yJl => k_is); (case yJc => kernel_rfl); (case yJf => k_is); (case yZm => k_is); (case yJi => k_is); (case zQ0 => kernel_rfl); (case yJ0 => kernel_rfl); (case zQ7 => kernel_rfl); (case zJ3 => kernel_rfl); (case zV3 => k_is); (case zVy => kernel_rfl); (case zV1 => k_is); (case zJ2 => k_is); (case zV2 => k_is); (case zQh => kernel_rfl); (case yZp => kernel_rfl); (case zQz => kernel_rfl); (case yJz => kernel_rfl); (case yVm => k_is); (case yVd => kernel_rfl); (case yVg => k_is); (case yJw => k_is); (case yVj => k_is); (case zQ6 => kernel_rfl); (case zX4 => kernel_rfl); (case zJn => k_is); (case zJk => kernel_rfl); (case zJl => k_is); (case zX3 => k_is); (case zJm => k_is); (case zQf => kernel_rfl); (case zGd => kernel_rfl); (case yZd => k_is); (case yQ7 => kernel_rfl); (case yQ9 => k_is); (case zGb => k_is); (case yZb => k_is); (case zQt => kernel_rfl); (case yJ1 => kernel_rfl); (case yVn => k_is); (case yVe => kernel_rfl); (case yVh => k_is); (case yJx => k_is); (case yVk => k_is); (case zQ8 => kernel_rfl); (case yVz => kernel_rfl); (case yKy => k_is); (case yKu => kernel_rfl); (case yKv => k_is); (case yVy => k_is); (case yKx => k_is); (case zZb => kernel_rfl); (case zWo => kernel_rfl); (case zU4 => k_is); (case zUy => kernel_rfl); (case zU0 => k_is); (case zWm => k_is); (case zU2 => k_is); (case zQm => kernel_rfl); (case yGi => kernel_rfl); (case zZm => kernel_rfl); (case yY6 => kernel_rfl); (case zZf => kernel_rfl); (case oi0 => kernel_rfl); (case yYn => kernel_rfl); (case yUq => kernel_rfl); (case zWj => kernel_rfl); (case yVb => kernel_rfl); (case yJb => kernel_rfl); (case zUx => kernel_rfl); (case zX2 => kernel_rfl); (case yX9 => kernel_rfl); (case yQ2 => kernel_rfl); (case zJy => kernel_rfl); (case yJa => kernel_rfl); (case yQ3 => kernel_rfl); (case yQ4 => kernel_rfl); (case yQ5 => kernel_rfl); (case zWk => kernel_rfl); (case yUp => kernel_rfl); (case zUw => kernel_rfl); (case yX8 => kernel_rfl); (case yYm => kernel_rfl); (case oi1 => kernel_rfl); (case yW1 => kernel_rfl); (case yUo => kernel_rfl); (case zKx => kernel_rfl); (case yVa => kernel_rfl); (case yXx => kernel_rfl); (case zYr => kernel_rfl); (case zX1 => kernel_rfl); (case yXv => kernel_rfl); (case zHu => kernel_rfl); (case zJx => kernel_rfl); (case yXw => kernel_rfl); (case zHv => kernel_rfl); (case zHw => kernel_rfl); (case zHx => kernel_rfl); (case zKy => kernel_rfl); (case yUn => kernel_rfl); (case zYq => kernel_rfl); (case yXu => kernel_rfl); (case yW0 => kernel_rfl); (case oi2 => kernel_rfl); (case yWp => kernel_rfl); (case yUm => kernel_rfl); (case zKl => kernel_rfl); (case yJ9 => kernel_rfl); (case yXo => kernel_rfl); (case zW5 => kernel_rfl); (case zX0 => kernel_rfl); (case yXm => kernel_rfl); (case zG6 => kernel_rfl); (case zJw => kernel_rfl); (case yXn => kernel_rfl); (case zG7 => kernel_rfl); (case zG8 => kernel_rfl); (case zG9 => kernel_rfl); (case zKm => kernel_rfl); (case yUl => kernel_rfl); (case zW4 => kernel_rfl); (case yXl => kernel_rfl); (case yWo => kernel_rfl); (case oi3 => kernel_rfl); (case yWn => kernel_rfl); (case yUk => kernel_rfl); (case zKj => kernel_rfl); (case yJ8 => kernel_rfl); (case yXk => kernel_rfl); (case zW3 => kernel_rfl); (case zXz => kernel_rfl); (case yXi => kernel_rfl); (case zG2 => kernel_rfl); (case zJv => kernel_rfl); (case yXj => kernel_rfl); (case zG3 => kernel_rfl); (case zG4 => kernel_rfl); (case zG5 => kernel_rfl); (case zKk => kernel_rfl); (case yUj => kernel_rfl); (case zW2 => kernel_rfl); (case yXh => kernel_rfl); (case yWm => kernel_rfl); (case oi4 => kernel_rfl); (case yWl => kernel_rfl); (case yUi => kernel_rfl); (case zKh => kernel_rfl); (case yJ7 => kernel_rfl); (case yXg => kernel_rfl); (case zW1 => kernel_rfl); (case zXy => kernel_rfl); (case yXe => kernel_rfl); (case zGy => kernel_rfl); (case zJu => kernel_rfl); (case yXf => kernel_rfl); (case zGz => kernel_rfl); (case zG0 => kernel_rfl); (case zG1 => kernel_rfl); (case zKi => kernel_rfl); (case yUh => kernel_rfl); (case zW0 => kernel_rfl); (case yXd => kernel_rfl); (case yWk => kernel_rfl); (case oi5 => kernel_rfl); (case yWj => kernel_rfl); (case yUg => kernel_rfl); (case zKf => kernel_rfl); (case yJ6 => kernel_rfl); (case yXc => kernel_rfl); (case zWz => kernel_rfl); (case zXx => kernel_rfl); (case yXa => kernel_rfl); (case zGu => kernel_rfl); (case zJt => kernel_rfl); (case yXb => kernel_rfl); (case zGv => kernel_rfl); (case zGw => kernel_rfl); (case zGx => kernel_rfl); (case zKg => kernel_rfl); (case yUf => kernel_rfl); (case zWy => kernel_rfl); (case yZ9 => kernel_rfl); (case yWi => kernel_rfl); (case oi6 => kernel_rfl); (case yWh => kernel_rfl); (case yUe => kernel_rfl); (case zKd => kernel_rfl); (case yJ5 => kernel_rfl); (case yZ8 => kernel_rfl); (case zWx => kernel_rfl); (case zXw => kernel_rfl); (case yZ6 => kernel_rfl); (case zGq => kernel_rfl); (case zJs => kernel_rfl); (case yZ7 => kernel_rfl); (case zGr => kernel_rfl); (case zGs => kernel_rfl); (case zGt => kernel_rfl); (case zKe => kernel_rfl); (case yUd => kernel_rfl); (case zWw => kernel_rfl); (case yZ5 => kernel_rfl); (case yWg => kernel_rfl); (case oi7 => kernel_rfl); (case yWf => kernel_rfl); (case yUc => kernel_rfl); (case zKb => kernel_rfl); (case yJ4 => kernel_rfl); (case yZ4 => kernel_rfl); (case zWv => kernel_rfl); (case zXv => kernel_rfl); (case yZ2 => kernel_rfl); (case zGm => kernel_rfl); (case zJr => kernel_rfl); (case yZ3 => kernel_rfl); (case zGn => kernel_rfl); (case zGo => kernel_rfl); (case zGp => kernel_rfl); (case zKc => kernel_rfl); (case yUb => kernel_rfl); (case zWu => kernel_rfl); (case yZ1 => kernel_rfl); (case yWe => kernel_rfl); (case oi8 => kernel_rfl); (case yWd => kernel_rfl); (case yUa => kernel_rfl); (case zV9 => kernel_rfl); (case yJ3 => kernel_rfl); (case yZ0 => kernel_rfl); (case zWt => kernel_rfl); (case zXu => kernel_rfl); (case yZy => kernel_rfl); (case zGi => kernel_rfl); (case zJq => kernel_rfl); (case yZz => kernel_rfl); (case zGj => kernel_rfl); (case zGk => kernel_rfl); (case zGl => kernel_rfl); (case zKa => kernel_rfl); (case yY9 => kernel_rfl); (case zWs => kernel_rfl); (case yZx => kernel_rfl); (case yWc => kernel_rfl); (case oi9 => kernel_rfl); (case yWb => kernel_rfl); (case yY8 => kernel_rfl); (case zV7 => kernel_rfl); (case yJ2 => kernel_rfl); (case yZw => kernel_rfl); (case zWr => kernel_rfl); (case zXt => kernel_rfl); (case yZu => kernel_rfl); (case zGe => kernel_rfl); (case zJp => kernel_rfl); (case yZv => kernel_rfl); (case zGf => kernel_rfl); (case zGg => kernel_rfl); (case zGh => kernel_rfl); (case zV8 => kernel_rfl); (case yY7 => kernel_rfl); (case zWq => kernel_rfl); (case yZt => kernel_rfl); (case yWa => kernel_rfl); (case wJf => kernel_rfl); (case yKt => kernel_rfl); (case yYl => kernel_rfl); (case zVw => kernel_rfl); (case yX7 => kernel_rfl); (case yQ1 => kernel_rfl); (case zWi => kernel_rfl); (case zXr => kernel_rfl); (case yQz => kernel_rfl); (case zUs => kernel_rfl); (case zJj => kernel_rfl); (case yQ0 => kernel_rfl); (case zUt => kernel_rfl); (case zUu => kernel_rfl); (case zUv => kernel_rfl); (case zVx => kernel_rfl); (case yYk => kernel_rfl); (case zWh => kernel_rfl); (case yQy => kernel_rfl); (case yKs => kernel_rfl); (case wJe => kernel_rfl); (case yKr => kernel_rfl); (case yYj => kernel_rfl); (case zVu => kernel_rfl); (case yX6 => kernel_rfl); (case yQx => kernel_rfl); (case zWg => kernel_rfl); (case zXq => kernel_rfl); (case yQv => kernel_rfl); (case zUo => kernel_rfl); (case zJi => kernel_rfl); (case yQw => kernel_rfl); (case zUp => kernel_rfl); (case zUq => kernel_rfl); (case zUr => kernel_rfl); (case zVv => kernel_rfl); (case yYi => kernel_rfl); (case zWf => kernel_rfl); (case yQu => kernel_rfl); (case yKq => kernel_rfl); (case wJd => kernel_rfl); (case yKp => kernel_rfl); (case yYh => kernel_rfl); (case zVs => kernel_rfl); (case yX5 => kernel_rfl); (case yQt => kernel_rfl); (case zWe => kernel_rfl); (case zXp => kernel_rfl); (case yQr => kernel_rfl); (case zUk => kernel_rfl); (case zJh => kernel_rfl); (case yQs => kernel_rfl); (case zUl => kernel_rfl); (case zUm => kernel_rfl); (case zUn => kernel_rfl); (case zVt => kernel_rfl); (case yYg => kernel_rfl); (case zWd => kernel_rfl); (case yQq => kernel_rfl); (case yKo => kernel_rfl); (case wJc => kernel_rfl); (case yKn => kernel_rfl); (case yYf => kernel_rfl); (case zVq => kernel_rfl); (case yX4 => kernel_rfl); (case yQp => kernel_rfl); (case zWc => kernel_rfl); (case zXo => kernel_rfl); (case yQn => kernel_rfl); (case zUg => kernel_rfl); (case zJg => kernel_rfl); (case yQo => kernel_rfl); (case zUh => kernel_rfl); (case zUi => kernel_rfl); (case zUj => kernel_rfl); (case zVr => kernel_rfl); (case yYe => kernel_rfl); (case zWb => kernel_rfl); (case yQm => kernel_rfl); (case yKm => kernel_rfl); (case wJb => kernel_rfl); (case yKl => kernel_rfl); (case yYd => kernel_rfl); (case zVo => kernel_rfl); (case yX3 => kernel_rfl); (case yQl => kernel_rfl); (case zWa => kernel_rfl); (case zXn => kernel_rfl); (case yQj => kernel_rfl); (case zUc => kernel_rfl); (case zJf => kernel_rfl); (case yQk => kernel_rfl); (case zUd => kernel_rfl); (case zUe => kernel_rfl); (case zUf => kernel_rfl); (case zVp => kernel_rfl); (case yYc => kernel_rfl); (case zK9 => kernel_rfl); (case yQi => kernel_rfl); (case yKk => kernel_rfl); (case wJa => kernel_rfl); (case yKj => kernel_rfl); (case yYb => kernel_rfl); (case zVm => kernel_rfl); (case yX2 => kernel_rfl); (case yQh => kernel_rfl); (case zK8 => kernel_rfl); (case zXm => kernel_rfl); (case yQf => kernel_rfl); (case zY8 => kernel_rfl); (case zJe => kernel_rfl); (case yQg => kernel_rfl); (case zY9 => kernel_rfl); (case zUa => kernel_rfl); (case zUb => kernel_rfl); (case zVn => kernel_rfl); (case yYa => kernel_rfl); (case zK7 => kernel_rfl); (case yQe => kernel_rfl); (case yKi => kernel_rfl); (case wX9 => kernel_rfl); (case yKh => kernel_rfl); (case yW9 => kernel_rfl); (case zVk => kernel_rfl); (case yX1 => kernel_rfl); (case yQd => kernel_rfl); (case zK6 => kernel_rfl); (case zXl => kernel_rfl); (case yQb => kernel_rfl); (case zY4 => kernel_rfl); (case zJd => kernel_rfl); (case yQc => kernel_rfl); (case zY5 => kernel_rfl); (case zY6 => kernel_rfl); (case zY7 => kernel_rfl); (case zVl => kernel_rfl); (case yW8 => kernel_rfl); (case zK5 => kernel_rfl); (case yQa => kernel_rfl); (case yKg => kernel_rfl); (case wX8 => kernel_rfl); (case yKf => kernel_rfl); (case yW7 => kernel_rfl); (case zVi => kernel_rfl); (case yX0 => kernel_rfl); (case zH9 => kernel_rfl); (case zK4 => kernel_rfl); (case zXk => kernel_rfl); (case zH7 => kernel_rfl); (case zY0 => kernel_rfl); (case zJc => kernel_rfl); (case zH8 => kernel_rfl); (case zY1 => kernel_rfl); (case zY2 => kernel_rfl); (case zY3 => kernel_rfl); (case zVj => kernel_rfl); (case yW6 => kernel_rfl); (case zK3 => kernel_rfl); (case zH6 => kernel_rfl); (case yKe => kernel_rfl); (case wX7 => kernel_rfl); (case yKd => kernel_rfl); (case yW5 => kernel_rfl); (case zVg => kernel_rfl); (case yXz => kernel_rfl); (case zH5 => kernel_rfl); (case zK2 => kernel_rfl); (case zXj => kernel_rfl); (case zH3 => kernel_rfl); (case zYw => kernel_rfl); (case zJb => kernel_rfl); (case zH4 => kernel_rfl); (case zYx => kernel_rfl); (case zYy => kernel_rfl); (case zYz => kernel_rfl); (case zVh => kernel_rfl); (case yW4 => kernel_rfl); (case zK1 => kernel_rfl); (case zH2 => kernel_rfl); (case yKc => kernel_rfl); (case wX6 => kernel_rfl); (case yKb => kernel_rfl); (case yW3 => kernel_rfl); (case zVe => kernel_rfl); (case yXy => kernel_rfl); (case zH1 => kernel_rfl); (case zK0 => kernel_rfl); (case zXi => kernel_rfl); (case zHz => kernel_rfl); (case zYs => kernel_rfl); (case zJa => kernel_rfl); (case zH0 => kernel_rfl); (case zYt => kernel_rfl); (case zYu => kernel_rfl); (case zYv => kernel_rfl); (case zVf => kernel_rfl); (case yW2 => kernel_rfl); (case zKz => kernel_rfl); (case zHy => kernel_rfl); (case yKa => kernel_rfl); (case wX5 => kernel_rfl); (case yV9 => kernel_rfl); (case yWz => kernel_rfl); (case zVc => kernel_rfl); (case yXt => kernel_rfl); (case zHt => kernel_rfl); (case zKw => kernel_rfl); (case zXh => kernel_rfl); (case zHr => kernel_rfl); (case zYm => kernel_rfl); (case zX9 => kernel_rfl); (case zHs => kernel_rfl); (case zYn => kernel_rfl); (case zYo => kernel_rfl); (case zYp => kernel_rfl); (case zVd => kernel_rfl); (case yWy => kernel_rfl); (case zKv => kernel_rfl); (case zHq => kernel_rfl); (case yV8 => kernel_rfl); (case yZk => k_is); (case wX4 => kernel_rfl); (case yV7 => kernel_rfl); (case yWx => kernel_rfl); (case zVa => kernel_rfl); (case yXs => kernel_rfl); (case zHp => kernel_rfl); (case zKu => kernel_rfl); (case zXg => kernel_rfl); (case zHn => kernel_rfl); (case zYi => kernel_rfl); (case zX8 => kernel_rfl); (case zHo => kernel_rfl); (case zYj => kernel_rfl); (case zYk => kernel_rfl); (case zYl => kernel_rfl); (case zVb => kernel_rfl); (case yWw => kernel_rfl); (case zKt => kernel_rfl); (case zHm => kernel_rfl); (case yV6 => kernel_rfl); (case yZj => k_is); (case wX3 => kernel_rfl); (case yV5 => kernel_rfl); (case yWv => kernel_rfl); (case zJ8 => kernel_rfl); (case yXr => kernel_rfl); (case zHl => kernel_rfl); (case zKs => kernel_rfl); (case zXf => kernel_rfl); (case zHj => kernel_rfl); (case zYe => kernel_rfl); (case zX7 => kernel_rfl); (case zHk => kernel_rfl); (case zYf => kernel_rfl); (case zYg => kernel_rfl); (case zYh => kernel_rfl); (case zJ9 => kernel_rfl); (case yWu => kernel_rfl); (case zKr => kernel_rfl); (case zHi => kernel_rfl); (case yV4 => kernel_rfl); (case yVv => k_is); (case wX2 => kernel_rfl); (case yV3 => kernel_rfl); (case yWt => kernel_rfl); (case zJ6 => kernel_rfl); (case yXq => kernel_rfl); (case zHh => kernel_rfl); (case zKq => kernel_rfl); (case zXe => kernel_rfl); (case zHf => kernel_rfl); (case zYa => kernel_rfl); (case zX6 => kernel_rfl); (case zHg => kernel_rfl); (case zYb => kernel_rfl); (case zYc => kernel_rfl); (case zYd => kernel_rfl); (case zJ7 => kernel_rfl); (case yWs => kernel_rfl); (case zKp => kernel_rfl); (case zHe => kernel_rfl); (case yV2 => kernel_rfl); (case zU8 => k_is); (case wX1 => kernel_rfl); (case yV1 => kernel_rfl); (case yWr => kernel_rfl); (case zJ4 => kernel_rfl); (case yXp => kernel_rfl); (case zHd => kernel_rfl); (case zKo => kernel_rfl); (case zXd => kernel_rfl); (case zHb => kernel_rfl); (case zW6 => kernel_rfl); (case zX5 => kernel_rfl); (case zHc => kernel_rfl); (case zW7 => kernel_rfl); (case zW8 => kernel_rfl); (case zW9 => kernel_rfl); (case zJ5 => kernel_rfl); (case yWq => kernel_rfl); (case zKn => kernel_rfl); (case zHa => kernel_rfl); (case yV0 => kernel_rfl); (case zV6 => k_is); (case a0 => k_is); (case l0 => k_is); (case c0 => k_is); (case k0 => k_is); (case a1 => k_is); (case l1 => k_is); (case c1 => k_is); (case k1 => k_is); (case a2 => k_is); (case l2 => k_is); (case c2 => k_is); (case k2 => k_is); (case a3 => k_is); (case l3 => k_is); (case c3 => k_is); (case k3 => k_is); (case a4 => k_is); (case l4 => k_is); (case c4 => k_is); (case k4 => k_is); (case a5 => k_is); (case l5 => k_is); (case c5 => k_is); (case k5 => k_is); (case a6 => k_is); (case l6 => k_is); (case c6 => k_is); (case k6 => k_is); (case a7 => k_is); (case l7 => k_is); (case c7 => k_is); (case k7 => k_is); (case a8 => k_is); (case l8 => k_is); (case c8 => k_is); (case k8 => k_is); (case a9 => k_is); (case l9 => k_is); (case c9 => k_is); (case k9 => k_is)
