import PyProof.Rows.All
import Wide.All
import OpenK.AllK
import Wide.FinOn
import HandS.ForMost
import HandS.ForExc
import HandS.IsInst
import HandS.HeadEnd
import KE.KStateDown
import Lean
import HandS.HeadNt
import HandS.HeadHook2
import HandS.Defaults
import HandS.Property
import HandS.ClsMeth
import HandS.Head0
import HandS.Head1
import HandS.Head2
import HandS.ExcCtx
import HandS.HotCalls
import HandS.SuiteRaise
import HandS.RaiseFrom
import HandS.Star
import HandS.FStr
import HandS.CallLocal
import HandS.Deep
import KE.GoesEnum
import HandS.Walk
import HandS.Style
import KE.IntTextLaws
import KE.KIntText
import KE.KCallOwn
import HandS.SlotsOwn
import PyProof.InstNe
import HandS.TupAny
import PyProof.StrLawsRepr
import PyProof.ReprLen
import KE.KExcSuper
import HandS.ExcInit
import HandS.Nested
import HandS.Small
import HandS.MakeKw
import HandS.MakeKwOnly
import KE.KRevSl
import KE.KExcInit
import HandS.ExcBuiltin
import HandS.ExcValue
import HandS.RaiseMore
import KE.KTryMore
import HandS.ExcIs
import HandS.ExcField
import KE.KExcIs
import HandS.Lambda
import PyProof.ReprNest
import HandS.NestedHot
import HandS.ExcInitHot
import HandS.Zip
import HandS.WideBits
import HandS.Strs
import HandS.Conv
import HandS.Dict
import KE.GoesZip
import KE.GoesMore
import KE.DataMinMax
import KE.SortData
import KE.KDictWalk
import KE.KDictSum
import KE.KTupSum
import HandS.HeadHook4
import HandS.NestedK
import HandS.EndTab
import PyProof.EqKinds
import PySem.Challenge.RW_bikestands_k01_limits_and_errors
section Hoisted
set_option Elab.async false
set_option linter.all false
set_option maxRecDepth 100000
set_option maxHeartbeats 4000000
namespace Bk
open PySem PySem.Spec PyProof.Rows L2
end Bk
set_option Elab.async false
set_option linter.all false
set_option maxRecDepth 100000
set_option maxHeartbeats 4000000
namespace Bk
open PySem PySem.Spec PyProof.Rows L2
open PySem.W (Frag)
def obsB (ex : Frag → Bool) (fn : List He5.DefA) (K : Frag) : He.AlD := (ex K && fn.all fun d => d.ok K, fn.map fun d => He5.fnA K (d.at_ K))
def SaysB (ex : Frag → Bool) (fn : List He5.DefA) (K : Frag) : Prop := obsB ex fn K = He5.valA fn
theorem SaysB.ex {ex : Frag → Bool} {fn : List He5.DefA} {K : Frag} (c : SaysB ex fn K) : ex K = true :=
  (He.ba (congrArg (fun z : He.AlD => z.1) c)).1
end Bk
set_option Elab.async false
set_option linter.all false
set_option maxRecDepth 100000
set_option maxHeartbeats 4000000
namespace L2C
open PySem PySem.Spec PyProof.Rows L2
/-- the contexts behind an exception, to the last -/
inductive Ch (R : Addr → Obj → Prop) : Addr → List Addr → Prop
  | nil {a : Addr} {o : Obj} {vs : Array Value} (h : R a o) (d : o.data = .fields vs) (c : vs[2]? = some .none) : Ch R a []
  | cons {a b : Addr} {l : List Addr} {o : Obj} {vs : Array Value} (h : R a o) (d : o.data = .fields vs) (c : vs[2]? = some (.ref b)) (n : a ∉ b :: l) (r : Ch R b l) : Ch R a (b :: l)
theorem Ch.mono {R R' : Addr → Obj → Prop} (k : ∀ a o, R a o → R' a o) : ∀ {l : List Addr} {a : Addr}, Ch R a l → Ch R' a l
  | _, _, .nil h d c => .nil (k _ _ h) d c
  | _, _, .cons h d c n r => .cons (k _ _ h) d c n (r.mono k)
theorem Ch.sub {R R' : Addr → Obj → Prop} : ∀ {l : List Addr} {a : Addr}, Ch R a l → (∀ x ∈ a :: l, ∀ o, R x o → R' x o) → Ch R' a l
  | _, _, .nil h d c, k => .nil (k _ List.mem_cons_self _ h) d c
  | _, _, .cons h d c n r, k => .cons (k _ List.mem_cons_self _ h) d c n (r.sub fun x hx => k x (List.mem_cons_of_mem _ hx))
/-- what the exception's own object says of what stands behind it -/
def Cn (R : Addr → Obj → Prop) (l : List Addr) (o : Obj) : Prop := ∀ vs : Array Value, o.data = .fields vs → (l = [] ∧ vs[2]? = some .none) ∨ ∃ b l', l = b :: l' ∧ vs[2]? = some (.ref b) ∧ Ch R b l'
/-- class, dict, and the contexts: in the ground, untracked -/
def Zk (B : Heap) (H : Hp) (cls : Value) (d : Option Addr) : Obj → Prop := fun o => o.cls = cls ∧ o.dict = d ∧ ∃ l, Cn (fun a ob => B.get? a = some ob) l o ∧ ∀ x ∈ l, H x = none
def XE (X : Cx) (W : WX) (u : Value) (s' : Shared) : Prop :=
  ∃ (a : Addr) (B : Heap) (sI : Shared) (pins : List (Addr × Obj)) (σ : L2.St) (H : Hp) (cls : Value) (d : Option Addr),
    u = .ref a ∧ Inv X pins σ H sI ∧ (∀ b o, sI.heap.get? b = some o → b ∉ frs X.stack → B.get? b = some o) ∧ sI.heap.UpToSlots s'.heap ∧
      Sky B X.stack a (Zk B H cls d) X.env.locals s'.heap ∧ H a = none ∧ s'.os = sI.os ∧ AllBare s'.gens ∧ W cls d σ H
def Takes (X : Cx) (W : WX) : Prop := ∀ u s', XE X W u s' → X.xe u s'
def CX (P : Program) (w : World) (outer : List Env) (H : Hp) (s : Shared) (E : XK) (u : Value) (s' : Shared) : Prop :=
  ∃ (a : Addr) (B : Heap) (H' : Hp) (cls : Value) (d : Option Addr), u = .ref a ∧ HandSPX.FlyingZ B outer a (Zk B H' cls d) s'.heap ∧ HOk P w H' B ∧ UB (frs outer) H H' s.heap B s'.heap ∧ H' a = none ∧ s'.os = s.os ∧ AllBare s'.gens ∧ E cls d H'
/-- the one that is handled, and all behind it, are pinned -/
def HotC (X : Cx) : Prop := ∃ (a : Addr) (l : List Addr), X.A.handled = some (.ref a) ∧ Ch (fun b o => (b, o) ∈ X.pn) a l
end L2C
namespace L2C
open PySem PySem.Spec PyProof.Rows L2
/-- what a suite knows of the exception that it handles -/
structure Held (a : Addr) (oe : Obj) (cls : Value) (d : Option Addr) (pn : List (Addr × Obj)) : Prop where
  cls : oe.cls = cls
  dict : oe.dict = d
  ch : ∃ l, Ch (fun b o => (b, o) ∈ (a, oe) :: pn) a l
theorem Ch.pins {B : Heap} : ∀ {l : List Addr} {b : Addr}, Ch (fun x o => B.get? x = some o) b l → ∃ cp : List (Addr × Obj), Ch (fun x o => (x, o) ∈ cp) b l ∧ ∀ p ∈ cp, p.1 ∈ b :: l ∧ B.get? p.1 = some p.2 ∧ ∃ vs, p.2.data = .fields vs
  | _, b, .nil (o := o) h d c => ⟨[(b, o)], .nil List.mem_cons_self d c, fun p hp => by
    rw [List.mem_singleton] at hp
    subst hp
    exact ⟨List.mem_cons_self, h, _, d⟩⟩
  | _, b, .cons (o := o) h d c n r => by
    obtain ⟨cp, h1, h2⟩ := r.pins
    refine ⟨(b, o) :: cp, .cons List.mem_cons_self d c n (h1.mono fun x o hx => List.mem_cons_of_mem _ hx), fun p hp => ?_⟩
    rcases List.mem_cons.mp hp with rfl | hp
    · exact ⟨List.mem_cons_self, h, _, d⟩
    · obtain ⟨h3, h4⟩ := h2 p hp
      exact ⟨List.mem_cons_of_mem _ h3, h4⟩
section
variable {X : Cx} {pins : List (Addr × Obj)} {σ : L2.St} {H : Hp} {s : Shared} {B : Heap} {a : Addr} {cls : Value} {d : Option Addr}
theorem Held.hot {oe : Obj} {pn : List (Addr × Obj)} (h : Held a oe cls d pn) : HotC (X.suite a ((a, oe) :: pn)) := by
  obtain ⟨l, ch⟩ := h.ch
  exact ⟨a, l, rfl, ch⟩
end
end L2C
set_option Elab.async false
set_option linter.all false
set_option maxRecDepth 100000
set_option maxHeartbeats 4000000
namespace Bk
open PySem PySem.Spec PyProof.Rows L2
open PySem.W (Frag)
theorem Same.tup {K : Frag} {H H' : Hp} {a : Addr} {xs : List V} (e : Same H H') (h : SqT K H a xs) : SqT K H' a xs := by
  rcases h with (h | ⟨o, h⟩) | h
  · exact .inl (.inl (e _ _ h))
  · exact .inl (.inr ⟨o, e _ _ h⟩)
  · exact .inr h
theorem same_new {H : Hp} {p : Addr} {o : HO} (h : H p = none) : Same H (upd H p o) := fun a u e => by
  rw [upd_ne (ne_of_none e h)]
  exact e
end Bk
set_option Elab.async false
set_option linter.all false
set_option maxRecDepth 100000
set_option maxHeartbeats 4000000
namespace Bk
open PySem PySem.Spec PyProof.Rows L2
open PySem.W (Frag)
end Bk
set_option Elab.async false
set_option linter.all false
set_option maxRecDepth 100000
set_option maxHeartbeats 4000000
namespace Bk
open PySem PySem.Spec PyProof.Rows L2
open PySem.W (Frag)
end Bk
set_option Elab.async false
set_option linter.all false
set_option maxRecDepth 100000
set_option maxHeartbeats 4000000
namespace Bk
open PySem PySem.Spec PyProof.Rows L2
open PySem.W (Frag)
structure MOk (P : Program) (w : World) (K : Frag) (mg : Str → Option Value) (base : Heap) (k : Nat) (f : Addr) (ps : List Str) (sp : Sp) : Prop where
  ok : ∃ fd, FnOk P w K mg base (L2C.CX P w) k f fd ps sp ∧ Binds K fd ps [] ∧ ∃ oc od osl, K.lookup f = some ⟨oc, od, .func fd, osl⟩
  kp : PySem.W.keepIn K (.ref f) = true
end Bk
set_option Elab.async false
set_option linter.all false
set_option maxRecDepth 100000
set_option maxHeartbeats 4000000
namespace Bk
open PySem PySem.Spec PyProof.Rows L2 PySem.NumText
open PySem.W (Frag)
end Bk
set_option Elab.async false
set_option linter.all false
set_option maxRecDepth 100000
set_option maxHeartbeats 4000000
namespace Bk
open PySem PySem.Spec PyProof.Rows L2
open PySem.W (Frag)
/-- an instance's own type is its class -/
def insB (C : Str) (K : Frag) : Bool :=
  He.eqO (PySem.W.findIn K (.ref (He.ga K C)) "__class__") (some (some (.builtin "object.__class__"))) &&
  (He.eqO (PySem.W.specialIn K (.builtin "object.__class__") "__get__") (some (some (.builtin "getset_descriptor.__get__"))) &&
  (decide (PySem.W.takesIn K (.builtin "object.__class__") = some true) && decide (PySem.W.mroIn K (He.ga K C) (.type "object") = some true)))
end Bk
set_option Elab.async false
set_option linter.all false
set_option maxRecDepth 100000
set_option maxHeartbeats 4000000
namespace Bk
open PySem PySem.Spec PyProof.Rows L2
open PySem.W (Frag)
theorem canAll {ds : List PyData} (h : ∀ d ∈ ds, d.canLay0 = true) : PyData.canLayAll0 ds = true := by
  induction ds with
  | nil => rfl
  | cons d ds ih =>
    show (d.canLay0 && PyData.canLayAll0 ds) = true
    rw [h d List.mem_cons_self, ih fun e he => h e (List.mem_cons_of_mem _ he)]
    rfl
theorem depAll {ds : List PyData} {n : Nat} (h : ∀ d ∈ ds, d.depth ≤ n) : PyData.depthAll ds ≤ n := by
  induction ds with
  | nil => exact Nat.zero_le _
  | cons d ds ih =>
    show max d.depth (PyData.depthAll ds) ≤ n
    exact Nat.max_le.mpr ⟨h d List.mem_cons_self, ih fun e he => h e (List.mem_cons_of_mem _ he)⟩
/-- deep at most n, and may be laid -/
def Sh (n : Nat) (d : PyData) : Prop := d.canLay0 = true ∧ d.depth ≤ n
theorem Sh.list {n : Nat} {ds : List PyData} (h : ∀ d ∈ ds, Sh n d) : Sh (n + 1) (.list ds) :=
  ⟨canAll fun d hd => (h d hd).1, Nat.succ_le_succ (depAll fun d hd => (h d hd).2)⟩
theorem Sh.tup {n : Nat} {ds : List PyData} (h : ∀ d ∈ ds, Sh n d) : Sh (n + 1) (.tuple ds) :=
  ⟨canAll fun d hd => (h d hd).1, Nat.succ_le_succ (depAll fun d hd => (h d hd).2)⟩
theorem Sh.int {n : Nat} {i : Int} : Sh n (.int i) := ⟨rfl, Nat.zero_le _⟩
theorem Sh.non {n : Nat} : Sh n .none := ⟨rfl, Nat.zero_le _⟩
theorem Sh.bl {n : Nat} {b : Bool} : Sh n (.bool b) := ⟨rfl, Nat.zero_le _⟩
theorem Sh.str {n : Nat} {x : Str} (h : PyData.strOk x = true) : Sh n (.str x) := ⟨h, Nat.zero_le _⟩
end Bk
set_option Elab.async false
set_option linter.all false
set_option maxRecDepth 100000
set_option maxHeartbeats 4000000
namespace Bk
open PySem PySem.Spec PyProof.Rows L2
open PySem.W (Frag)
end Bk
set_option Elab.async false
set_option linter.all false
set_option maxRecDepth 100000
set_option maxHeartbeats 4000000
namespace Bk
open PySem PySem.Spec PyProof.Rows L2
open PySem.W (Frag)
end Bk
set_option Elab.async false
set_option linter.all false
set_option maxRecDepth 100000
set_option maxHeartbeats 4000000
namespace Bk
open PySem PySem.Spec PyProof.Rows L2
open PySem.W (Frag)
end Bk
set_option Elab.async false
set_option linter.all false
set_option maxRecDepth 100000
set_option maxHeartbeats 4000000
namespace Bk
open PySem PySem.Spec PyProof.Rows L2
open PySem.W (Frag)
/-- all but what stands at p is as it was -/
def But (p : Addr) (H H' : Hp) : Prop := ∀ b o, H b = some o → b ≠ p → H' b = some o
end Bk
set_option Elab.async false
set_option linter.all false
set_option maxRecDepth 100000
set_option maxHeartbeats 4000000
namespace Bk
open PySem PySem.Spec PyProof.Rows L2 PySem.NumText
open PySem.W (Frag)
end Bk
set_option Elab.async false
set_option linter.all false
set_option maxRecDepth 100000
set_option maxHeartbeats 4000000
namespace Bk
open PySem PySem.Spec PyProof.Rows L2 PySem.NumText
open PySem.W (Frag)
end Bk
set_option Elab.async false
set_option linter.all false
set_option maxRecDepth 100000
set_option maxHeartbeats 4000000
namespace Bk
open PySem PySem.Spec PyProof.Rows L2 PySem.NumText
open PySem.W (Frag)
theorem But.refl (p : Addr) (H : Hp) : But p H H := fun _ _ h _ => h
theorem But.trans {p : Addr} {H H1 H2 : Hp} (a : But p H H1) (b : But p H1 H2) : But p H H2 := fun c o h hc => b c o (a c o h hc) hc
end Bk
set_option Elab.async false
set_option linter.all false
set_option maxRecDepth 100000
set_option maxHeartbeats 4000000
namespace Bk
open PySem PySem.Spec PyProof.Rows L2 PySem.NumText
open PySem.W (Frag)
end Bk
namespace Bk
open PySem PySem.Spec PyProof.Rows L2 PySem.NumText
end Bk
namespace Bk
open PySem PySem.Spec PyProof.Rows L2 PySem.NumText
end Bk
set_option Elab.async false
set_option linter.all false
set_option maxRecDepth 100000
set_option maxHeartbeats 4000000
namespace Bk
open PySem PySem.Spec PyProof.Rows L2 PySem.NumText
open PySem.W (Frag)
end Bk
namespace Bk
open PySem PySem.Spec PyProof.Rows L2 PySem.NumText
open PySem.W (Frag)
end Bk
namespace Bk
open PySem PySem.Spec PyProof.Rows L2 PySem.NumText
open PySem.W (Frag)
end Bk
set_option Elab.async false
set_option linter.all false
set_option maxRecDepth 100000
set_option maxHeartbeats 4000000
namespace Bk
open PySem PySem.Spec PyProof.Rows L2 PySem.NumText
open PySem.W (Frag)
end Bk
set_option Elab.async false
set_option linter.all false
set_option maxRecDepth 100000
set_option maxHeartbeats 4000000
namespace Bk
open PySem PySem.Spec PyProof.Rows L2 PySem.NumText
open PySem.W (Frag)
end Bk
set_option Elab.async false
set_option linter.all false
set_option maxRecDepth 100000
set_option maxHeartbeats 4000000
namespace Bk
open PySem PySem.Spec PyProof.Rows L2 PySem.NumText
open PySem.W (Frag)
def lowT (x : Str) : Prop := ∀ c ∈ x.cps.toList, c < 256
/-- shown in few signs: depth n, weight w -/
structure Few (n w : Nat) (d : PyData) : Prop where
  s : d.showable = true
  l : d.leavesShort 8 = true
  w : d.weight ≤ w
  d : d.depth ≤ n
theorem Few.str {n m : Nat} {x : Str} (h : lowT x) (hl : x.length ≤ m) : Few n m (.str x) := by
  refine ⟨rfl, ?_, hl, Nat.zero_le _⟩
  show (x.cps.toList.all fun c => decide (c < 16 ^ 8)) = true
  rw [List.all_eq_true]
  intro c hc
  have := h c hc
  exact decide_eq_true (by omega)
theorem num_fit : ∀ n : Fin 41, (PyData.int ((n.val : Nat) : Int)).showable = true ∧ (PyData.int ((n.val : Nat) : Int)).leavesShort 8 = true ∧ (PyData.int ((n.val : Nat) : Int)).weight ≤ 6 := by decide +kernel
theorem Few.int {n : Nat} {z : Int} (h0 : 0 ≤ z) (h1 : z ≤ 40) : Few n 6 (.int z) := by
  have h := num_fit ⟨z.toNat, by omega⟩
  have e : ((z.toNat : Nat) : Int) = z := Int.toNat_of_nonneg h0
  simp only [e] at h
  exact ⟨h.1, h.2.1, h.2.2, Nat.zero_le _⟩
theorem Few.bl {n : Nat} {b : Bool} : Few n 0 (.bool b) := ⟨rfl, rfl, Nat.le_refl _, Nat.zero_le _⟩
structure Fews (n w : Nat) (ds : List PyData) : Prop where
  s : PyData.showableAll ds = true
  l : PyData.leavesShortAll 8 ds = true
  w : PyData.weightAll ds ≤ w
  d : PyData.depthAll ds ≤ n
theorem Fews.nil {n : Nat} : Fews n 0 [] := ⟨rfl, rfl, Nat.le_refl _, Nat.zero_le _⟩
theorem Fews.cons {n w w' : Nat} {d : PyData} {ds : List PyData} (h : Few n w d) (k : Fews n w' ds) : Fews n (w + 1 + w') (d :: ds) := by
  refine ⟨?_, ?_, ?_, ?_⟩
  · show (d.showable && PyData.showableAll ds) = true
    rw [h.s, k.s]; rfl
  · show (d.leavesShort 8 && PyData.leavesShortAll 8 ds) = true
    rw [h.l, k.l]; rfl
  · show d.weight + 1 + PyData.weightAll ds ≤ _
    have := h.w
    have := k.w
    omega
  · show max d.depth (PyData.depthAll ds) ≤ n
    exact Nat.max_le.mpr ⟨h.d, k.d⟩
theorem Fews.all {n w : Nat} : ∀ {ds : List PyData}, (∀ d ∈ ds, Few n w d) → Fews n (ds.length * (w + 1)) ds
  | [], _ => by rw [List.length_nil, Nat.zero_mul]; exact .nil
  | d :: ds, h => by
    have e : (d :: ds).length * (w + 1) = w + 1 + ds.length * (w + 1) := by rw [List.length_cons, Nat.add_mul, Nat.one_mul, Nat.add_comm]
    rw [e]
    exact .cons (h d List.mem_cons_self) (Fews.all fun x hx => h x (List.mem_cons_of_mem _ hx))
theorem Fews.tup {n w : Nat} {ds : List PyData} (h : Fews n w ds) : Few (n + 1) w (.tuple ds) := ⟨h.s, h.l, h.w, Nat.succ_le_succ h.d⟩
theorem Fews.lst {n w : Nat} {ds : List PyData} (h : Fews n w ds) : Few (n + 1) w (.list ds) := ⟨h.s, h.l, h.w, Nat.succ_le_succ h.d⟩
end Bk
set_option Elab.async false
set_option linter.all false
set_option maxRecDepth 100000
set_option maxHeartbeats 4000000
namespace Bk
open PySem PySem.Spec PyProof.Rows L2 PySem.NumText
open PySem.W (Frag)
end Bk
set_option Elab.async false
set_option linter.all false
namespace Bk
open PySem PySem.Spec PyProof.Rows L2 PySem.NumText
open PySem.W (Frag)
end Bk
set_option Elab.async false
set_option linter.all false
set_option maxRecDepth 100000
set_option maxHeartbeats 4000000
namespace Bk
open PySem PySem.Spec PyProof.Rows L2 PySem.NumText
open PySem.W (Frag)
end Bk
set_option Elab.async false
set_option linter.all false
set_option maxRecDepth 100000
set_option maxHeartbeats 4000000
namespace Bk
open PySem PySem.Spec PyProof.Rows L2 PySem.NumText
open PySem.W (Frag)
open NdefX
end Bk
set_option Elab.async false
set_option linter.all false
set_option maxRecDepth 100000
set_option maxHeartbeats 4000000
namespace Bk
open PySem PySem.Spec PyProof.Rows L2 PySem.NumText
open PySem.W (Frag)
open NdefX
end Bk
set_option Elab.async false
set_option linter.all false
set_option maxRecDepth 100000
set_option maxHeartbeats 4000000
namespace Bk
open PySem PySem.Spec PyProof.Rows L2 PySem.NumText
open PySem.W (Frag)
open NdefX
structure DefX where
  at_ : Frag → Addr
  cls : Frag → Addr
  name : Str
  qual : Str
  params : Arguments
  body : List Stmt
  scope : Scope
def fnC (K : Frag) (a : Addr) : He5.FnW := match K.lookup a with
  | some ⟨_, _, .func fd, _⟩ => some (fd.name, fd.qualname, fd.params, fd.body, fd.scope, fd.globals, [], fd.builtins)
  | _ => none
def DefX.val (d : DefX) : He5.FnW := some (d.name, d.qual, d.params, .stmts d.body, d.scope, mainGlobals, [], builtinsNs)
def codeF (K : Frag) (file qual : Str) : Value → Bool
  | .ref c => PySem.W.codeIn K (.ref c) qual && (match K.lookup c with
    | some ⟨_, _, .fields vs, _⟩ => (match (vs[2]? : Option Value) with
      | some (Value.str fl _) => decide (fl = file)
      | _ => false)
    | _ => false)
  | _ => false
def cellB (K : Frag) (C : Addr) : List (Str × Addr) → Bool
  | [(n, cc)] => decide (n = ("__class__" : Str)) && (match K.lookup cc with
    | some ⟨_, _, .cell (some (.ref D)), _⟩ => decide (D = C)
    | _ => false)
  | _ => false
def DefX.ok (file : Str) (K : Frag) (d : DefX) : Bool := match K.lookup (d.at_ K) with
  | some ⟨_, _, .func fd, _⟩ => decide (fd.defaults = .none) && (decide (fd.kwdefaults = .none) && (decide (fd.annotations = none) && (codeF K file d.qual fd.code && cellB K (d.cls K) fd.closure)))
  | _ => false
abbrev AlC : Type := Bool × List He5.FnW × List He5.FnW
def obsC (file : Str) (ex : Frag → Bool) (fn : List He5.DefA) (fx : List DefX) (K : Frag) : AlC := (ex K && (fn.all (fun d => d.ok K) && fx.all fun d => d.ok file K), fn.map (fun d => He5.fnA K (d.at_ K)), fx.map fun d => fnC K (d.at_ K))
def valC (fn : List He5.DefA) (fx : List DefX) : AlC := (true, fn.map He5.DefA.val, fx.map DefX.val)
def SaysC (file : Str) (ex : Frag → Bool) (fn : List He5.DefA) (fx : List DefX) (K : Frag) : Prop := obsC file ex fn fx K = valC fn fx
section
variable {file : Str} {xk : Frag → Bool} {fn : List He5.DefA} {fx : List DefX} {K : Frag}
theorem SaysC.ex (c : SaysC file xk fn fx K) : xk K = true := (He.ba (congrArg (fun z : AlC => z.1) c)).1
end
end Bk
set_option Elab.async false
set_option linter.all false
set_option maxRecDepth 100000
set_option maxHeartbeats 4000000
namespace Bk
open PySem PySem.Spec PyProof.Rows L2 PySem.NumText
open PySem.W (Frag)
end Bk
set_option Elab.async false
set_option linter.all false
set_option maxRecDepth 100000
set_option maxHeartbeats 4000000
namespace Bk
open PySem PySem.Spec PyProof.Rows L2 PySem.NumText
open PySem.W (Frag)
end Bk
set_option Elab.async false
set_option linter.all false
set_option maxRecDepth 100000
set_option maxHeartbeats 4000000
namespace Bk
open PySem PySem.Spec PyProof.Rows L2 PySem.NumText
open PySem.W (Frag)
theorem MOk.at_ {P : Program} {w : World} {K : Frag} {mg : Str → Option Value} {base : Heap} {k : Nat} {f : Addr} {ps : List Str} {sp : Sp} {x q : Str} {params : Arguments} {body : List Stmt} {scope : Scope} {dvs : List V} {kws : List (Str × V)} {fd : FuncData}
    (M : MOk P w K mg base k f ps sp) (F : FunD K x q params body scope dvs kws f fd) : FnOk P w K mg base (L2C.CX P w) k f fd ps sp := by
  obtain ⟨⟨fd2, G, _, _, _, _, l2⟩, _⟩ := M
  obtain ⟨_, _, _, _, _, _, _, _, _, _, _, l1, _⟩ := F.ex
  rw [l1] at l2
  cases l2
  exact G
end Bk
set_option Elab.async false
set_option linter.all false
set_option maxRecDepth 100000
set_option maxHeartbeats 4000000
namespace Bk
open PySem PySem.Spec PyProof.Rows L2 PySem.NumText
open PySem.W (Frag)
end Bk
set_option Elab.async false
set_option linter.all false
set_option maxRecDepth 100000
set_option maxHeartbeats 4000000
namespace Bk
open PySem PySem.Spec PyProof.Rows L2 PySem.NumText
open PySem.W (Frag)
open NdefX
def oexGB (N : String) (tl : List Value) (x : Str) (K : Frag) : Bool :=
  let C := He.ga K x
  PySem.W.excOver K C tl && (PySem.W.excInitIn K C tl N && (PySem.W.hasDictIn K C && (decide (PySem.W.findIn K (.ref C) "__setattr__" = some (some (.builtin "object.__setattr__"))) &&
    (decide (PySem.W.subIn K (.ref C) (.type "BaseException") = some true) && (decide (PySem.W.typeIn K (.ref C) = some (.type "type")) && PySem.W.keepIn K (.ref C))))))
end Bk
set_option Elab.async false
set_option linter.all false
set_option maxRecDepth 100000
set_option maxHeartbeats 4000000
namespace Bk
open PySem PySem.Spec PyProof.Rows L2 PySem.NumText
open PySem.W (Frag)
open NdefX
def suGB (B I : String) (x : Str) (K : Frag) : Bool :=
  let C := He.ga K x
  decide (PySem.W.mroIn K C (.ref C) = some true) && (decide (PySem.W.subIn K (.ref C) (.type B) = some true) && (decide (PySem.W.nsIn K cStatics "thirdparty.any" = some none) && decide (PySem.W.ks_superIn K C C "__init__" = some (some (.builtin I)))))
end Bk
set_option Elab.async false
set_option linter.all false
set_option maxRecDepth 100000
set_option maxHeartbeats 4000000
namespace Bk
open PySem PySem.Spec PyProof.Rows L2 PySem.NumText
open PySem.W (Frag)
open NdefX
end Bk
set_option Elab.async false
set_option linter.all false
set_option maxRecDepth 100000
set_option maxHeartbeats 4000000
namespace Bk
open PySem PySem.Spec PyProof.Rows L2 PySem.NumText
open PySem.W (Frag)
end Bk
set_option Elab.async false
set_option linter.all false
set_option maxRecDepth 100000
set_option maxHeartbeats 4000000
namespace Bk
open PySem PySem.Spec PyProof.Rows L2 PySem.NumText
open PySem.W (Frag)
open HotX L2H
open L2C (Ch)
structure TurnK (P : Program) (w : World) (K : Frag) (tg : Expr) (J : It) (fp : List Addr) (it : Addr) (tn : Nat → Heap → Prop) : Prop where
  mem : it ∈ fp
  obj : ∀ i h, tn i h → ∀ b ∈ fp, ∃ o, h.get? b = some o ∧ ∀ v, o.data ≠ .cell v
  keep : ∀ i h h', tn i h → (∀ b ∈ fp, ∀ o, h.get? b = some o → h'.get? b = some o) → tn i h'
  item : ∀ (X : Cx), X.prog = P → X.w = w → X.K = K → L2C.HotC X → ∀ (i : Nat) (pins : List (Addr × Obj)) (s : Shared) (σ : L2.St) (H : Hp) (E : Value → Shared → Prop), Inv X pins σ H s → (∀ b ∈ fp, FpOk X pins H b) → tn i s.heap → J.go i H →
    wpAny (model P w) X.A (pyNext (.ref it)) (fun r s1 => ∃ u, r = some u ∧
      wpAny (model P w) X.A (letOwnedTupleGo tg (.ref it) u) (fun _ s2 => ∃ x H', Inv X pins σ H' s2 ∧ RelV x u ∧ J.yld i H x H' ∧ tn (i + 1) s2.heap ∧ ∀ b ∈ fp, H' b = none) E s1) E s
  done : ∀ (X : Cx), X.prog = P → X.w = w → X.K = K → L2C.HotC X → ∀ (i : Nat) (pins : List (Addr × Obj)) (s : Shared) (σ : L2.St) (H : Hp) (E : Value → Shared → Prop), Inv X pins σ H s → (∀ b ∈ fp, FpOk X pins H b) → tn i s.heap → J.stop i H →
    wpAny (model P w) X.A (pyNext (.ref it)) (fun r s1 => r = none ∧ Inv X pins σ H s1) E s
  self : ∀ (A : Around) (i : Nat) (s : Shared) (Q : Value → Shared → Prop) (E : Value → Shared → Prop), tn i s.heap → Q (.ref it) s → wpAny (model P w) A (pyIter (.ref it)) Q E s
def PIEK (X : Cx) (pins : List (Addr × Obj)) (σ : L2.St) (tg : Expr) (R : It → Hp → Prop) (itv : Value) (s2 : Shared) : Prop :=
  ∃ (it : Addr) (fp : List Addr) (tn : Nat → Heap → Prop) (J : It) (H' : Hp), itv = .ref it ∧ Inv X pins σ H' s2 ∧ TurnK X.prog X.w X.K tg J fp it tn ∧ tn 0 s2.heap ∧ (∀ b ∈ fp, FpOk X pins H' b) ∧ R J H'
structure PIK (X : Cx) (tg iter : Expr) (wi : TI) : Prop where
  run : ∀ (pins : List (Addr × Obj)) (s : Shared) (σ : L2.St) (H : Hp) (R : It → Hp → Prop), Inv X pins σ H s → wi σ H R →
    wpAny (model X.prog X.w) X.A (eval iter X.env) (fun v s1 => wpAny (model X.prog X.w) X.A (pyIter v) (PIEK X pins σ tg R) X.xe s1) X.xe s
end Bk
set_option Elab.async false
set_option linter.all false
set_option maxRecDepth 100000
set_option maxHeartbeats 4000000
namespace Bk
open PySem PySem.Spec PyProof.Rows L2 PySem.NumText
open PySem.W (Frag)
open HotX L2H
end Bk
set_option Elab.async false
set_option linter.all false
set_option maxRecDepth 100000
set_option maxHeartbeats 4000000
namespace Bk
open PySem PySem.Spec PyProof.Rows L2 PySem.NumText
open PySem.W (Frag)
open LamX
end Bk
set_option Elab.async false
set_option linter.all false
set_option maxRecDepth 100000
set_option maxHeartbeats 4000000
namespace Bk
open PySem PySem.Spec PyProof.Rows L2 PySem.NumText
open PySem.W (Frag)
end Bk
set_option Elab.async false
set_option linter.all false
set_option maxRecDepth 100000
set_option maxHeartbeats 4000000
namespace Bk
open PySem PySem.Spec PyProof.Rows L2 PySem.NumText
open PySem.W (Frag)
open NdefX L2H
end Bk
set_option Elab.async false
set_option linter.all false
set_option maxRecDepth 100000
set_option maxHeartbeats 4000000
namespace PySem
end PySem
set_option Elab.async false
set_option linter.all false
set_option maxRecDepth 100000
set_option maxHeartbeats 4000000
namespace Bk
open PySem PySem.Spec PyProof.Rows L2 PySem.NumText
open PySem.W (Frag)
open NdefX
end Bk
set_option Elab.async false
set_option linter.all false
set_option maxRecDepth 100000
set_option maxHeartbeats 4000000
namespace Bk
open PySem PySem.Spec PyProof.Rows L2 PySem.NumText
open PySem.W (Frag)
open NdefX
end Bk
set_option Elab.async false
set_option linter.all false
set_option maxRecDepth 100000
set_option maxHeartbeats 4000000
namespace AM
open PySem PySem.Spec PyProof.Rows L2 Bk
open PySem.W (Frag)
inductive D where
  | non | bl (b : Bool) | int (i : Int) | str (x : Str) | tup (l : List D) | lst (l : List D) | fl (l : List D) | obj (C : Str) (fs : List (Str × D)) | ty (n : String) | cls (C : Str) | dic (kvs : List (Str × D)) | tux (l : List D) | key (ks : List L2.Key) | xv (C : Str) (fs : List (Str × D))
  deriving Inhabited
inductive W where | val (d : D) | ref (n : Nat) | rws (ns : List Nat) | exc (C : Str) (fs : List (Str × D)) | clo
  deriving Inhabited
inductive Ob where | lst (l : List D) | ins (C : Str) (fs : List (Str × D)) | dead | dic (kvs : List (Str × D)) | dkt (kvs : List (List L2.Key × D))
  deriving Inhabited
abbrev Sto := List Ob
abbrev Ev := List (Option W)
inductive Rs (α : Type) where | ok (a : α) (S : Sto) | ex (C : Str) (fs : List (Str × D)) (S : Sto) | bad
inductive Rt where | nx (ε : Ev) (S : Sto) | rt (w : W) (S : Sto) | bk (ε : Ev) (S : Sto) | ct (ε : Ev) (S : Sto) | ex (C : Str) (fs : List (Str × D)) (S : Sto) | bad
def Rs.bind {α β : Type} (r : Rs α) (k : α → Sto → Rs β) : Rs β := match r with | .ok a S => k a S | .ex C fs S => .ex C fs S | .bad => .bad
def Rs.bindT {α : Type} (r : Rs α) (k : α → Sto → Rt) : Rt := match r with | .ok a S => k a S | .ex C fs S => .ex C fs S | .bad => .bad
abbrev ME := Ev → Sto → Rs W
abbrev MT := Ev → Sto → Rs Bool
abbrev MA := Ev → Sto → Rs (List W)
abbrev MS := Ev → Sto → Rt
abbrev F1 := List W → Sto → Rs W
class Amb where
  hot : Option (Addr × Str × Option Addr)
  lam : Option (Addr × Addr × Str × Ev × L2.St)
  tabs : Frag → List (Addr × Str)
instance : Amb := ⟨none, none, fun _ => []⟩
variable [Amb]
def NTb (o : HO) : Prop := ∀ ps, o ≠ .tbl ps
def keyS (vs : List (Str × V)) : List (Key × V) := vs.map fun p => (Sum.inr p.1, p.2)
mutual
inductive Rd (K : Frag) (G : Hp) : D → V → Prop
  | non : Rd K G .non .non
  | bl (b : Bool) : Rd K G (.bl b) (.bl b)
  | int (i : Int) : Rd K G (.int i) (.int i)
  | str (x : Str) (h : x.length ≤ sizeLine) : Rd K G (.str x) (.str x)
  | tup {a : Addr} {xs : List V} {l : List D} (h : SqT K G a xs) (r : Rds K G l xs) : Rd K G (.tup l) (.ref a)
  | lst {a : Addr} {xs : List V} {l : List D} (h : G a = some (.lst xs)) (r : Rds K G l xs) : Rd K G (.lst l) (.ref a)
  | fl {a : Addr} {xs : List V} {l : List D} (h : SqL K G a xs) (r : Rds K G l xs) : Rd K G (.fl l) (.ref a)
  | obj {a dx : Addr} {C : Str} {fs : List (Str × D)} {gs : List (Str × V)} (h : G a = some (.ins (He.ga K C) dx gs)) (r : Rfs K G fs gs) : Rd K G (.obj C fs) (.ref a)
  | ty (n : String) : Rd K G (.ty n) (.ty n)
  | cls (C : Str) : Rd K G (.cls C) (.ref (He.ga K C))
  | dic {a : Addr} {kvs : List (Str × D)} {vs : List (Str × V)} (h : G a = some (.dK (keyS vs))) (r : Rfs K G kvs vs) : Rd K G (.dic kvs) (.ref a)
  | tux {a : Addr} {o : Obj} {xs : List V} {l : List D} (h : G a = some (.frz o (.tup xs))) (hd : o.dict = none) (r : Rds K G l xs) : Rd K G (.tux l) (.ref a)
  | key {a : Addr} {ks : List Key} (h : G a = some (.tup (ks.map kV))) (hl : ∀ x, Sum.inr x ∈ ks → Str.length x ≤ sizeLine) : Rd K G (.key ks) (.ref a)
  | xv {a dx : Addr} {C : Str} {fs : List (Str × D)} {gs : List (Str × V)} (h : G a = some (exo a (He.ga K C) (some dx))) (h2 : G dx = some (exd dx gs)) (r : Rfs K G fs gs) : Rd K G (.xv C fs) (.ref a)
  | xv0 {a : Addr} {C : Str} (h : G a = some (exo a (He.ga K C) none)) : Rd K G (.xv C []) (.ref a)
inductive Rds (K : Frag) (G : Hp) : List D → List V → Prop
  | nil : Rds K G [] []
  | cons {d : D} {v : V} {l : List D} {xs : List V} (h : Rd K G d v) (r : Rds K G l xs) : Rds K G (d :: l) (v :: xs)
inductive Rfs (K : Frag) (G : Hp) : List (Str × D) → List (Str × V) → Prop
  | nil : Rfs K G [] []
  | cons {x : Str} {d : D} {v : V} {l : List (Str × D)} {xs : List (Str × V)} (h : Rd K G d v) (r : Rfs K G l xs) : Rfs K G ((x, d) :: l) ((x, v) :: xs)
end
section
variable {K : Frag} {G G' : Hp}
theorem sqL_same (e : Same G G') {a : Addr} {xs : List V} (h : SqL K G a xs) : SqL K G' a xs := e.seq h
mutual
theorem Rd.mono (e : Same G G') : ∀ {d : D} {v : V}, Rd K G d v → Rd K G' d v
  | _, _, .non => .non
  | _, _, .bl b => .bl b
  | _, _, .int i => .int i
  | _, _, .str x h => .str x h
  | _, _, .tup h r => .tup (Same.tup e h) (r.mono e)
  | _, _, .lst h r => .lst (e _ _ h) (r.mono e)
  | _, _, .fl h r => .fl (sqL_same e h) (r.mono e)
  | _, _, .obj h r => .obj (e _ _ h) (r.mono e)
  | _, _, .ty n => .ty n
  | _, _, .cls C => .cls C
  | _, _, .dic h r => .dic (e _ _ h) (r.mono e)
  | _, _, .tux h hd r => .tux (e _ _ h) hd (r.mono e)
  | _, _, .key h hl => .key (e _ _ h) hl
  | _, _, .xv h h2 r => .xv (e _ _ h) (e _ _ h2) (r.mono e)
  | _, _, .xv0 h => .xv0 (e _ _ h)
theorem Rds.mono (e : Same G G') : ∀ {d : List D} {v : List V}, Rds K G d v → Rds K G' d v
  | _, _, .nil => .nil
  | _, _, .cons h r => .cons (h.mono e) (r.mono e)
theorem Rfs.mono (e : Same G G') : ∀ {d : List (Str × D)} {v : List (Str × V)}, Rfs K G d v → Rfs K G' d v
  | _, _, .nil => .nil
  | _, _, .cons h r => .cons (h.mono e) (r.mono e)
end
theorem Rds.length : ∀ {l : List D} {xs : List V}, Rds K G l xs → l.length = xs.length
  | _, _, .nil => rfl
  | _, _, .cons _ r => by rw [List.length_cons, List.length_cons, r.length]
theorem Rds.set {d : D} {v : V} (h : Rd K G d v) : ∀ {l : List D} {xs : List V} (n : Nat), Rds K G l xs → Rds K G (l.set n d) (xs.set n v)
  | _, _, _, .nil => .nil
  | _, _, 0, .cons _ t => .cons h t
  | _, _, n + 1, .cons r t => .cons r (Rds.set h n t)
theorem Rfs.none : ∀ {l : List (Str × D)} {xs : List (Str × V)} {f : Str}, Rfs K G l xs → l.lookup f = none → xs.lookup f = none
  | _, _, _, .nil, _ => rfl
  | _, _, f, .cons (x := x) h r, e => by
    rw [List.lookup_cons] at e ⊢
    cases q : f == x with
    | true => rw [q] at e; cases e
    | false => rw [q] at e; exact r.none e
theorem Rfs.length : ∀ {l : List (Str × D)} {xs : List (Str × V)}, Rfs K G l xs → l.length = xs.length
  | _, _, .nil => rfl
  | _, _, .cons _ r => by rw [List.length_cons, List.length_cons, r.length]
end
inductive Rkt (K : Frag) (G : Hp) : List (List Key × D) → List (List Key × V) → Prop
  | nil : Rkt K G [] []
  | cons {ks : List Key} {d : D} {v : V} {l : List (List Key × D)} {xs : List (List Key × V)} (h : Rd K G d v) (r : Rkt K G l xs) : Rkt K G ((ks, d) :: l) ((ks, v) :: xs)
theorem Rkt.mono {K : Frag} {G G' : Hp} (e : Same G G') : ∀ {l : List (List Key × D)} {xs : List (List Key × V)}, Rkt K G l xs → Rkt K G' l xs
  | _, _, .nil => .nil
  | _, _, .cons h r => .cons (h.mono e) (r.mono e)
def Rob (K : Frag) (G : Hp) : Ob → Option HO → Prop
  | .lst l, o => ∃ xs, o = some (.lst xs) ∧ Rds K G l xs
  | .ins C fs, o => ∃ dx gs, o = some (.ins (He.ga K C) dx gs) ∧ Rfs K G fs gs
  | .dead, o => ∃ u, o = some u ∧ NTb u
  | .dic kvs, o => ∃ vs, o = some (.dK (keyS vs)) ∧ Rfs K G kvs vs
  | .dkt kvs, o => ∃ vs, o = some (.dT vs) ∧ Rkt K G kvs vs
theorem Rob.some {K : Frag} {G : Hp} {ob : Ob} {o : Option HO} (r : Rob K G ob o) : ∃ u, o = Option.some u := by
  cases ob with
  | dead => obtain ⟨u, e, _⟩ := r; exact ⟨u, e⟩
  | lst l => obtain ⟨xs, e1, r⟩ := r; exact ⟨_, e1⟩
  | ins C fs => obtain ⟨dx, gs, e1, r⟩ := r; exact ⟨_, e1⟩
  | dic kvs => obtain ⟨vs, e1, r⟩ := r; exact ⟨_, e1⟩
  | dkt kvs => obtain ⟨vs, e1, r⟩ := r; exact ⟨_, e1⟩
theorem Rob.mono {K : Frag} {G G' : Hp} (e : Same G G') {ob : Ob} {o : Option HO} (r : Rob K G ob o) : Rob K G' ob o := by
  cases ob with
  | dead => exact r
  | lst l => obtain ⟨xs, e1, r⟩ := r; exact ⟨xs, e1, r.mono e⟩
  | ins C fs => obtain ⟨dx, gs, e1, r⟩ := r; exact ⟨dx, gs, e1, r.mono e⟩
  | dic kvs => obtain ⟨vs, e1, r⟩ := r; exact ⟨vs, e1, r.mono e⟩
  | dkt kvs => obtain ⟨vs, e1, r⟩ := r; exact ⟨vs, e1, r.mono e⟩
theorem tabs_upd {T : List (Addr × Str)} {H : Hp} {a : Addr} {o : HO} (t : LamX.Tabs T H) (h1 : ∀ u, H a = some u → NTb u) (h2 : ∀ u, H a = some u → ∀ q, u ≠ LamX.CodeO a q) : LamX.Tabs T (upd H a o) := fun p hp => by
  obtain ⟨ps, e, k, c⟩ := t p hp
  refine ⟨ps, ?_, k, fun pos cv hc => ?_⟩
  · rw [upd_ne (fun z => by rw [z] at e; exact h1 _ e ps rfl)]
    exact e
  · obtain ⟨c1, e1, e2⟩ := c pos cv hc
    refine ⟨c1, e1, ?_⟩
    rw [upd_ne (fun z => by rw [z] at e2; exact h2 _ e2 p.2 rfl)]
    exact e2
theorem tabs_new {T : List (Addr × Str)} {H : Hp} {a : Addr} {o : HO} (t : LamX.Tabs T H) (h : H a = none) : LamX.Tabs T (upd H a o) :=
  tabs_upd t (fun u e => by rw [h] at e; cases e) (fun u e => by rw [h] at e; cases e)
structure Cfg (K : Frag) where
  G : Hp
  m : List Addr
  S : Sto
  H : Hp
  sub : Same G H
  len : m.length = S.length
  nd : m.Nodup
  at_ : ∀ (n : Nat) (a : Addr) (ob : Ob), m[n]? = some a → S[n]? = some ob → Rob K G ob (H a)
  fr : ∀ (n : Nat) (a : Addr) (ob : Ob), m[n]? = some a → S[n]? = some ob → ob ≠ .dead → G a = none
  z : List (Addr × HO)
  zat : ∀ p ∈ z, H p.1 = some p.2
  zm : ∀ p ∈ z, p.1 ∉ m
  zg : ∀ p ∈ z, G p.1 = none
  zn : (z.map Prod.fst).Nodup
  zt : ∀ p ∈ z, ∃ xs, p.2 = HO.lst xs
  gt : ∀ a o, G a = some o → NTb o
  tb : LamX.Tabs (Amb.tabs K) H
variable {K : Frag}
structure Cfg.le (c c' : Cfg K) : Prop where
  g : Same c.G c'.G
  m : c.m <+: c'.m
  z : c.z <+: c'.z
theorem Same.rfl' {H : Hp} : Same H H := fun _ _ e => e
theorem Same.tr {H H' H'' : Hp} (a : Same H H') (b : Same H' H'') : Same H H'' := fun x o e => b x o (a x o e)
theorem Cfg.le.refl {c : Cfg K} : c.le c := ⟨Same.rfl', List.prefix_refl _, List.prefix_refl _⟩
theorem Cfg.le.tr {a b c : Cfg K} (h : a.le b) (k : b.le c) : a.le c := ⟨Same.tr h.g k.g, h.m.trans k.m, h.z.trans k.z⟩
/-- the addresses of some things of the store -/
inductive Rns (m : List Addr) : List Nat → List V → Prop
  | nil : Rns m [] []
  | cons {n : Nat} {a : Addr} {ns : List Nat} {vs : List V} (h : m[n]? = some a) (r : Rns m ns vs) : Rns m (n :: ns) (.ref a :: vs)
/-- without the exception that is handled, without a lambda -/
def Rw0 (c : Cfg K) : W → V → Prop
  | .val d, v => Rd K c.G d v
  | .ref n, v => ∃ a, c.m[n]? = some a ∧ v = .ref a
  | .rws ns, v => ∃ a xs, v = .ref a ∧ c.G a = some (.lst xs) ∧ Rns c.m ns xs
  | _, _ => False
def Rw (c : Cfg K) : W → V → Prop
  | .val d, v => Rd K c.G d v
  | .ref n, v => ∃ a, c.m[n]? = some a ∧ v = .ref a
  | .rws ns, v => ∃ a xs, v = .ref a ∧ c.G a = some (.lst xs) ∧ Rns c.m ns xs
  | .clo, v => ∃ f c' q ε σ, v = .ref f ∧ Amb.lam = some (f, c', q, ε, σ) ∧ c.G c' = some (LamX.CodeO c' q) ∧ ε.length = σ.length ∧ ∀ (i : Nat) (w : W), ε[i]? = some (some w) → ∃ u, σ[i]? = some (some u) ∧ Rw0 c w u
  | .exc C fs, v => ∃ a d, v = .ref a ∧ Amb.hot = some (a, C, d) ∧ match d with
    | some d => ∃ gs, c.G d = some (.xd gs) ∧ Rfs K c.G fs gs
    | none => fs = []
theorem pre_get {α : Type} {l l' : List α} (h : l <+: l') {n : Nat} {a : α} (e : l[n]? = some a) : l'[n]? = some a := by
  obtain ⟨t, rfl⟩ := h
  rw [List.getElem?_append_left (List.getElem?_eq_some_iff.mp e).1]
  exact e
theorem Rns.mono {m m' : List Addr} (h : m <+: m') : ∀ {ns : List Nat} {vs : List V}, Rns m ns vs → Rns m' ns vs
  | _, _, .nil => .nil
  | _, _, .cons e r => .cons (pre_get h e) (r.mono h)
theorem Rw0.mono {c c' : Cfg K} (h : c.le c') : ∀ {w : W} {v : V}, Rw0 c w v → Rw0 c' w v
  | .val _, _, r => Rd.mono h.g r
  | .ref _, _, ⟨a, e, q⟩ => ⟨a, pre_get h.m e, q⟩
  | .rws _, _, ⟨a, xs, e, q, r⟩ => ⟨a, xs, e, h.g _ _ q, r.mono h.m⟩
theorem Rw.mono {c c' : Cfg K} (h : c.le c') : ∀ {w : W} {v : V}, Rw c w v → Rw c' w v
  | .val _, _, r => Rd.mono h.g r
  | .ref _, _, ⟨a, e, q⟩ => ⟨a, pre_get h.m e, q⟩
  | .rws _, _, ⟨a, xs, e, q, r⟩ => ⟨a, xs, e, h.g _ _ q, r.mono h.m⟩
  | .exc _ _, _, ⟨a, some d, e, q, gs, g, r⟩ => ⟨a, some d, e, q, gs, h.g _ _ g, r.mono h.g⟩
  | .exc _ _, _, ⟨a, none, e, q, r⟩ => ⟨a, none, e, q, r⟩
  | .clo, _, ⟨f, c', q, ε, σ, e1, e2, e3, e4, e5⟩ => ⟨f, c', q, ε, σ, e1, e2, h.g _ _ e3, e4, fun i w e => let ⟨u, x1, x2⟩ := e5 i w e; ⟨u, x1, x2.mono h⟩⟩
inductive Rws (c : Cfg K) : List W → List V → Prop
  | nil : Rws c [] []
  | cons {w : W} {v : V} {ws : List W} {vs : List V} (h : Rw c w v) (r : Rws c ws vs) : Rws c (w :: ws) (v :: vs)
theorem Rws.mono {c c' : Cfg K} (h : c.le c') : ∀ {w : List W} {v : List V}, Rws c w v → Rws c' w v
  | _, _, .nil => .nil
  | _, _, .cons a r => .cons (a.mono h) (r.mono h)
theorem Rws.length {c : Cfg K} : ∀ {w : List W} {v : List V}, Rws c w v → w.length = v.length
  | _, _, .nil => rfl
  | _, _, .cons a r => by rw [List.length_cons, List.length_cons, r.length]
structure Re (c : Cfg K) (ε : Ev) (σ : L2.St) : Prop where
  len : ε.length = σ.length
  at_ : ∀ (i : Nat) (w : W), ε[i]? = some (some w) → ∃ v, σ[i]? = some (some v) ∧ Rw c w v
theorem Re.mono {c c' : Cfg K} (h : c.le c') {ε : Ev} {σ : L2.St} (r : Re c ε σ) : Re c' ε σ :=
  ⟨r.len, fun i w e => let ⟨v, a, b⟩ := r.at_ i w e; ⟨v, a, b.mono h⟩⟩
theorem Re.set {c : Cfg K} {ε : Ev} {σ : L2.St} {w : W} {v : V} (r : Re c ε σ) (i : Nat) (h : Rw c w v) : Re c (ε.set i (some w)) (σ.set i (some v)) := by
  refine ⟨by rw [List.length_set, List.length_set, r.len], fun j w' e => ?_⟩
  rw [List.getElem?_set] at e ⊢
  have hl := r.len
  by_cases hj : i = j
  · subst hj
    rw [if_pos rfl] at e ⊢
    by_cases hi : i < ε.length
    · rw [if_pos hi] at e
      cases e
      exact ⟨v, by rw [if_pos (by omega)], h⟩
    · rw [if_neg hi] at e; cases e
  · rw [if_neg hj] at e ⊢
    exact r.at_ j w' e
/-- an exception of the class C with its fields -/
def XO (c' : Cfg K) (C : Str) (fs : List (Str × D)) (E : XK) : Prop :=
  (∀ d gs, c'.H d = some (.xd gs) → Rfs K c'.G fs gs → E (.ref (He.ga K C)) (some d) c'.H) ∧ (fs = [] → E (.ref (He.ga K C)) none c'.H)
def AP (c : Cfg K) (r : Rs W) (Q : VK) (E : XK) : Prop := match r with
  | .ok w S => ∀ c' : Cfg K, c.le c' → c'.S = S → ∀ u, Rw c' w u → Q u c'.H
  | .ex C fs S => ∀ c' : Cfg K, c.le c' → c'.S = S → XO c' C fs E
  | .bad => False
def APt (c : Cfg K) (r : Rs Bool) (Q : Bool → Hp → Prop) (E : XK) : Prop := match r with
  | .ok b S => ∀ c' : Cfg K, c.le c' → c'.S = S → Q b c'.H
  | .ex C fs S => ∀ c' : Cfg K, c.le c' → c'.S = S → XO c' C fs E
  | .bad => False
def APa (c : Cfg K) (r : Rs (List W)) (Q : List V → Hp → Prop) (E : XK) : Prop := match r with
  | .ok ws S => ∀ c' : Cfg K, c.le c' → c'.S = S → ∀ us, Rws c' ws us → Q us c'.H
  | .ex C fs S => ∀ c' : Cfg K, c.le c' → c'.S = S → XO c' C fs E
  | .bad => False
def APs (c : Cfg K) (r : Rt) (D : Ends) (E : XK) : Prop := match r with
  | .nx ε S => ∀ c' : Cfg K, c.le c' → c'.S = S → ∀ σ, Re c' ε σ → D.nx σ c'.H
  | .bk ε S => ∀ c' : Cfg K, c.le c' → c'.S = S → ∀ σ, Re c' ε σ → D.bk σ c'.H
  | .ct ε S => ∀ c' : Cfg K, c.le c' → c'.S = S → ∀ σ, Re c' ε σ → D.ct σ c'.H
  | .rt w S => ∀ c' : Cfg K, c.le c' → c'.S = S → ∀ u, Rw c' w u → D.rt u c'.H
  | .ex C fs S => ∀ c' : Cfg K, c.le c' → c'.S = S → XO c' C fs E
  | .bad => False
theorem AP.up {c c' : Cfg K} {r : Rs W} {Q : VK} {E : XK} (h : AP c r Q E) (l : c.le c') : AP c' r Q E := by
  cases r with
  | ok w S => exact fun c2 l2 e => h c2 (l.tr l2) e
  | ex C fs S => exact fun c2 l2 e => h c2 (l.tr l2) e
  | bad => exact h
theorem APa.up {c c' : Cfg K} {r : Rs (List W)} {Q : List V → Hp → Prop} {E : XK} (h : APa c r Q E) (l : c.le c') : APa c' r Q E := by
  cases r with
  | ok w S => exact fun c2 l2 e => h c2 (l.tr l2) e
  | ex C fs S => exact fun c2 l2 e => h c2 (l.tr l2) e
  | bad => exact h
theorem APs.up {c c' : Cfg K} {r : Rt} {D : Ends} {E : XK} (h : APs c r D E) (l : c.le c') : APs c' r D E := by
  cases r with
  | nx ε S => exact fun c2 l2 e => h c2 (l.tr l2) e
  | bk ε S => exact fun c2 l2 e => h c2 (l.tr l2) e
  | ct ε S => exact fun c2 l2 e => h c2 (l.tr l2) e
  | rt w S => exact fun c2 l2 e => h c2 (l.tr l2) e
  | ex C fs S => exact fun c2 l2 e => h c2 (l.tr l2) e
  | bad => exact h
def aE (K : Frag) (E : XK) (f : ME) : TE := fun σ H Q => ∃ (c : Cfg K) (ε : Ev), c.H = H ∧ Re c ε σ ∧ AP c (f ε c.S) Q E
def aS (K : Frag) (E : XK) (f : MS) : TS := fun D σ H => ∃ (c : Cfg K) (ε : Ev), c.H = H ∧ Re c ε σ ∧ APs c (f ε c.S) D E
section
variable {c : Cfg K} {ε : Ev} {σ : L2.St} {Q : VK} {Qt : Bool → Hp → Prop} {Qa : List V → Hp → Prop} {Ds : Ends} {E : XK} {f : ME} {ft : MT} {fa : MA}
theorem ea (re : Re c ε σ) {k : W → Sto → Rs (List W)} (h : APa c ((f ε c.S).bind k) Qa E) {T : VK} (g : ∀ (c' : Cfg K) w u, c.le c' → Rw c' w u → APa c' (k w c'.S) Qa E → T u c'.H) : aE K E f σ c.H T := by
  refine ⟨c, ε, rfl, re, ?_⟩
  cases e : f ε c.S with
  | ok w S => rw [e] at h; exact fun c' l es u r => g c' w u l r (by rw [es]; exact APa.up (show APa c (k w S) Qa E from h) l)
  | ex C fs S => rw [e] at h; exact h
  | bad => rw [e] at h; exact h
theorem es (re : Re c ε σ) {k : W → Sto → Rt} (h : APs c ((f ε c.S).bindT k) Ds E) {T : VK} (g : ∀ (c' : Cfg K) w u, c.le c' → Rw c' w u → APs c' (k w c'.S) Ds E → T u c'.H) : aE K E f σ c.H T := by
  refine ⟨c, ε, rfl, re, ?_⟩
  cases e : f ε c.S with
  | ok w S => rw [e] at h; exact fun c' l es u r => g c' w u l r (by rw [es]; exact APs.up (show APs c (k w S) Ds E from h) l)
  | ex C fs S => rw [e] at h; exact h
  | bad => rw [e] at h; exact h
end
theorem AP.ok {c : Cfg K} {w : W} {u : V} {Q : VK} {E : XK} (h : AP c (.ok w c.S) Q E) (r : Rw c w u) : Q u c.H := h c .refl rfl u r
theorem APt.ok {c : Cfg K} {b : Bool} {Q : Bool → Hp → Prop} {E : XK} (h : APt c (.ok b c.S) Q E) : Q b c.H := h c .refl rfl
theorem APa.ok {c : Cfg K} {w : List W} {u : List V} {Q : List V → Hp → Prop} {E : XK} (h : APa c (.ok w c.S) Q E) (r : Rws c w u) : Q u c.H := h c .refl rfl u r
end AM
namespace L2
open PySem
theorem PE.weak {X : Cx} {e : Expr} {t t' : TE} (h : PE X e t) (k : ∀ σ H Q, t' σ H Q → t σ H Q) : PE X e t' := ⟨fun pins s σ H Q I hw => h.run pins s σ H Q I (k σ H Q hw)⟩
theorem PT.weak {X : Cx} {e : Expr} {t t' : TT} (h : PT X e t) (k : ∀ σ H Q, t' σ H Q → t σ H Q) : PT X e t' := ⟨fun pins s σ H Q I hw => h.run pins s σ H Q I (k σ H Q hw)⟩
theorem PW.weak {X : Cx} {e : Expr} {t t' : TT} (h : PW X e t) (k : ∀ σ H Q, t' σ H Q → t σ H Q) : PW X e t' := ⟨fun wh pins s σ H Q I hw => h.run wh pins s σ H Q I (k σ H Q hw)⟩
theorem PA.weak {X : Cx} {e : List Expr} {t t' : TA} (h : PA X e t) (k : ∀ σ H Q, t' σ H Q → t σ H Q) : PA X e t' := ⟨fun pos pins s σ H Q I hw => h.run pos pins s σ H Q I (k σ H Q hw)⟩
theorem PS.weak {X : Cx} {e : Stmt} {t t' : TS} (h : PS X e t) (k : ∀ D σ H, t' D σ H → t D σ H) : PS X e t' := ⟨fun pins s σ H D I hw => h.run pins s σ H D I (k D σ H hw)⟩
theorem PSs.weak {X : Cx} {e : List Stmt} {t t' : TS} (h : PSs X e t) (k : ∀ D σ H, t' D σ H → t D σ H) : PSs X e t' := ⟨fun pins s σ H D I hw => h.run pins s σ H D I (k D σ H hw)⟩
theorem PI.weak {X : Cx} {tg e : Expr} {t t' : TI} (h : PI X tg e t) (k : ∀ σ H R, t' σ H R → t σ H R) : PI X tg e t' := ⟨fun pins s σ H R I hw => h.run pins s σ H R I (k σ H R hw)⟩
theorem PTs.weak {X : Cx} {e : List Expr} {t t' : TT} (h : PTs X e t) (k : ∀ σ H Q, t' σ H Q → t σ H Q) : PTs X e t' := ⟨fun pins s σ H Q I hw => h.run pins s σ H Q I (k σ H Q hw)⟩
end L2
set_option Elab.async false
set_option linter.all false
set_option maxRecDepth 100000
set_option maxHeartbeats 4000000
namespace AM
open PySem PySem.Spec PyProof.Rows L2 Bk
open PySem.W (Frag)
variable {K : Frag} [Amb]
/-- a new thing that never changes -/
def Cfg.lay (c : Cfg K) (p : Addr) (o : HO) (h : c.H p = none) (hb : NTb o := by intro ps z; cases z) : Cfg K where
  G := upd c.G p o
  m := c.m
  S := c.S
  H := upd c.H p o
  sub := fun a u e => by
    by_cases hb : a = p
    · subst hb; rw [upd_same] at e ⊢; exact e
    · rw [upd_ne hb] at e ⊢; exact c.sub a u e
  len := c.len
  nd := c.nd
  at_ := fun n a ob e1 e2 => by
    have gp : c.G p = none := by
      cases q : c.G p with
      | none => rfl
      | some u => rw [c.sub p u q] at h; cases h
    have r := c.at_ n a ob e1 e2
    obtain ⟨u, hu⟩ := r.some
    rw [upd_ne (ne_of_none hu h)]
    exact r.mono (same_new gp)
  fr := fun n a ob e1 e2 e3 => by
    have r := c.at_ n a ob e1 e2
    obtain ⟨u, hu⟩ := r.some
    have ne : a ≠ p := ne_of_none hu h
    rw [upd_ne ne]
    exact c.fr n a ob e1 e2 e3
  z := c.z
  zat := fun q hq => by rw [upd_ne (ne_of_none (c.zat q hq) h)]; exact c.zat q hq
  zm := c.zm
  zg := fun q hq => by rw [upd_ne (ne_of_none (c.zat q hq) h)]; exact c.zg q hq
  zn := c.zn
  zt := c.zt
  gt := fun a u e => by
    by_cases q : a = p
    · subst q; rw [upd_same] at e; cases e; exact hb
    · rw [upd_ne q] at e; exact c.gt a u e
  tb := tabs_new c.tb h
theorem Cfg.gnone (c : Cfg K) {p : Addr} (h : c.H p = none) : c.G p = none := by
  cases q : c.G p with
  | none => rfl
  | some u => rw [c.sub p u q] at h; cases h
theorem Cfg.lay_le (c : Cfg K) {p : Addr} {o : HO} (h : c.H p = none) {hb : NTb o} : c.le (c.lay p o h hb) := ⟨same_new (c.gnone h), List.prefix_refl _, List.prefix_refl _⟩
theorem Cfg.lay_tup (c : Cfg K) {p : Addr} {xs : List V} {l : List D} (h : c.H p = none) (r : Rds K c.G l xs) : Rw (c.lay p (.tup xs) h) (.val (.tup l)) (.ref p) :=
  Rd.tup (.inl (.inl (by show upd c.G p _ p = _; rw [upd_same]))) (r.mono (same_new (c.gnone h)))
theorem Cfg.lay_lst (c : Cfg K) {p : Addr} {xs : List V} {l : List D} (h : c.H p = none) (r : Rds K c.G l xs) : Rw (c.lay p (.lst xs) h) (.val (.lst l)) (.ref p) :=
  Rd.lst (by show upd c.G p _ p = _; rw [upd_same]) (r.mono (same_new (c.gnone h)))
theorem AP.tup {c : Cfg K} {l : List D} {xs : List V} {p : Addr} {Q : VK} {E : XK} (h : AP c (.ok (.val (.tup l)) c.S) Q E) (r : Rds K c.G l xs) (hp : c.H p = none) : Q (.ref p) (upd c.H p (.tup xs)) :=
  h (c.lay p _ hp) (c.lay_le hp) rfl _ (c.lay_tup hp r)
theorem AP.lst {c : Cfg K} {l : List D} {xs : List V} {p : Addr} {Q : VK} {E : XK} (h : AP c (.ok (.val (.lst l)) c.S) Q E) (r : Rds K c.G l xs) (hp : c.H p = none) : Q (.ref p) (upd c.H p (.lst xs)) :=
  h (c.lay p _ hp) (c.lay_le hp) rfl _ (c.lay_lst hp r)
section
variable {X : Cx} {E : XK} {pos : Pos} {a b e : Expr} {fa fb f : ME}
def cC (d : D) : ME := fun _ S => .ok (.val d) S
theorem aE_c {d : D} {v : V} {σ : L2.St} {H : Hp} {Q : VK} (r : ∀ G, Rd K G d v) (h : aE K E (cC d) σ H Q) : Q v H := by
  obtain ⟨c, ε, rfl, re, h⟩ := h
  exact h.ok (r _)
theorem de_str {x j} (hx : x.length ≤ sizeLine := by decide +kernel) : PE X (.Constant (.str x) j pos) (aE K E (cC (.str x))) := pe_str.weak fun _ _ _ h => aE_c (fun _ => .str x hx) h
variable {ft fu : MT} {rest : List Expr}
variable {es : List Expr} {fs : MA}
def cNil : MA := fun _ S => .ok [] S
def cCons (a : ME) (r : MA) : MA := fun ε S => (a ε S).bind fun w S => (r ε S).bind fun ws S => .ok (w :: ws) S
end
end AM
set_option Elab.async false
set_option linter.all false
set_option maxRecDepth 100000
set_option maxHeartbeats 4000000
namespace AM
open PySem PySem.Spec PyProof.Rows L2 Bk
open PySem.W (Frag)
end AM
set_option Elab.async false
set_option linter.all false
set_option maxRecDepth 100000
set_option maxHeartbeats 4000000
namespace AM
open PySem PySem.Spec PyProof.Rows L2 Bk
open PySem.W (Frag)
variable {K : Frag} [Amb]
section
variable {X : Cx} {E : XK} {pos : Pos} {a b e : Expr} {fa fb f : ME} {ft : MT} {st : Stmt} {rest : List Stmt} {s t : MS}
theorem PG.weak {tg : Expr} {t t' : TG} (h : PG X tg t) (k : ∀ v σ H Q, t' v σ H Q → t v σ H Q) : PG X tg t' := ⟨fun pins s σ H v u Q I r hw => h.run pins s σ H v u Q I r (k v σ H Q hw)⟩
theorem PGs.weak {tg : List Expr} {t t' : TGs} (h : PGs X tg t) (k : ∀ v σ H Q, t' v σ H Q → t v σ H Q) : PGs X tg t' := ⟨fun pins s σ H v u Q I r hw => h.run pins s σ H v u Q I r (k v σ H Q hw)⟩
end
end AM
set_option Elab.async false
set_option linter.all false
set_option maxRecDepth 100000
set_option maxHeartbeats 4000000
namespace AM
open PySem PySem.Spec PyProof.Rows L2 Bk
open PySem.W (Frag)
end AM
set_option Elab.async false
set_option linter.all false
set_option maxRecDepth 100000
set_option maxHeartbeats 4000000
namespace AM
open PySem PySem.Spec PyProof.Rows L2 Bk
open PySem.W (Frag)
end AM
set_option Elab.async false
set_option linter.all false
set_option maxRecDepth 100000
set_option maxHeartbeats 4000000
namespace AM
open PySem PySem.Spec PyProof.Rows L2 Bk
open PySem.W (Frag)
end AM
set_option Elab.async false
set_option linter.all false
set_option maxRecDepth 100000
set_option maxHeartbeats 4000000
namespace AM
open PySem PySem.Spec PyProof.Rows L2 Bk
open PySem.W (Frag)
variable {K : Frag} [Amb]
def view : W → Sto → Option D
  | .val d, _ => some d
  | .ref n, S => match S[n]? with | some (.lst l) => some (.lst l) | some (.ins C fs) => some (.obj C fs) | some (.dic kvs) => some (.dic kvs) | _ => none
  | .rws _, _ => none
  | .exc _ _, _ => none
  | .clo, _ => none
section
variable {X : Cx} {E : XK}
theorem OpR.weak {f : Value → Value → Sem Value} {r r' : R2} (h : OpR X f r) (k : ∀ u v H Q, r' u v H Q → r u v H Q) : OpR X f r' := fun pins s σ H x y v u Q I rx ry hw => h pins s σ H x y v u Q I rx ry (k x y H Q hw)
theorem UnR.weak {f : Value → Sem Value} {r r' : V → Hp → VK → Prop} (h : UnR X f r) (k : ∀ u H Q, r' u H Q → r u H Q) : UnR X f r' := fun pins s σ H x v Q I rx hw => h pins s σ H x v Q I rx (k x H Q hw)
theorem CallR.weak {f : Value} {r r' : List V → Hp → VK → Prop} (h : CallR X f r) (k : ∀ u H Q, r' u H Q → r u H Q) : CallR X f r' := fun pins s σ H x v Q I rx hw => h pins s σ H x v Q I rx (k x H Q hw)
theorem AP.int {c : Cfg K} {i : Int} {Q : VK} {E : XK} (h : AP c (.ok (.val (.int i)) c.S) Q E) : Q (.int i) c.H := h.ok (show Rd K _ _ _ from .int i)
theorem AP.bl {c : Cfg K} {i : Bool} {Q : VK} {E : XK} (h : AP c (.ok (.val (.bl i)) c.S) Q E) : Q (.bl i) c.H := h.ok (show Rd K _ _ _ from .bl i)
theorem AP.non {c : Cfg K} {Q : VK} {E : XK} (h : AP c (.ok (.val .non) c.S) Q E) : Q .non c.H := h.ok (show Rd K _ _ _ from .non)
theorem AP.str {c : Cfg K} {x : Str} {Q : VK} {E : XK} (h : AP c (.ok (.val (.str x)) c.S) Q E) (hx : x.length ≤ sizeLine) : Q (.str x) c.H := h.ok (show Rd K _ _ _ from .str x hx)
instance (i j : Int) : Decidable (CMul i j) := by unfold CMul; infer_instance
instance (i j : Int) : Decidable (CDiv i j) := by unfold CDiv; infer_instance
instance (i j : Int) : Decidable (CPow i j) := by unfold CPow; infer_instance
end
end AM
set_option Elab.async false
set_option linter.all false
set_option maxRecDepth 100000
set_option maxHeartbeats 4000000
namespace AM
open PySem PySem.Spec PyProof.Rows L2 Bk
open PySem.W (Frag)
variable {K : Frag} [Amb]
section
variable {X : Cx} {E : XK} {pos : Pos} {a b e o : Expr} {fa fb f : ME}
theorem IxR.weak {r r' : R2} (h : IxR X r) (k : ∀ u v H Q, r' u v H Q → r u v H Q) : IxR X r' := fun value slice pins s σ H x y v u Q I rx ry hw hs => h value slice pins s σ H x y v u Q I rx ry (k x y H Q hw) hs
abbrev MO := Ev → Sto → Rs (Option Int)
def APo (c : Cfg K) (r : Rs (Option Int)) (Q : Option Int → Hp → Prop) (E : XK) : Prop := match r with
  | .ok b S => ∀ c' : Cfg K, c.le c' → c'.S = S → Q b c'.H
  | .ex C fs S => ∀ c' : Cfg K, c.le c' → c'.S = S → XO c' C fs E
  | .bad => False
def aO (K : Frag) (E : XK) (f : MO) : TO := fun σ H Q => ∃ (c : Cfg K) (ε : Ev), c.H = H ∧ Re c ε σ ∧ APo c (f ε c.S) Q E
theorem PO.weak {e : Option Expr} {t t' : TO} (h : PO X e t) (k : ∀ σ H Q, t' σ H Q → t σ H Q) : PO X e t' := ⟨fun pins s σ H Q I hw => h.run pins s σ H Q I (k σ H Q hw)⟩
theorem oe {c : Cfg K} {ε : Ev} {σ : L2.St} {fo : MO} {Q : VK} (re : Re c ε σ) {k : Option Int → Sto → Rs W} (h : AP c ((fo ε c.S).bind k) Q E) {T : Option Int → Hp → Prop} (g : ∀ (c' : Cfg K) i, c.le c' → AP c' (k i c'.S) Q E → T i c'.H) : aO K E fo σ c.H T := by
  refine ⟨c, ε, rfl, re, ?_⟩
  cases e : fo ε c.S with
  | ok w S => rw [e] at h; exact fun c' l es => g c' w l (by rw [es]; exact AP.up (show AP c (k w S) Q E from h) l)
  | ex C fs S => rw [e] at h; exact h
  | bad => rw [e] at h; exact h
end
end AM
set_option Elab.async false
set_option linter.all false
set_option maxRecDepth 100000
set_option maxHeartbeats 4000000
namespace AM
open PySem PySem.Spec PyProof.Rows L2 Bk
open PySem.W (Frag)
variable {K : Frag} [Amb]
section
variable {X : Cx} {E : XK} {pos apos : Pos} {a b e o : Expr} {fa fb f : ME} {es : List Expr} {fs : MA}
/-- own classes: what is known of them -/
def plainTys : List String := ["NoneType", "bool", "int", "str", "tuple", "list", "dict"]
def clsB (own : List Str) (K : Frag) : Bool := own.all fun C => insB C K && plainTys.all (fun T => decide (PySem.W.kitOne K (.type T) (.ref (He.ga K C)) = some false) && decide (PySem.W.kitOne K (.ref (He.ga K C)) (.type T) = some false) && PySem.W.notFirst K (He.ga K C) (.type T))
  && own.all fun D => decide (PySem.W.kitOne K (.ref (He.ga K C)) (.ref (He.ga K D)) = some (C == D)) && PySem.W.notFirst K (He.ga K C) (.ref (He.ga K D))
structure Own (K : Frag) (own : List Str) : Prop where
  cl : ∀ C ∈ own, Cls K (He.ga K C)
  b : clsB own K = true
theorem Own.ins {own : List Str} (w : Own K own) {C : Str} (h : C ∈ own) : insB C K = true := by
  have := List.all_eq_true.mp w.b C h
  simp only [Bool.and_eq_true] at this
  exact this.1.1
theorem MtR.weak {id : String} {r r' : V → List V → Hp → VK → Prop} (h : MtR X id r) (k : ∀ u v H Q, r' u v H Q → r u v H Q) : MtR X id r' := fun pins s σ H x xs v us Q I rx rs hw => h pins s σ H x xs v us Q I rx rs (k x xs H Q hw)
end
end AM
set_option Elab.async false
set_option linter.all false
set_option maxRecDepth 100000
set_option maxHeartbeats 4000000
namespace AM
open PySem PySem.Spec PyProof.Rows L2 Bk
open PySem.W (Frag)
end AM
set_option Elab.async false
set_option linter.all false
set_option maxRecDepth 100000
set_option maxHeartbeats 4000000
namespace AM
open PySem PySem.Spec PyProof.Rows L2 Bk
open PySem.W (Frag)
variable {K : Frag} [Amb]
section
variable {X : Cx} {E : XK} {pos apos p : Pos} {a b c' e o : Expr} {fa fb fc f : ME} {es : List Expr} {fs : MA}
theorem Re.frz {c : Cfg K} {ε : Ev} {σ : L2.St} {i : Nat} {d : D} {v : V} (re : Re c ε σ) (h : σ[i]? = some (some v)) (r : Rd K c.G d v) : Re c (ε.set i (some (.val d))) σ := by
  have := re.set i (w := .val d) (v := v) r
  have e : σ.set i (some v) = σ := by
    apply List.ext_getElem?
    intro j
    rw [List.getElem?_set]
    split
    · rename_i hj
      subst hj
      rw [h]
      split
      · rfl
      · rename_i hl
        rw [List.getElem?_eq_none (by omega)] at h
        cases h
    · rfl
  rw [e] at this
  exact this
mutual
def datB (K : Frag) : D → Value → Bool
  | .non, .none => true
  | .bl b, .bool c => b == c
  | .int i, .int j _ => i == j
  | .str x, .str y _ => x == y && decide (x.length ≤ sizeLine)
  | .tup l, .ref a => match K.lookup a with
    | some ⟨.type "tuple", _, .seq its _, _⟩ => decide (its.size ≤ sizeLine) && datsB K l its.toList
    | _ => false
  | _, _ => false
def datsB (K : Frag) : List D → List Value → Bool
  | [], [] => true
  | d :: l, u :: us => datB K d u && datsB K l us
  | _, _ => false
end
end
end AM
set_option Elab.async false
set_option linter.all false
set_option maxRecDepth 100000
set_option maxHeartbeats 4000000
namespace AM
open PySem PySem.Spec PyProof.Rows L2 Bk
open PySem.W (Frag)
variable {K : Frag} [Amb]
section
variable {X : Cx} {E : XK} {pos apos p : Pos} {e o : Expr} {f : ME} {es : List Expr} {fs gs : MA} {C : Str} {F : F1} {k : Nat} {ps ks : List Str} {kws : List Keyword} {nm : Option Str} {kpos : Pos}
theorem PK.weak {t t' : TA} (h : PK X kws t) (k : ∀ σ H Q, t' σ H Q → t σ H Q) : PK X kws t' := ⟨fun pos pins s σ H Q I hw => h.run pos pins s σ H Q I (k σ H Q hw)⟩
end
end AM
set_option Elab.async false
set_option linter.all false
set_option maxRecDepth 100000
set_option maxHeartbeats 4000000
namespace AM
open PySem PySem.Spec PyProof.Rows L2 Bk RZ
open PySem.W (Frag)
end AM
set_option Elab.async false
set_option linter.all false
set_option maxRecDepth 100000
set_option maxHeartbeats 4000000
namespace AM
open PySem PySem.Spec PyProof.Rows L2 Bk
open PySem.W (Frag)
end AM
set_option Elab.async false
set_option linter.all false
set_option maxRecDepth 100000
set_option maxHeartbeats 4000000
namespace AM
open PySem PySem.Spec PyProof.Rows L2 Bk
open PySem.W (Frag)
variable {K : Frag} [Amb]
section
variable {X : Cx} {E : XK} {pos apos p1 : Pos} {a b e o : Expr} {fa fb f : ME} {es : List Expr} {fs : MA}
theorem AP.tux {c : Cfg K} {l : List D} {xs : List V} {p : Addr} {o : Obj} {Q : VK} {E : XK} (h : AP c (.ok (.val (.tux l)) c.S) Q E) (r : Rds K c.G l xs) (hp : c.H p = none) (hd : o.dict = none) : Q (.ref p) (upd c.H p (.frz o (.tup xs))) :=
  h (c.lay p _ hp) (c.lay_le hp) rfl _ (show Rd K _ _ _ from Rd.tux (by show upd c.G p _ p = _; rw [upd_same]) hd (r.mono (same_new (c.gnone hp))))
end
end AM
set_option Elab.async false
set_option linter.all false
set_option maxRecDepth 100000
set_option maxHeartbeats 4000000
namespace AM
open PySem PySem.Spec PyProof.Rows L2 Bk
open PySem.W (Frag)
variable {K : Frag} [Amb]
section
variable {X : Cx} {E : XK} {pos apos p1 : Pos} {a b e o : Expr} {fa fb fc f : ME} {es : List Expr} {fs : MA}
/-- the pairs of a display whose keys are written texts -/
inductive DP (X : Cx) (K : Frag) (E : XK) : List (Option Expr) → List Expr → List Str → MA → Prop
  | nil : DP X K E [] [] [] cNil
  | cons {k : Str} {j : Nat} {p : Pos} {v : Expr} {ks : List (Option Expr)} {vs : List Expr} {zs : List Str} {f : ME} {fs : MA} (hk : k.length ≤ sizeLine) (hv : PE X v (aE K E f)) (r : DP X K E ks vs zs fs) : DP X K E (some (.Constant (.str k) j p) :: ks) (v :: vs) (k :: zs) (cCons f fs)
theorem DP.ok {ks : List (Option Expr)} {vs : List Expr} {zs : List Str} {fs : MA} (h : DP X K E ks vs zs fs) :
    ∃ trs, PPs X pos ks vs trs ∧ ∀ (c : Cfg K) (ε : Ev) (σ : L2.St) (Q : List (V × V) → Hp → Prop), Re c ε σ → APa c (fs ε c.S) (fun us H => us.length = zs.length → Q ((zs.zip us).map fun p => (V.str p.1, p.2)) H) E → tPairs trs σ c.H Q := by
  induction h with
  | nil =>
    refine ⟨[], pps_nil, fun c ε σ Qa re h => ?_⟩
    exact APa.ok h .nil rfl
  | @cons k j p v ks vs zs f fs hk hv r ih =>
    obtain ⟨trs, hp, ih⟩ := ih
    refine ⟨(aE K E (cC (.str k)), aE K E f) :: trs, pps_cons (de_str hk) hv hp, fun c ε σ Q re h => ?_⟩
    show aE K E (cC (.str k)) σ c.H fun x H1 => aE K E f σ H1 fun y H2 => tPairs trs σ H2 fun ps H3 => Q ((x, y) :: ps) H3
    refine ⟨c, ε, rfl, re, fun c0 l0 es0 u0 r0 => ?_⟩
    have r0' : Rd K c0.G (.str k) u0 := r0
    cases r0'
    have h' : APa c0 ((cCons f fs) ε c0.S) (fun us H => us.length = (k :: zs).length → Q (((k :: zs).zip us).map fun p => (V.str p.1, p.2)) H) E := by
      rw [es0]
      exact APa.up h l0
    refine ea (re.mono l0) h' fun c1 w1 u1 l1 r1 h1 => ?_
    refine ih c1 ε σ _ (re.mono (l0.tr l1)) ?_
    cases q : fs ε c1.S with
    | bad => rw [q] at h1; exact h1
    | ex C gs S => rw [q] at h1; exact h1
    | ok ws S =>
      rw [q] at h1
      exact fun c' l es us rs hl => h1 c' l es _ (.cons (r1.mono l) rs) (by rw [List.length_cons, List.length_cons, hl])
end
end AM
set_option Elab.async false
set_option linter.all false
set_option maxRecDepth 100000
set_option maxHeartbeats 4000000
namespace AM
open PySem PySem.Spec PyProof.Rows L2 Bk
open PySem.W (Frag)
variable {K : Frag} [Amb]
def entB (K : Frag) : List DictEntry → List (Str × D) → Bool
  | [], [] => true
  | ⟨_, .str k _, v⟩ :: es, (z, d) :: kvs => k == z && (datB K d v && entB K es kvs)
  | _, _ => false
def gdicB (x : Str) (kvs : List (Str × D)) (K : Frag) : Bool := match K.lookup (He.ga K x) with
  | some ⟨.type "dict", none, .dict es _, sl⟩ => sl.isEmpty && (entB K es.toList kvs && !(He.ga K x == sysModules))
  | _ => false
def gdHs (x : Str) (K : Frag) : List Int := match K.lookup (He.ga K x) with
  | some ⟨_, _, .dict es _, _⟩ => es.toList.map (·.hash)
  | _ => []
structure GDic (K : Frag) (w : World) (x : Str) (kvs : List (Str × D)) : Prop where
  b : gdicB x kvs K = true
  h : gdHs x K = kvs.map fun p => hashStr w p.1
theorem ent_find : ∀ {es : List DictEntry} {kvs : List (Str × D)}, entB K es kvs = true → ∀ z, match kvs.lookup z with
    | some d => ∃ u, (es.find? fun e => Value.isStrOf z e.key).map (·.val) = some u ∧ datB K d u = true
    | none => (es.find? fun e => Value.isStrOf z e.key).map (·.val) = none
  | [], [], _, z => rfl
  | ⟨hh, .str k t, v⟩ :: es, (y, d) :: kvs, h, z => by
    unfold entB at h
    rw [Bool.and_eq_true, Bool.and_eq_true] at h
    obtain ⟨h1, h2, h3⟩ := h
    cases eq_of_beq h1
    have ih := ent_find h3 z
    rw [List.lookup_cons, List.find?_cons]
    by_cases hz : z = k
    · subst hz
      have e1 : Value.isStrOf z (.str z t) = true := by show (z == z) = true; exact beq_self_eq_true z
      rw [beq_self_eq_true]
      simp only [e1]
      exact ⟨v, rfl, h2⟩
    · have e1 : Value.isStrOf z (.str k t) = false := by
        show (k == z) = false
        simpa using fun q => hz q.symm
      have e2 : (z == k) = false := by simpa using hz
      rw [e2]
      simp only [e1]
      exact ih
theorem ent_keys {P : Program} {w : World} : ∀ {es : List DictEntry} {kvs : List (Str × D)}, entB K es kvs = true → (es.map (·.hash)) = kvs.map (fun p => hashStr w p.1) → ∀ e ∈ es, ∃ k, (strKind P w).is k e.key = true ∧ e.hash = (strKind P w).hash k
  | [], _, _, _, e, he => nomatch he
  | ⟨hh, .str k t, v⟩ :: es, (y, d) :: kvs, h, hs, e, he => by
    unfold entB at h
    rw [Bool.and_eq_true, Bool.and_eq_true] at h
    obtain ⟨h1, h2, h3⟩ := h
    cases eq_of_beq h1
    rw [List.map_cons, List.map_cons, List.cons.injEq] at hs
    rcases List.mem_cons.mp he with rfl | he
    · exact ⟨k, by show (k == k) = true; exact beq_self_eq_true k, hs.1⟩
    · exact ent_keys h3 hs.2 e he
theorem GDic.map {P : Program} {w : World} {x : Str} {kvs : List (Str × D)} (g : GDic K w x kvs) {h : Heap} (KX : K.In h) :
    (He.ga K x == sysModules) = false ∧ ∃ f, h.MapOf (strKind P w) (He.ga K x) f ∧ ∀ z, match kvs.lookup z with | some d => ∃ u, f z = some u ∧ datB K d u = true | none => f z = none := by
  obtain ⟨b, hh⟩ := g
  unfold gdicB at b
  unfold gdHs at hh
  split at b
  · rename_i es ep sl ho
    rw [ho] at hh
    simp only [Bool.and_eq_true, Bool.not_eq_true'] at b
    obtain ⟨b1, b2, b3⟩ := b
    refine ⟨b3, findBy (strKind P w).is es, ⟨_, es, ep, KX _ _ ho, ⟨rfl, rfl, Array.isEmpty_iff.mp b1⟩, rfl, fun e he => ent_keys b2 hh e (by simpa using he), fun k => rfl⟩, fun z => ?_⟩
    have := ent_find b2 z
    unfold findBy
    rw [← Array.find?_toList]
    exact this
  · cases b
end AM
set_option Elab.async false
set_option linter.all false
set_option maxRecDepth 100000
set_option maxHeartbeats 4000000
namespace AM
open PySem PySem.Spec PyProof.Rows L2 Bk
open PySem.W (Frag)
end AM
set_option Elab.async false
set_option linter.all false
set_option maxRecDepth 100000
set_option maxHeartbeats 4000000
namespace Bk
open PySem PySem.Spec PyProof.Rows L2 PySem.NumText
open PySem.W (Frag)
abbrev AlE : Type := AlC × List (List Int)
abbrev DicL := List (Str × List (Str × AM.D))
def obsE (file : Str) (ex : Frag → Bool) (fn : List He5.DefA) (fx : List DefX) (dn : DicL) (K : Frag) : AlE := (obsC file ex fn fx K, dn.map fun d => AM.gdHs d.1 K)
def valE (fn : List He5.DefA) (fx : List DefX) (dn : DicL) (w : World) : AlE := (valC fn fx, dn.map fun d => d.2.map fun p => hashStr w p.1)
def SaysE (file : Str) (ex : Frag → Bool) (fn : List He5.DefA) (fx : List DefX) (dn : DicL) (w : World) (K : Frag) : Prop := obsE file ex fn fx dn K = valE fn fx dn w
section
variable {file : Str} {xk : Frag → Bool} {fn : List He5.DefA} {fx : List DefX} {dn : DicL} {w : World} {K : Frag}
theorem SaysE.dic (c : SaysE file xk fn fx dn w K) (i : Nat) {x : Str} {kvs : List (Str × AM.D)} (h : dn[i]? = some (x, kvs)) (hb : AM.gdicB x kvs K = true) : AM.GDic K w x kvs := by
  have e : (dn.map fun d => AM.gdHs d.1 K)[i]? = (dn.map fun d => d.2.map fun p => hashStr w p.1)[i]? := congrArg (fun z : AlE => z.2[i]?) c
  rw [List.getElem?_map, List.getElem?_map, h] at e
  exact ⟨hb, Option.some.inj e⟩
end
end Bk
namespace AM
open PySem PySem.Spec PyProof.Rows L2 Bk
open PySem.W (Frag)
end AM
set_option Elab.async false
set_option linter.all false
set_option maxRecDepth 100000
set_option maxHeartbeats 4000000
namespace ZM
open PySem PySem.Spec PyProof.Rows L2
theorem sqL_inj {X : Cx} {pins : List (Addr × Obj)} {σ : L2.St} {H : Hp} {s : Shared} (I : L2.Inv X pins σ H s) {a : Addr} {xs ys : List V} (h1 : SqL X.K H a xs) (h2 : SqL X.K H a ys) : xs = ys := by first | exact I.list_inj h1 h2 | exact (I.list_inj h1 h2).symm
end ZM
namespace AM
open PySem PySem.Spec PyProof.Rows L2 Bk
open PySem.W (Frag)
end AM
set_option Elab.async false
set_option linter.all false
set_option maxRecDepth 100000
set_option maxHeartbeats 4000000
namespace Bk
open PySem PySem.Spec PySem.Calls PyProof.Rows L2
open PySem.W (Frag)
end Bk
namespace AM
open PySem PySem.Spec PyProof.Rows L2 Bk
open PySem.W (Frag)
end AM
set_option Elab.async false
set_option linter.all false
set_option maxRecDepth 100000
set_option maxHeartbeats 4000000
namespace AM
open PySem PySem.Spec PyProof.Rows L2 Bk
open PySem.W (Frag)
variable {K : Frag} [Amb]
inductive Pins (c0 c : Cfg K) : List (List D) → List Addr → Prop
  | nil : Pins c0 c [] []
  | cons {l : List D} {ls : List (List D)} {b : Addr} {bs : List Addr} {xs : List V} (h : (b, HO.lst xs) ∈ c.z) (r : Rds K c.G l xs) (n0 : ∀ p ∈ c0.z, p.1 ≠ b) (nb : b ∉ bs) (t : Pins c0 c ls bs) : Pins c0 c (l :: ls) (b :: bs)
theorem Pins.mono {c0 c c' : Cfg K} (g : Same c.G c'.G) (hz : ∀ p ∈ c.z, p ∈ c'.z) : ∀ {ls : List (List D)} {bs : List Addr}, Pins c0 c ls bs → Pins c0 c' ls bs
  | _, _, .nil => .nil
  | _, _, .cons h r n0 nb t => .cons (hz _ h) (r.mono g) n0 nb (t.mono g hz)
theorem Pins.length {c0 c : Cfg K} : ∀ {ls : List (List D)} {bs : List Addr}, Pins c0 c ls bs → ls.length = bs.length
  | _, _, .nil => rfl
  | _, _, .cons _ _ _ _ t => by rw [List.length_cons, List.length_cons, t.length]
end AM
set_option Elab.async false
set_option linter.all false
set_option maxRecDepth 100000
set_option maxHeartbeats 4000000
namespace Bk
open PySem PySem.Spec PyProof.Rows L2
open PySem.W (Frag)
end Bk
namespace AM
open PySem PySem.Spec PyProof.Rows L2 Bk
open PySem.W (Frag)
variable {K : Frag} [Amb]
section
variable {X : Cx} {E : XK} {pos tpos : Pos} {o i e : Expr} {fo fi fv : ME}
theorem Rns.length {m : List Addr} : ∀ {ns : List Nat} {vs : List V}, Rns m ns vs → ns.length = vs.length
  | _, _, .nil => rfl
  | _, _, .cons _ r => by rw [List.length_cons, List.length_cons, r.length]
end
end AM
set_option Elab.async false
set_option linter.all false
set_option maxRecDepth 100000
set_option maxHeartbeats 4000000
namespace Z3
open PySem PySem.Spec PyProof.Rows L2
open PySem.W (Frag)
def SqX (k : Bool) (K : Frag) (H : Hp) (a : Addr) (xs : List V) : Prop := if k then SqT K H a xs else SqL K H a xs
theorem SqX.inj {X : Cx} {pins : List (Addr × Obj)} {σ : L2.St} {H : Hp} {s : Shared} (I : L2.Inv X pins σ H s) {k : Bool} {a : Addr} {xs ys : List V} (h1 : SqX k X.K H a xs) (h2 : SqX k X.K H a ys) : xs = ys := by
  cases k with
  | true => exact I.tuple_inj h1 h2
  | false => exact ZM.sqL_inj I h1 h2
end Z3
namespace AM
open PySem PySem.Spec PyProof.Rows L2 Bk
open PySem.W (Frag)
end AM
set_option Elab.async false
set_option linter.all false
set_option maxRecDepth 100000
set_option maxHeartbeats 4000000
namespace Bk
open PySem PySem.Spec PyProof.Rows L2
open PySem.W (Frag)
end Bk
set_option Elab.async false
set_option linter.all false
set_option maxRecDepth 100000
set_option maxHeartbeats 4000000
namespace AM
open PySem PySem.Spec PyProof.Rows L2 Bk
open PySem.W (Frag)
variable {K : Frag} [Amb]
theorem Rkt.length {G : Hp} : ∀ {l : List (List Key × D)} {xs : List (List Key × V)}, Rkt K G l xs → l.length = xs.length
  | _, _, .nil => rfl
  | _, _, .cons h r => by rw [List.length_cons, List.length_cons, Rkt.length r]
end AM
set_option Elab.async false
set_option linter.all false
set_option maxRecDepth 100000
set_option maxHeartbeats 4000000
namespace AM
open PySem PySem.Spec PyProof.Rows L2 Bk
open PySem.W (Frag)
end AM
namespace AM
open PySem PySem.Spec PyProof.Rows L2 Bk
end AM
set_option Elab.async false
set_option linter.all false
set_option maxRecDepth 100000
set_option maxHeartbeats 4000000
namespace Bk
open PySem PySem.Spec PyProof.Rows L2
open PySem.W (Frag)
end Bk
namespace AM
open PySem PySem.Spec PyProof.Rows L2 Bk
open PySem.W (Frag)
variable {K : Frag} [Amb]
section
variable {X : Cx} {E : XK} {pos apos p1 : Pos} {a b e o i : Expr} {fa fb fc f fo fi fv : ME} {es : List Expr} {fs : MA}
theorem Rfs.len {G : Hp} : ∀ {l : List (Str × D)} {xs : List (Str × V)}, Rfs K G l xs → l.length = xs.length
  | _, _, .nil => rfl
  | _, _, .cons h r => by rw [List.length_cons, List.length_cons, Rfs.len r]
end
end AM
set_option Elab.async false
set_option linter.all false
set_option maxRecDepth 100000
set_option maxHeartbeats 4000000
namespace Bk
open PySem PySem.Spec PyProof.Rows L2
open PySem.W (Frag)
end Bk
namespace AM
open PySem PySem.Spec PyProof.Rows L2 Bk
open PySem.W (Frag)
end AM
set_option Elab.async false
set_option linter.all false
set_option maxRecDepth 100000
set_option maxHeartbeats 4000000
namespace Bk
open PySem PySem.Spec PyProof.Rows L2
open PySem.W (Frag)
end Bk
namespace AM
open PySem PySem.Spec PyProof.Rows L2 Bk
open PySem.W (Frag)
variable {K : Frag} [Amb]
section
variable {X : Cx} {E : XK} {pos apos tpos : Pos} {o i e : Expr} {fa fb f : ME}
theorem Rds.zip {G : Hp} : ∀ {l : List D} {xs : List V}, Rds K G l xs → ∃ bs : List (D × V), bs.map Prod.fst = l ∧ bs.map Prod.snd = xs ∧ ∀ b ∈ bs, Rd K G b.1 b.2
  | _, _, .nil => ⟨[], rfl, rfl, fun b hb => by cases hb⟩
  | _, _, .cons (d := d) (v := v) h r => by
    obtain ⟨bs, h1, h2, h3⟩ := Rds.zip r
    refine ⟨(d, v) :: bs, by rw [List.map_cons, h1], by rw [List.map_cons, h2], fun b hb => ?_⟩
    rcases List.mem_cons.mp hb with rfl | hb
    · exact h
    · exact h3 b hb
end
end AM
set_option Elab.async false
set_option linter.all false
set_option maxRecDepth 100000
set_option maxHeartbeats 4000000
namespace AM
open PySem PySem.Spec PyProof.Rows L2 Bk
open PySem.W (Frag)
variable {K : Frag} [Amb]
/-- the head's facts of a class without fields -/
def bareB (N : String) (tl : List Value) (x : Str) (K : Frag) : Bool :=
  let C := He.ga K x
  PySem.W.excIn K C tl N && (PySem.W.keepIn K (.ref C) && (decide (PySem.W.subIn K (.ref C) (.type "BaseException") = some true) && decide (PySem.W.typeIn K (.ref C) = some (.type "type"))))
end AM
set_option Elab.async false
set_option linter.all false
set_option maxRecDepth 100000
set_option maxHeartbeats 4000000
namespace AM
open PySem PySem.Spec PyProof.Rows L2 Bk
open PySem.W (Frag)
variable {K : Frag}
/-- the classes of exceptions, each with the names of its classes -/
abbrev ExcT := List (Str × List Str)
def exOkB (T : ExcT) (hs : List Str) (K : Frag) : Bool := T.all fun p => hs.all fun D => decide (PySem.W.exmOne K (.ref (He.ga K p.1)) (.ref (He.ga K D)) = some (p.2.contains D))
variable [A : Amb]
end AM
set_option Elab.async false
set_option linter.all false
set_option maxRecDepth 100000
set_option maxHeartbeats 4000000
namespace AM
open PySem PySem.Spec PyProof.Rows L2 Bk
open PySem.W (Frag)
open HotX L2H
variable {K : Frag} [A : Amb]
abbrev ExcB := List (Str × List String)
def excCB (K : Frag) (C : Addr) : Bool :=
  decide (PySem.W.findIn K (.ref C) "__getattribute__" = some (some (.builtin "BaseException.__getattribute__"))) && (decide (PySem.W.findIn K (.ref C) "__getattr__" = some none) && (decide (PySem.W.subIn K (.ref C) (.type "BaseException") = some true) && (PySem.W.hasDictIn K C &&
    (decide (PySem.W.findIn K (.ref C) "__class__" = some (some (.builtin "object.__class__"))) && (decide (PySem.W.specialIn K (.builtin "object.__class__") "__get__" = some (some (.builtin "getset_descriptor.__get__"))) && (decide (PySem.W.takesIn K (.builtin "object.__class__") = some true) && decide (PySem.W.mroIn K C (.type "object") = some true)))))))
def isOkB (T : ExcT) (TB : ExcB) (Ds : List Str) (Bs : List String) (K : Frag) : Bool :=
  (T.all fun p => excCB K (He.ga K p.1) && Ds.all fun D => decide (PySem.W.kitOne K (.ref (He.ga K p.1)) (.ref (He.ga K D)) = some (p.2.contains D))) &&
  (TB.all fun p => excCB K (He.ga K p.1) && Bs.all fun b => decide (PySem.W.kitOne K (.ref (He.ga K p.1)) (.type b) = some (p.2.contains b)))
section
variable {X : Cx} {E : XK} {a : Addr} {C : Str} {d : Option Addr} {oe : Obj} {pos p : Pos} {e : Expr} {es : List Expr}
def xfOkB (ns : List Str) (f : Str) (K : Frag) : Bool := ns.all fun C => xfB K (He.ga K C) && decide (PySem.W.findIn K (.ref (He.ga K C)) f = some none)
end
theorem PIH.weak {X : Cx} {tg e : Expr} {t t' : TI} (h : PIK X tg e t) (k : ∀ σ H R, t' σ H R → t σ H R) : PIK X tg e t' := ⟨fun pins s σ H R I hw => h.run pins s σ H R I (k σ H R hw)⟩
end AM
set_option Elab.async false
set_option linter.all false
set_option maxRecDepth 100000
set_option maxHeartbeats 4000000
namespace AM
open PySem PySem.Spec PyProof.Rows L2 Bk
open PySem.W (Frag)
open LamX
variable {K : Frag}
def plainR : Rs W → Rs W
  | .ok (.exc _ _) _ => .bad
  | .ok .clo _ => .bad
  | r => r
variable [A : Amb]
def cAct (th : Sto → Rs W) (i : Nat) : ME := fun ε S => match ε[i]? with | some (some .clo) => plainR (th S) | _ => .bad
/-- what is shown of a def that calls what it gets -/
structure LamD (P : Program) (w : World) (K : Frag) (mg : Str → Option Value) (base : Heap) (k : Nat) (x a : Str) (N : List Str) (sg : Scope) (bg : List Stmt) (m : (Sto → Rs W) → MS) : Prop where
  body : ∀ (A : Amb) (Ar : Around) (outer : List Env) (s : Shared) (H : Hp) (cdv : Value) (th : Sto → Rs W), Room k (Ar.deeper (envOfC x sg s.heap.objs.size (He.ga K x) cdv)) →
    (∀ (E1 : XK) (pn : List (Addr × Obj)) (xe : Value → Shared → Prop) (p1 p2 : Pos), L2C.Takes ((cxOf (L2C.CX P w) P w K mg base N x sg (He.ga K x) cdv Ar outer s H C8.E0).tr pn xe) (fun cls d _ H => E1 cls d H) →
      PE ((cxOf (L2C.CX P w) P w K mg base N x sg (He.ga K x) cdv Ar outer s H C8.E0).tr pn xe) (.Call (.Name a p1) [] [] p2) (@aE A K E1 (cAct th 0))) →
    PSs (cxOf (L2C.CX P w) P w K mg base N x sg (He.ga K x) cdv Ar outer s H C8.E0) bg (@aS A K C8.E0 (m th))
end AM
set_option Elab.async false
set_option linter.all false
set_option maxRecDepth 100000
set_option maxHeartbeats 4000000
namespace Bk
open PySem PySem.Spec PyProof.Rows L2 PySem.NumText
open PySem.W (Frag)
open LamX
abbrev TfL := List (Str × Option Str)
abbrev AlF : Type := AlE × Bool
def obsF (file : Str) (ex : Frag → Bool) (fn : List He5.DefA) (fx : List DefX) (dn : DicL) (tf : TfL) (g : Addr → Option Obj) (K : Frag) : AlF := (obsE file ex fn fx dn K, He.tabsB g tf K)
def valF (fn : List He5.DefA) (fx : List DefX) (dn : DicL) (w : World) : AlF := (valE fn fx dn w, true)
structure SaysF (file : Str) (ex : Frag → Bool) (fn : List He5.DefA) (fx : List DefX) (dn : DicL) (tf : TfL) (w : World) (h : Heap) (K : Frag) : Prop where
  e : SaysE file ex fn fx dn w K
  hd : ∀ p ∈ tf, PySem.W.codeHdIn K (He.cT K p).1 (He.cT K p).2 = true
  out : ∀ p ∈ tf, K.lookup (He.cT K p).2 = none
  empty : ∀ p ∈ tf, h.get? (He.cT K p).2 = some { cls := .none, data := .fields #[] }
def obsFG (l : List Addr) (file : Str) (ex : Frag → Bool) (fn : List He5.DefA) (fx : List DefX) (dn : DicL) (tf : TfL) (g : Addr → Option Obj) : AlF := obsF file ex fn fx dn tf g (He.frT g l)
theorem saysF_of {l : List Addr} {file : Str} {ex : Frag → Bool} {fn : List He5.DefA} {fx : List DefX} {dn : DicL} {tf : TfL} {w : World} {h : Heap} (e : obsFG l file ex fn fx dn tf h.get? = valF fn fx dn w) : SaysF file ex fn fx dn tf w h (He.frT h.get? l) := by
  have e1 : obsE file ex fn fx dn (He.frT h.get? l) = valE fn fx dn w := congrArg Prod.fst e
  have e2 : He.tabsB h.get? tf (He.frT h.get? l) = true := congrArg Prod.snd e
  have key : ∀ p ∈ tf, PySem.W.codeHdIn (He.frT h.get? l) (He.cT (He.frT h.get? l) p).1 (He.cT (He.frT h.get? l) p).2 = true ∧ ∃ o, h.get? (He.cT (He.frT h.get? l) p).2 = some o ∧ He.emptyTab o = true := by
    intro p hp
    obtain ⟨h3, h4⟩ := He.ba (List.all_eq_true.mp e2 p hp)
    refine ⟨h3, ?_⟩
    split at h4
    · rename_i o q
      exact ⟨o, q, h4⟩
    · cases h4
  refine ⟨e1, fun p hp => (key p hp).1, fun p hp => ?_, fun p hp => ?_⟩
  · obtain ⟨_, o, q, z⟩ := key p hp
    exact He.frT_none q z
  · obtain ⟨_, o, q, z⟩ := key p hp
    rw [q, He.emptyTab_eq z]
def hookF (l : List Addr) (file : Str) (ex : Frag → Bool) (fn : List He5.DefA) (fx : List DefX) (dn : DicL) (tf : TfL) : PySem.W.Hook where
  α := AlF
  obs s := obsFG l file ex fn fx dn tf s.heap.get?
  val w := valF fn fx dn w
  says w h := ∃ K : Frag, K.In h ∧ SaysF file ex fn fx dn tf w h K
  of _ _ e := ⟨_, He.frT_in, saysF_of e⟩
  keeps _ _ _ z k := let ⟨K, hK, c⟩ := z; ⟨K, Frag.In.keeps hK k, c.e, c.hd, c.out, fun p hp => k _ _ (c.empty p hp)⟩
end Bk
namespace Bk
open PySem PySem.Spec PyProof.Rows L2 PySem.NumText
open PySem.W (Frag)
open LamX
end Bk
set_option Elab.async false
set_option linter.all false
set_option maxRecDepth 100000
set_option maxHeartbeats 4000000
namespace L2H
open PySem PySem.Spec PyProof.Rows L2
end L2H
namespace Bk
open PySem PySem.Spec PyProof.Rows L2 PySem.NumText
open PySem.W (Frag)
open LamX
def xtB (C f : Str) (K : Frag) : Bool := decide (PySem.W.takerIn K (He.ga K C) f = some none)
/-- the tables of a law -/
abbrev tabsOf (tf : TfL) (K : Frag) : List (Addr × Str) := tf.map fun p => ((He.cT K p).2, (p.1 ++ ".<locals>.") ++ "<lambda>")
def tabNdB (tf : TfL) (K : Frag) : Bool := tf.all fun p => tf.all fun q => decide ((He.cT K p).2 = (He.cT K q).2 → p.1 = q.1)
end Bk
namespace AM
open PySem PySem.Spec PyProof.Rows L2 Bk
open PySem.W (Frag)
theorem LamD.mono {P : Program} {w : World} {K : Frag} {mg : Str → Option Value} {base : Heap} {k k' : Nat} {x a : Str} {N : List Str} {sg : Scope} {bg : List Stmt} {m : (Sto → Rs W) → MS} (D : LamD P w K mg base k x a N sg bg m) (h : k ≤ k') : LamD P w K mg base k' x a N sg bg m :=
  ⟨fun A Ar outer s H cdv th hr act => D.body A Ar outer s H cdv th (hr.mono h) act⟩
abbrev ambOf (tf : TfL) : Amb := ⟨none, none, tabsOf tf⟩
end AM
set_option Elab.async false
set_option linter.all false
set_option maxRecDepth 100000
set_option maxHeartbeats 4000000
namespace Bk
open PySem PySem.Spec PyProof.Rows L2 PySem.NumText
open PySem.W (Frag)
end Bk
namespace AM
open PySem PySem.Spec PyProof.Rows L2 Bk
open PySem.W (Frag)
end AM
namespace Bk
open PySem PySem.Spec PyProof.Rows L2
open PySem.W (Frag)
end Bk
namespace AM
open PySem PySem.Spec PyProof.Rows L2 Bk
open PySem.W (Frag)
end AM
set_option Elab.async false
set_option linter.all false
set_option maxRecDepth 100000
set_option maxHeartbeats 4000000
namespace AM
open PySem PySem.Spec PyProof.Rows L2 Bk PySem.NumText
open PySem.W (Frag)
end AM
set_option Elab.async false
set_option linter.all false
set_option maxRecDepth 100000
set_option maxHeartbeats 4000000
namespace Bk
open PySem PySem.Spec PyProof.Rows L2 PySem.NumText SeqAt
open PySem.W (Frag)
end Bk
namespace Bk
open PySem PySem.Spec PyProof.Rows L2 PySem.NumText SeqAt
open PySem.W (Frag)
end Bk
namespace AM
open PySem PySem.Spec PyProof.Rows L2 Bk
open PySem.W (Frag)
end AM
set_option Elab.async false
set_option linter.all false
set_option maxRecDepth 100000
set_option maxHeartbeats 4000000
namespace AM
open PySem PySem.Spec PyProof.Rows L2 Bk
open PySem.W (Frag)
open L2H
end AM
set_option Elab.async false
set_option linter.all false
set_option maxRecDepth 100000
set_option maxHeartbeats 4000000
namespace Bk
open PySem PySem.Spec PyProof.Rows L2
open PySem.W (Frag)
end Bk
namespace AM
open PySem PySem.Spec PyProof.Rows L2 Bk
open PySem.W (Frag)
end AM
set_option Elab.async false
set_option linter.all false
set_option maxRecDepth 100000
set_option maxHeartbeats 4000000
namespace AM
open PySem PySem.Spec PyProof.Rows L2 Bk
open PySem.W (Frag)
end AM
set_option Elab.async false
set_option linter.all false
set_option maxRecDepth 100000
set_option maxHeartbeats 4000000
namespace AM
open PySem PySem.Spec PyProof.Rows L2 Bk
open PySem.W (Frag)
end AM
set_option Elab.async false
set_option linter.all false
set_option maxRecDepth 100000
set_option maxHeartbeats 4000000
namespace Bk
open PySem PySem.Spec PyProof.Rows L2
open PySem.W (Frag)
end Bk
namespace AM
open PySem PySem.Spec PyProof.Rows L2 Bk
open PySem.W (Frag)
end AM
set_option Elab.async false
set_option linter.all false
set_option maxRecDepth 100000
set_option maxHeartbeats 4000000
namespace AM
open PySem PySem.Spec PyProof.Rows L2 Bk
open PySem.W (Frag)
variable {K : Frag} [Amb]
theorem exo_ntb {a C : Addr} {d : Option Addr} : NTb (exo a C d) := fun ps z => by
  have z' : HO.ext _ = HO.tbl ps := z
  cases z'
theorem exd_ntb {a : Addr} {fs : List (Str × V)} : NTb (exd a fs) := fun ps z => by
  have z' : HO.ext _ = HO.tbl ps := z
  cases z'
theorem AP.xv {c : Cfg K} {C : Str} {fs : List (Str × D)} {gs : List (Str × V)} {a dx : Addr} {Q : VK} {E : XK} (h : AP c (.ok (.val (.xv C fs)) c.S) Q E) (r : Rfs K c.G fs gs) (ha : c.H a = none) (hd : c.H dx = none) (ne : dx ≠ a) :
    Q (.ref a) (upd (upd c.H a (exo a (He.ga K C) (some dx))) dx (exd dx gs)) := by
  let c1 := c.lay a (exo a (He.ga K C) (some dx)) ha exo_ntb
  have hd1 : c1.H dx = none := by show upd c.H a _ dx = none; rw [upd_ne ne]; exact hd
  have l1 : c.le c1 := c.lay_le ha
  have l2 : c1.le (c1.lay dx (exd dx gs) hd1 exd_ntb) := c1.lay_le hd1
  refine h (c1.lay dx (exd dx gs) hd1 exd_ntb) (l1.tr l2) rfl _ ?_
  refine Rd.xv (dx := dx) (gs := gs) ?_ ?_ ((r.mono l1.g).mono l2.g)
  · show upd (upd c.G a _) dx _ a = _
    rw [upd_ne (Ne.symm ne), upd_same]
  · show upd (upd c.G a _) dx _ dx = _
    rw [upd_same]
theorem AP.xv0 {c : Cfg K} {C : Str} {a : Addr} {Q : VK} {E : XK} (h : AP c (.ok (.val (.xv C [])) c.S) Q E) (ha : c.H a = none) : Q (.ref a) (upd c.H a (exo a (He.ga K C) none)) := by
  refine h (c.lay a (exo a (He.ga K C) none) ha exo_ntb) (c.lay_le ha) rfl _ ?_
  refine Rd.xv0 ?_
  show upd c.G a _ a = _
  rw [upd_same]
end AM
set_option Elab.async false
set_option linter.all false
set_option maxRecDepth 100000
set_option maxHeartbeats 4000000
namespace Bk
open PySem
def tf : TfL := []
def excT : AM.ExcT := [("NotRight", ["NotRight"]), ("InvalidText", ["InvalidText", "NotRight"]), ("InvalidSlots", ["InvalidSlots", "NotRight"]), ("InvalidName", ["InvalidName", "NotRight"]), ("InvalidAsk", ["InvalidAsk", "NotRight"]), ("InvalidFact", ["InvalidFact", "NotRight"]), ("InvalidRecord", ["InvalidRecord", "NotRight"]), ("InvalidWord", ["InvalidWord", "NotRight"]), ("InvalidWish", ["InvalidWish", "NotRight"]), ("InvalidClaim", ["InvalidClaim", "NotRight"]), ("InvalidPlace", ["InvalidPlace", "NotRight"]), ("NotATown", ["NotATown", "NotRight"]), ("NotALog", ["NotALog", "NotRight"]), ("InvalidStands", ["InvalidStands", "NotRight"]), ("InvalidRoads", ["InvalidRoads", "NotRight"]), ("InvalidFacts", ["InvalidFacts", "NotRight"]), ("InvalidReadings", ["InvalidReadings", "NotRight"]), ("InvalidWishes", ["InvalidWishes", "NotRight"]), ("InvalidChanges", ["InvalidChanges", "NotRight"]), ("NotThere", ["NotThere"]), ("UnknownName", ["UnknownName", "NotThere"]), ("InUse", ["InUse", "NotThere"]), ("CannotBe", ["CannotBe"]), ("Impossible", ["Impossible", "CannotBe"]), ("OtherTown", ["OtherTown", "CannotBe"]), ("TooMany", ["TooMany", "CannotBe"]), ("Contradicts", ["Contradicts", "CannotBe"]), ("NothingToUndo", ["NothingToUndo", "CannotBe"]), ("Broken", ["Broken", "CannotBe"])]
def excU : AM.ExcB := [("NotRight", ["ValueError", "Exception", "BaseException", "object"]), ("InvalidText", ["ValueError", "Exception", "BaseException", "object"]), ("InvalidSlots", ["ValueError", "Exception", "BaseException", "object"]), ("InvalidName", ["ValueError", "Exception", "BaseException", "object"]), ("InvalidAsk", ["ValueError", "Exception", "BaseException", "object"]), ("InvalidFact", ["ValueError", "Exception", "BaseException", "object"]), ("InvalidRecord", ["ValueError", "Exception", "BaseException", "object"]), ("InvalidWord", ["ValueError", "Exception", "BaseException", "object"]), ("InvalidWish", ["ValueError", "Exception", "BaseException", "object"]), ("InvalidClaim", ["ValueError", "Exception", "BaseException", "object"]), ("InvalidPlace", ["ValueError", "Exception", "BaseException", "object"]), ("NotATown", ["ValueError", "Exception", "BaseException", "object"]), ("NotALog", ["ValueError", "Exception", "BaseException", "object"]), ("InvalidStands", ["ValueError", "Exception", "BaseException", "object"]), ("InvalidRoads", ["ValueError", "Exception", "BaseException", "object"]), ("InvalidFacts", ["ValueError", "Exception", "BaseException", "object"]), ("InvalidReadings", ["ValueError", "Exception", "BaseException", "object"]), ("InvalidWishes", ["ValueError", "Exception", "BaseException", "object"]), ("InvalidChanges", ["ValueError", "Exception", "BaseException", "object"]), ("NotThere", ["LookupError", "Exception", "BaseException", "object"]), ("UnknownName", ["LookupError", "Exception", "BaseException", "object"]), ("InUse", ["LookupError", "Exception", "BaseException", "object"]), ("CannotBe", ["ArithmeticError", "Exception", "BaseException", "object"]), ("Impossible", ["ArithmeticError", "Exception", "BaseException", "object"]), ("OtherTown", ["ArithmeticError", "Exception", "BaseException", "object"]), ("TooMany", ["ArithmeticError", "Exception", "BaseException", "object"]), ("Contradicts", ["ArithmeticError", "Exception", "BaseException", "object"]), ("NothingToUndo", ["ArithmeticError", "Exception", "BaseException", "object"]), ("Broken", ["ArithmeticError", "Exception", "BaseException", "object"])]
def excH : List Str := ["CannotBe", "NotRight", "NotThere"]
def isDs : List Str := ["Broken", "CannotBe", "Contradicts", "Impossible", "InUse", "InvalidAsk", "InvalidChanges", "InvalidClaim", "InvalidFact", "InvalidFacts", "InvalidName", "InvalidPlace", "InvalidReadings", "InvalidRecord", "InvalidRoads", "InvalidSlots", "InvalidStands", "InvalidText", "InvalidWish", "InvalidWishes", "InvalidWord", "NotALog", "NotATown", "NotRight", "NotThere", "NothingToUndo", "OtherTown", "TooMany", "UnknownName"]
def isBs : List String := ["ArithmeticError", "IndexError", "KeyError", "LookupError", "ValueError", "ZeroDivisionError"]
def excF_given : List Str := ["InvalidText", "InvalidSlots", "InvalidName", "InvalidAsk", "InvalidFact", "InvalidRecord", "InvalidWord", "InvalidWish", "InvalidClaim", "InvalidPlace", "NotATown", "NotALog", "UnknownName", "Contradicts"]
def excF_index : List Str := ["InvalidStands", "InvalidRoads", "InvalidFacts", "InvalidReadings", "InvalidWishes", "InvalidChanges", "InUse", "Broken"]
def excF_most : List Str := ["TooMany"]
def excF_shown : List Str := ["Broken"]
end Bk
set_option Elab.async false
set_option linter.all false
set_option maxRecDepth 100000
set_option maxHeartbeats 4000000
namespace Bk
open PySem PySem.Spec PyProof.Rows L2 PySem.NumText
open PySem.W (Frag)
def top (i : Nat) : Stmt := PySem.Challenge.pw_bikestands_k01_limits_and_errors.main.body.getD i (.Pass ⟨0, 0, 0, 0⟩)
abbrev s__law_sorts : Stmt := top 40
abbrev s__law_bases : Stmt := top 41
abbrev s__law_due : Stmt := top 42
abbrev s__law_given : Stmt := top 43
abbrev s__law_kept_right : Stmt := top 44
abbrev s__law_raised_right : Stmt := top 45
abbrev s__law_right : Stmt := top 46
abbrev s_law : Stmt := top 47
abbrev s_InvalidText___init__ : Stmt := inClass (top 2) 0
abbrev s_InvalidSlots___init__ : Stmt := inClass (top 3) 0
abbrev s_InvalidName___init__ : Stmt := inClass (top 4) 0
abbrev s_InvalidAsk___init__ : Stmt := inClass (top 5) 0
abbrev s_InvalidFact___init__ : Stmt := inClass (top 6) 0
abbrev s_InvalidRecord___init__ : Stmt := inClass (top 7) 0
abbrev s_InvalidWord___init__ : Stmt := inClass (top 8) 0
abbrev s_InvalidWish___init__ : Stmt := inClass (top 9) 0
abbrev s_InvalidClaim___init__ : Stmt := inClass (top 10) 0
abbrev s_InvalidPlace___init__ : Stmt := inClass (top 11) 0
abbrev s_NotATown___init__ : Stmt := inClass (top 12) 0
abbrev s_NotALog___init__ : Stmt := inClass (top 13) 0
abbrev s_InvalidStands___init__ : Stmt := inClass (top 14) 0
abbrev s_InvalidRoads___init__ : Stmt := inClass (top 15) 0
abbrev s_InvalidFacts___init__ : Stmt := inClass (top 16) 0
abbrev s_InvalidReadings___init__ : Stmt := inClass (top 17) 0
abbrev s_InvalidWishes___init__ : Stmt := inClass (top 18) 0
abbrev s_InvalidChanges___init__ : Stmt := inClass (top 19) 0
abbrev s_UnknownName___init__ : Stmt := inClass (top 21) 0
abbrev s_InUse___init__ : Stmt := inClass (top 22) 0
abbrev s_TooMany___init__ : Stmt := inClass (top 26) 0
abbrev s_Contradicts___init__ : Stmt := inClass (top 27) 0
abbrev s_Broken___init__ : Stmt := inClass (top 29) 0
def d__law_sorts : He5.DefA := ⟨fun K => He.ga K "_law_sorts", "_law_sorts", "_law_sorts", defArgs s__law_sorts, defBody s__law_sorts, defScope s__law_sorts, [], []⟩
def d__law_bases : He5.DefA := ⟨fun K => He.ga K "_law_bases", "_law_bases", "_law_bases", defArgs s__law_bases, defBody s__law_bases, defScope s__law_bases, [], []⟩
def d__law_due : He5.DefA := ⟨fun K => He.ga K "_law_due", "_law_due", "_law_due", defArgs s__law_due, defBody s__law_due, defScope s__law_due, [], []⟩
def d__law_given : He5.DefA := ⟨fun K => He.ga K "_law_given", "_law_given", "_law_given", defArgs s__law_given, defBody s__law_given, defScope s__law_given, [], []⟩
def d__law_kept_right : He5.DefA := ⟨fun K => He.ga K "_law_kept_right", "_law_kept_right", "_law_kept_right", defArgs s__law_kept_right, defBody s__law_kept_right, defScope s__law_kept_right, [], []⟩
def d__law_raised_right : He5.DefA := ⟨fun K => He.ga K "_law_raised_right", "_law_raised_right", "_law_raised_right", defArgs s__law_raised_right, defBody s__law_raised_right, defScope s__law_raised_right, [], []⟩
def d__law_right : He5.DefA := ⟨fun K => He.ga K "_law_right", "_law_right", "_law_right", defArgs s__law_right, defBody s__law_right, defScope s__law_right, [], []⟩
def d_law : He5.DefA := ⟨fun K => He.ga K "law", "law", "law", defArgs s_law, defBody s_law, defScope s_law, [], []⟩
def fn0 : List He5.DefA := [d__law_sorts, d__law_bases, d__law_due, d__law_given, d__law_kept_right, d__law_raised_right, d__law_right, d_law]
def fn : List He5.DefA := fn0
def x_InvalidText___init__ : DefX := ⟨fun K => He.ma K (He.ga K "InvalidText") "__init__", fun K => He.ga K "InvalidText", "__init__", "InvalidText.__init__", defArgs s_InvalidText___init__, defBody s_InvalidText___init__, defScope s_InvalidText___init__⟩
def x_InvalidSlots___init__ : DefX := ⟨fun K => He.ma K (He.ga K "InvalidSlots") "__init__", fun K => He.ga K "InvalidSlots", "__init__", "InvalidSlots.__init__", defArgs s_InvalidSlots___init__, defBody s_InvalidSlots___init__, defScope s_InvalidSlots___init__⟩
def x_InvalidName___init__ : DefX := ⟨fun K => He.ma K (He.ga K "InvalidName") "__init__", fun K => He.ga K "InvalidName", "__init__", "InvalidName.__init__", defArgs s_InvalidName___init__, defBody s_InvalidName___init__, defScope s_InvalidName___init__⟩
def x_InvalidAsk___init__ : DefX := ⟨fun K => He.ma K (He.ga K "InvalidAsk") "__init__", fun K => He.ga K "InvalidAsk", "__init__", "InvalidAsk.__init__", defArgs s_InvalidAsk___init__, defBody s_InvalidAsk___init__, defScope s_InvalidAsk___init__⟩
def x_InvalidFact___init__ : DefX := ⟨fun K => He.ma K (He.ga K "InvalidFact") "__init__", fun K => He.ga K "InvalidFact", "__init__", "InvalidFact.__init__", defArgs s_InvalidFact___init__, defBody s_InvalidFact___init__, defScope s_InvalidFact___init__⟩
def x_InvalidRecord___init__ : DefX := ⟨fun K => He.ma K (He.ga K "InvalidRecord") "__init__", fun K => He.ga K "InvalidRecord", "__init__", "InvalidRecord.__init__", defArgs s_InvalidRecord___init__, defBody s_InvalidRecord___init__, defScope s_InvalidRecord___init__⟩
def x_InvalidWord___init__ : DefX := ⟨fun K => He.ma K (He.ga K "InvalidWord") "__init__", fun K => He.ga K "InvalidWord", "__init__", "InvalidWord.__init__", defArgs s_InvalidWord___init__, defBody s_InvalidWord___init__, defScope s_InvalidWord___init__⟩
def x_InvalidWish___init__ : DefX := ⟨fun K => He.ma K (He.ga K "InvalidWish") "__init__", fun K => He.ga K "InvalidWish", "__init__", "InvalidWish.__init__", defArgs s_InvalidWish___init__, defBody s_InvalidWish___init__, defScope s_InvalidWish___init__⟩
def x_InvalidClaim___init__ : DefX := ⟨fun K => He.ma K (He.ga K "InvalidClaim") "__init__", fun K => He.ga K "InvalidClaim", "__init__", "InvalidClaim.__init__", defArgs s_InvalidClaim___init__, defBody s_InvalidClaim___init__, defScope s_InvalidClaim___init__⟩
def x_InvalidPlace___init__ : DefX := ⟨fun K => He.ma K (He.ga K "InvalidPlace") "__init__", fun K => He.ga K "InvalidPlace", "__init__", "InvalidPlace.__init__", defArgs s_InvalidPlace___init__, defBody s_InvalidPlace___init__, defScope s_InvalidPlace___init__⟩
def x_NotATown___init__ : DefX := ⟨fun K => He.ma K (He.ga K "NotATown") "__init__", fun K => He.ga K "NotATown", "__init__", "NotATown.__init__", defArgs s_NotATown___init__, defBody s_NotATown___init__, defScope s_NotATown___init__⟩
def x_NotALog___init__ : DefX := ⟨fun K => He.ma K (He.ga K "NotALog") "__init__", fun K => He.ga K "NotALog", "__init__", "NotALog.__init__", defArgs s_NotALog___init__, defBody s_NotALog___init__, defScope s_NotALog___init__⟩
def x_InvalidStands___init__ : DefX := ⟨fun K => He.ma K (He.ga K "InvalidStands") "__init__", fun K => He.ga K "InvalidStands", "__init__", "InvalidStands.__init__", defArgs s_InvalidStands___init__, defBody s_InvalidStands___init__, defScope s_InvalidStands___init__⟩
def x_InvalidRoads___init__ : DefX := ⟨fun K => He.ma K (He.ga K "InvalidRoads") "__init__", fun K => He.ga K "InvalidRoads", "__init__", "InvalidRoads.__init__", defArgs s_InvalidRoads___init__, defBody s_InvalidRoads___init__, defScope s_InvalidRoads___init__⟩
def x_InvalidFacts___init__ : DefX := ⟨fun K => He.ma K (He.ga K "InvalidFacts") "__init__", fun K => He.ga K "InvalidFacts", "__init__", "InvalidFacts.__init__", defArgs s_InvalidFacts___init__, defBody s_InvalidFacts___init__, defScope s_InvalidFacts___init__⟩
def x_InvalidReadings___init__ : DefX := ⟨fun K => He.ma K (He.ga K "InvalidReadings") "__init__", fun K => He.ga K "InvalidReadings", "__init__", "InvalidReadings.__init__", defArgs s_InvalidReadings___init__, defBody s_InvalidReadings___init__, defScope s_InvalidReadings___init__⟩
def x_InvalidWishes___init__ : DefX := ⟨fun K => He.ma K (He.ga K "InvalidWishes") "__init__", fun K => He.ga K "InvalidWishes", "__init__", "InvalidWishes.__init__", defArgs s_InvalidWishes___init__, defBody s_InvalidWishes___init__, defScope s_InvalidWishes___init__⟩
def x_InvalidChanges___init__ : DefX := ⟨fun K => He.ma K (He.ga K "InvalidChanges") "__init__", fun K => He.ga K "InvalidChanges", "__init__", "InvalidChanges.__init__", defArgs s_InvalidChanges___init__, defBody s_InvalidChanges___init__, defScope s_InvalidChanges___init__⟩
def x_UnknownName___init__ : DefX := ⟨fun K => He.ma K (He.ga K "UnknownName") "__init__", fun K => He.ga K "UnknownName", "__init__", "UnknownName.__init__", defArgs s_UnknownName___init__, defBody s_UnknownName___init__, defScope s_UnknownName___init__⟩
def x_InUse___init__ : DefX := ⟨fun K => He.ma K (He.ga K "InUse") "__init__", fun K => He.ga K "InUse", "__init__", "InUse.__init__", defArgs s_InUse___init__, defBody s_InUse___init__, defScope s_InUse___init__⟩
def x_TooMany___init__ : DefX := ⟨fun K => He.ma K (He.ga K "TooMany") "__init__", fun K => He.ga K "TooMany", "__init__", "TooMany.__init__", defArgs s_TooMany___init__, defBody s_TooMany___init__, defScope s_TooMany___init__⟩
def x_Contradicts___init__ : DefX := ⟨fun K => He.ma K (He.ga K "Contradicts") "__init__", fun K => He.ga K "Contradicts", "__init__", "Contradicts.__init__", defArgs s_Contradicts___init__, defBody s_Contradicts___init__, defScope s_Contradicts___init__⟩
def x_Broken___init__ : DefX := ⟨fun K => He.ma K (He.ga K "Broken") "__init__", fun K => He.ga K "Broken", "__init__", "Broken.__init__", defArgs s_Broken___init__, defBody s_Broken___init__, defScope s_Broken___init__⟩
def fx : List DefX := [x_InvalidText___init__, x_InvalidSlots___init__, x_InvalidName___init__, x_InvalidAsk___init__, x_InvalidFact___init__, x_InvalidRecord___init__, x_InvalidWord___init__, x_InvalidWish___init__, x_InvalidClaim___init__, x_InvalidPlace___init__, x_NotATown___init__, x_NotALog___init__, x_InvalidStands___init__, x_InvalidRoads___init__, x_InvalidFacts___init__, x_InvalidReadings___init__, x_InvalidWishes___init__, x_InvalidChanges___init__, x_UnknownName___init__, x_InUse___init__, x_TooMany___init__, x_Contradicts___init__, x_Broken___init__]
abbrev fileN : Str := (PySem.Challenge.pw_bikestands_k01_limits_and_errors.main.file : Str)
def fa0 : List He.Fa := [.glo "NotRight", .glo "InvalidText", .glo "InvalidSlots", .glo "InvalidName", .glo "InvalidAsk", .glo "InvalidFact", .glo "InvalidRecord", .glo "InvalidWord", .glo "InvalidWish", .glo "InvalidClaim", .glo "InvalidPlace", .glo "NotATown", .glo "NotALog", .glo "InvalidStands", .glo "InvalidRoads", .glo "InvalidFacts", .glo "InvalidReadings", .glo "InvalidWishes", .glo "InvalidChanges", .glo "NotThere", .glo "UnknownName", .glo "InUse", .glo "CannotBe", .glo "Impossible", .glo "OtherTown", .glo "TooMany", .glo "Contradicts", .glo "NothingToUndo", .glo "Broken", .glo "_law_sorts"]
def fa1 : List He.Fa := [.glo "_law_bases", .glo "_law_due", .glo "_law_given", .glo "_law_kept_right", .glo "_law_raised_right", .glo "_law_right", .glo "law", .free "len", .free "int", .free "range", .free "isinstance", .free "repr", .free "super", .free "ValueError", .free "LookupError", .free "ArithmeticError", .free "KeyError", .free "IndexError", .free "ZeroDivisionError", .int "MOST_SLOTS" 8, .int "MOST_STANDS" 5, .int "MOST_SIZE" 40, .int "MOST_ROADS" 12, .int "MOST_TIME" 3, .int "MOST_FACTS" 12, .int "MOST_NUMBER" 9999, .int "MOST_READINGS" 6, .int "MOST_CHANGES" 5, .meth "InvalidText" "__init__", .meth "InvalidSlots" "__init__"]
def fa2 : List He.Fa := [.meth "InvalidName" "__init__", .meth "InvalidAsk" "__init__", .meth "InvalidFact" "__init__", .meth "InvalidRecord" "__init__", .meth "InvalidWord" "__init__", .meth "InvalidWish" "__init__", .meth "InvalidClaim" "__init__", .meth "InvalidPlace" "__init__", .meth "NotATown" "__init__", .meth "NotALog" "__init__", .meth "InvalidStands" "__init__", .meth "InvalidRoads" "__init__", .meth "InvalidFacts" "__init__", .meth "InvalidReadings" "__init__", .meth "InvalidWishes" "__init__", .meth "InvalidChanges" "__init__", .meth "UnknownName" "__init__", .meth "InUse" "__init__", .meth "TooMany" "__init__", .meth "Contradicts" "__init__", .meth "Broken" "__init__"]
def fa : List He.Fa := fa0 ++ fa1 ++ fa2
def xx0 : List (Frag → Bool) := [oexGB "ValueError.__new__" [.type "ValueError", .type "Exception", .type "BaseException", .type "object"] "InvalidText", suGB "ValueError" "ValueError.__init__" "InvalidText", xtB "InvalidText" "given", oexGB "ValueError.__new__" [.type "ValueError", .type "Exception", .type "BaseException", .type "object"] "InvalidSlots", suGB "ValueError" "ValueError.__init__" "InvalidSlots", xtB "InvalidSlots" "given", oexGB "ValueError.__new__" [.type "ValueError", .type "Exception", .type "BaseException", .type "object"] "InvalidName", suGB "ValueError" "ValueError.__init__" "InvalidName", xtB "InvalidName" "given", oexGB "ValueError.__new__" [.type "ValueError", .type "Exception", .type "BaseException", .type "object"] "InvalidAsk", suGB "ValueError" "ValueError.__init__" "InvalidAsk", xtB "InvalidAsk" "given", oexGB "ValueError.__new__" [.type "ValueError", .type "Exception", .type "BaseException", .type "object"] "InvalidFact", suGB "ValueError" "ValueError.__init__" "InvalidFact", xtB "InvalidFact" "given", oexGB "ValueError.__new__" [.type "ValueError", .type "Exception", .type "BaseException", .type "object"] "InvalidRecord", suGB "ValueError" "ValueError.__init__" "InvalidRecord", xtB "InvalidRecord" "given", oexGB "ValueError.__new__" [.type "ValueError", .type "Exception", .type "BaseException", .type "object"] "InvalidWord", suGB "ValueError" "ValueError.__init__" "InvalidWord", xtB "InvalidWord" "given", oexGB "ValueError.__new__" [.type "ValueError", .type "Exception", .type "BaseException", .type "object"] "InvalidWish", suGB "ValueError" "ValueError.__init__" "InvalidWish", xtB "InvalidWish" "given", oexGB "ValueError.__new__" [.type "ValueError", .type "Exception", .type "BaseException", .type "object"] "InvalidClaim", suGB "ValueError" "ValueError.__init__" "InvalidClaim", xtB "InvalidClaim" "given", oexGB "ValueError.__new__" [.type "ValueError", .type "Exception", .type "BaseException", .type "object"] "InvalidPlace", suGB "ValueError" "ValueError.__init__" "InvalidPlace", xtB "InvalidPlace" "given"]
def xx1 : List (Frag → Bool) := [oexGB "ValueError.__new__" [.type "ValueError", .type "Exception", .type "BaseException", .type "object"] "NotATown", suGB "ValueError" "ValueError.__init__" "NotATown", xtB "NotATown" "given", oexGB "ValueError.__new__" [.type "ValueError", .type "Exception", .type "BaseException", .type "object"] "NotALog", suGB "ValueError" "ValueError.__init__" "NotALog", xtB "NotALog" "given", oexGB "ValueError.__new__" [.type "ValueError", .type "Exception", .type "BaseException", .type "object"] "InvalidStands", suGB "ValueError" "ValueError.__init__" "InvalidStands", xtB "InvalidStands" "index", oexGB "ValueError.__new__" [.type "ValueError", .type "Exception", .type "BaseException", .type "object"] "InvalidRoads", suGB "ValueError" "ValueError.__init__" "InvalidRoads", xtB "InvalidRoads" "index", oexGB "ValueError.__new__" [.type "ValueError", .type "Exception", .type "BaseException", .type "object"] "InvalidFacts", suGB "ValueError" "ValueError.__init__" "InvalidFacts", xtB "InvalidFacts" "index", oexGB "ValueError.__new__" [.type "ValueError", .type "Exception", .type "BaseException", .type "object"] "InvalidReadings", suGB "ValueError" "ValueError.__init__" "InvalidReadings", xtB "InvalidReadings" "index", oexGB "ValueError.__new__" [.type "ValueError", .type "Exception", .type "BaseException", .type "object"] "InvalidWishes", suGB "ValueError" "ValueError.__init__" "InvalidWishes", xtB "InvalidWishes" "index", oexGB "ValueError.__new__" [.type "ValueError", .type "Exception", .type "BaseException", .type "object"] "InvalidChanges", suGB "ValueError" "ValueError.__init__" "InvalidChanges", xtB "InvalidChanges" "index", oexGB "LookupError.__new__" [.type "LookupError", .type "Exception", .type "BaseException", .type "object"] "UnknownName", suGB "LookupError" "LookupError.__init__" "UnknownName", xtB "UnknownName" "given", oexGB "LookupError.__new__" [.type "LookupError", .type "Exception", .type "BaseException", .type "object"] "InUse", suGB "LookupError" "LookupError.__init__" "InUse", xtB "InUse" "index"]
def xx2 : List (Frag → Bool) := [oexGB "ArithmeticError.__new__" [.type "ArithmeticError", .type "Exception", .type "BaseException", .type "object"] "TooMany", suGB "ArithmeticError" "ArithmeticError.__init__" "TooMany", xtB "TooMany" "most", oexGB "ArithmeticError.__new__" [.type "ArithmeticError", .type "Exception", .type "BaseException", .type "object"] "Contradicts", suGB "ArithmeticError" "ArithmeticError.__init__" "Contradicts", xtB "Contradicts" "given", oexGB "ArithmeticError.__new__" [.type "ArithmeticError", .type "Exception", .type "BaseException", .type "object"] "Broken", suGB "ArithmeticError" "ArithmeticError.__init__" "Broken", xtB "Broken" "index", xtB "Broken" "shown", AM.bareB "ArithmeticError.__new__" [.type "ArithmeticError", .type "Exception", .type "BaseException", .type "object"] "Impossible", AM.bareB "ArithmeticError.__new__" [.type "ArithmeticError", .type "Exception", .type "BaseException", .type "object"] "OtherTown", AM.bareB "ArithmeticError.__new__" [.type "ArithmeticError", .type "Exception", .type "BaseException", .type "object"] "NothingToUndo", tabNdB tf, AM.exOkB excT excH, AM.isOkB excT excU isDs isBs, AM.xfOkB excF_given "given", AM.xfOkB excF_index "index", AM.xfOkB excF_most "most", AM.xfOkB excF_shown "shown"]
def xx : List (Frag → Bool) := xx0 ++ xx1 ++ xx2
def ex (K : Frag) : Bool := (fa.all fun f => f.ok K) && xx.all fun f => f K
def dn : DicL := []
def lo0 : List Str := ["NotRight", "InvalidText", "InvalidSlots", "InvalidName", "InvalidAsk", "InvalidFact", "InvalidRecord", "InvalidWord", "InvalidWish", "InvalidClaim", "InvalidPlace", "NotATown", "NotALog", "InvalidStands", "InvalidRoads", "InvalidFacts", "InvalidReadings", "InvalidWishes", "InvalidChanges", "NotThere", "UnknownName", "InUse", "CannotBe", "Impossible", "OtherTown", "TooMany", "Contradicts", "NothingToUndo", "Broken", "MOST_SLOTS"]
def lo1 : List Str := ["MOST_STANDS", "MOST_SIZE", "MOST_ROADS", "MOST_TIME", "MOST_FACTS", "MOST_NUMBER", "MOST_READINGS", "MOST_CHANGES", "_law_sorts", "_law_bases", "_law_due", "_law_given", "_law_kept_right", "_law_raised_right", "_law_right"]
def loose : List Str := lo0 ++ lo1
set_option maxHeartbeats 0
abbrev R : PySem.W.OpenRow := PySem.W.OpenLaw.row PySem.Challenge.rw_bikestands_k01_limits_and_errors
def adL : List Addr := [3, 20, 24, 19, 23, 2, 470, 469, 415, 570, 414, 298, 151, 172, 193, 214, 235, 256, 277, 437, 319, 340, 361, 382, 403, 46, 67, 516, 458, 88, 109, 569, 537, 130, 318, 381, 150, 171, 192, 213, 66, 234, 255, 276, 297, 87, 339, 360, 129, 402, 108, 45, 436, 457, 536, 515, 483, 549, 495, 379, 253, 316, 211, 400, 274, 106, 190, 295, 434, 169, 455, 85, 127, 64, 482, 232, 494, 337, 513, 548, 534, 39, 43, 567, 358, 148, 52, 94, 367, 378, 73, 262, 105, 388, 399, 273, 178, 189, 84, 283, 422, 433, 294, 157, 115, 443, 454, 220, 231, 126, 304, 315, 168, 622, 63, 325, 501, 512, 336, 38, 42, 27, 31, 522, 533, 241, 252, 136, 346, 357, 555, 566, 199, 147, 210, 578, 579, 585, 586, 592, 593, 599, 600, 604, 605, 611, 612, 616, 617, 621]
abbrev hk : PySem.W.Hook := hookF adL fileN ex fn fx dn tf
def ob (s : PySem.W.SharedT) : AlF := obsFG adL fileN ex fn fx dn tf (HandSHeadRun.getT s)
theorem join3 {α β γ δ : Type} {x : Option α} {A : α → β} {B : α → γ} {C : α → δ} {a : β} {b : γ} {c : δ} (h1 : x.map (fun s => (A s, B s)) = some (a, b)) (h2 : x.map C = some c) : x.map (fun s => (A s, B s, C s)) = some (a, b, c) := by
  cases x with
  | none => cases h1
  | some s =>
    simp only [Option.map_some, Option.some.injEq, Prod.mk.injEq] at h1 h2 ⊢
    exact ⟨h1.1, h1.2, h2⟩
theorem obJ {x : Option PySem.W.SharedT} {w : World} (h2 : x.map (fun s => fa.all fun f => f.ok (He.frT (HandSHeadRun.getT s) adL)) = some true) (h4 : x.map (fun s => fn.all (fun d => d.ok (He.frT (HandSHeadRun.getT s) adL)) && fx.all fun d => d.ok fileN (He.frT (HandSHeadRun.getT s) adL)) = some true)
    (h3 : x.map (fun s => ((xx.all fun f => f (He.frT (HandSHeadRun.getT s) adL)), (fn.map fun d => He5.fnA (He.frT (HandSHeadRun.getT s) adL) (d.at_ (He.frT (HandSHeadRun.getT s) adL))), (fx.map fun d => fnC (He.frT (HandSHeadRun.getT s) adL) (d.at_ (He.frT (HandSHeadRun.getT s) adL))), (dn.map fun d => AM.gdHs d.1 (He.frT (HandSHeadRun.getT s) adL)), He.tabsB (HandSHeadRun.getT s) tf (He.frT (HandSHeadRun.getT s) adL))) = some (true, fn.map He5.DefA.val, fx.map DefX.val, (dn.map fun d => d.2.map fun p => hashStr w p.1), true)) : x.map ob = some (hk.val w) := by
  cases x with
  | none => cases h2
  | some s =>
    simp only [Option.map_some, Option.some.injEq, Prod.mk.injEq] at h2 h4 h3
    obtain ⟨e0, e1, e2, e3, e4⟩ := h3
    show some (obsF fileN ex fn fx dn tf (HandSHeadRun.getT s) (He.frT (HandSHeadRun.getT s) adL)) = some (valF fn fx dn w)
    unfold obsF valF obsE valE obsC valC ex
    rw [h2, h4, e0, e1, e2, e3, e4]
    rfl
theorem run1 (w : World) (os : OsState) : Option.map (fun s => (HandSHeadRun.looksF R.prog (PySem.W.boot_heap (PySem.World.params w)) s.abs, HandSHeadRun.seenQ (PySem.W.view R.prog [47]) loose (PySem.importedModules R.prog.main.body) (fun s => PySem.W.xlAt (PySem.W.view R.prog [47]) [] s && PySem.W.recOk R.records s) s.abs)) (HandSHeadRun.endF (HandSHeadRun.stepQ (HandSHeadRun.denQ HandSHeadRun.tabQ) R.prog w) 20000 R.prog w os) = some (true, PySem.W.openGood (PySem.W.view R.prog [47]) loose) := by
  kernel_rfl
theorem run2 (w : World) (os : OsState) : Option.map (fun s => fa.all fun f => f.ok (He.frT (HandSHeadRun.getT s) adL)) (HandSHeadRun.endF (HandSHeadRun.stepQ (HandSHeadRun.denQ HandSHeadRun.tabQ) R.prog w) 20000 R.prog w os) = some true := by
  kernel_rfl
theorem run4 (w : World) (os : OsState) : Option.map (fun s => fn.all (fun d => d.ok (He.frT (HandSHeadRun.getT s) adL)) && fx.all fun d => d.ok fileN (He.frT (HandSHeadRun.getT s) adL)) (HandSHeadRun.endF (HandSHeadRun.stepQ (HandSHeadRun.denQ HandSHeadRun.tabQ) R.prog w) 20000 R.prog w os) = some true := by
  kernel_rfl
theorem run3 (w : World) (os : OsState) : Option.map (fun s => ((xx.all fun f => f (He.frT (HandSHeadRun.getT s) adL)), (fn.map fun d => He5.fnA (He.frT (HandSHeadRun.getT s) adL) (d.at_ (He.frT (HandSHeadRun.getT s) adL))), (fx.map fun d => fnC (He.frT (HandSHeadRun.getT s) adL) (d.at_ (He.frT (HandSHeadRun.getT s) adL))), (dn.map fun d => AM.gdHs d.1 (He.frT (HandSHeadRun.getT s) adL)), He.tabsB (HandSHeadRun.getT s) tf (He.frT (HandSHeadRun.getT s) adL))) (HandSHeadRun.endF (HandSHeadRun.stepQ (HandSHeadRun.denQ HandSHeadRun.tabQ) R.prog w) 20000 R.prog w os) = some (true, fn.map He5.DefA.val, fx.map DefX.val, (dn.map fun d => d.2.map fun p => hashStr w p.1), true) := by
  kernel_rfl
theorem run (w : World) : HandSHeadRun.RunEq R (PySem.W.view R.prog [47]) hk ob 20000 loose w := fun os => join3 (run1 w os) (obJ (run2 w os) (run4 w os) (run3 w os))
end Bk
set_option Elab.async false
set_option linter.all false
set_option maxRecDepth 100000
set_option maxHeartbeats 4000000
namespace AM
open PySem
end AM
namespace AM
open PySem
end AM
set_option Elab.async false
set_option linter.all false
set_option maxRecDepth 100000
set_option maxHeartbeats 4000000
namespace AM
open PySem
section
variable {a b : MS} {f g0 : ME} {ε ε1 : Ev} {S S1 S2 : Sto} {w w1 : W} {r : Rt} {i n : Nat} {d : D}
theorem consS {fs : MA} {ws : List W} (h : f ε S = .ok w S1) (h1 : fs ε S1 = .ok ws S2) : cCons f fs ε S = .ok (w :: ws) S2 := by simp only [cCons, h, h1, Rs.bind]
end
end AM
namespace AM
open PySem
end AM
namespace AM
open PySem
end AM
namespace AM
open PySem
end AM
namespace AM
open PySem
/-- arguments that are all values -/
inductive ArgsV (ε : Ev) : Sto → MA → List D → Sto → Prop
  | nil {S : Sto} : ArgsV ε S cNil [] S
  | cons {S S1 S2 : Sto} {f : ME} {fs : MA} {d : D} {ds : List D} (h : f ε S = .ok (.val d) S1) (r : ArgsV ε S1 fs ds S2) : ArgsV ε S (cCons f fs) (d :: ds) S2
theorem ArgsV.ok {ε : Ev} {S S1 : Sto} {fs : MA} {ds : List D} (h : ArgsV ε S fs ds S1) : fs ε S = .ok (ds.map W.val) S1 := by
  induction h with
  | nil => rfl
  | cons h r ih => exact consS h ih
end AM
namespace AM
end AM
namespace AM
open PySem
end AM
set_option Elab.async false
set_option linter.all false
set_option maxRecDepth 100000
set_option maxHeartbeats 4000000
namespace AM
open PySem
end AM
set_option Elab.async false
set_option linter.all false
set_option maxRecDepth 100000
set_option maxHeartbeats 4000000
namespace Bk
open PySem AM
open PyProof.Rows (isDisplay)
end Bk
set_option Elab.async false
set_option linter.all false
set_option maxRecDepth 100000
set_option maxHeartbeats 4000000
namespace Bk
open PySem AM
end Bk
set_option Elab.async false
set_option linter.all false
set_option maxRecDepth 100000
set_option maxHeartbeats 4000000
namespace Bk
open PySem AM
end Bk
set_option Elab.async false
set_option linter.all false
set_option maxRecDepth 100000
set_option maxHeartbeats 4000000
namespace Bk
open PySem PySem.Spec PyProof.Rows L2 PySem.NumText
open PySem.W (Frag)
instance lawAmb : AM.Amb := AM.ambOf tf
end Bk
set_option Elab.async false
set_option linter.all false
set_option maxRecDepth 100000
set_option maxHeartbeats 0
namespace Bk
open PySem PySem.Spec PyProof.Rows L2
open PySem.W (Frag)
end Bk
open PySem PySem.W PySem.Calls PyProof.Rows

end Hoisted
set_option Elab.async false
set_option linter.all false
set_option maxRecDepth 100000
set_option maxHeartbeats 4000000
namespace Bk
open PySem PySem.Spec PyProof.Rows L2
/-- as the layer's promise of a def, where the guards are known to be none -/
structure FnG (P : Program) (w : World) (K : PySem.W.Frag) (mg : Str → Option Value) (base : Heap)
    (CX : CXT) (k : Nat) (f : Addr) (fd : FuncData) (ps : List Str) (sp : Sp) : Prop where
  len : ∀ vs H Q E, sp vs H Q E → vs.length = ps.length
  run : ∀ (A : Around) (outer : List Env) (s : Shared) (H : Hp) (args : Args) (us : List Value) (vs : List V)
    (Q : VK) (E : XK), A.guards = some [] → Room k A → Env0 P w K mg base A outer s H →
    BindsTo s fd args (ps.zip us) → Vals vs us → sp vs H Q E →
    codeAny (model P w) A (.call (.ref f) args) (CR CX outer P w H s Q E) s
theorem fnG_of {CX : CXT} {P : Program} {w : World} {K : PySem.W.Frag} {mg : Str → Option Value} {base : Heap} {k : Nat}
    {f : Addr} {name qual : Str} {params : Arguments} {body : List Stmt} {scope : Scope}
    {dV kV doc pm cdv ct oc : Value} {an od : Option Addr} {osl : Array (Option Value)} {N ps : List Str} {sp : Sp}
    (lk : K.lookup f = some ⟨oc, od, .func (PySem.W.fnOf name qual params body scope dV kV doc pm an cdv ct), osl⟩)
    (hcd : PySem.W.codeIn K cdv qual = true) (S : FnScope N ps scope)
    (len : ∀ vs H Q E, sp vs H Q E → vs.length = ps.length)
    (hbody : ∀ (A : Around) (outer : List Env) (s : Shared) (H : Hp) (vs : List V) (Q : VK) (E : XK), A.guards = some [] →
      Room k (A.deeper (envOfC qual scope s.heap.objs.size f cdv)) → sp vs H Q E →
      ∃ t, PSs (cxOf CX P w K mg base N qual scope f cdv A outer s H E) body t ∧
        t { nx := fun _ H' => Q .non H', rt := Q } (start N vs) H) :
    FnG P w K mg base CX (k + 1) f (PySem.W.fnOf name qual params body scope dV kV doc pm an cdv ct) ps sp := by
  refine ⟨len, fun A outer s H args us vs Q E hG hr e0 hb r hsp => ?_⟩
  have hl := len vs H Q E hsp
  have old : ∀ b o, base.get? b = some o → s.heap.get? b = some o := fun b o e => (e0.bs b o e).1
  have KX : K.In s.heap := e0.mod.kin.keeps old
  have lim : s.heap.NoLimit := e0.mod.nolimit.keeps old
  have hkind : ∀ y ∈ ps.zip us, scope.names.lookup y.1 = some .local ∨
      (scope.names.lookup y.1 = some .cell ∧ ((cellsFrom (s.heap.objs.size + 1) scope.names []).lookup y.1).isSome = true) := by
    rintro ⟨n, v⟩ hy
    exact (S.par n (List.of_mem_zip hy).1).elim Or.inl fun q => Or.inr ⟨q, PySem.W.cellsFrom_some _ _ _ (Or.inl q)⟩
  refine codeAny_call_function hr.depth (KX _ _ lk) rfl S.co S.gen rfl (PySem.W.codeRec_of KX hcd) (hb _ _ _ _ ?_)
  refine wpAny_newFunctionEnv_cells S.kind hkind ?_
  intro env he s1 x
  subst he
  refine ⟨lim.keeps x.toInCall.keep, codeAny_func ?_⟩
  obtain ⟨t, ht, hq⟩ := hbody A outer s H vs Q E hG (hr.deeper _) hsp
  have J0 : Inv (cxOf CX P w K mg base N qual scope f cdv A outer s H E) [] (start N vs) H s1 := inv_start S hr.hd e0 hl r x
  refine wpAny_mono (ht.run [] s1 (start N vs) H _ J0 hq) ?_ (fun e s' hs => hs)
  intro fl s' hs
  cases fl with
  | ret u =>
    obtain ⟨v, σ', H', J, rv, q⟩ := hs
    exact ⟨v, H', J.os, J.bare, J.base, J.hok, rv, q⟩
  | next =>
    obtain ⟨σ', H', J, q⟩ := hs
    exact ⟨V.non, H', J.os, J.bare, J.base, J.hok, rfl, q⟩
  | brk =>
    obtain ⟨_, _, _, q⟩ := hs
    exact q.elim
  | cont =>
    obtain ⟨_, _, _, q⟩ := hs
    exact q.elim
section
variable {X : Cx} {CX : CXT} {k : Nat} {f : Addr} {fd : FuncData} {ps : List Str} {sp : Sp} {ds : List Value} {dvs : List V} {E : XK}
theorem run_fnG {pins : List (Addr × Obj)} {σ : L2.St} {H : Hp} {s : Shared} {Q : VK} {us : List Value} {vs : List V}
    (F : FnG X.prog X.w X.K X.mg X.base CX k f fd ps sp) (hG : X.A.guards = some []) (hr : Room k X.A)
    (hb : Binds X.K fd ps ds) (hd : Vals dvs ds) (hx : Passes CX X E) (I : Inv X pins σ H s) (r : Vals vs us)
    (h : sp (vs ++ dvs) H Q E) : wpAny (model X.prog X.w) X.A (call (.ref f) us) (EP X pins σ Q) X.xe s := by
  have r2 : Vals (vs ++ dvs) (us ++ ds) := r.append hd
  have hl : (us ++ ds).length = ps.length := r2.length ▸ F.len _ _ _ _ h
  have go := F.run X.A X.stack s H ⟨us, []⟩ (us ++ ds) (vs ++ dvs) Q E hG hr I.env0 (hb s us I.kIn hl) r2 h
  refine wpAny_call (codeAny_mono go ?_)
  intro rr s' hq
  match rr, hq with
  | .error e, hq => exact hx pins σ H s e s' I hq
  | .ok (.ret u), hq => exact I.after hq
  | .ok .next, hq => exact hq.elim
  | .ok .brk, hq => exact hq.elim
  | .ok .cont, hq => exact hq.elim
theorem pe_callG {x : Str} {p pos : Pos} {e : Expr} {es : List Expr} {t : TA}
    (F : FnG X.prog X.w X.K X.mg X.base CX k f fd ps sp) (hG : X.A.guards = some []) (hr : Room k X.A) (hg : Gl X x)
    (hm : X.mg x = some (.ref f)) (hk : PySem.W.keepIn X.K (.ref f) = true) (hb : Binds X.K fd ps ds)
    (hd : Vals dvs ds) (hx : Passes CX X E) (ha : PA X (e :: es) t) (hdb : (x == ("__debug__" : Str)) = false := by decide)
    (he : starEach (e :: es) X.env = (false, eval e X.env) :: starEach es X.env := by rfl)
    (hpl : (backTo pos (starEach es X.env)).any (·.1) = false := by rfl) :
    PE X (.Call (.Name x p) (e :: es) [] pos) (tCall sp dvs E t) := by
  refine ⟨fun pins s σ H Q I h => wpAny_Call_Name_kw (ld_glob I hg hm ?_ hdb)⟩
  refine PySem.W.callWith_K (h₀ := X.base) I.ok.mod.kin hk (thn (ha.run pos pins s σ H _ I h) ?_) he hpl
  rintro us s1 ⟨vs, H1, I1, r, q⟩
  exact ⟨I1.kIn, run_fnG F hG hr hb hd hx I1 r q⟩
end
section
variable {X : Cx}
def rRepr (K : PySem.W.Frag) : List V → Hp → VK → Prop := fun xs H Q =>
  ∃ v d, xs = [v] ∧ Dp K H v d ∧ isDisplay d = true ∧ d.showable = true ∧ d.depth ≤ 60 ∧ d.shown.length ≤ sizeLine ∧ Q (.str d.shown) H
mutual
theorem dp_noDict {K : PySem.W.Frag} {H : Hp} : ∀ (d : PyData) (v : V), Dp K H v d → d.hasDict = false
  | .none, _, _ => rfl
  | .bool _, _, _ => rfl
  | .int _, _, _ => rfl
  | .str _, _, _ => rfl
  | .list ds, _, h => by
    cases h with
    | lst _ h2 => exact dp_noDictAll ds _ h2
  | .tuple ds, _, h => by
    cases h with
    | tup _ h2 => exact dp_noDictAll ds _ h2
  | .dict _, _, h => nomatch h
theorem dp_noDictAll {K : PySem.W.Frag} {H : Hp} : ∀ (ds : List PyData) (vs : List V), DpAll K H vs ds → PyData.hasDictAll ds = false
  | [], _, _ => rfl
  | d :: ds, _, h => by
    cases h with
    | cons h1 h2 =>
      show (d.hasDict || PyData.hasDictAll ds) = false
      rw [dp_noDict d _ h1, dp_noDictAll ds _ h2]
      rfl
end
theorem call_repr (hG : X.A.guards = some []) (hu : X.A.units + 64 < cLine) : CallR X (.builtin "repr") (rRepr X.K) := by
  intro pins s σ H xs us Q I r h
  obtain ⟨v, d, rfl, hd, hds, hs, hdp, hsz, q⟩ := h
  obtain ⟨u, rfl, ru⟩ := r.one
  obtain ⟨as, rd⟩ := Dp.reads I d v u hd ru
  obtain ⟨a, rfl⟩ := isRef_of_reads rd hds
  refine repr_of_reads' rd hs (PyData.noDict_hsm (dp_noDict d v hd)) hG (by omega) (fun _ _ e => e) ?_ hsz
  intro h' t tk hk
  exact ⟨.str d.shown, H, I.kept (t' := tk) hk, ⟨t, rfl⟩, q⟩
end
end Bk
set_option Elab.async false
set_option linter.all false
set_option maxRecDepth 100000
set_option maxHeartbeats 4000000
namespace Bk
open PySem PySem.Spec PyProof.Rows L2
open PySem.W (Frag)
theorem SaysB.def_ {ex : Frag → Bool} {fn : List He5.DefA} {K : Frag} (c : SaysB ex fn K) (i : Nat) {d : He5.DefA} (h : fn[i]? = some d := by rfl) :
    ∃ fd, FunD K d.name d.qual d.params d.body d.scope (d.dvs K) (d.kws K) (d.at_ K) fd := by
  have c2 := (He.ba (congrArg (fun z : He.AlD => z.1) c)).2
  have e : (fn.map fun d => He5.fnA K (d.at_ K))[i]? = (fn.map He5.DefA.val)[i]? := congrArg (fun z : He.AlD => z.2[i]?) c
  rw [List.getElem?_map, List.getElem?_map, h] at e
  exact He5.DefA.funD (Option.some.inj e) (List.all_eq_true.mp c2 d (List.mem_of_getElem? h))
end Bk
set_option Elab.async false
set_option linter.all false
set_option maxRecDepth 100000
set_option maxHeartbeats 4000000
namespace L2C
open PySem PySem.Spec PyProof.Rows L2
/-- each of them is there -/
theorem Ch.each {R : Addr → Obj → Prop} : ∀ {l : List Addr} {a : Addr}, Ch R a l → ∀ x ∈ a :: l, ∃ o vs, R x o ∧ o.data = .fields vs
  | _, _, .nil h d c, x, hx => by
    rw [List.mem_singleton] at hx
    subst hx
    exact ⟨_, _, h, d⟩
  | _, _, .cons h d c n r, x, hx => by
    rcases List.mem_cons.mp hx with rfl | hx
    · exact ⟨_, _, h, d⟩
    · exact r.each x hx
theorem steady_cn {R : Addr → Obj → Prop} {l : List Addr} : PXN.Steady1 (Cn R l) := fun o v h => by
  obtain ⟨c, d, dt, sl⟩ := o
  cases dt with
  | fields vs0 =>
    intro vs e
    have e2 : vs0.setIfInBounds 1 v = vs := Data.fields.inj e
    have e3 : (vs0.setIfInBounds 1 v)[2]? = vs0[2]? := by
      first
      | exact Array.getElem?_setIfInBounds_ne (by decide)
      | simp [Array.getElem?_setIfInBounds]
    rw [← e2, e3]
    exact h vs0 rfl
  | _ =>
    intro vs e
    first
    | exact Data.noConfusion e
    | cases e
theorem Zk.steady {B : Heap} {H : Hp} {cls : Value} {d : Option Addr} : PXN.Steady1 (Zk B H cls d) := fun o v ⟨h1, h2, l, h3, h4⟩ => ⟨PXN.steady_cls o v h1, PXN.steady_dict o v h2, l, steady_cn o v h3, h4⟩
theorem Zk.alone {B : Heap} {H : Hp} {cls : Value} {d : Option Addr} {o : Obj} (h : L2N.Zn cls d o) : Zk B H cls d o := ⟨h.1, h.2.1, [], fun vs e => .inl ⟨rfl, h.2.2 vs e⟩, fun x hx => by cases hx⟩
section
variable {X : Cx} {pins : List (Addr × Obj)} {σ : L2.St} {H : Hp} {sI s s' : Shared} {B : Heap} {W : WX} {E : XK}
theorem XE.of_call (I : Inv X pins σ H s) (hW : ∀ cls d H', E cls d H' → W cls d σ H') {u : Value} (c : CX X.prog X.w X.stack H s E u s') : XE X W u s' := by
  obtain ⟨a, B, H', cls, d, rfl, fly, hok, ub, na, hos, bare, hE⟩ := c
  have stays : B.StaysIn s'.heap := fly.1
  obtain ⟨G, in1, out1⟩ := restrict s'.heap fun b => (B.get? b).isSome || decide (b ∈ frs X.stack)
  have ground : ∀ b o, B.get? b = some o → G.get? b = some o := fun b o e => by
    rw [in1 b (by simp [e])]
    exact stays b o e
  have frame : ∀ b, b ∈ frs X.stack → G.get? b = s'.heap.get? b := fun b hb => in1 b (by simp [hb])
  have only : ∀ b o, G.get? b = some o → s'.heap.get? b = some o ∧ ((B.get? b).isSome = true ∨ b ∈ frs X.stack) := fun b o e => by
    cases q : ((B.get? b).isSome || decide (b ∈ frs X.stack)) with
    | true =>
      rw [in1 b q] at e
      exact ⟨e, by simpa [Bool.or_eq_true] using q⟩
    | false =>
      rw [out1 b q] at e
      cases e
  have I' : Inv X pins σ H' { s with heap := G, gens := s'.gens, drawn := s'.drawn, toks := s'.toks } := by
    refine I.call (ch := []) ⟨fun b o e n hb _ => ground b o (ub.keep b o e n hb), fun b o e n hb _ => ?_, fun b o e n _ => ub.free b o e n, fun b o e _ => ?_, ub.tups, ub.frzs, ub.tbls⟩ (hok.kept ground) bare (fun _ z => nomatch z)
    · obtain ⟨sl, q⟩ := ub.slot b o e hb
      exact ⟨sl, by rw [frame b hb]; exact q⟩
    · by_cases hb : b ∈ frs X.stack
      · obtain ⟨sl, q⟩ := ub.slot b o e hb
        exact ⟨_, by rw [frame b hb]; exact q⟩
      · obtain ⟨o', q⟩ := ub.there b o e hb
        exact ⟨o', ground b o' q⟩
  refine ⟨a, B, _, pins, σ, H', cls, d, rfl, I', fun b o e hb => ?_, Heap.UpToSlots.of_keeps fun b o e => (only b o e).1, .inr (.inl fly), na, hos, bare, hW _ _ _ hE⟩
  obtain ⟨e1, h1⟩ := only b o e
  rcases h1 with h1 | h1
  · obtain ⟨o2, e2⟩ := Option.isSome_iff_exists.mp h1
    have e3 := stays b o2 e2
    rw [e1] at e3
    cases e3
    exact e2
  · exact absurd h1 hb
/-- a new exception is in our air -/
theorem XE.new {a : Addr} {oe : Obj} {vs : Array Value} {cls : Value} {d : Option Addr} (I : Inv X pins σ H sI) (k : ∀ b o, sI.heap.get? b = some o → s'.heap.get? b = some o) (hne : sI.heap.get? a = none) (he : s'.heap.get? a = some oe)
    (hz : Zk (PySem.W.hideAll sI.heap (frs X.stack)) H cls d oe) (hd : oe.data = .fields vs) (h1 : vs[1]? = some .none) (na : H a = none) (hos : s'.os = sI.os) (bare : AllBare s'.gens) (w : W cls d σ H) : XE X W (.ref a) s' := by
  have out : (PySem.W.hideAll sI.heap (frs X.stack)).get? a = none := by
    cases q : (PySem.W.hideAll sI.heap (frs X.stack)).get? a with
    | none => rfl
    | some o =>
      have z := PySem.W.of_hideAll _ q
      rw [hne] at z
      cases z
  exact ⟨a, PySem.W.hideAll sI.heap (frs X.stack), sI, pins, σ, H, cls, d, rfl, I, fun b o e hb => PySem.W.hideAll_get _ e hb, Heap.UpToSlots.of_keeps k,
    .inl ⟨fun b o e => k b o (PySem.W.of_hideAll _ e), out, Heap.FunFrames.of_keeps (fun b o e _ => ⟨o, k b o e, rfl⟩) (funFrames_none I.stack fun b hb => PySem.W.hideAll_none _ hb), oe, vs, he, hz, hd, h1⟩, na, hos, bare, w⟩
/-- it leaves the def -/
theorem XE.leave (hs : X.stack = X.env :: X.outer) (hf : X.env.frame = some X.env.locals) (hex : X.ex = []) {E₁ : Value → Shared → Prop} (hW : ∀ cls d σ H, W cls d σ H → E cls d H) {u : Value} (x : XE X W u s') :
    wpAny (model X.prog X.w) X.A (leaving X.env u) (fun _ s'' => CX X.prog X.w X.outer X.H_0 X.s_0 E u s'') E₁ s' := by
  obtain ⟨a, B, sI, pins, σ, H, cls, d, rfl, I, ground, ups, sky, na, hos, bare, w⟩ := x
  have frX : X.A.frames = some (X.env :: X.outer) := by rw [I.ok.frames, hs]
  have noEx : ∀ b, b ∉ X.ex := fun b hb => by rw [hex] at hb; cases hb
  have old : ∀ b o, X.s_0.heap.get? b = some o → b ∉ X.fs → b ∉ frs X.stack := fun b o e hb hm => by
    rcases List.mem_cons.mp (I.stkSub b hm) with z | z
    · have h1 := Heap.lt_size e
      have h2 := I.ok.above
      rw [z] at h1
      exact absurd (Nat.lt_of_lt_of_le h1 h2) (Nat.lt_irrefl _)
    · exact hb z
  have hokB := I.inGround ground
  have done : ∀ h', HandSPX.FlyingZ B X.outer a (Zk B H cls d) h' → s'.heap.UpToSlots h' → CX X.prog X.w X.outer X.H_0 X.s_0 E (.ref a) { s' with heap := h' } := fun h' fly up' => by
    refine ⟨a, B, H, cls, d, rfl, fly, hokB, ⟨fun b o e n hb => ground b o (I.base.keep b o e n hb (noEx b)) (old b o e hb), fun b o e hb => ?_, fun b o e n => I.base.free b o e n (noEx b), fun b o e hb => ?_, I.base.tups, I.base.frzs, I.base.tbls⟩, na, hos.trans I.os, bare, hW _ _ _ _ w⟩
    · obtain ⟨_, o₀, e₀, nf⟩ := I.ok.funs.mem hb
      rw [e] at e₀
      cases e₀
      obtain ⟨s1, e1⟩ := I.base.slot b o e (I.ok.frf b hb) hb (noEx b)
      obtain ⟨s2, e2⟩ := ups b _ e1 nf
      obtain ⟨s3, e3⟩ := up' b _ e2 nf
      exact ⟨s3, e3⟩
    · obtain ⟨o', e1⟩ := I.base.there b o e (noEx b)
      exact ⟨o', ground b o' e1 (old b o e hb)⟩
  rw [hs] at sky
  rcases sky with ⟨hB, hn, hl, oe, vs, he, hz, hd, h1⟩ | fly | held
  · exact PXN.leaving_firstZ Zk.steady frX hl hf he hB hn hd h1 hz done
  · exact PXN.leaves_onZ Zk.steady frX hf fly done
  · exact HandSPX.leaves_heldZ hf held done
theorem takes_of (hs : X.stack = X.env :: X.outer) (hf : X.env.frame = some X.env.locals) (hex : X.ex = []) {E₁ : Value → Shared → Prop}
    (hx : X.xe = fun e s' => wpAny (model X.prog X.w) X.A (leaving X.env e) (fun _ s'' => CX X.prog X.w X.outer X.H_0 X.s_0 E e s'') E₁ s') : Takes X (fun cls d _ H => E cls d H) := fun u s' x => by
  rw [hx]
  exact XE.leave (W := fun cls d _ H => E cls d H) (E := E) hs hf hex (fun _ _ _ _ h => h) x
theorem passes_call (tk : Takes X W) (hW : ∀ cls d σ H, E cls d H → W cls d σ H) : ∀ (pins : List (Addr × Obj)) (σ : L2.St) (H : Hp) (s : Shared) (e : Value) (s' : Shared), Inv X pins σ H s → CX X.prog X.w X.stack H s E e s' → X.xe e s' :=
  fun _ σ _ _ e s' I c => tk e s' (XE.of_call I (fun cls d H' h => hW cls d σ H' h) c)
theorem Sky.land {M : Model} {A : Around} {E₁ : Value → Shared → Prop} {env : Env} {outer : List Env} {L a : Addr} {Z : Obj → Prop} {Q : Unit → Shared → Prop} (hZ : PXN.Steady1 Z) (hfr : A.frames = some (env :: outer)) (hf : env.frame = some L)
    (x : Sky B (env :: outer) a Z L s.heap) (hQ : ∀ h', HandSPX.FlyingZ B (env :: outer) a Z h' → s.heap.UpToSlots h' → Q () { s with heap := h' }) :
    wpAny M A (noteFrame (.ref a) env) (fun _ s₂ => wpAny M A (setFlight (.ref a) none) Q E₁ s₂) E₁ s := L2N.Sky.land hZ hfr hf x hQ
end
abbrev PMk := L2N.PMk
theorem ps_raise {X : Cx} {W : WX} {e : Expr} {t : L2.St → Hp → XK → Prop} {pos : Pos} (hc : X.calm = true) (tk : Takes X W) (he : PMk X e t) : PS X (.Raise (some e) none pos) (fun _ σ H => t σ H fun cls d H' => W cls d σ H') := by
  refine ⟨fun pins s σ H D I h => ?_⟩
  show wpAny _ _ (do standAt pos; raiseStmt X.env (some (do let v ← eval e X.env; standAt pos; pure v)) none) _ _ _
  refine wpAny_bind (wpAny_standAt (raise_made (I.ok.hd hc) (wpAny_bind (wpAny_mono (he pins s σ H _ I h) (fun u s1 hu => wpAny_bind (wpAny_standAt (wpAny_pure ?_))) fun _ _ x => x))))
  obtain ⟨a, oe, vs, sI, H', cls, d, rfl, J, k, hne, ha, hz, hd, h1, na, hos, bare, r, q⟩ := hu
  obtain ⟨r1, r2⟩ := r (model X.prog X.w) s1.heap (J.kIn.keeps k)
  exact ⟨a, oe, vs, cls, rfl, ha, hz.1, hd, h1, r1, r2, tk _ _ (XE.new J k hne ha (.alone hz) hd h1 na hos bare q)⟩
theorem HotC.at {X : Cx} {pins : List (Addr × Obj)} {σ : L2.St} {H : Hp} {s : Shared} (c : HotC X) (I : Inv X pins σ H s) : ∃ (a : Addr) (l : List Addr), X.A.handled = some (.ref a) ∧ Ch (fun b o => s.heap.get? b = some o) a l ∧ ∀ x ∈ a :: l, H x = none ∧ x ∉ frs X.stack := by
  obtain ⟨a, l, hh, ch⟩ := c
  refine ⟨a, l, hh, ch.mono fun b o hm => (I.pin (b, o) (List.mem_append_left _ hm)).1, fun x hx => ?_⟩
  obtain ⟨o, vs, hm, _⟩ := ch.each x hx
  obtain ⟨_, p2, p3, p4, _⟩ := I.pin (x, o) (List.mem_append_left _ hm)
  exact ⟨p2, fun z => (List.mem_cons.mp (I.stkSub x z)).elim p3 p4⟩
end L2C
namespace L2C
open PySem PySem.Spec PyProof.Rows L2
section
variable {X : Cx} {pins : List (Addr × Obj)} {σ : L2.St} {H : Hp} {s : Shared} {B : Heap} {a : Addr} {cls : Value} {d : Option Addr}
/-- into the suite: all that stands behind the exception is pinned -/
theorem enter (J : Inv X pins σ H s) (hf : X.env.frame = some X.env.locals) (fly : HandSPX.FlyingZ B (X.env :: X.outer) a (Zk B H cls d) s.heap) (na : H a = none) :
    ∃ (oe : Obj) (cp : List (Addr × Obj)), Held a oe cls d (X.pn ++ (cp ++ pins)) ∧ (∃ vs, oe.data = .fields vs) ∧ Inv (X.suite a ((a, oe) :: (X.pn ++ (cp ++ pins)))) [] σ H s := by
  obtain ⟨stays, outB, ff, _⟩ := id fly
  obtain ⟨oe, vs, ge, ze, de⟩ := fly.there
  have noFrame : ∀ {x : Addr} {o : Obj} {us : Array Value}, s.heap.get? x = some o → o.data = .fields us → x ≠ X.env.locals ∧ x ∉ X.fs := by
    intro x o us g dd
    have nf : x ∉ frs (X.env :: X.outer) := fun hm => by
      obtain ⟨_, o2, g2, n2⟩ := ff.mem hm
      rw [g] at g2
      cases g2
      exact n2 _ dd
    exact ⟨fun z => nf (List.mem_filterMap.mpr ⟨X.env, List.mem_cons_self, by rw [hf, z]⟩), fun hm => by
      obtain ⟨ev, hev, q⟩ := List.mem_filterMap.mp hm
      exact nf (List.mem_filterMap.mpr ⟨ev, List.mem_cons_of_mem _ hev, q⟩)⟩
  obtain ⟨z1, z2, l, hc, hn⟩ := ze
  obtain ⟨nL, nF⟩ := noFrame ge de
  obtain ⟨cp, k1, k2⟩ : ∃ cp : List (Addr × Obj), (∀ pn, (∀ p ∈ cp, p ∈ pn) → ∃ l, Ch (fun b o => (b, o) ∈ (a, oe) :: pn) a l) ∧ ∀ p ∈ cp, s.heap.get? p.1 = some p.2 ∧ H p.1 = none ∧ p.1 ≠ X.env.locals ∧ p.1 ∉ X.fs ∧ ∀ v, p.2.data ≠ .cell v := by
    rcases hc vs de with ⟨rfl, c2⟩ | ⟨b, l', rfl, c2, ch⟩
    · exact ⟨[], fun pn _ => ⟨[], .nil List.mem_cons_self de c2⟩, fun p hp => by cases hp⟩
    · obtain ⟨cp, h1, h2⟩ := ch.pins
      have nin : a ∉ b :: l' := fun hm => by
        obtain ⟨o, us, e, _⟩ := ch.each a hm
        have e : B.get? a = some o := e
        rw [outB] at e
        cases e
      refine ⟨cp, fun pn hp => ⟨b :: l', .cons List.mem_cons_self de c2 nin (h1.mono fun x o hx => List.mem_cons_of_mem _ (hp _ hx))⟩, fun p hp => ?_⟩
      obtain ⟨h3, h4, us, h5⟩ := h2 p hp
      have g := stays _ _ h4
      obtain ⟨m1, m2⟩ := noFrame g h5
      exact ⟨g, hn _ h3, m1, m2, fun v z => by rw [h5] at z; cases z⟩
  have J2 : Inv X (cp ++ pins) σ H s := J.pins_of fun p hp => (List.mem_append.mp hp).elim (k2 p) fun z => J.pin p (List.mem_append_right _ z)
  exact ⟨oe, cp, ⟨z1, z2, k1 _ fun p hp => List.mem_append_right _ (List.mem_append_left _ hp)⟩, ⟨_, de⟩, J2.suite ge de na nL nF⟩
theorem out_of {oe : Obj} {cp pn' : List (Addr × Obj)} (I : Inv (X.suite a ((a, oe) :: (X.pn ++ (cp ++ pins)))) pn' σ H s) (ok : X.Ok) : Inv X pins σ H s :=
  (I.unsuite ok).pins_of fun p hp => (I.unsuite ok).pin p (List.mem_append_right _ (List.mem_append_right _ hp))
end
end L2C
set_option Elab.async false
set_option linter.all false
set_option maxRecDepth 100000
set_option maxHeartbeats 4000000
namespace Bk
open PySem PySem.Spec PyProof.Rows L2
open PySem.W (Frag)
structure DOk (P : Program) (w : World) (K : Frag) (mg : Str → Option Value) (base : Heap) (k : Nat) (x : Str) (ps : List Str) (sp : Sp) : Prop where
  ok : ∃ fd, FnOk P w K mg base (L2C.CX P w) k (He.ga K x) fd ps sp ∧ Binds K fd ps [] ∧ ∃ oc od osl, K.lookup (He.ga K x) = some ⟨oc, od, .func fd, osl⟩
  g : mg x = some (.ref (He.ga K x))
  kp : PySem.W.keepIn K (.ref (He.ga K x)) = true
section
variable {P : Program} {w : World} {K : Frag} {mg : Str → Option Value} {base : Heap}
/-- from the def's text and its body -/
theorem dok_of {x : Str} {st : Stmt} {N ps : List Str} {k : Nat} {sp : Sp} {kws : List (Str × V)}
    (F : ∃ fd, FunD K x x (defArgs st) (defBody st) (defScope st) [] kws (He.ga K x) fd) (g : mg x = some (.ref (He.ga K x))) (S : FnScope N ps (defScope st))
    (hb : ∀ (kV doc pm : Value) (an : Option Addr) (cdv ct : Value) (us : List Value), us.length = ps.length →
      bindArgs (PySem.W.fnOf x x (defArgs st) (defBody st) (defScope st) .none kV doc pm an cdv ct) ⟨us, []⟩ = pure (ps.zip us))
    (len : ∀ vs H Q E, sp vs H Q E → vs.length = ps.length)
    (hbody : ∀ (cdv : Value) (A : Around) (outer : List Env) (s : Shared) (H : Hp) (vs : List V) (Q : VK) (E : XK),
      Room k (A.deeper (envOfC x (defScope st) s.heap.objs.size (He.ga K x) cdv)) → sp vs H Q E →
      ∃ t, PSs (cxOf (L2C.CX P w) P w K mg base N x (defScope st) (He.ga K x) cdv A outer s H E) (defBody st) t ∧
        t { nx := fun _ H' => Q .non H', rt := Q } (start N vs) H) :
    DOk P w K mg base (k + 1) x ps sp := by
  obtain ⟨fd, F⟩ := F
  obtain ⟨oc, od, dV, kV, doc, pm, an, cdv, ct, osl, _, lk, _⟩ := id F.ex
  exact ⟨⟨fd, F.ok S len hbody, F.bindsN hb, _, _, _, lk⟩, g, F.kp⟩
end
section
variable {X : Cx} {k : Nat} {x : Str} {ps : List Str} {sp : Sp} {E : XK} {p pos : Pos} {e : Expr} {es : List Expr} {t : TA}
theorem pe_callD (D : DOk X.prog X.w X.K X.mg X.base k x ps sp) (hr : Room k X.A) (hg : Gl X x) (hx : Passes (L2C.CX X.prog X.w) X E)
    (ha : PA X (e :: es) t) (hdb : (x == ("__debug__" : Str)) = false := by decide)
    (he : starEach (e :: es) X.env = (false, eval e X.env) :: starEach es X.env := by rfl)
    (hpl : (backTo pos (starEach es X.env)).any (·.1) = false := by rfl) :
    PE X (.Call (.Name x p) (e :: es) [] pos) (tCall sp [] E t) := by
  obtain ⟨⟨fd, F, b, _⟩, g, kp⟩ := D
  exact pe_call F hr hg g kp b .nil hx ha hdb he hpl
end
section
variable {P : Program} {w : World} {K : Frag} {mg : Str → Option Value} {base : Heap} {N : List Str} {qual : Str} {scope : Scope} {f : Addr} {cd : Value} {A : Around} {outer : List Env} {s : Shared} {H : Hp} {E : XK}
/-- what a callee lets out leaves this def, too -/
theorem passE : Passes (L2C.CX P w) (cxOf (L2C.CX P w) P w K mg base N qual scope f cd A outer s H E) E :=
  L2C.passes_call (X := cxOf (L2C.CX P w) P w K mg base N qual scope f cd A outer s H E) (L2C.takes_of rfl rfl rfl rfl) (fun _ _ _ _ h => h)
theorem ownE : PassesOwn (model P w) (A.deeper (envOfC qual scope s.heap.objs.size f cd)) (envOfC qual scope s.heap.objs.size f cd) (cxOf (L2C.CX P w) P w K mg base N qual scope f cd A outer s H E).xe :=
  passes_of (X := cxOf (L2C.CX P w) P w K mg base N qual scope f cd A outer s H E) rfl
end
/-- where nothing may be raised -/
theorem passL {X : Cx} : Passes (L2C.CX X.prog X.w) X (fun _ _ _ => False) := fun _ _ _ _ _ _ _ h => by
  obtain ⟨_, _, _, _, _, _, _, _, _, _, _, _, z⟩ := h
  exact z.elim
mutual
theorem dpS {K : Frag} {H H' : Hp} (e : Same H H') : ∀ {d : PyData} {v : V}, Dp K H v d → Dp K H' v d
  | .none, _, h => by cases h; exact .non
  | .bool _, _, h => by cases h; exact .bl _
  | .int _, _, h => by cases h; exact .int _
  | .str _, _, h => by cases h; exact .str _
  | .list ds, _, h => by
    cases h with
    | lst h1 h2 => exact .lst (e.seq h1) (dpsS e h2)
  | .tuple ds, _, h => by
    cases h with
    | tup h1 h2 => exact .tup (Same.tup e h1) (dpsS e h2)
  | .dict _, _, h => nomatch h
theorem dpsS {K : Frag} {H H' : Hp} (e : Same H H') : ∀ {ds : List PyData} {vs : List V}, DpAll K H vs ds → DpAll K H' vs ds
  | [], _, h => by cases h; exact .nil
  | d :: ds, _, h => by
    cases h with
    | cons h1 h2 => exact .cons (dpS e h1) (dpsS e h2)
end
end Bk
set_option Elab.async false
set_option linter.all false
set_option maxRecDepth 100000
set_option maxHeartbeats 4000000
namespace Bk
open PySem PySem.Spec PyProof.Rows L2
open PySem.W (Frag)
end Bk
set_option Elab.async false
set_option linter.all false
set_option maxRecDepth 100000
set_option maxHeartbeats 4000000
namespace Bk
open PySem PySem.Spec PyProof.Rows L2
open PySem.W (Frag)
end Bk
set_option Elab.async false
set_option linter.all false
set_option maxRecDepth 100000
set_option maxHeartbeats 4000000
namespace Bk
open PySem PySem.Spec PyProof.Rows L2
open PySem.W (Frag)
structure GOk (P : Program) (w : World) (K : Frag) (mg : Str → Option Value) (base : Heap) (k : Nat) (x : Str) (ps : List Str) (sp : Sp) : Prop where
  ok : ∃ fd, FnG P w K mg base (L2C.CX P w) k (He.ga K x) fd ps sp ∧ Binds K fd ps []
  g : mg x = some (.ref (He.ga K x))
  kp : PySem.W.keepIn K (.ref (He.ga K x)) = true
section
variable {P : Program} {w : World} {K : Frag} {mg : Str → Option Value} {base : Heap}
theorem gok_of {x : Str} {st : Stmt} {N ps : List Str} {k : Nat} {sp : Sp} {kws : List (Str × V)}
    (F : ∃ fd, FunD K x x (defArgs st) (defBody st) (defScope st) [] kws (He.ga K x) fd) (g : mg x = some (.ref (He.ga K x))) (S : FnScope N ps (defScope st))
    (hb : ∀ (kV doc pm : Value) (an : Option Addr) (cdv ct : Value) (us : List Value), us.length = ps.length →
      bindArgs (PySem.W.fnOf x x (defArgs st) (defBody st) (defScope st) .none kV doc pm an cdv ct) ⟨us, []⟩ = pure (ps.zip us))
    (len : ∀ vs H Q E, sp vs H Q E → vs.length = ps.length)
    (hbody : ∀ (cdv : Value) (A : Around) (outer : List Env) (s : Shared) (H : Hp) (vs : List V) (Q : VK) (E : XK), A.guards = some [] →
      Room k (A.deeper (envOfC x (defScope st) s.heap.objs.size (He.ga K x) cdv)) → sp vs H Q E →
      ∃ t, PSs (cxOf (L2C.CX P w) P w K mg base N x (defScope st) (He.ga K x) cdv A outer s H E) (defBody st) t ∧
        t { nx := fun _ H' => Q .non H', rt := Q } (start N vs) H) :
    GOk P w K mg base (k + 1) x ps sp := by
  obtain ⟨fd, F⟩ := F
  obtain ⟨oc, od, dV, kV, doc, pm, an, cdv, ct, osl, rfl, lk, hcd, _, _⟩ := id F.ex
  exact ⟨⟨_, fnG_of lk hcd S len fun A outer s H vs Q E hG hr hsp => hbody cdv A outer s H vs Q E hG hr hsp, F.bindsN hb⟩, g, F.kp⟩
end
section
variable {X : Cx} {k : Nat} {x : Str} {ps : List Str} {sp : Sp} {E : XK} {p pos : Pos} {e : Expr} {es : List Expr} {t : TA}
theorem pe_callGD (D : GOk X.prog X.w X.K X.mg X.base k x ps sp) (hG : X.A.guards = some []) (hr : Room k X.A) (hg : Gl X x) (hx : Passes (L2C.CX X.prog X.w) X E)
    (ha : PA X (e :: es) t) (hdb : (x == ("__debug__" : Str)) = false := by decide)
    (he : starEach (e :: es) X.env = (false, eval e X.env) :: starEach es X.env := by rfl)
    (hpl : (backTo pos (starEach es X.env)).any (·.1) = false := by rfl) :
    PE X (.Call (.Name x p) (e :: es) [] pos) (tCall sp [] E t) := by
  obtain ⟨⟨fd, F, b⟩, g, kp⟩ := D
  exact pe_callG F hG hr hg g kp b .nil hx ha hdb he hpl
end
def letter (c : Nat) : Bool := decide (97 ≤ c) && decide (c ≤ 122)
def nameOk (x : Str) : Bool := decide (0 < x.length) && decide (x.length < 9) && x.cps.toList.all letter
end Bk
set_option Elab.async false
set_option linter.all false
set_option maxRecDepth 100000
set_option maxHeartbeats 4000000
namespace Bk
open PySem PySem.Spec PyProof.Rows L2 PySem.NumText
open PySem.W (Frag)
structure StOk (l : List (Str × Int)) : Prop where
  ne : l ≠ []
  few : l.length ≤ 5
  each : ∀ s ∈ l, nameOk s.1 = true ∧ 1 ≤ s.2 ∧ s.2 ≤ 40
  nd : (l.map (·.1)).Nodup
structure RdOk (ns : List Str) (l : List (Str × Str × Int)) : Prop where
  few : l.length ≤ 12
  each : ∀ r ∈ l, r.1 ∈ ns ∧ r.2.1 ∈ ns ∧ 1 ≤ r.2.2 ∧ r.2.2 ≤ 3
  nd : (l.map fun r => (r.1, r.2.1)).Nodup
end Bk
set_option Elab.async false
set_option linter.all false
set_option maxRecDepth 100000
set_option maxHeartbeats 4000000
namespace Bk
open PySem PySem.Spec PyProof.Rows L2
open PySem.W (Frag)
structure TownD where
  slots : Int
  stands : List (Str × Int)
  roads : List (Str × Str × Int)
def TownD.names (t : TownD) : List Str := t.stands.map (·.1)
structure TownD.Ok (t : TownD) : Prop where
  s1 : 1 ≤ t.slots
  s2 : t.slots ≤ 8
  st : StOk t.stands
  rd : RdOk t.names t.roads
end Bk
set_option Elab.async false
set_option linter.all false
set_option maxRecDepth 100000
set_option maxHeartbeats 4000000
namespace Bk
open PySem PySem.Spec PyProof.Rows L2
open PySem.W (Frag)
theorem Sh.shaped {n : Nat} {d : PyData} (h : Sh n d) (hn : n ≤ 64 := by decide) : SeqAt.shaped d = true := by
  unfold SeqAt.shaped
  rw [h.1, decide_eq_true (Nat.le_trans h.2 hn)]
  rfl
end Bk
set_option Elab.async false
set_option linter.all false
set_option maxRecDepth 100000
set_option maxHeartbeats 4000000
namespace Bk
open PySem PySem.Spec PyProof.Rows L2
open PySem.W (Frag)
end Bk
set_option Elab.async false
set_option linter.all false
set_option maxRecDepth 100000
set_option maxHeartbeats 4000000
namespace Bk
open PySem PySem.Spec PyProof.Rows L2
open PySem.W (Frag)
end Bk
set_option Elab.async false
set_option linter.all false
set_option maxRecDepth 100000
set_option maxHeartbeats 4000000
namespace Bk
open PySem PySem.Spec PyProof.Rows L2
open PySem.W (Frag)
end Bk
set_option Elab.async false
set_option linter.all false
set_option maxRecDepth 100000
set_option maxHeartbeats 4000000
namespace Bk
open PySem PySem.Spec PyProof.Rows L2
open PySem.W (Frag)
end Bk
set_option Elab.async false
set_option linter.all false
set_option maxRecDepth 100000
set_option maxHeartbeats 4000000
namespace Bk
open PySem PySem.Spec PyProof.Rows L2 PySem.NumText
open PySem.W (Frag)
end Bk
set_option Elab.async false
set_option linter.all false
set_option maxRecDepth 100000
set_option maxHeartbeats 4000000
namespace Bk
open PySem PySem.Spec PyProof.Rows L2 PySem.NumText
open PySem.W (Frag)
end Bk
set_option Elab.async false
set_option linter.all false
set_option maxRecDepth 100000
set_option maxHeartbeats 4000000
namespace Bk
open PySem PySem.Spec PyProof.Rows L2 PySem.NumText
open PySem.W (Frag)
end Bk
set_option Elab.async false
set_option linter.all false
set_option maxRecDepth 100000
set_option maxHeartbeats 4000000
namespace Bk
open PySem PySem.Spec PyProof.Rows L2 PySem.NumText
open PySem.W (Frag)
def one (c : Nat) : Str := ⟨#[c]⟩
end Bk
namespace Bk
open PySem PySem.Spec PyProof.Rows L2 PySem.NumText
end Bk
namespace Bk
open PySem PySem.Spec PyProof.Rows L2 PySem.NumText
end Bk
set_option Elab.async false
set_option linter.all false
set_option maxRecDepth 100000
set_option maxHeartbeats 4000000
namespace Bk
open PySem PySem.Spec PyProof.Rows L2 PySem.NumText
open PySem.W (Frag)
end Bk
namespace Bk
open PySem PySem.Spec PyProof.Rows L2 PySem.NumText
open PySem.W (Frag)
end Bk
namespace Bk
open PySem PySem.Spec PyProof.Rows L2 PySem.NumText
open PySem.W (Frag)
end Bk
set_option Elab.async false
set_option linter.all false
set_option maxRecDepth 100000
set_option maxHeartbeats 4000000
namespace Bk
open PySem PySem.Spec PyProof.Rows L2 PySem.NumText
open PySem.W (Frag)
end Bk
set_option Elab.async false
set_option linter.all false
set_option maxRecDepth 100000
set_option maxHeartbeats 4000000
namespace Bk
open PySem PySem.Spec PyProof.Rows L2 PySem.NumText
open PySem.W (Frag)
end Bk
set_option Elab.async false
set_option linter.all false
set_option maxRecDepth 100000
set_option maxHeartbeats 4000000
namespace Bk
open PySem PySem.Spec PyProof.Rows L2 PySem.NumText
open PySem.W (Frag)
end Bk
set_option Elab.async false
set_option linter.all false
set_option maxRecDepth 100000
set_option maxHeartbeats 4000000
namespace Bk
open PySem PySem.Spec PyProof.Rows L2 PySem.NumText
open PySem.W (Frag)
end Bk
set_option Elab.async false
set_option linter.all false
namespace Bk
open PySem PySem.Spec PyProof.Rows L2 PySem.NumText
open PySem.W (Frag)
end Bk
set_option Elab.async false
set_option linter.all false
set_option maxRecDepth 100000
set_option maxHeartbeats 4000000
namespace Bk
open PySem PySem.Spec PyProof.Rows L2 PySem.NumText
open PySem.W (Frag)
end Bk
set_option Elab.async false
set_option linter.all false
set_option maxRecDepth 100000
set_option maxHeartbeats 4000000
namespace Bk
open PySem PySem.Spec PyProof.Rows L2 PySem.NumText
open PySem.W (Frag)
open NdefX
/-- the def at f: its one captured cell holds the class at C, its code object tells the file -/
structure SuF (K : Frag) (file : Str) (F : NF) (f C : Addr) (fd : FuncData) : Prop where
  ex : ∃ (oc : Value) (od : Option Addr) (doc pm ctv : Value) (osl : Array (Option Value)), fd = F.fd doc pm ctv ∧ K.lookup f = some ⟨oc, od, .func fd, osl⟩
  cd : PySem.W.codeIn K (.ref F.c) F.qual = true
  fl : ∃ (cl : Value) (od : Option Addr) (vs : Array Value) (sl : Array (Option Value)) (tf : Tok), K.lookup F.c = some ⟨cl, od, .fields vs, sl⟩ ∧ vs[2]? = some (.str file tf)
  ce : ∃ (cc : Addr) (cl : Value) (od : Option Addr) (sl : Array (Option Value)), F.cl = [(("__class__" : Str), cc)] ∧ K.lookup cc = some ⟨cl, od, .cell (some (.ref C)), sl⟩
end Bk
set_option Elab.async false
set_option linter.all false
set_option maxRecDepth 100000
set_option maxHeartbeats 4000000
namespace Bk
open PySem PySem.Spec PyProof.Rows L2 PySem.NumText
open PySem.W (Frag)
open NdefX
theorem lk1 {α : Type} (k y : Str) (c : α) : ([(k, c)] : List (Str × α)).lookup y = if y = k then some c else none := by
  by_cases h : y = k
  · subst h
    simp [List.lookup]
  · have e : (y == k) = false := by simpa using h
    rw [if_neg h]
    simp [List.lookup, e]
end Bk
set_option Elab.async false
set_option linter.all false
set_option maxRecDepth 100000
set_option maxHeartbeats 4000000
namespace Bk
open PySem PySem.Spec PyProof.Rows L2 PySem.NumText
open PySem.W (Frag)
open NdefX
theorem codeF_ok {K : Frag} {file qual : Str} {v : Value} (h : codeF K file qual v = true) : ∃ c, v = .ref c ∧ PySem.W.codeIn K (.ref c) qual = true ∧
    ∃ (cl : Value) (od : Option Addr) (vs : Array Value) (sl : Array (Option Value)) (tf : Tok), K.lookup c = some ⟨cl, od, .fields vs, sl⟩ ∧ vs[2]? = some (.str file tf) := by
  cases v with
  | ref c =>
    obtain ⟨h1, h2⟩ := He.ba (show (PySem.W.codeIn K (.ref c) qual && (match K.lookup c with
      | some ⟨_, _, .fields vs, _⟩ => (match (vs[2]? : Option Value) with
        | some (Value.str fl _) => decide (fl = file)
        | _ => false)
      | _ => false)) = true from h)
    refine ⟨c, rfl, h1, ?_⟩
    cases q : K.lookup c with
    | none => rw [q] at h2; cases h2
    | some o =>
      obtain ⟨oc, od, dt, osl⟩ := o
      rw [q] at h2
      cases dt with
      | fields vs =>
        cases q2 : vs[2]? with
        | none => simp only [q2] at h2; cases h2
        | some x =>
          simp only [q2] at h2
          cases x with
          | str fl tf =>
            have e : fl = file := of_decide_eq_true h2
            subst e
            exact ⟨oc, od, vs, osl, tf, rfl, q2⟩
          | _ => cases h2
      | _ => cases h2
  | _ => cases h
theorem cellB_ok {K : Frag} {C : Addr} {l : List (Str × Addr)} (h : cellB K C l = true) : ∃ (cc : Addr) (cl : Value) (od : Option Addr) (sl : Array (Option Value)), l = [(("__class__" : Str), cc)] ∧ K.lookup cc = some ⟨cl, od, .cell (some (.ref C)), sl⟩ := by
  match l, h with
  | [(n, cc)], h =>
    obtain ⟨h1, h2⟩ := He.ba (show (decide (n = ("__class__" : Str)) && (match K.lookup cc with
      | some ⟨_, _, .cell (some (.ref D)), _⟩ => decide (D = C)
      | _ => false)) = true from h)
    have e : n = ("__class__" : Str) := of_decide_eq_true h1
    subst e
    cases q : K.lookup cc with
    | none => rw [q] at h2; cases h2
    | some o =>
      obtain ⟨oc, od, dt, osl⟩ := o
      rw [q] at h2
      cases dt with
      | cell v =>
        cases v with
        | none => cases h2
        | some v =>
          cases v with
          | ref D =>
            have e : D = C := of_decide_eq_true h2
            subst e
            exact ⟨cc, oc, od, osl, rfl, q⟩
          | _ => cases h2
      | _ => cases h2
theorem DefX.suF {K : Frag} {file : Str} {d : DefX} (e : fnC K (d.at_ K) = d.val) (c : d.ok file K = true) : ∃ (cl : List (Str × Addr)) (c : Addr) (fd : FuncData), SuF K file ⟨d.name, d.qual, d.params, d.body, d.scope, cl, c⟩ (d.at_ K) (d.cls K) fd := by
  unfold fnC at e
  unfold DefX.ok at c
  cases q : K.lookup (d.at_ K) with
  | none => rw [q] at c; cases c
  | some o =>
    obtain ⟨oc, od, dt, osl⟩ := o
    rw [q] at c e
    cases dt with
    | func fd =>
      obtain ⟨n1, n2, n3, n4, n5, n6, n7, n8, n9, n10, n11, n12, n13, n14, n15⟩ := fd
      have e2 : (some (n1, n2, n3, n4, n5, n6, [], n15) : He5.FnW) = some (d.name, d.qual, d.params, .stmts d.body, d.scope, mainGlobals, [], builtinsNs) := e
      simp only [Option.some.injEq, Prod.mk.injEq] at e2
      obtain ⟨h1, h2, h3, h4, h5, h6, _, h8⟩ := e2
      subst h1 h2 h3 h4 h5 h6 h8
      obtain ⟨c1, c⟩ := He.ba c
      obtain ⟨c2, c⟩ := He.ba c
      obtain ⟨c3, c⟩ := He.ba c
      obtain ⟨c4, c5⟩ := He.ba c
      have e1 : n8 = .none := of_decide_eq_true c1
      have e2 : n9 = .none := of_decide_eq_true c2
      have e3 : n12 = none := of_decide_eq_true c3
      subst e1 e2 e3
      obtain ⟨cd, e4, c6, c7⟩ := codeF_ok c4
      have e4' : n13 = .ref cd := e4
      subst e4'
      obtain ⟨cc, cl, od2, sl2, e5, c8⟩ := cellB_ok c5
      have e5' : n7 = [(("__class__" : Str), cc)] := e5
      subst e5'
      exact ⟨_, cd, _, ⟨oc, od, n10, n11, n14, osl, rfl, q⟩, c6, c7, cc, cl, od2, sl2, rfl, c8⟩
    | _ => cases c
section
variable {file : Str} {xk : Frag → Bool} {fn : List He5.DefA} {fx : List DefX} {K : Frag}
theorem SaysC.def_ (c : SaysC file xk fn fx K) (i : Nat) {d : He5.DefA} (h : fn[i]? = some d := by rfl) :
    ∃ fd, FunD K d.name d.qual d.params d.body d.scope (d.dvs K) (d.kws K) (d.at_ K) fd := by
  have c2 := (He.ba (He.ba (congrArg (fun z : AlC => z.1) c)).2).1
  have e : (fn.map fun d => He5.fnA K (d.at_ K))[i]? = (fn.map He5.DefA.val)[i]? := congrArg (fun z : AlC => z.2.1[i]?) c
  rw [List.getElem?_map, List.getElem?_map, h] at e
  exact He5.DefA.funD (Option.some.inj e) (List.all_eq_true.mp c2 d (List.mem_of_getElem? h))
theorem SaysC.defx (c : SaysC file xk fn fx K) (i : Nat) {d : DefX} (h : fx[i]? = some d := by rfl) :
    ∃ (cl : List (Str × Addr)) (c : Addr) (fd : FuncData), SuF K file ⟨d.name, d.qual, d.params, d.body, d.scope, cl, c⟩ (d.at_ K) (d.cls K) fd := by
  have c2 := (He.ba (He.ba (congrArg (fun z : AlC => z.1) c)).2).2
  have e : (fx.map fun d => fnC K (d.at_ K))[i]? = (fx.map DefX.val)[i]? := congrArg (fun z : AlC => z.2.2[i]?) c
  rw [List.getElem?_map, List.getElem?_map, h] at e
  exact DefX.suF (Option.some.inj e) (List.all_eq_true.mp c2 d (List.mem_of_getElem? h))
end
end Bk
set_option Elab.async false
set_option linter.all false
set_option maxRecDepth 100000
set_option maxHeartbeats 4000000
namespace Bk
open PySem PySem.Spec PyProof.Rows L2 PySem.NumText
open PySem.W (Frag)
end Bk
set_option Elab.async false
set_option linter.all false
set_option maxRecDepth 100000
set_option maxHeartbeats 4000000
namespace Bk
open PySem PySem.Spec PyProof.Rows L2 PySem.NumText
open PySem.W (Frag)
end Bk
set_option Elab.async false
set_option linter.all false
set_option maxRecDepth 100000
set_option maxHeartbeats 4000000
namespace Bk
open PySem PySem.Spec PyProof.Rows L2 PySem.NumText
open PySem.W (Frag)
end Bk
set_option Elab.async false
set_option linter.all false
set_option maxRecDepth 100000
set_option maxHeartbeats 4000000
namespace Bk
open PySem PySem.Spec PyProof.Rows L2 PySem.NumText
open PySem.W (Frag)
end Bk
set_option Elab.async false
set_option linter.all false
set_option maxRecDepth 100000
set_option maxHeartbeats 4000000
namespace Bk
open PySem PySem.Spec PyProof.Rows L2 PySem.NumText
open PySem.W (Frag)
open NdefX
/-- a built-in base class: its name, its __new__, its __init__, its classes -/
structure EBa (B N I : String) (tl : List Value) : Prop where
  base : ExcBaseFacts B N I tl
  store : StoreFacts B tl "object.__setattr__" "object"
  kxs : PySem.W.KxsFacts B I
theorem eba_VE : EBa "ValueError" "ValueError.__new__" "ValueError.__init__" [.type "ValueError", .type "Exception", .type "BaseException", .type "object"] := ⟨F.excBase_ValueError, F.store_ValueError, PySem.W.kxs_ValueError⟩
theorem eba_LE : EBa "LookupError" "LookupError.__new__" "LookupError.__init__" [.type "LookupError", .type "Exception", .type "BaseException", .type "object"] := ⟨F.excBase_LookupError, F.store_LookupError, PySem.W.kxs_LookupError⟩
theorem eba_AE : EBa "ArithmeticError" "ArithmeticError.__new__" "ArithmeticError.__init__" [.type "ArithmeticError", .type "Exception", .type "BaseException", .type "object"] := ⟨F.excBase_ArithmeticError, F.store_ArithmeticError, PySem.W.kxs_ArithmeticError⟩
/-- an own class over it, as the written part tells -/
structure OexG (K : Frag) (C : Addr) (N : String) (tl : List Value) : Prop where
  over : PySem.W.excOver K C tl = true
  init : PySem.W.excInitIn K C tl N = true
  hd : PySem.W.hasDictIn K C = true
  sa : PySem.W.findIn K (.ref C) "__setattr__" = some (some (.builtin "object.__setattr__"))
  exC : PySem.W.subIn K (.ref C) (.type "BaseException") = some true
  tyC : PySem.W.typeIn K (.ref C) = some (.type "type")
  kC : PySem.W.keepIn K (.ref C) = true
theorem oexGB_ok {N : String} {tl : List Value} {x : Str} {K : Frag} (h : oexGB N tl x K = true) : OexG K (He.ga K x) N tl := by
  obtain ⟨h1, h⟩ := He.ba h
  obtain ⟨h2, h⟩ := He.ba h
  obtain ⟨h3, h⟩ := He.ba h
  obtain ⟨h4, h⟩ := He.ba h
  obtain ⟨h5, h⟩ := He.ba h
  obtain ⟨h6, h7⟩ := He.ba h
  exact ⟨h1, h2, h3, of_decide_eq_true h4, of_decide_eq_true h5, of_decide_eq_true h6, h7⟩
section
variable {X : Cx} {pins : List (Addr × Obj)} {σ : L2.St} {H : Hp} {s : Shared} {a C dx : Addr} {f : Str} {y : V} {u : Value} {fs : List (Str × V)} {B N Ii : String} {tl : List Value} {Q : Unit → Shared → Prop} {E : Value → Shared → Prop} {A : Around}
abbrev bareX (C t1 : Addr) (d : Option Addr) : Obj := { cls := .ref C, dict := d, data := .fields #[.ref t1, .none, .none, .none, .bool false, .none] }
/-- self.f = y, the first field: its dict is made -/
theorem fld_first (BA : EBa B N Ii tl) (T : OexG X.K C N tl) (I : Inv X pins σ H s) (e : H a = some (exo a C none)) (ht : PySem.W.takerIn X.K C f = some none) (ry : RelV y u)
    (h : ∀ dx s', H dx = none → dx ≠ a → Inv X pins σ (upd (upd H a (exo a C (some dx))) dx (exd dx [(f, y)])) s' → Q () s') : wpAny (model X.prog X.w) A (setAttr (.ref a) f u) Q E s := by
  obtain ⟨t1, ho⟩ := exo_at I.hok e
  obtain ⟨cd, hcd, hhd⟩ := PySem.W.any_some T.hd
  have KI := I.kIn
  obtain ⟨hp, g, d, t, os⟩ := s
  refine PySem.W.set_plain KI (ox := bareX C t1 none) (od := none) ⟨ho, rfl, rfl, trivial⟩ T.sa (PySem.W.osa_openX (ox := bareX C t1 none) (od := none) BA.store KI ⟨ho, rfl, rfl, trivial⟩ T.over ht fun b => ?_)
  have hcls : PySem.W.Looks (model X.prog X.w) hp (classData C) cd := PySem.W.looks_clsIn KI hcd
  have nax : a ≠ hp.objs.size := Nat.ne_of_lt (Heap.lt_size ho)
  obtain ⟨nm, bs, mro, nsx, qn, hd, sn, sb, ab, col, del⟩ := cd
  dsimp only at hhd
  subst hhd
  unfold Builtin.ObjectAttr.storeInOwnDict Builtin.ObjectAttr.ownDictForStores
  repeat (first | with_reducible refine PySem.HandSPX.store_in_new ?_ ?_ | with_reducible refine wpAny_loadPart_at ho ?_ | with_reducible refine hcls.at ?_ | wp_step)
  · exact ⟨_, #[], _, (Heap.get?_update_ne _ _ _ _ nax.symm).trans (Heap.get?_push_at rfl rfl), rfl, fun en hen => absurd hen (by simp), fun _ => rfl⟩
  · intro h' tk' hn' hs
    have inPush : (hp.push { cls := .type "dict", data := .dict #[] }).get? a = some (bareX C t1 none) := Heap.get?_push_of_some _ ho
    have ha' : h'.get? a = some (bareX C t1 (some hp.objs.size)) := (hs.2 a nax).trans (Heap.get?_update_self _ inPush rfl)
    have keep : ∀ b u, b ≠ a → hp.get? b = some u → h'.get? b = some u := fun b u hb hu =>
      (hs.2 b (Nat.ne_of_lt (Heap.lt_size hu))).trans ((Heap.get?_update_ne _ _ _ _ hb).trans (Heap.get?_push_of_some _ hu))
    -- a heap between: the exception has its dict's address, the dict is not there yet
    let hm : Heap := hp.update a fun o => { o with dict := some hp.objs.size }
    have hma : hm.get? a = some (bareX C t1 (some hp.objs.size)) := Heap.get?_update_self _ ho rfl
    have J : Inv X pins σ (upd H a (exo a C (some hp.objs.size))) ⟨hm, g, d, tk', os⟩ :=
      I.write (t' := tk') (h' := hm) (x := a) (e := a) (o := exo a C (some hp.objs.size)) (by rw [e]; exact True.intro) (.inl rfl) (fun b u hb hu => (Heap.get?_update_ne _ _ _ _ hb).trans hu) ⟨_, hma⟩ (exo_ok hma)
    have hfree : H hp.objs.size = none := I.hok.fresh (Nat.le_refl _)
    have hmN : hm.get? hp.objs.size = none := (Heap.get?_update_ne _ _ _ _ nax.symm).trans (Heap.get?_none_of_le (Nat.le_refl _))
    refine h hp.objs.size _ hfree nax.symm (J.laidN (t' := tk') (h' := h') (fun b u hb => ?_) hmN (by rw [upd_ne nax.symm]; exact hfree) (exd_ok hn' (relO_put (fs := []) ry fun _ => True.intro)))
    by_cases q : b = a
    · subst q
      have : u = bareX C t1 (some hp.objs.size) := Option.some.inj (hb.symm.trans hma)
      rw [this]
      exact ha'
    · exact keep b u q ((Heap.get?_update_ne _ _ _ _ q).symm.trans hb)
/-- self.f = y, a further field -/
theorem fld_next (BA : EBa B N Ii tl) (T : OexG X.K C N tl) (I : Inv X pins σ H s) (e : H a = some (exo a C (some dx))) (ed : H dx = some (exd dx fs)) (hl : fs.length ≤ 900) (ht : PySem.W.takerIn X.K C f = some none) (ry : RelV y u)
    (h : ∀ s', Inv X pins σ (upd H dx (exd dx ((f, y) :: fs))) s' → Q () s') : wpAny (model X.prog X.w) A (setAttr (.ref a) f u) Q E s := by
  obtain ⟨t1, ho⟩ := exo_at I.hok e
  obtain ⟨mA, hns, rel⟩ := exd_at I.hok ed
  obtain ⟨oD, _, _, hoD, _, _⟩ := hns.count (within_of rel)
  obtain ⟨cd, hcd, hhd⟩ := PySem.W.any_some T.hd
  have KI := I.kIn
  obtain ⟨hp, g, d, t, os⟩ := s
  have IA : PySem.W.InstAt hp a (bareX C t1 (some dx)) C (some oD) := ⟨ho, rfl, rfl, hoD⟩
  refine PySem.W.set_plain KI IA T.sa (PySem.W.osa_openX BA.store KI IA T.over ht fun b => ?_)
  have hcls : PySem.W.Looks (model X.prog X.w) hp (classData C) cd := PySem.W.looks_clsIn KI hcd
  obtain ⟨nm, bs, mro, nsx, qn, hd, sn, sb, ab, col, del⟩ := cd
  dsimp only at hhd
  subst hhd
  unfold Builtin.ObjectAttr.storeInOwnDict Builtin.ObjectAttr.ownDictForStores
  repeat (first | with_reducible refine PySem.OEX.store_in_old hns (within_of rel) (by rw [List.length_map]; omega) ?_ | with_reducible refine wpAny_loadPart_at ho ?_ | with_reducible refine hcls.at ?_ | wp_step)
  intro h' tk' hn' hs
  obtain ⟨o', _, _, ho', _⟩ := id hn'
  exact h _ (I.write (t' := tk') (x := dx) (e := dx) (o := exd dx ((f, y) :: fs)) (by rw [ed]; exact True.intro) (.inl rfl) (fun b u hb hu => (hs.2 b hb).trans hu) ⟨_, ho'⟩ (exd_ok hn' (relO_put ry rel)))
/-- super().__init__() on a fresh exception -/
theorem exo_initG {Q : Value → Shared → Prop} (BA : EBa B N Ii tl) (T : OexG X.K C N tl) (I : Inv X pins σ H s) (e : H a = some (exo a C none)) {uw : Addr} (hu : s.heap.get? uw = some (PySem.W.kxs_mw Ii a)) (h : ∀ s', Inv X pins σ H s' → Q .none s') :
    wpAny (model X.prog X.w) A (call (.ref uw) []) Q E s := by
  obtain ⟨nm, Na, q, bs, bm, hdct, sn, sub, ab, col, dd, k0, k1, k2, k3, k5, hC, hT⟩ := PySem.W.excInit_of I.kIn T.init
  obtain ⟨t1, ho⟩ := exo_at I.hok e
  obtain ⟨hp, g, d, t, os⟩ := s
  have FB := BA.base
  refine wpAny_call (codeAny_of_tree ?_)
  show wpAny _ A.in1 (callAny (.ref uw) ⟨[], []⟩) _ _ _
  simp only [callAny]
  refine wpAny_bind (wpAny_load hu ?_)
  simp only [PySem.W.kxs_mw, show (Value.type "method-wrapper" == Value.type "method" || Value.type "method-wrapper" == Value.type "builtin_function_or_method" || Value.type "method-wrapper" == Value.type "method-wrapper") = true by decide, if_true]
  refine PySem.W.KFB.if_so (by decide) ?_
  refine wpAny_bind (PySem.W.check_bound_init FB.toExcCallFacts hC ho rfl ?_)
  refine wpAny_bind (wpAny_pure (wpAny_pure ?_))
  refine ⟨plainId_quiet FB.init.plain _, codeAny_builtin FB.initEntry ?_⟩
  refine PySem.W.exc_init_tree (cls := .ref C) (t0 := t1) (dv := none) (c2 := .none) (c3 := .none) (b4 := .bool false) ho (Nat.zero_le _) ?_
  intro h' k hx _
  have J := I.write (t' := t) (x := a) (e := a) (o := exo a C none) (by rw [e]; exact True.intro) (.inl rfl) k ⟨_, hx⟩ (exo_ok hx)
  have eu : upd H a (exo a C none) = H := by
    funext b
    by_cases hb : b = a
    · rw [hb, upd_same, e]
    · rw [upd_ne hb]
  rw [eu] at J
  exact h _ J
end
end Bk
set_option Elab.async false
set_option linter.all false
set_option maxRecDepth 100000
set_option maxHeartbeats 4000000
namespace Bk
open PySem PySem.Spec PyProof.Rows L2 PySem.NumText
open PySem.W (Frag)
open NdefX
/-- what the head tells of the class C for super().__init__() -/
structure SuG (K : Frag) (mg : Str → Option Value) (C : Addr) (B I : String) : Prop where
  mro : PySem.W.mroIn K C (.ref C) = some true
  isa : PySem.W.subIn K (.ref C) (.type B) = some true
  opq : PySem.W.nsIn K cStatics "thirdparty.any" = some none
  ini : PySem.W.ks_superIn K C C "__init__" = some (some (.builtin I))
  sup : mg "super" = none
theorem suGB_ok {B I : String} {x : Str} {K : Frag} {mg : Str → Option Value} (h : suGB B I x K = true) (hs : mg "super" = none) : SuG K mg (He.ga K x) B I := by
  obtain ⟨h1, h⟩ := He.ba h
  obtain ⟨h2, h⟩ := He.ba h
  obtain ⟨h3, h4⟩ := He.ba h
  exact ⟨of_decide_eq_true h1, of_decide_eq_true h2, of_decide_eq_true h3, of_decide_eq_true h4, hs⟩
/-- a def whose body begins with super().__init__(), its self a fresh exception of the class C -/
theorem fnS_ofG {P : Program} {w : World} {K : Frag} {mg : Str → Option Value} {base : Heap} {CX : CXT} {file : Str} {F : NF} {f C : Addr} {fd : FuncData} {N ps : List Str} {sp : Sp} {k : Nat} {rest : List Stmt} {p0 p1 p2 p3 p4 : Pos} {ar : Arg} {B NB Ii : String} {tl : List Value}
    (BA : EBa B NB Ii tl) (S : SuF K file F f C fd) (U : SuG K mg C B Ii) (T : OexG K C NB tl) (NS : NScope N ps ["__class__"] F.scope)
    (hb : F.body = .Expr (.Call (.Attribute (.Call (.Name "super" p0) [] [] p1) "__init__" p2) [] [] p3) p4 :: rest)
    (hP : ((P.main.file : Str) == file) = true) (hT : (P.main.scope.names.lookup ("super" : Str)).isSome = false)
    (hp : (F.params.posonlyargs ++ F.params.args).head? = some ar) (hN0 : N[0]? = some ar.arg) (hka : F.scope.names.lookup ar.arg = some .local)
    {pl : Env → Sem Bool} (hev : ∀ L : Addr, eval (.Call (.Attribute (.Call (.Name "super" p0) [] [] p1) "__init__" p2) [] [] p3) (envF F f L) = (do
      let ov ← attributeBase (.Call (.Name "super" p0) [] [] p1) "__init__" (envF F f L) (eval (.Call (.Name "super" p0) [] [] p1) (envF F f L))
      standAt p2.atName
      let (ff, first) ← holding [ov] (getMethod ov "__init__" (pl (envF F f L)))
      callWith p3 ff first (backTo p3 (starEach [] (envF F f L))) []))
    (hint : ∀ L : Addr, interactive (envF F f L) = false) (hsw : ∀ L : Addr, swapsWith (.Call (.Attribute (.Call (.Name "super" p0) [] [] p1) "__init__" p2) [] [] p3) none p4.line (envF F f L) = pure false)
    (hks : F.scope.names.lookup ("super" : Str) = some .globalImplicit) (hkc : F.scope.names.lookup ("__class__" : Str) = some .free)
    (len : ∀ vs H Q E, sp vs H Q E → vs.length = ps.length)
    (hbody : ∀ (A : Around) (outer : List Env) (s : Shared) (H : Hp) (vs : List V) (Q : VK) (E : XK), Room k (A.deeper (envF F f s.heap.objs.size)) → sp vs H Q E →
      ∃ a vr, vs = V.ref a :: vr ∧ H a = some (exo a C none) ∧ ∃ t, PSs (ncx CX P w K mg base N F f A outer s H E) rest t ∧ t { nx := fun _ H' => Q .non H', rt := Q } (startF N vs [some (.ref C)]) H) :
    FnOk P w K mg base CX (k + 1) f fd ps sp := by
  refine ⟨len, fun A outer s H args us vs Q E hr e0 hbd r hsp => ?_⟩
  have old : ∀ b o, base.get? b = some o → s.heap.get? b = some o := fun b o e => (e0.bs b o e).1
  have KX : K.In s.heap := e0.mod.kin.keeps old
  have lim : s.heap.NoLimit := e0.mod.nolimit.keeps old
  have hl := len _ _ _ _ hsp
  obtain ⟨oc, od, doc, pm, ctv, osl, efd, lk⟩ := S.ex
  subst efd
  obtain ⟨ccl, cod, cvs, csl, tf, lc, hvs⟩ := S.fl
  obtain ⟨cc, cl, cdd, csl2, ecl, lcc⟩ := S.ce
  have CA : CellsAt F.cl ["__class__"] [some (.ref C)] s.heap H := by
    have inv : ∀ {y c}, F.cl.lookup y = some c → y = ("__class__" : Str) ∧ c = cc := by
      intro y c z
      rw [ecl, lk1] at z
      by_cases hy : y = ("__class__" : Str)
      · rw [if_pos hy] at z
        exact ⟨hy, (Option.some.inj z).symm⟩
      · rw [if_neg hy] at z
        cases z
    refine ⟨rfl, fun y c z => ?_, fun x y c z z' => ?_, fun i y hi => ?_⟩
    · obtain ⟨_, rfl⟩ := inv z
      exact ⟨(e0.bs _ _ (e0.mod.kin _ _ lcc)).2, _, _, KX _ _ lcc, rfl⟩
    · rw [(inv z).1, (inv z').1]
    · match i, hi with
      | 0, hi =>
        cases hi
        refine ⟨cc, by rw [ecl, lk1, if_pos rfl], fun v hv => ?_⟩
        cases hv
        exact ⟨_, rfl, _, KX _ _ lcc, rfl⟩
  refine ks_codeAny_call_defAt (fd := F.fd doc pm ctv) (body := F.body) (binds := ps.zip us) hr.depth (KX _ _ lk) rfl lim (PySem.W.codeRec_of KX S.cd) rfl hbd NS.nocell (fun ⟨n, v⟩ hy => NS.par n (List.of_mem_zip hy).1) (fun h₁ hns kp => ?_) NS.co NS.gen NS.kind
  show _root_.PySem.wpAt _ (A.deeper (envF F f s.heap.objs.size)) (.func F.body (envF F f s.heap.objs.size)) (execs F.body (envF F f s.heap.objs.size)) _ _ _
  have I : Inv (ncx CX P w K mg base N F f A outer s H E) [] (startF N vs [some (.ref C)]) H { s with heap := h₁, toks := s.toks + (ps.zip us).length } := inv_startN NS hr.hd e0 hl r CA hns kp
  obtain ⟨a, vr, ev, ha, t, ht, hq⟩ := hbody A outer s H vs Q E (hr.deeper _) hsp
  generalize hbo : F.body = bo at *
  generalize hs1 : ({ s with heap := h₁, toks := s.toks + (ps.zip us).length } : Shared) = s1 at *
  subst hb
  have fin : ∀ {σ' : L2.St} {H' : Hp} {v : V} {u : Value} {s' : Shared}, Inv (ncx CX P w K mg base N F f A outer s H E) [] σ' H' s' → L2.RelV v u → Q v H' → CE outer P w H s Q u s' :=
    fun {σ' H' v u s'} J rv q => ⟨v, H', J.os, J.bare, J.base, J.hok, rv, q⟩
  have tail : ∀ s', Inv (ncx CX P w K mg base N F f A outer s H E) [] (startF N vs [some (.ref C)]) H s' → wpAny (model P w) (A.deeper (envF F f s.heap.objs.size)) (execs rest (envF F f s.heap.objs.size))
      (fun fl s' => CR CX outer P w H s Q E (.ok (.ret (match fl with | .ret v => v | _ => .none))) s')
      (fun e s' => wpAny (model P w) (A.deeper (envF F f s.heap.objs.size)) (leaving (envF F f s.heap.objs.size) e) (fun _ s'' => CR CX outer P w H s Q E (.error e) s'') (fun e' s'' => CR CX outer P w H s Q E (.error e') s'') s') s' := by
    intro s' J
    refine wpAny_mono (ht.run [] _ (startF N vs [some (.ref C)]) H _ J hq) (fun fl s' hs => ?_) fun e s' hs => hs
    cases fl with
    | ret u =>
      obtain ⟨v, σ', H', J, rv, q⟩ := hs
      exact fin J rv q
    | next =>
      obtain ⟨σ', H', J, q⟩ := hs
      exact fin (v := V.non) (u := Value.none) J rfl q
    | brk =>
      obtain ⟨_, _, _, q⟩ := hs
      exact False.elim q
    | cont =>
      obtain ⟨_, _, _, q⟩ := hs
      exact False.elim q
  refine ks_wpAt_execs_cons (ks_wpAt_Expr_any (ks_wpAt_MethodCall ?_ (hev _)) (hint _) (hsw _))
  obtain ⟨m1, m2, ⟨mb, m3, m4⟩, m5⟩ := I.ok.mod
  obtain ⟨t1, hx⟩ := exo_at I.hok ha
  obtain ⟨nm, Na, qn, bs, bm, hdct, sn, sub, ab, col, dd, k0, k1, k2, k3, k5, hC, hbm⟩ := PySem.W.excInit_of I.kIn T.init
  obtain ⟨m, hm, hloc⟩ := I.loc
  have hself : m ar.arg = some (.ref a) := by
    obtain ⟨u, ru, lo⟩ := hloc 0 ar.arg (.ref a) hN0 (by rw [ev]; rfl) (Or.inl hka)
    cases (show u = Value.ref a from ru)
    rcases lo with ⟨_, z⟩ | ⟨z, _⟩
    · exact z
    · rcases z with z | z
      · cases (show (some NameKind.local : Option NameKind) = some .cell from hka.symm.trans z)
      · cases (show (some NameKind.local : Option NameKind) = some .free from hka.symm.trans z)
  refine ks_wpAt_super_base (f := f) (cc := F.c) (fd := F.fd doc pm ctv) hks hkc (by decide) rfl (I.kIn _ _ lk) rfl hp rfl (I.kIn _ _ lc) rfl hvs hP hT ?_
  refine PySem.W.ks_loadName_global NS.kind hks (PySem.Calls.loadGlobal_builtin (m2.keeps I.bk) U.sup (m3.keeps I.bk) ((m4 _ (by decide +kernel)).trans (by kernel_rfl : bootBuiltins "super" = some (.type "super"))) ⟨rfl, ?_⟩)
  refine wpAny_loadName_free NS.kind hkc (c := cc) (by show F.cl.lookup _ = _; rw [ecl, lk1, if_pos rfl]) ⟨_, I.kIn _ _ lcc, rfl⟩ ?_
  refine wpAny_loadName_local NS.kind hka hm hself ?_
  refine ks_wpAny_isType_cls hC rfl ⟨rfl, ?_⟩
  clear hs1
  obtain ⟨hp1, g, d, tk, os⟩ := s1
  refine ks_wpAny_call_super hC rfl hx rfl (fun c z => by cases z) (PySem.W.looks_mroIn I.kIn U.mro) (fun h' e kk => ?_)
  have J1 := I.kept (t' := tk) kk
  have IA : PySem.W.InstAt h' a (bareX C t1 none) C none := ⟨kk _ _ hx, rfl, rfl, trivial⟩
  cases hcl : PySem.W.clsIn K C with
  | none =>
    have z := U.ini
    unfold PySem.W.ks_superIn at z
    rw [hcl] at z
    cases z
  | some cd =>
    have z := U.ini
    unfold PySem.W.ks_superIn at z
    rw [hcl] at z
    refine PySem.W.kxs_getMethod BA.kxs e (PySem.W.looks_opaque J1.kIn U.opq) (l₀ := cd.mro) ?_ rfl J1.kIn z (IA.type.andThen (PySem.W.looks_subIn J1.kIn U.isa)) (PySem.W.ks_ne J1.kIn IA hcl) (by decide) ?_
    · exact fun A Q E s k q => wpAny_bind ((PySem.W.looks_clsIn J1.kIn hcl) A _ E s k (wpAny_pure q))
    · have J2 := J1.kept (t' := tk + 1) (h' := h'.push (PySem.W.kxs_mw Ii a)) fun b o e => Heap.get?_push_of_some _ e
      refine PySem.W.kxs_callWith (i := Ii) (x := a) rfl (evalArgs_empty ⟨Heap.get?_push_at rfl rfl, ?_⟩)
      exact exo_initG (X := ncx CX P w K mg base N F f A outer s H E) BA T J2 ha (Heap.get?_push_at rfl rfl) fun s' J3 => wpAt_of_wpAny (tail s' J3)
def tFld (C : Addr) (f : Str) (to te : TE) : TS := fun D σ H => te σ H fun y H1 => to σ H1 fun x H2 => ∃ a : Addr, x = .ref a ∧
  ((H2 a = some (exo a C none) ∧ ∀ dx, H2 dx = none → dx ≠ a → D.nx σ (upd (upd H2 a (exo a C (some dx))) dx (exd dx [(f, y)]))) ∨
    ∃ (dx : Addr) (fs : List (Str × V)), H2 a = some (exo a C (some dx)) ∧ H2 dx = some (exd dx fs) ∧ fs.length ≤ 900 ∧ D.nx σ (upd H2 dx (exd dx ((f, y) :: fs))))
theorem ps_fld {X : Cx} {o e : Expr} {to te : TE} {f : Str} {p' pos : Pos} {C : Addr} {B NB Ii : String} {tl : List Value} (BA : EBa B NB Ii tl) (T : OexG X.K C NB tl) (ht : PySem.W.takerIn X.K C f = some none) (ho : PE X o to) (he : PE X e te)
    (hs : swapsWith e (some (.Attribute o f p')) pos.line X.env = pure false := by rfl) : PS X (.Assign [.Attribute o f p'] e pos) (tFld C f to te) := by
  refine ⟨fun pins s σ H D I h => ?_⟩
  refine plainObj_wpAny_Assign_Attribute (thn (he.run pins s σ H _ I h) fun v s1 ⟨y, H1, I1, r1, q1⟩ => thn (ho.run pins s1 σ H1 _ I1 q1) fun u s2 ⟨x, H2, I2, r2, a, ex, q⟩ => ?_) hs
  subst ex
  obtain rfl : u = Value.ref a := r2
  rcases q with ⟨ea, q⟩ | ⟨dx, fs, ea, ed, hl, q⟩
  · exact fld_first BA T I2 ea ht r1 fun dx s' n ne J => ⟨σ, _, J, q dx n ne⟩
  · exact fld_next BA T I2 ea ed hl ht r1 fun s' J => ⟨σ, _, J, q⟩
theorem pmk_oexG {X : Cx} {CX : CXT} {x : Str} {C fI : Addr} {k : Nat} {fd : FuncData} {ps : List Str} {sp : Sp} {e : Expr} {es : List Expr} {ta : TA} {p pos : Pos} {B NB Ii : String} {tl : List Value} (BA : EBa B NB Ii tl) (T : OexG X.K C NB tl) (iC : PySem.W.findIn X.K (.ref C) "__init__" = some (some (.ref fI)))
    (tI : PySem.W.typeIn X.K (.ref fI) = some (.type "function")) (F1 : FnOk X.prog X.w X.K X.mg X.base CX k fI fd ps sp) (hr : Room (k + 1) X.A) (hb : Binds X.K fd ps []) (hx : Passes CX X (fun _ _ _ => False)) (hg : Gl X x) (hm : X.mg x = some (.ref C)) (ha : PA X (e :: es) ta)
    (hdb : (x == ("__debug__" : Str)) = false := by decide) (he : starEach (e :: es) X.env = (false, eval e X.env) :: starEach es X.env := by rfl) (hpl : (backTo pos (starEach es X.env)).any (·.1) = false := by rfl) :
    L2N.PMk X (.Call (.Name x p) (e :: es) [] pos) (tMkO C sp [] ta) := by
  intro pins s σ H Q I h
  refine wpAny_Call_Name_kw (ld_glob I hg hm ?_ hdb)
  refine PySem.W.callWith_K (h₀ := X.base) I.ok.mod.kin T.kC (thn (ha.run pos pins s σ H _ I h) fun us s1 ⟨vs, H1, I1, r1, hz, q1⟩ => ⟨I1.kIn, ?_⟩) he hpl
  show wpAny _ _ (call (.ref C) us) _ _ _
  obtain ⟨nm, Na, qn, bs, bm, hdct, sn, sub, ab, col, dd, k0, k1, k2, k3, k5, hC, hbm⟩ := PySem.W.excInit_of I1.kIn T.init
  have KI := I1.kIn
  obtain ⟨hp, g, dr, tk, os⟩ := s1
  have hsz : hp.objs.size ≤ hp.objs.size + 1 := Nat.le_succ _
  have hn : H1 (hp.objs.size + 1) = none := I1.hok.fresh hsz
  have hq := q1 (hp.objs.size + 1) hn
  rw [List.append_nil] at hq
  have kk : ∀ b o, hp.get? b = some o → ((hp.push (PySem.W.kdv_tup us)).push (PySem.HandSPX.excO C hp.objs.size)).get? b = some o := fun b o e => Heap.get?_push_of_some _ (Heap.get?_push_of_some _ e)
  have hget : ((hp.push (PySem.W.kdv_tup us)).push (PySem.HandSPX.excO C hp.objs.size)).get? (hp.objs.size + 1) = some (PySem.HandSPX.excO C hp.objs.size) := by heap_get
  have I2 := I1.laid (t' := tk) (a := hp.objs.size + 1) (o := exo (hp.objs.size + 1) C none) (h' := (hp.push (PySem.W.kdv_tup us)).push (PySem.HandSPX.excO C hp.objs.size)) kk hsz (exo_ok hget)
  have r2 : Vals (V.ref (hp.objs.size + 1) :: vs) (Value.ref (hp.objs.size + 1) :: us) := .cons rfl r1
  have hl : (Value.ref (hp.objs.size + 1) :: us).length = ps.length := r2.length.symm.trans (F1.len _ _ _ _ hq)
  have hus : us.length ≤ sizeLine := by
    rw [← Paired.length r1, sizeLine_eq]
    omega
  have hbd := hb _ (Value.ref (hp.objs.size + 1) :: us) I2.kIn (by rw [List.append_nil]; exact hl)
  rw [List.append_nil] at hbd
  refine wpAny_call (PySem.HandSPX.call_own BA.base hbm hC (PySem.W.looks_findIn KI iC) (fun self => PySem.W.bind_fn KI self tI) hus
    (codeAny_mono (F1.run _ X.stack _ _ ⟨Value.ref (hp.objs.size + 1) :: us, []⟩ (Value.ref (hp.objs.size + 1) :: us) _ _ (fun _ _ _ => False) (hr.make C us []) (I2.env0.make C us []) hbd r2 hq) fun r s' hq' => ?_))
  match r, hq' with
  | .error er, hq' => exact hx pins σ _ _ er s' I2 hq'
  | .ok .next, hq' => exact hq'.elim
  | .ok .brk, hq' => exact hq'.elim
  | .ok .cont, hq' => exact hq'.elim
  | .ok (.ret u), hq' =>
    obtain ⟨v, H2, os2, bare2, un2, hok2, rv, ev, d, fs, ea, ed, hd1, q2⟩ := hq'
    subst ev
    obtain ⟨h2, g2, d2, t2, os'⟩ := s'
    obtain ⟨t0, G, J, kG, ge, hoe, na⟩ := mk_end0 (d2 := d2) (t2 := t2) I1 hsz kk un2 hok2 os2 bare2 ea ed hd1
    exact ⟨rv, _, _, _, ⟨G, g2, d2, t2, os'⟩, _, .ref C, some d, rfl, J, kG, ge, hoe, ⟨rfl, rfl, fun vs z => by cases z; rfl⟩, rfl, rfl, na, rfl, bare2, raises_own T.exC T.tyC, q2⟩
end Bk
set_option Elab.async false
set_option linter.all false
set_option maxRecDepth 100000
set_option maxHeartbeats 4000000
namespace Bk
open PySem PySem.Spec PyProof.Rows L2 PySem.NumText
open PySem.W (Frag)
open NdefX
def spXf (C : Addr) (fl : List Str) : Sp := fun vs H Q _ => ∃ (a : Addr) (ws : List V), vs = .ref a :: ws ∧ ws.length = fl.length ∧ H a = some (exo a C none) ∧
  ∀ dx, H dx = none → dx ≠ a → Q .non (upd (upd H a (exo a C (some dx))) dx (exd dx (fl.zip ws).reverse))
structure XOkG (P : Program) (w : World) (K : Frag) (mg : Str → Option Value) (base : Heap) (C fI : Addr) (N : String) (tl : List Value) (ps : List Str) (sp : Sp) : Prop where
  ok : ∃ fd, FnOk P w K mg base (L2C.CX P w) 1 fI fd ps sp ∧ Binds K fd ps []
  oex : OexG K C N tl
  ini : PySem.W.findIn K (.ref C) "__init__" = some (some (.ref fI))
  tyI : PySem.W.typeIn K (.ref fI) = some (.type "function")
theorem upd_upd {H : Hp} {a : Addr} {o o' : HO} : upd (upd H a o) a o' = upd H a o' := by
  funext b
  by_cases h : b = a
  · rw [h, upd_same, upd_same]
  · rw [upd_ne h, upd_ne h, upd_ne h]
section
variable {P : Program} {w : World} {K : Frag} {mg : Str → Option Value} {base : Heap} {file q : Str} {params : Arguments} {body : List Stmt} {scope : Scope} {f C : Addr} {B NB Ii : String} {tl : List Value} {p0 p1 p2 p3 p4 : Pos} {ar : Arg}
theorem xok1_of {pn fl : Str} {p5 p6 p7 p8 : Pos} (BA : EBa B NB Ii tl)
    (S : ∃ (cl : List (Str × Addr)) (c : Addr) (fd : FuncData), SuF K file ⟨"__init__", q, params, body, scope, cl, c⟩ f C fd) (T : OexG K C NB tl) (U : SuG K mg C B Ii) (M : Meth K C "__init__" f) (hno : PySem.W.takerIn K C fl = some none)
    (NS : NScope ["self", pn, "__class__"] ["self", pn] ["__class__"] scope)
    (hb : body = [.Expr (.Call (.Attribute (.Call (.Name "super" p0) [] [] p1) "__init__" p2) [] [] p3) p4, .Assign [.Attribute (.Name "self" p5) fl p6] (.Name pn p7) p8])
    (hP : ((P.main.file : Str) == file) = true) (hT : (P.main.scope.names.lookup ("super" : Str)).isSome = false)
    (hp : (params.posonlyargs ++ params.args).head? = some ar) (har : ar.arg = "self")
    (hks : scope.names.lookup ("super" : Str) = some .globalImplicit) (hkc : scope.names.lookup ("__class__" : Str) = some .free)
    (hbind : ∀ (cl : List (Str × Addr)) (c : Addr) (doc pm ctv u v : Value), bindArgs (NF.fd ⟨"__init__", q, params, body, scope, cl, c⟩ doc pm ctv) ⟨[u, v], []⟩ = pure [(("self" : Str), u), (pn, v)])
    (hpn : (pn == ("__debug__" : Str)) = false) (hpc : (pn == ("__classdict__" : Str)) = false) (hps : scope.names.lookup pn = some .local) (hss : scope.names.lookup ("self" : Str) = some .local)
    {pl : Env → Sem Bool} (hev : ∀ env : Env, eval (.Call (.Attribute (.Call (.Name "super" p0) [] [] p1) "__init__" p2) [] [] p3) env = (do
      let ov ← attributeBase (.Call (.Name "super" p0) [] [] p1) "__init__" env (eval (.Call (.Name "super" p0) [] [] p1) env)
      standAt p2.atName
      let (ff, first) ← holding [ov] (getMethod ov "__init__" (pl env))
      callWith p3 ff first (backTo p3 (starEach [] env)) []))
    (hint : ∀ (cl : List (Str × Addr)) (c f L : Addr), interactive (envF ⟨"__init__", q, params, body, scope, cl, c⟩ f L) = false)
    (hsw : ∀ (cl : List (Str × Addr)) (c f L : Addr), swapsWith (.Call (.Attribute (.Call (.Name "super" p0) [] [] p1) "__init__" p2) [] [] p3) none p4.line (envF ⟨"__init__", q, params, body, scope, cl, c⟩ f L) = pure false)
    (hsw2 : ∀ (cl : List (Str × Addr)) (c f L : Addr), swapsWith (.Name pn p7) (some (.Attribute (.Name "self" p5) fl p6)) p8.line (envF ⟨"__init__", q, params, body, scope, cl, c⟩ f L) = pure false) :
    XOkG P w K mg base C f NB tl ["self", pn] (spXf C [fl]) := by
  obtain ⟨cl, c, fd, S⟩ := S
  have hN0 : (["self", pn, "__class__"] : List Str)[0]? = some ar.arg := by rw [har]; rfl
  have hka : scope.names.lookup ar.arg = some .local := by rw [har]; exact hss
  have G : FnOk P w K mg base (L2C.CX P w) (0 + 1) f fd ["self", pn] (spXf C [fl]) := by
    refine fnS_ofG (rest := [.Assign [.Attribute (.Name "self" p5) fl p6] (.Name pn p7) p8]) BA S U T NS hb hP hT hp hN0 hka (pl := pl) (fun L => hev _) (fun L => hint cl c f L) (fun L => hsw cl c f L) hks hkc ?_ ?_
    · rintro vs H Q E ⟨a, ws, rfl, hl, _⟩
      simpa using hl
    · rintro A outer s H vs Q E hr ⟨a, ws, rfl, hl, ha, q⟩
      obtain ⟨v, rfl⟩ := List.length_eq_one_iff.mp hl
      refine ⟨a, [v], rfl, ha, _, pss_one (ps_fld BA T hno (pe_var (i := 0) rfl (Or.inl hss) (by decide) (by decide)) (pe_var (i := 1) rfl (Or.inl hps) hpn hpc) (hsw2 cl c f _)), ?_⟩
      exact ⟨v, rfl, .ref a, rfl, a, rfl, Or.inl ⟨ha, fun dx n ne => q dx n ne⟩⟩
  refine ⟨⟨fd, G, Binds.all fun us hl => ?_⟩, T, M.at_, ?_⟩
  · obtain ⟨oc, od, doc, pm, ctv, osl, efd, _⟩ := S.ex
    rw [efd]
    match us, hl with
    | [u, v], _ => exact hbind cl c doc pm ctv u v
  · have := M.fn
    unfold PySem.W.isFn at this
    simpa using this
theorem xok2_of {pn fl pm2 fm : Str} {p5 p6 p7 p8 r5 r6 r7 r8 : Pos} (BA : EBa B NB Ii tl)
    (S : ∃ (cl : List (Str × Addr)) (c : Addr) (fd : FuncData), SuF K file ⟨"__init__", q, params, body, scope, cl, c⟩ f C fd) (T : OexG K C NB tl) (U : SuG K mg C B Ii) (M : Meth K C "__init__" f) (hno : PySem.W.takerIn K C fl = some none) (hno2 : PySem.W.takerIn K C fm = some none)
    (NS : NScope ["self", pn, pm2, "__class__"] ["self", pn, pm2] ["__class__"] scope)
    (hb : body = [.Expr (.Call (.Attribute (.Call (.Name "super" p0) [] [] p1) "__init__" p2) [] [] p3) p4, .Assign [.Attribute (.Name "self" p5) fl p6] (.Name pn p7) p8, .Assign [.Attribute (.Name "self" r5) fm r6] (.Name pm2 r7) r8])
    (hP : ((P.main.file : Str) == file) = true) (hT : (P.main.scope.names.lookup ("super" : Str)).isSome = false)
    (hp : (params.posonlyargs ++ params.args).head? = some ar) (har : ar.arg = "self")
    (hks : scope.names.lookup ("super" : Str) = some .globalImplicit) (hkc : scope.names.lookup ("__class__" : Str) = some .free)
    (hbind : ∀ (cl : List (Str × Addr)) (c : Addr) (doc pm ctv u v x : Value), bindArgs (NF.fd ⟨"__init__", q, params, body, scope, cl, c⟩ doc pm ctv) ⟨[u, v, x], []⟩ = pure [(("self" : Str), u), (pn, v), (pm2, x)])
    (hpn : (pn == ("__debug__" : Str)) = false) (hpc : (pn == ("__classdict__" : Str)) = false) (hps : scope.names.lookup pn = some .local) (hss : scope.names.lookup ("self" : Str) = some .local)
    (hqn : (pm2 == ("__debug__" : Str)) = false) (hqc : (pm2 == ("__classdict__" : Str)) = false) (hqs : scope.names.lookup pm2 = some .local)
    {pl : Env → Sem Bool} (hev : ∀ env : Env, eval (.Call (.Attribute (.Call (.Name "super" p0) [] [] p1) "__init__" p2) [] [] p3) env = (do
      let ov ← attributeBase (.Call (.Name "super" p0) [] [] p1) "__init__" env (eval (.Call (.Name "super" p0) [] [] p1) env)
      standAt p2.atName
      let (ff, first) ← holding [ov] (getMethod ov "__init__" (pl env))
      callWith p3 ff first (backTo p3 (starEach [] env)) []))
    (hint : ∀ (cl : List (Str × Addr)) (c f L : Addr), interactive (envF ⟨"__init__", q, params, body, scope, cl, c⟩ f L) = false)
    (hsw : ∀ (cl : List (Str × Addr)) (c f L : Addr), swapsWith (.Call (.Attribute (.Call (.Name "super" p0) [] [] p1) "__init__" p2) [] [] p3) none p4.line (envF ⟨"__init__", q, params, body, scope, cl, c⟩ f L) = pure false)
    (hsw2 : ∀ (cl : List (Str × Addr)) (c f L : Addr), swapsWith (.Name pn p7) (some (.Attribute (.Name "self" p5) fl p6)) p8.line (envF ⟨"__init__", q, params, body, scope, cl, c⟩ f L) = pure false)
    (hsw3 : ∀ (cl : List (Str × Addr)) (c f L : Addr), swapsWith (.Name pm2 r7) (some (.Attribute (.Name "self" r5) fm r6)) r8.line (envF ⟨"__init__", q, params, body, scope, cl, c⟩ f L) = pure false) :
    XOkG P w K mg base C f NB tl ["self", pn, pm2] (spXf C [fl, fm]) := by
  obtain ⟨cl, c, fd, S⟩ := S
  have hN0 : (["self", pn, pm2, "__class__"] : List Str)[0]? = some ar.arg := by rw [har]; rfl
  have hka : scope.names.lookup ar.arg = some .local := by rw [har]; exact hss
  have G : FnOk P w K mg base (L2C.CX P w) (0 + 1) f fd ["self", pn, pm2] (spXf C [fl, fm]) := by
    refine fnS_ofG (rest := [.Assign [.Attribute (.Name "self" p5) fl p6] (.Name pn p7) p8, .Assign [.Attribute (.Name "self" r5) fm r6] (.Name pm2 r7) r8]) BA S U T NS hb hP hT hp hN0 hka (pl := pl) (fun L => hev _) (fun L => hint cl c f L) (fun L => hsw cl c f L) hks hkc ?_ ?_
    · rintro vs H Q E ⟨a, ws, rfl, hl, _⟩
      simpa using hl
    · rintro A outer s H vs Q E hr ⟨a, ws, rfl, hl, ha, q⟩
      obtain ⟨v, x, rfl⟩ : ∃ v x, ws = [v, x] := by
        match ws, hl with
        | [v, x], _ => exact ⟨v, x, rfl⟩
      refine ⟨a, [v, x], rfl, ha, _, pss_cons (ps_fld BA T hno (pe_var (i := 0) rfl (Or.inl hss) (by decide) (by decide)) (pe_var (i := 1) rfl (Or.inl hps) hpn hpc) (hsw2 cl c f _)) (pss_one (ps_fld BA T hno2 (pe_var (i := 0) rfl (Or.inl hss) (by decide) (by decide)) (pe_var (i := 2) rfl (Or.inl hqs) hqn hqc) (hsw3 cl c f _))), ?_⟩
      refine ⟨v, rfl, .ref a, rfl, a, rfl, Or.inl ⟨ha, fun dx n ne => ?_⟩⟩
      refine ⟨x, rfl, .ref a, rfl, a, rfl, Or.inr ⟨dx, [(fl, v)], by rw [upd_ne (Ne.symm ne), upd_same], upd_same, by show 1 ≤ 900; omega, ?_⟩⟩
      rw [upd_upd]
      exact q dx n ne
  refine ⟨⟨fd, G, Binds.all fun us hl => ?_⟩, T, M.at_, ?_⟩
  · obtain ⟨oc, od, doc, pm, ctv, osl, efd, _⟩ := S.ex
    rw [efd]
    match us, hl with
    | [u, v, x], _ => exact hbind cl c doc pm ctv u v x
  · have := M.fn
    unfold PySem.W.isFn at this
    simpa using this
end
/-- the made exception, let go: its dict stands as an exception's dict -/
theorem made_end {C : Addr} {fl : List Str} {Q : XK} {H1 : Hp} {vs : List V} (hl : vs.length = fl.length) (hz : vs.length ≤ 1000) (q : ∀ d, H1 d = none → Q (.ref C) (some d) (upd H1 d (.xd (fl.zip vs).reverse))) :
    vs.length ≤ 1000 ∧ ∀ a, H1 a = none → spXf C fl (.ref a :: (vs ++ [])) (upd H1 a (exo a C none))
      (fun u H2 => u = .non ∧ ∃ (d : Addr) (fs : List (Str × V)), H2 a = some (exo a C (some d)) ∧ H2 d = some (exd d fs) ∧ H1 d = none ∧ Q (.ref C) (some d) (upd (L2.del H2 a) d (.xd fs))) (fun _ _ _ => False) := by
  refine ⟨hz, fun a ha => ⟨a, vs, by rw [List.append_nil], hl, upd_same, fun dx hn ne => ⟨rfl, dx, (fl.zip vs).reverse, ?_, upd_same, ?_, ?_⟩⟩⟩
  · rw [upd_ne (Ne.symm ne), upd_same]
  · rw [upd_ne ne] at hn
    exact hn
  · rw [upd_ne ne] at hn
    have e : upd (L2.del (upd (upd (upd H1 a (exo a C none)) a (exo a C (some dx))) dx (exd dx (fl.zip vs).reverse)) a) dx (.xd (fl.zip vs).reverse) = upd H1 dx (.xd (fl.zip vs).reverse) := by
      funext b
      by_cases h1 : b = dx
      · rw [h1, upd_same, upd_same]
      · rw [upd_ne h1, upd_ne h1]
        by_cases h2 : b = a
        · rw [h2, L2.del_same, ha]
        · rw [L2.del_ne h2, upd_ne h1, upd_ne h2, upd_ne h2]
    rw [e]
    exact q dx hn
theorem pmk_x {X : Cx} {C fI : Addr} {ps fl : List Str} {x : Str} {e : Expr} {es : List Expr} {ta : TA} {p pos : Pos} {B NB Ii : String} {tl : List Value} (BA : EBa B NB Ii tl) (O : XOkG X.prog X.w X.K X.mg X.base C fI NB tl ps (spXf C fl)) (hr : Room 2 X.A) (hg : Gl X x) (hm : X.mg x = some (.ref C)) (ha : PA X (e :: es) ta)
    (hdb : (x == ("__debug__" : Str)) = false := by decide) (he : starEach (e :: es) X.env = (false, eval e X.env) :: starEach es X.env := by rfl) (hpl : (backTo pos (starEach es X.env)).any (·.1) = false := by rfl) :
    L2N.PMk X (.Call (.Name x p) (e :: es) [] pos) (tMkO C (spXf C fl) [] ta) := by
  obtain ⟨fd, F, b⟩ := O.ok
  exact pmk_oexG BA O.oex O.ini O.tyI F hr b passL hg hm ha hdb he hpl
end Bk
set_option Elab.async false
set_option linter.all false
set_option maxRecDepth 100000
set_option maxHeartbeats 4000000
namespace Bk
open PySem PySem.Spec PyProof.Rows L2 PySem.NumText
open PySem.W (Frag)
/-- a clause's test: what it answers of a class -/
def TestX (X : Cx) (te : Expr) (m : Value → Option Bool) : Prop := ∀ (a : Addr) (oe : Obj) (pn pins : List (Addr × Obj)) (σ : L2.St) (H : Hp) (s : Shared) (b : Bool) (Q : Bool → Shared → Prop) (E : Value → Shared → Prop),
  Inv (X.suite a ((a, oe) :: pn)) pins σ H s → m oe.cls = some b →
  (∀ h' t', (∀ c o, s.heap.get? c = some o → h'.get? c = some o) → Inv (X.suite a ((a, oe) :: pn)) pins σ H { s with heap := h', toks := t' } → Q b { s with heap := h', toks := t' }) →
  wpAny (model X.prog X.w) (X.A.mark (some (.ref a))) (eval te X.env) (fun c s₁ => wpAny (model X.prog X.w) (X.A.mark (some (.ref a))) (excMatches (.ref a) c) Q E s₁) E s
section
variable {X : Cx}
theorem held_get {a : Addr} {oe : Obj} {pn pins : List (Addr × Obj)} {σ : L2.St} {H : Hp} {s : Shared} (I : Inv (X.suite a ((a, oe) :: pn)) pins σ H s) : s.heap.get? a = some oe :=
  (I.pin (a, oe) (List.mem_append_left _ List.mem_cons_self)).1
theorem held_ty {a : Addr} {oe : Obj} {h : Heap} (g : h.get? a = some oe) : PySem.W.Looks (model X.prog X.w) h (typeOf (.ref a)) oe.cls := fun A Q E s k q => wpAny_typeOf_ref (k _ _ g) q
theorem test_name {x : Str} {c : Value} {np : Pos} (hc : Names X x c) : TestX X (.Name x np) fun cls => PySem.W.exmOne X.K cls c := by
  intro a oe pn pins σ H s b Q E I hb q
  have LM := PySem.W.exm_one (M := model X.prog X.w) I.kIn (held_ty (X := X) (held_get I)) hb
  have fin : wpAny (model X.prog X.w) (X.A.mark (some (.ref a))) (excMatches (.ref a) c) Q E s := LM.here (q s.heap s.toks (fun _ _ z => z) I)
  rcases hc with ⟨hg, hdbg, hm | ⟨hm, hv, hnn⟩⟩
  · exact ld_glob (X := X.suite a ((a, oe) :: pn)) I hg hm fin hdbg
  · exact ld_blt (X := X.suite a ((a, oe) :: pn)) I hg hm hv fin hnn hdbg
abbrev Clause := (Value → Option Bool) × Option Nat × (Addr → Value → Option Addr → TS)
def offE (i : Option Nat) (D : Ends) : Ends := match i with
  | none => D
  | some i => { nx := fun σ' H' => D.nx (σ'.set i none) H', rt := D.rt, bk := fun σ' H' => D.bk (σ'.set i none) H', ct := fun σ' H' => D.ct (σ'.set i none) H' }
def onS (i : Option Nat) (a : Addr) (σ : L2.St) : L2.St := match i with
  | none => σ
  | some i => σ.set i (some (.ref a))
/-- what they wish of an exception of the body -/
def wH (Wout : WX) (D : Ends) : List Clause → WX
  | [] => Wout
  | (m, i, ts) :: r => fun cls d σ H => ∃ b, m cls = some b ∧ (b = true → ∀ a, H a = none → ts a cls d (offE i D) (onS i a σ) H) ∧ (b = false → wH Wout D r cls d σ H)
def SlotOk (X : Cx) : Option Str → Option Nat → Prop
  | none, none => True
  | some n, some i => X.N[i]? = some n ∧ X.env.kindOf n = some .local
  | _, _ => False
inductive HdsX (X : Cx) (W : WX) : List ExceptHandler → List Clause → Prop
  | nil : HdsX X W [] []
  | cons {te : Expr} {m : Value → Option Bool} {no : Option Str} {i : Option Nat} {ts : Addr → Value → Option Addr → TS} {b₀ : Stmt} {suite : List Stmt} {pos' : Pos} {hds : List ExceptHandler} {l : List Clause} (ht : TestX X te m) (hn : SlotOk X no i)
      (hsu : ∀ (a : Addr) (oe : Obj) (cls : Value) (d : Option Addr) (pn : List (Addr × Obj)), L2C.Held a oe cls d pn → (∃ vs, oe.data = .fields vs) → PSs (X.suite a ((a, oe) :: pn)) (b₀ :: suite) (ts a cls d)) (r : HdsX X W hds l) :
      HdsX X W (.ExceptHandler (some te) no (b₀ :: suite) pos' :: hds) ((m, i, ts) :: l)
  | consR {te : Expr} {m : Value → Option Bool} {ts : Addr → Value → Option Addr → TS} {b₀ : Stmt} {suite : List Stmt} {pos' : Pos} {hds : List ExceptHandler} {l : List Clause} (ht : TestX X te m)
      (hsu : ∀ (a : Addr) (oe : Obj) (cls : Value) (d : Option Addr) (pn : List (Addr × Obj)), L2C.Held a oe cls d pn → (∃ vs, oe.data = .fields vs) → L2C.Takes (L2H.suiteX X a ((a, oe) :: pn)) W → PSs (L2H.suiteX X a ((a, oe) :: pn)) (b₀ :: suite) (ts a cls d)) (r : HdsX X W hds l) :
      HdsX X W (.ExceptHandler (some te) none (b₀ :: suite) pos' :: hds) ((m, none, ts) :: l)
theorem flying_keeps {B h h' : Heap} {l : List Env} {a : Addr} {Z : Obj → Prop} (k : ∀ c o, h.get? c = some o → h'.get? c = some o) (x : HandSPX.FlyingZ B l a Z h) : HandSPX.FlyingZ B l a Z h' := by
  obtain ⟨f1, f2, f3, oe, vs, T, oT, ts, g1, g2, g3, g4, g5, g6, g7, g8, g9⟩ := x
  exact ⟨fun c o e => k c o (f1 c o e), f2, f3.of_keeps fun c o e _ => ⟨o, k c o e, rfl⟩, oe, vs, T, oT, ts, k _ _ g1, g2, g3, g4, g5, g6, k _ _ g7, g8, g9⟩
theorem ps_tryG {body : List Stmt} {h₀ : ExceptHandler} {hds : List ExceptHandler} {l : List Clause} {pos : Pos} {tb : WX → TS} {Wout : WX} (hs : X.stack = X.env :: X.outer) (hf : X.env.frame = some X.env.locals) (hN : X.N.Nodup) (tk : L2C.Takes X Wout) (hpa : ∀ hd : Option Value, PassesOwnAt (model X.prog X.w) (X.A.mark hd) X.A X.env X.xe)
    (hb : ∀ (W : WX) (pn : List (Addr × Obj)) (xe : Value → Shared → Prop), L2C.Takes (X.tr pn xe) W → PassesOwn (model X.prog X.w) X.A X.env xe → PSs (X.tr pn xe) body (tb W)) (hh : HdsX X Wout (h₀ :: hds) l) :
    PS X (.Try body (h₀ :: hds) [] [] pos) (fun D σ H => tb (fun cls d σ' H' => σ'.length = X.N.length → wH Wout D l cls d σ' H') D σ H) := by
  refine ⟨fun pins s σ H D I h => ?_⟩
  have okX := I.ok
  have frX : X.A.frames = some (X.env :: X.outer) := by rw [okX.frames, hs]
  -- the way through the clauses
  have clauses : ∀ {hd' : List ExceptHandler} {l' : List Clause}, HdsX X Wout hd' l' → ∀ {a : Addr} {B : Heap} {cls : Value} {d : Option Addr} {σ1 : L2.St} {H1 : Hp} {sI s1 : Shared}, Inv X pins σ1 H1 sI → (∀ b o, sI.heap.get? b = some o → b ∉ frs X.stack → B.get? b = some o) → sI.heap.UpToSlots s1.heap → H1 a = none → s1.os = sI.os → AllBare s1.gens →
      HandSPX.FlyingZ B (X.env :: X.outer) a (L2C.Zk B H1 cls d) s1.heap → wH Wout D l' cls d σ1 H1 → wpAny (model X.prog X.w) X.A (handleBy (.ref a) X.env hd') (SP X pins D) X.xe s1 := by
    intro hd' l' hk
    induction hk with
    | nil =>
      intro a B cls d σ1 H1 sI s1 J ground ups na hos hbare fly wish
      obtain ⟨oeF, vsF, T, oT, tsT, gF, zF, dF, i1, nT, hTa, gT, dT, i3⟩ := fly.2.2.2
      refine wpAny_handleBy_nil ?_
      unfold PySem.passOn
      have outward : wpAny (model X.prog X.w) X.A (setFlight (.ref a) X.env.frame) (fun _ s4 => wpAny (model X.prog X.w) X.A (throw (.ref a) : Sem Flow) (SP X pins D) X.xe s4) X.xe s1 := by
        rw [hf]
        exact HandSPX.setFlight_upZ fly fun h4 held4 up4 => wpAny_throw (tk _ _ ⟨a, B, sI, pins, σ1, H1, cls, d, rfl, J, ground, ups.trans up4, .inr (.inr (by rw [hs]; exact held4)), na, hos, hbare, wish⟩)
      refine wpAny_bind (wpAny_field gF dF i1 ?_)
      rw [if_neg (show ¬ ((Value.ref T == Value.none) = true) from by simp)]
      first
        | exact wpAny_bind (wpAny_pure (wpAny_bind outward))
        | exact wpAny_bind outward
    | @cons te m no i ts b₀ suite pos' hds2 l2 ht hn hsu r ih =>
      intro a B cls d σ1 H1 sI s1 J ground ups na hos hbare fly wish
      obtain ⟨b, hb1, hyes, hno⟩ := wish
      obtain ⟨oeF, vsF, gF, zF, dF⟩ := fly.there
      -- the exception's object is no frame
      have noFrame : ∀ {h : Heap} {o : Obj} {vs : Array Value}, h.FunFrames B (X.env :: X.outer) → h.get? a = some o → o.data = .fields vs → a ∉ frs (X.env :: X.outer) := by
        intro h o vs ff g dd hm
        obtain ⟨_, o2, g2, nf2⟩ := ff.mem hm
        rw [g] at g2
        cases g2
        exact nf2 _ dd
      have aFr := noFrame fly.2.2.1 gF dF
      have aL : a ≠ X.env.locals := fun z => aFr (List.mem_filterMap.mpr ⟨X.env, List.mem_cons_self, by rw [hf, z]⟩)
      have aF : a ∉ X.fs := fun hm => by
        obtain ⟨ev, hev, q⟩ := List.mem_filterMap.mp hm
        exact aFr (List.mem_filterMap.mpr ⟨ev, List.mem_cons_of_mem _ hev, q⟩)
      have J1 : Inv X pins σ1 H1 s1 := J.landed ground fly.1 ups hos hbare
      have S1 := J1.suite gF dF na aL aF
      refine wpAny_handleBy_cons (codeAny_handlers_test ?_) (by intro q; cases q)
      refine ht a oeF (X.pn ++ pins) [] σ1 H1 s1 b _ _ S1 (by rw [zF.1]; exact hb1) fun h2 t2 k2 S2 => ?_
      have fly2 := flying_keeps k2 fly
      have ups2 : sI.heap.UpToSlots h2 := ups.trans (Heap.UpToSlots.of_keeps k2)
      cases b with
      | false =>
        show wpAny _ X.A (handleBy (.ref a) X.env hds2) _ _ _
        exact ih (s1 := { s1 with heap := h2, toks := t2 }) J ground ups2 na hos hbare fly2 (hno rfl)
      | true =>
        have enter : ∀ h4, HandSPX.FlyingZ B (X.env :: X.outer) a (L2C.Zk B H1 cls d) h4 → h2.UpToSlots h4 → ∃ (oe4 : Obj) (cp : List (Addr × Obj)), L2C.Held a oe4 cls d (X.pn ++ (cp ++ pins)) ∧ (∃ vs, oe4.data = .fields vs) ∧ Inv (X.suite a ((a, oe4) :: (X.pn ++ (cp ++ pins)))) [] σ1 H1 { s1 with heap := h4, toks := t2 } := by
          intro h4 fly4 up4
          have J4 : Inv X pins σ1 H1 { s1 with heap := h4, toks := t2 } := J.landed ground fly4.1 (ups2.trans up4) hos hbare
          exact L2C.enter J4 hf fly4 na
        match no, i, hn with
        | none, none, _ =>
          refine codeAny_handlers_suite (HandSPX.lands_againZ fly2 fun h4 fly4 up4 => ?_)
          obtain ⟨oe4, cp, z4, d4, S4⟩ := enter h4 fly4 up4
          refine wpAny_mono ((hsu a oe4 cls d (X.pn ++ (cp ++ pins)) z4 d4).run [] _ _ H1 _ S4 (hyes rfl a na)) (fun f s6 q6 => ?_) (fun _ _ z => False.elim z)
          match f, q6 with
          | .next, ⟨σ6, H6, S6, q⟩ => exact ⟨_, _, L2C.out_of S6 okX, q⟩
          | .brk, ⟨σ6, H6, S6, q⟩ => exact ⟨_, _, L2C.out_of S6 okX, q⟩
          | .cont, ⟨σ6, H6, S6, q⟩ => exact ⟨_, _, L2C.out_of S6 okX, q⟩
          | .ret u, ⟨v6, σ6, H6, S6, r6, q⟩ => exact ⟨_, _, _, L2C.out_of S6 okX, r6, q⟩
        | some n, some i, ⟨hi, hln⟩ =>
          refine codeAny_handlers_suite_as (HandSPX.lands_againZ fly2 fun h4 fly4 up4 => ?_)
          obtain ⟨oe4, cp, z4, d4, S4⟩ := enter h4 fly4 up4
          refine store_ok (X := X.suite a ((a, oe4) :: (X.pn ++ (cp ++ pins)))) (v := .ref a) S4 hN hi (.inl hln) rfl (fun s5 S5 => ?_) (.inr hln)
          refine wpAny_mono ((hsu a oe4 cls d (X.pn ++ (cp ++ pins)) z4 d4).run [] s5 _ H1 _ S5 (hyes rfl a na)) (fun f s6 q6 => ?_) (fun _ _ z => False.elim z)
          match f, q6 with
          | .next, ⟨σ6, H6, S6, q⟩ => exact gone_ok (L2C.out_of S6 okX) hN hi hln fun s7 J7 => ⟨_, _, J7, q⟩
          | .brk, ⟨σ6, H6, S6, q⟩ => exact gone_ok (L2C.out_of S6 okX) hN hi hln fun s7 J7 => ⟨_, _, J7, q⟩
          | .cont, ⟨σ6, H6, S6, q⟩ => exact gone_ok (L2C.out_of S6 okX) hN hi hln fun s7 J7 => ⟨_, _, J7, q⟩
          | .ret u, ⟨v6, σ6, H6, S6, r6, q⟩ => exact gone_ok (L2C.out_of S6 okX) hN hi hln fun s7 J7 => ⟨_, _, _, J7, r6, q⟩
    | @consR te m ts b₀ suite pos' hds2 l2 ht hsu r ih =>
      intro a B cls d σ1 H1 sI s1 J ground ups na hos hbare fly wish
      obtain ⟨b, hb1, hyes, hno⟩ := wish
      obtain ⟨oeF, vsF, gF, zF, dF⟩ := fly.there
      have noFrame : ∀ {h : Heap} {o : Obj} {vs : Array Value}, h.FunFrames B (X.env :: X.outer) → h.get? a = some o → o.data = .fields vs → a ∉ frs (X.env :: X.outer) := by
        intro h o vs ff g dd hm
        obtain ⟨_, o2, g2, nf2⟩ := ff.mem hm
        rw [g] at g2
        cases g2
        exact nf2 _ dd
      have aFr := noFrame fly.2.2.1 gF dF
      have aL : a ≠ X.env.locals := fun z => aFr (List.mem_filterMap.mpr ⟨X.env, List.mem_cons_self, by rw [hf, z]⟩)
      have aF : a ∉ X.fs := fun hm => by
        obtain ⟨ev, hev, q⟩ := List.mem_filterMap.mp hm
        exact aFr (List.mem_filterMap.mpr ⟨ev, List.mem_cons_of_mem _ hev, q⟩)
      have J1 : Inv X pins σ1 H1 s1 := J.landed ground fly.1 ups hos hbare
      have S1 := J1.suite gF dF na aL aF
      refine wpAny_handleBy_cons (codeAny_handlers_test ?_) (by intro q; cases q)
      refine ht a oeF (X.pn ++ pins) [] σ1 H1 s1 b _ _ S1 (by rw [zF.1]; exact hb1) fun h2 t2 k2 S2 => ?_
      have fly2 := flying_keeps k2 fly
      have ups2 : sI.heap.UpToSlots h2 := ups.trans (Heap.UpToSlots.of_keeps k2)
      cases b with
      | false =>
        show wpAny _ X.A (handleBy (.ref a) X.env hds2) _ _ _
        exact ih (s1 := { s1 with heap := h2, toks := t2 }) J ground ups2 na hos hbare fly2 (hno rfl)
      | true =>
        refine codeAny_handlers_suite (HandSPX.lands_againZ fly2 fun h4 fly4 up4 => ?_)
        have J4 : Inv X pins σ1 H1 { s1 with heap := h4, toks := t2 } := J.landed ground fly4.1 (ups2.trans up4) hos hbare
        obtain ⟨oe4, cp, z4, d4, S4⟩ := L2C.enter J4 hf fly4 na
        have back : ∀ {pn' : List (Addr × Obj)} {σ' : L2.St} {H' : Hp} {s' : Shared}, Inv (L2H.suiteX X a ((a, oe4) :: (X.pn ++ (cp ++ pins)))) pn' σ' H' s' → Inv X pins σ' H' s' := fun I => by
          have I2 := L2H.unsuiteX (X := X) (pins := cp ++ pins) I okX
          exact I2.pins_of fun p hp => I2.pin p (List.mem_append_right _ (List.mem_append_right _ hp))
        have tkS : L2C.Takes (L2H.suiteX X a ((a, oe4) :: (X.pn ++ (cp ++ pins)))) Wout := fun u2 s2 x2 => by
          obtain ⟨a2, B2, sI2, pn2, σ2, H2, cls2, d2, e2, I2, nb2, up2, sky2, na2, os2, ag2, w2⟩ := x2
          exact tk u2 s2 ⟨a2, B2, sI2, pins, σ2, H2, cls2, d2, e2, back I2, nb2, up2, sky2, na2, os2, ag2, w2⟩
        refine wpAny_mono ((hsu a oe4 cls d (X.pn ++ (cp ++ pins)) z4 d4 tkS).run [] _ _ H1 _ (L2H.suiteX_of S4) (hyes rfl a na)) (fun f s6 q6 => ?_) (fun e6 s6 z => hpa (some (.ref a)) e6 s6 z)
        match f, q6 with
        | .next, ⟨σ6, H6, S6, q⟩ => exact ⟨_, _, back S6, q⟩
        | .brk, ⟨σ6, H6, S6, q⟩ => exact ⟨_, _, back S6, q⟩
        | .cont, ⟨σ6, H6, S6, q⟩ => exact ⟨_, _, back S6, q⟩
        | .ret u, ⟨v6, σ6, H6, S6, r6, q⟩ => exact ⟨_, _, _, back S6, r6, q⟩
  -- the body
  refine wpAny_Try_except ?_
  refine wpAny_mono ((hb (fun cls d σ' H' => σ'.length = X.N.length → wH Wout D l cls d σ' H') (X.pn ++ pins) (fun e s₁ => wpAny (model X.prog X.w) X.A (noteFrame e X.env) (fun _ s₂ => wpAny (model X.prog X.w) X.A (setFlight e none) (fun _ s₃ =>
    wpAny (model X.prog X.w) X.A (handleBy e X.env (h₀ :: hds)) (SP X pins D) X.xe s₃) X.xe s₂) X.xe s₁) (fun u s' xx => ?_) PassesOwn.looking).run [] s σ H D (I.toTry _) h) (fun f s1 q1 => ?_) (fun e s1 he => he)
  · obtain ⟨a, B, sI, pins', σ1, H1, cls, d, rfl, J', ground, ups, sky, na, hos, hbare, wish⟩ := xx
    have J : Inv X pins σ1 H1 sI := J'.ofTry okX
    have sky' : Sky B (X.env :: X.outer) a (L2C.Zk B H1 cls d) X.env.locals s'.heap := by rw [← hs]; exact sky
    show wpAny (model X.prog X.w) X.A (noteFrame (.ref a) X.env) _ _ _
    exact L2C.Sky.land L2C.Zk.steady frX hf sky' fun h3 fly3 up3 => clauses hh (s1 := { s' with heap := h3 }) J ground (ups.trans up3) na hos hbare fly3 (wish J.len)
  · match f, q1 with
    | .next, ⟨σ6, H6, S6, q⟩ => exact wpAny_execs_nil ⟨_, _, S6.ofTry okX, q⟩
    | .brk, ⟨σ6, H6, S6, q⟩ => exact ⟨_, _, S6.ofTry okX, q⟩
    | .cont, ⟨σ6, H6, S6, q⟩ => exact ⟨_, _, S6.ofTry okX, q⟩
    | .ret u, ⟨v6, σ6, H6, S6, r6, q⟩ => exact ⟨_, _, _, S6.ofTry okX, r6, q⟩
end
end Bk
set_option Elab.async false
set_option linter.all false
set_option maxRecDepth 100000
set_option maxHeartbeats 4000000
namespace Bk
open PySem PySem.Spec PyProof.Rows L2 PySem.NumText
open PySem.W (Frag)
open HotX L2H
open L2C (Ch)
/-- the block of a comprehension that bears the pins of the def -/
abbrev blkH (X : Cx) (s : Shared) (H : Hp) (scope : Scope) (cenv : Env) (fp : List Addr) : Cx := { X.blk s H scope cenv fp with pn := X.pn }
end Bk
set_option Elab.async false
set_option linter.all false
set_option maxRecDepth 100000
set_option maxHeartbeats 4000000
namespace Bk
open PySem PySem.Spec PyProof.Rows L2 PySem.NumText
open PySem.W (Frag)
open HotX L2H
end Bk
set_option Elab.async false
set_option linter.all false
set_option maxRecDepth 100000
set_option maxHeartbeats 4000000
namespace Bk
open PySem PySem.Spec PyProof.Rows L2 PySem.NumText
open PySem.W (Frag)
open LamX
end Bk
set_option Elab.async false
set_option linter.all false
set_option maxRecDepth 100000
set_option maxHeartbeats 4000000
namespace Bk
open PySem PySem.Spec PyProof.Rows L2 PySem.NumText
open PySem.W (Frag)
end Bk
set_option Elab.async false
set_option linter.all false
set_option maxRecDepth 100000
set_option maxHeartbeats 4000000
namespace Bk
open PySem PySem.Spec PyProof.Rows L2 PySem.NumText
open PySem.W (Frag)
open NdefX L2H
end Bk
set_option Elab.async false
set_option linter.all false
set_option maxRecDepth 100000
set_option maxHeartbeats 4000000
namespace PySem
namespace HandSPX
open Builtin Builtin.ObjectAttr
section
variable {M : Model} {A : Around} {E : Value → Shared → Prop} {h : Heap} {g : Array GenState} {d : Drawn} {t : Nat} {os : OsState}
variable {nm q : Str} {C N : Addr} {bs bm bmB : List Value} {hdct : Bool} {sn : List Str} {sub : List Value} {ab : Bool} {col : Option Bool} {dd : Option Addr} {k0 k1 k2 k3 k5 : Option Value} {B newId initId : String} {kw : List (Str × Value)}
theorem check_new_ownK (F : ExcBaseFacts B newId initId bmB) (hT : ∀ X : String, bm.contains (.type X) = bmB.contains (.type X)) {rest : List Value} {Q : Unit → Shared → Prop}
    (hC : h.get? C = some (excClassObj nm q C N bs bm hdct sn sub ab col dd k0 k1 k2 k3 k5 newId)) (hq : Q () ⟨h, g, d, t, os⟩) : wpAny M A (checkBuiltinCall newId ⟨.ref C :: rest, kw⟩) Q E ⟨h, g, d, t, os⟩ := by
  have hcont : (Value.ref C :: bm).contains (.type B) = true := by rw [List.contains_cons, hT, F.hasB, Bool.or_true]
  have hstar := F.noStar
  simp only [checkBuiltinCall, F.newKind, F.newSplit, F.newRow]
  repeat (first | refine wpAny_loadPart_at hC ?_ | (refine wpAny_isSubtype_exc hC ?_; rw [hcont]) | refine wpAny_staticBase_exc hC ?_ | refine wpAny_madeBy_exc hC ?_ | simp only [bne_self_eq_false, Bool.false_eq_true, if_false] | wp_step)
  exact hq
end
section
variable {prog : Program} {w : World} {A : Around} {E : Value → Shared → Prop} {R : Result → Shared → Prop} {h : Heap} {g : Array GenState} {d : Drawn} {t : Nat} {os : OsState}
variable {nm q : Str} {C N : Addr} {bs bm bmB : List Value} {hdct : Bool} {sn : List Str} {sub : List Value} {ab : Bool} {col : Option Bool} {dd : Option Addr} {k0 k1 k2 k3 k5 : Option Value} {B newId initId : String} {kw : List (Str × Value)}
theorem new_ownK (F : ExcBaseFacts B newId initId bmB) (hT : ∀ X : String, bm.contains (.type X) = bmB.contains (.type X)) {rest : List Value}
    (hC : h.get? C = some (excClassObj nm q C N bs bm hdct sn sub ab col dd k0 k1 k2 k3 k5 newId))
    (hq : R (.ok (.ret (.ref (h.objs.size + 1)))) ⟨(h.push { cls := .type "tuple", data := .seq rest.toArray }).push
      { cls := .ref C, data := .fields #[.ref h.objs.size, .none, .none, .none, .bool false, .none] }, g, d, t, os⟩) (hrest : rest.length ≤ sizeLine) :
    codeAny (model prog w) A (.builtin newId ⟨.ref C :: rest, kw⟩) R ⟨h, g, d, t, os⟩ := by
  have hends := F.ends
  have hcB : (Value.ref C :: bm).contains (.type B) = true := by rw [List.contains_cons, hT, F.hasB, Bool.or_true]
  have hcA : (Value.ref C :: bm).contains (.type "AttributeError") = false := by rw [List.contains_cons, hT, F.noAttr]; rfl
  have hcN : (Value.ref C :: bm).contains (.type "NameError") = false := by rw [List.contains_cons, hT, F.noName]; rfl
  refine codeAny_builtinAt F.entry ?_
  unfold Builtin.«BaseException.__new__»
  refine wpAt_bind ?_
  show wpAt _ _ _ (stack >>= _) _ _ _
  refine wpAt_bind (wpAt_stack fun p below => wpAt_of_wpAny ?_)
  wp_walk
  refine wpAt_of_wpAny ?_
  rw [F.owner]
  repeat (first | with_reducible refine wpAny_madeHere_exc F.canon hC ?_ | with_reducible refine wpAny_loadPart_at hC ?_ | (with_reducible refine wpAny_isSubtype_exc hC ?_; first | rw [hcB] | rw [hcA] | rw [hcN]) | wp_step)
  show R _ _
  rw [Heap.size_push]
  exact hq
theorem type_call_ownK (F : ExcBaseFacts B newId initId bmB) (hT : ∀ X : String, bm.contains (.type X) = bmB.contains (.type X)) {rest : List Value} {fI : Addr} {Q : Fin → Shared → Prop}
    (hC : h.get? C = some (excClassObj nm q C N bs bm hdct sn sub ab col dd k0 k1 k2 k3 k5 newId))
    (hi : W.Looks (model prog w) h (typeLookup (.ref C) "__init__") (some (.ref fI))) (hb : ∀ self, W.Looks (model prog w) h (bindSpecial (.ref fI) self) (.ref fI, [self])) (hrest : rest.length ≤ sizeLine)
    (hq : codeAny (model prog w) A (.call (.ref fI) ⟨.ref (h.objs.size + 1) :: rest, kw⟩)
      (fun r s' => match r with | .ok (.ret v) => v = .none ∧ Q (.done (.ret (.ref (h.objs.size + 1)))) s' | .ok _ => False | .error e => E e s')
      ⟨(h.push (W.kdv_tup rest)).push (excO C h.objs.size), g, d, t, os⟩) :
    wpAny (model prog w) A (Builtin.«type.__call__» ⟨.ref C :: rest, kw⟩) Q E ⟨h, g, d, t, os⟩ := by
  repeat (first | with_reducible refine wpAny_loadPart_at hC ?_ | with_reducible refine wpAny_madeBy_exc hC ?_ | wp_step)
  refine codeAny_call_builtin_code (Code.quiet_builtin _ F.quiet) (check_new_ownK F hT hC ?_)
  refine new_ownK F hT hC ?_ hrest
  show wpAny _ _ _ _ _ _
  have k : ∀ b o, h.get? b = some o → ((h.push (W.kdv_tup rest)).push (excO C h.objs.size)).get? b = some o := fun b o e => Heap.get?_push_of_some _ (Heap.get?_push_of_some _ e)
  have hC₁ := k _ _ hC
  have hget : ((h.push (W.kdv_tup rest)).push (excO C h.objs.size)).get? (h.objs.size + 1) = some (excO C h.objs.size) := by heap_get
  have hcC : (Value.ref C :: bm).contains (.ref C) = true := by simp
  have i1 := hi.keeps k
  have b1 := (hb (.ref (h.objs.size + 1))).keeps k
  unfold isInstance
  repeat (first | with_reducible refine wpAny_loadPart_at hget ?_ | (with_reducible refine wpAny_isSubtype_exc hC₁ ?_; rw [hcC]) | wp_step)
  show wpAny _ _ (typeLookup (.ref C) _) _ _ _
  refine i1.at ?_
  refine wpAny_holding (wpAny_bind (b1.at ?_))
  refine wpAny_bind (wpAny_call (codeAny_mono hq fun r s' z => ?_))
  rcases r with e | (v | _ | _ | _) <;> first | exact z | exact z.elim | skip
  obtain ⟨rfl, z⟩ := z
  first
    | exact wpAny_pure (wpAny_pure z)
    | (wp_walk; exact z)
theorem call_ownK (F : ExcBaseFacts B newId initId bmB) (hT : ∀ X : String, bm.contains (.type X) = bmB.contains (.type X)) {rest : List Value} {fI : Addr}
    (hC : h.get? C = some (excClassObj nm q C N bs bm hdct sn sub ab col dd k0 k1 k2 k3 k5 newId))
    (hi : W.Looks (model prog w) h (typeLookup (.ref C) "__init__") (some (.ref fI))) (hb : ∀ self, W.Looks (model prog w) h (bindSpecial (.ref fI) self) (.ref fI, [self])) (hrest : rest.length ≤ sizeLine)
    (hq : codeAny (model prog w) (A.under (.builtin "type.__call__" ⟨.ref C :: rest, kw⟩)) (.call (.ref fI) ⟨.ref (h.objs.size + 1) :: rest, kw⟩) (W.InitBack (h.objs.size + 1) R)
      ⟨(h.push (W.kdv_tup rest)).push (excO C h.objs.size), g, d, t, os⟩) :
    codeAny (model prog w) A (.call (.ref C) ⟨rest, kw⟩) R ⟨h, g, d, t, os⟩ := by
  have f1 := tc_lookup
  have f2 := tc_bind (.ref C)
  have hTy : (⟨h, g, d, t, os⟩ : Shared).TypeIs (.ref C) "type" := ⟨_, hC, rfl⟩
  refine codeAny_of_tree ?_
  show wpAny _ _ (callAny (.ref C) _) _ _ _
  repeat (any_goals (first | assumption | with_reducible refine wpAny_loadPart_at hC ?_ | wp_step))
  refine ⟨rfl, ?_⟩
  refine codeAny_call_builtin_at (Code.quiet_builtin _ (by decide +kernel)) entry_typeCall (wpAny_check_type_call_sub hC (type_call_ownK F hT hC hi hb hrest ?_))
  refine codeAny_mono hq fun r s' z => ?_
  rcases r with e | (v | _ | _ | _) <;> exact z
end
end HandSPX
end PySem
set_option Elab.async false
set_option linter.all false
set_option maxRecDepth 100000
set_option maxHeartbeats 4000000
namespace Bk
open PySem PySem.Spec PyProof.Rows L2 PySem.NumText
open PySem.W (Frag)
open NdefX
/-- C(e, ..) as a value: the dict is laid by __init__ -/
def tXmk (C : Addr) (sp : Sp) (g : List V → List V) (ta : TA) : TE := fun σ H Q => ta σ H fun vs H1 => vs.length ≤ 1000 ∧ ∀ a, H1 a = none → sp (.ref a :: g vs) (upd H1 a (exo a C none)) (fun v H2 => v = .non ∧ Q (.ref a) H2) (fun _ _ _ => False)
def tXmkK (C : Addr) (sp : Sp) (m : Nat) (g : List V → List V) (ta : TA) : TE := fun σ H Q => ta σ H fun vs H1 => vs.length = m ∧ vs.length ≤ 1000 ∧ ∀ a, H1 a = none → sp (.ref a :: g vs) (upd H1 a (exo a C none)) (fun v H2 => v = .non ∧ Q (.ref a) H2) (fun _ _ _ => False)
section
variable {X : Cx} {x : Str} {C fI : Addr} {k : Nat} {fd : FuncData} {ps : List Str} {sp : Sp} {e : Expr} {es : List Expr} {kws : List Keyword} {ta : TA} {p pos : Pos} {B NB Ii : String} {tl : List Value}
/-- the call, its values at hand -/
theorem run_xmk {pins : List (Addr × Obj)} {σ : L2.St} {H1 : Hp} {s1 : Shared} {Q : VK} {us : List Value} {kw : List (Str × Value)} {vs : List V} {bs2 : List Value} (BA : EBa B NB Ii tl) (T : OexG X.K C NB tl) (iC : PySem.W.findIn X.K (.ref C) "__init__" = some (some (.ref fI)))
    (tI : PySem.W.typeIn X.K (.ref fI) = some (.type "function")) (F1 : FnOk X.prog X.w X.K X.mg X.base (L2C.CX X.prog X.w) k fI fd ps sp) (hr : Room (k + 1) X.A)
    (hb : ∀ (s : Shared) (u : Value), X.K.In s.heap → BindsTo s fd ⟨u :: us, kw⟩ (ps.zip (u :: bs2))) (rb : Vals vs bs2) (I1 : Inv X pins σ H1 s1) (hus : us.length ≤ sizeLine)
    (q1 : ∀ a, H1 a = none → sp (.ref a :: vs) (upd H1 a (exo a C none)) (fun v H2 => v = .non ∧ Q (.ref a) H2) (fun _ _ _ => False)) :
    wpAny (model X.prog X.w) X.A (call (.ref C) us kw) (EP X pins σ Q) X.xe s1 := by
  have hx : Passes (L2C.CX X.prog X.w) X (fun _ _ _ => False) := passL
  obtain ⟨nm, Na, qn, bs, bm, hdct, sn, sub, ab, col, dd, k0, k1, k2, k3, k5, hC, hbm⟩ := PySem.W.excInit_of I1.kIn T.init
  have KI := I1.kIn
  obtain ⟨hp, g, dr, tk, os⟩ := s1
  have hsz : hp.objs.size ≤ hp.objs.size + 1 := Nat.le_succ _
  have hn : H1 (hp.objs.size + 1) = none := I1.hok.fresh hsz
  have hq := q1 (hp.objs.size + 1) hn
  have kk : ∀ b o, hp.get? b = some o → ((hp.push (PySem.W.kdv_tup us)).push (PySem.HandSPX.excO C hp.objs.size)).get? b = some o := fun b o e => Heap.get?_push_of_some _ (Heap.get?_push_of_some _ e)
  have hget : ((hp.push (PySem.W.kdv_tup us)).push (PySem.HandSPX.excO C hp.objs.size)).get? (hp.objs.size + 1) = some (PySem.HandSPX.excO C hp.objs.size) := by heap_get
  have I2 := I1.laid (t' := tk) (a := hp.objs.size + 1) (o := exo (hp.objs.size + 1) C none) (h' := (hp.push (PySem.W.kdv_tup us)).push (PySem.HandSPX.excO C hp.objs.size)) kk hsz (exo_ok hget)
  have r2 : Vals (V.ref (hp.objs.size + 1) :: vs) (Value.ref (hp.objs.size + 1) :: bs2) := .cons rfl rb
  have hbd := hb _ (Value.ref (hp.objs.size + 1)) I2.kIn
  refine wpAny_call (PySem.HandSPX.call_ownK BA.base hbm hC (PySem.W.looks_findIn KI iC) (fun self => PySem.W.bind_fn KI self tI) hus
    (codeAny_mono (F1.run _ X.stack _ _ ⟨Value.ref (hp.objs.size + 1) :: us, kw⟩ (Value.ref (hp.objs.size + 1) :: bs2) _ _ (fun _ _ _ => False) (hr.make C us kw) (I2.env0.make C us kw) hbd r2 hq) fun r s' hq' => ?_))
  match r, hq' with
  | .error er, hq' => exact hx pins σ _ _ er s' I2 hq'
  | .ok .next, hq' => exact hq'.elim
  | .ok .brk, hq' => exact hq'.elim
  | .ok .cont, hq' => exact hq'.elim
  | .ok (.ret u), hq' =>
    obtain ⟨v, H', I3, rv, ev, q3⟩ := I2.after hq'
    subst ev
    exact ⟨rv, ⟨V.ref (hp.objs.size + 1), H', I3, rfl, q3⟩⟩
/-- C(e, ..) -/
theorem pe_xmk (BA : EBa B NB Ii tl) (T : OexG X.K C NB tl) (iC : PySem.W.findIn X.K (.ref C) "__init__" = some (some (.ref fI)))
    (tI : PySem.W.typeIn X.K (.ref fI) = some (.type "function")) (F1 : FnOk X.prog X.w X.K X.mg X.base (L2C.CX X.prog X.w) k fI fd ps sp) (hr : Room (k + 1) X.A) (hb : Binds X.K fd ps []) (hg : Gl X x) (hm : X.mg x = some (.ref C)) (ha : PA X (e :: es) ta)
    (hdb : (x == ("__debug__" : Str)) = false := by decide) (he : starEach (e :: es) X.env = (false, eval e X.env) :: starEach es X.env := by rfl) (hpl : (backTo pos (starEach es X.env)).any (·.1) = false := by rfl) :
    PE X (.Call (.Name x p) (e :: es) [] pos) (tXmk C sp (fun vs => vs) ta) := by
  refine ⟨fun pins s σ H Q I h => ?_⟩
  refine wpAny_Call_Name_kw (ld_glob I hg hm ?_ hdb)
  refine PySem.W.callWith_K (h₀ := X.base) I.ok.mod.kin T.kC (thn (ha.run pos pins s σ H _ I h) fun us s1 ⟨vs, H1, I1, r1, hz, q1⟩ => ⟨I1.kIn, ?_⟩) he hpl
  have hl : ∀ u : Value, (u :: us).length = ps.length := fun u => by
    have := F1.len _ _ _ _ (q1 (s1.heap.objs.size + 1) (I1.hok.fresh (Nat.le_succ _)))
    rw [← this, List.length_cons, List.length_cons, r1.length]
  refine run_xmk BA T iC tI F1 hr (fun s u hs => ?_) r1 I1 (by show us.length ≤ sizeLine; rw [← Paired.length r1, sizeLine_eq]; omega) q1
  have hbd := hb s (u :: us) hs (by rw [List.append_nil]; exact hl u)
  rw [List.append_nil] at hbd
  exact hbd
/-- how the keywords of an __init__ are bound -/
structure XKb (fd : FuncData) (ps ks : List Str) (g : {α : Type} → List α → List α) : Prop where
  bind : ∀ (u : Value) (ws : List Value), ws.length = ks.length → bindArgs fd ⟨[u], ks.zip ws⟩ = pure (ps.zip (u :: g ws))
  rel : ∀ {vs : List V} {us : List Value}, Vals vs us → Vals (g vs) (g us)
/-- C(k = e, ..) -/
theorem pe_xmkK {ks : List Str} {g : {α : Type} → List α → List α} (BA : EBa B NB Ii tl) (T : OexG X.K C NB tl) (iC : PySem.W.findIn X.K (.ref C) "__init__" = some (some (.ref fI)))
    (tI : PySem.W.typeIn X.K (.ref fI) = some (.type "function")) (F1 : FnOk X.prog X.w X.K X.mg X.base (L2C.CX X.prog X.w) k fI fd ps sp) (hr : Room (k + 1) X.A) (hb : XKb fd ps ks g) (hg : Gl X x) (hm : X.mg x = some (.ref C)) (hkw : PK X kws ta)
    (hall : (backToKw pos (keywordEach kws X.env)).all (·.1.isSome) = true := by rfl) (hks : (backToKw pos (keywordEach kws X.env)).filterMap (·.1) = ks := by rfl) (hdb : (x == ("__debug__" : Str)) = false := by decide)
    (hpl : ((backTo pos (starEach [] X.env)).any (·.1) || (backToKw pos (keywordEach kws X.env)).any (·.1.isNone)) = false := by rfl) :
    PE X (.Call (.Name x p) [] kws pos) (tXmkK C sp ks.length (fun vs => g vs) ta) := by
  refine ⟨fun pins s σ H Q I h => ?_⟩
  refine wpAny_Call_Name_kw (ld_glob I hg hm ?_ hdb)
  refine PySem.W.callWith_KW0 (h₀ := X.base) I.ok.mod.kin T.kC hall ?_ hpl
  refine thn (hkw.run pos pins s σ H _ I h) fun ws s2 ⟨zs, H2, I2, rz, l1, l2, q2⟩ => ⟨I2.kIn, ?_⟩
  rw [hks]
  exact run_xmk (us := []) BA T iC tI F1 hr (fun s u hs => BindsTo.of_eq (hb.bind u ws (rz.length.symm.trans l1))) (hb.rel rz) I2 (Nat.zero_le _) q2
end
/-- C(), C having no __init__ of its own -/
theorem pe_xmk0 {X : Cx} {x : Str} {C : Addr} {p pos : Pos} {B NB Ii : String} {tl : List Value} (BA : EBa B NB Ii tl) (q : PySem.W.excIn X.K C tl NB = true) (gC : X.mg x = some (.ref C)) (kC : PySem.W.keepIn X.K (.ref C) = true) (hg : Gl X x)
    (hdb : (x == ("__debug__" : Str)) = false := by decide) : PE X (.Call (.Name x p) [] [] pos) (fun σ H Q => ∀ a, H a = none → Q (.ref a) (upd H a (exo a C none))) := by
  refine ⟨fun pins s σ H Q I h => ?_⟩
  refine wpAny_Call_Name_kw (ld_glob I hg gC ?_ hdb)
  refine PySem.W.callWith_K0 I.kIn kC ?_
  show wpAny _ _ (call (.ref C) []) _ _ _
  obtain ⟨bm, N, nm, qn, bs, hdct, sn, sub, ab, col, dd, k0, k1, k2, k3, k5, mN, hC, hN, hni, T⟩ := exc_obj I.kIn q
  obtain ⟨hp, g, dr, tk, os⟩ := s
  refine wpAny_call_exc_subT BA.base T hC hN hni (fun h' e hm => ?_) (Nat.zero_le _)
  obtain ⟨t, he, _, _⟩ := hm.there
  have hn : H e = none := I.hok.gone hm.new
  exact ⟨V.ref e, _, I.laidN (t' := tk) hm.keeps hm.new hn (exo_ok he), rfl, h e hn⟩
/-- e.f, e an exception that is kept -/
theorem pe_xget {X : Cx} {e : Expr} {te : TE} {pos : Pos} {n : Str} (he : PE X e te) (hb : attributeBase e n X.env (eval e X.env) = eval e X.env := by rfl) :
    PE X (.Attribute e n pos) (fun σ H Q => te σ H fun x H1 => ∃ (a C dx : Addr) (fs : List (Str × V)) (v : V), x = .ref a ∧ XfC X.K C ∧ PySem.W.findIn X.K (.ref C) n = some none ∧ H1 a = some (exo a C (some dx)) ∧ H1 dx = some (exd dx fs) ∧ fs.lookup n = some v ∧ Q v H1) := by
  refine ⟨fun pins s σ H Q I h => ?_⟩
  refine attr_of hb (thn (he.run pins s σ H _ I h) fun u s1 hh => ?_)
  obtain ⟨x, H1, I1, rx, a, C, dx, fs, v, ex, T, hno, ha, hd, l, q⟩ := hh
  subst ex
  obtain rfl : u = Value.ref a := rx
  obtain ⟨t1, ho⟩ := exo_at I1.hok ha
  obtain ⟨mA, hns, hr⟩ := exd_at I1.hok hd
  obtain ⟨od, hod, hl⟩ := lookIn_ns hns
  obtain ⟨u, hu, ru⟩ := RelO.some_of (v := v) (o := mA n) (by rw [← l]; exact hr n)
  have J : PySem.W.InstAt s1.heap a (bareX C t1 (some dx)) C (some od) := ⟨ho, rfl, rfl, hod⟩
  exact HandSPX.exc_get I1.kIn J T.ga T.gg T.exC (PySem.W.findObj_own T.hdC hno rfl (by rw [hl, hu])) (handed_of ru) ⟨v, H1, I1.tok _, ru, q⟩
/-- isinstance of an exception that is kept -/
theorem isXv_of {X : Cx} {a C : Addr} {d : Option Addr} {pins : List (Addr × Obj)} {σ : L2.St} {H : Hp} {s : Shared} {cv : Value} {b : Bool} {Q : Value → Shared → Prop} {E : Value → Shared → Prop} {A : Around} (O : ExcC X.K C)
    (I : Inv X pins σ H s) (ha : H a = some (exo a C d)) (hd : ∀ dd, d = some dd → ∃ fs, H dd = some (exd dd fs)) (e : PySem.W.kitOne X.K (.ref C) cv = some b) (h : ∀ tk, Q (.bool b) { s with toks := tk }) :
    wpAny (model X.prog X.w) A (call (.builtin "isinstance") [.ref a, cv]) Q E s := by
  obtain ⟨t1, ho⟩ := exo_at I.hok ha
  obtain ⟨od, J⟩ : ∃ od, PySem.W.InstAt s.heap a (bareX C t1 d) C od := by
    cases d with
    | none => exact ⟨none, ho, rfl, rfl, trivial⟩
    | some dd =>
      obtain ⟨fs, hfs⟩ := hd dd rfl
      obtain ⟨mA, hns, hr⟩ := exd_at I.hok hfs
      obtain ⟨od, hod, _⟩ := lookIn_ns hns
      exact ⟨some od, ho, rfl, rfl, hod⟩
  exact PySem.W.kia_one (PySem.W.kitx_exc (K := X.K) (by obtain ⟨cd, hc, _⟩ := PySem.W.any_some O.hd; rw [hc]; rfl) O.hg O.hk O.hs O.ha O.hn O.ht O.hm) I.kIn J e (fun z => nomatch z) h
end Bk
set_option Elab.async false
set_option linter.all false
set_option maxRecDepth 100000
set_option maxHeartbeats 4000000
namespace Bk
open PySem PySem.Spec PyProof.Rows L2 PySem.NumText
open PySem.W (Frag)
open NdefX
structure XOkK (P : Program) (w : World) (K : Frag) (mg : Str → Option Value) (base : Heap) (C fI : Addr) (N : String) (tl : List Value) (ps : List Str) (sp : Sp) (ks : List Str) (g : {α : Type} → List α → List α) : Prop where
  ok : ∃ fd, FnOk P w K mg base (L2C.CX P w) 1 fI fd ps sp ∧ Binds K fd ps [] ∧ XKb fd ps ks g
  oex : OexG K C N tl
  ini : PySem.W.findIn K (.ref C) "__init__" = some (some (.ref fI))
  tyI : PySem.W.typeIn K (.ref fI) = some (.type "function")
def idG {α : Type} (l : List α) : List α := l
def swG {α : Type} : List α → List α
  | [a, b] => [b, a]
  | l => l
section
variable {P : Program} {w : World} {K : Frag} {mg : Str → Option Value} {base : Heap} {file q : Str} {params : Arguments} {body : List Stmt} {scope : Scope} {f C : Addr} {B NB Ii : String} {tl : List Value} {p0 p1 p2 p3 p4 : Pos} {ar : Arg}
theorem xok1K_of {pn fl : Str} {p5 p6 p7 p8 : Pos} (BA : EBa B NB Ii tl)
    (S : ∃ (cl : List (Str × Addr)) (c : Addr) (fd : FuncData), SuF K file ⟨"__init__", q, params, body, scope, cl, c⟩ f C fd) (T : OexG K C NB tl) (U : SuG K mg C B Ii) (M : Meth K C "__init__" f) (hno : PySem.W.takerIn K C fl = some none)
    (NS : NScope ["self", pn, "__class__"] ["self", pn] ["__class__"] scope)
    (hb : body = [.Expr (.Call (.Attribute (.Call (.Name "super" p0) [] [] p1) "__init__" p2) [] [] p3) p4, .Assign [.Attribute (.Name "self" p5) fl p6] (.Name pn p7) p8])
    (hP : ((P.main.file : Str) == file) = true) (hT : (P.main.scope.names.lookup ("super" : Str)).isSome = false)
    (hp : (params.posonlyargs ++ params.args).head? = some ar) (har : ar.arg = "self")
    (hks : scope.names.lookup ("super" : Str) = some .globalImplicit) (hkc : scope.names.lookup ("__class__" : Str) = some .free)
    (hbind : ∀ (cl : List (Str × Addr)) (c : Addr) (doc pm ctv u v : Value), bindArgs (NF.fd ⟨"__init__", q, params, body, scope, cl, c⟩ doc pm ctv) ⟨[u, v], []⟩ = pure [(("self" : Str), u), (pn, v)])
    (hbindK : ∀ (cl : List (Str × Addr)) (c : Addr) (doc pm ctv u v : Value), bindArgs (NF.fd ⟨"__init__", q, params, body, scope, cl, c⟩ doc pm ctv) ⟨[u], [(pn, v)]⟩ = pure [(("self" : Str), u), (pn, v)])
    (hpn : (pn == ("__debug__" : Str)) = false) (hpc : (pn == ("__classdict__" : Str)) = false) (hps : scope.names.lookup pn = some .local) (hss : scope.names.lookup ("self" : Str) = some .local)
    {pl : Env → Sem Bool} (hev : ∀ env : Env, eval (.Call (.Attribute (.Call (.Name "super" p0) [] [] p1) "__init__" p2) [] [] p3) env = (do
      let ov ← attributeBase (.Call (.Name "super" p0) [] [] p1) "__init__" env (eval (.Call (.Name "super" p0) [] [] p1) env)
      standAt p2.atName
      let (ff, first) ← holding [ov] (getMethod ov "__init__" (pl env))
      callWith p3 ff first (backTo p3 (starEach [] env)) []))
    (hint : ∀ (cl : List (Str × Addr)) (c f L : Addr), interactive (envF ⟨"__init__", q, params, body, scope, cl, c⟩ f L) = false)
    (hsw : ∀ (cl : List (Str × Addr)) (c f L : Addr), swapsWith (.Call (.Attribute (.Call (.Name "super" p0) [] [] p1) "__init__" p2) [] [] p3) none p4.line (envF ⟨"__init__", q, params, body, scope, cl, c⟩ f L) = pure false)
    (hsw2 : ∀ (cl : List (Str × Addr)) (c f L : Addr), swapsWith (.Name pn p7) (some (.Attribute (.Name "self" p5) fl p6)) p8.line (envF ⟨"__init__", q, params, body, scope, cl, c⟩ f L) = pure false) :
    XOkK P w K mg base C f NB tl ["self", pn] (spXf C [fl]) [pn] idG := by
  obtain ⟨cl, c, fd, S⟩ := S
  have hN0 : (["self", pn, "__class__"] : List Str)[0]? = some ar.arg := by rw [har]; rfl
  have hka : scope.names.lookup ar.arg = some .local := by rw [har]; exact hss
  have G : FnOk P w K mg base (L2C.CX P w) (0 + 1) f fd ["self", pn] (spXf C [fl]) := by
    refine fnS_ofG (rest := [.Assign [.Attribute (.Name "self" p5) fl p6] (.Name pn p7) p8]) BA S U T NS hb hP hT hp hN0 hka (pl := pl) (fun L => hev _) (fun L => hint cl c f L) (fun L => hsw cl c f L) hks hkc ?_ ?_
    · rintro vs H Q E ⟨a, ws, rfl, hl, _⟩
      simpa using hl
    · rintro A outer s H vs Q E hr ⟨a, ws, rfl, hl, ha, q⟩
      obtain ⟨v, rfl⟩ := List.length_eq_one_iff.mp hl
      refine ⟨a, [v], rfl, ha, _, pss_one (ps_fld BA T hno (pe_var (i := 0) rfl (Or.inl hss) (by decide) (by decide)) (pe_var (i := 1) rfl (Or.inl hps) hpn hpc) (hsw2 cl c f _)), ?_⟩
      exact ⟨v, rfl, .ref a, rfl, a, rfl, Or.inl ⟨ha, fun dx n ne => q dx n ne⟩⟩
  refine ⟨⟨fd, G, Binds.all fun us hl => ?_, ⟨fun u ws hl => ?_, fun r => r⟩⟩, T, M.at_, ?_⟩
  · obtain ⟨oc, od, doc, pm, ctv, osl, efd, _⟩ := S.ex
    rw [efd]
    match us, hl with
    | [u, v], _ => exact hbind cl c doc pm ctv u v
  · obtain ⟨oc, od, doc, pm, ctv, osl, efd, _⟩ := S.ex
    rw [efd]
    match ws, hl with
    | [v], _ => exact hbindK cl c doc pm ctv u v
  · have := M.fn
    unfold PySem.W.isFn at this
    simpa using this
theorem xok2K_of {pn fl pm2 fm : Str} {p5 p6 p7 p8 r5 r6 r7 r8 : Pos} (BA : EBa B NB Ii tl)
    (S : ∃ (cl : List (Str × Addr)) (c : Addr) (fd : FuncData), SuF K file ⟨"__init__", q, params, body, scope, cl, c⟩ f C fd) (T : OexG K C NB tl) (U : SuG K mg C B Ii) (M : Meth K C "__init__" f) (hno : PySem.W.takerIn K C fl = some none) (hno2 : PySem.W.takerIn K C fm = some none)
    (NS : NScope ["self", pn, pm2, "__class__"] ["self", pn, pm2] ["__class__"] scope)
    (hb : body = [.Expr (.Call (.Attribute (.Call (.Name "super" p0) [] [] p1) "__init__" p2) [] [] p3) p4, .Assign [.Attribute (.Name "self" p5) fl p6] (.Name pn p7) p8, .Assign [.Attribute (.Name "self" r5) fm r6] (.Name pm2 r7) r8])
    (hP : ((P.main.file : Str) == file) = true) (hT : (P.main.scope.names.lookup ("super" : Str)).isSome = false)
    (hp : (params.posonlyargs ++ params.args).head? = some ar) (har : ar.arg = "self")
    (hks : scope.names.lookup ("super" : Str) = some .globalImplicit) (hkc : scope.names.lookup ("__class__" : Str) = some .free)
    (hbind : ∀ (cl : List (Str × Addr)) (c : Addr) (doc pm ctv u v x : Value), bindArgs (NF.fd ⟨"__init__", q, params, body, scope, cl, c⟩ doc pm ctv) ⟨[u, v, x], []⟩ = pure [(("self" : Str), u), (pn, v), (pm2, x)])
    (hbindK : ∀ (cl : List (Str × Addr)) (c : Addr) (doc pm ctv u v x : Value), bindArgs (NF.fd ⟨"__init__", q, params, body, scope, cl, c⟩ doc pm ctv) ⟨[u], [(pm2, x), (pn, v)]⟩ = pure [(("self" : Str), u), (pn, v), (pm2, x)])
    (hpn : (pn == ("__debug__" : Str)) = false) (hpc : (pn == ("__classdict__" : Str)) = false) (hps : scope.names.lookup pn = some .local) (hss : scope.names.lookup ("self" : Str) = some .local)
    (hqn : (pm2 == ("__debug__" : Str)) = false) (hqc : (pm2 == ("__classdict__" : Str)) = false) (hqs : scope.names.lookup pm2 = some .local)
    {pl : Env → Sem Bool} (hev : ∀ env : Env, eval (.Call (.Attribute (.Call (.Name "super" p0) [] [] p1) "__init__" p2) [] [] p3) env = (do
      let ov ← attributeBase (.Call (.Name "super" p0) [] [] p1) "__init__" env (eval (.Call (.Name "super" p0) [] [] p1) env)
      standAt p2.atName
      let (ff, first) ← holding [ov] (getMethod ov "__init__" (pl env))
      callWith p3 ff first (backTo p3 (starEach [] env)) []))
    (hint : ∀ (cl : List (Str × Addr)) (c f L : Addr), interactive (envF ⟨"__init__", q, params, body, scope, cl, c⟩ f L) = false)
    (hsw : ∀ (cl : List (Str × Addr)) (c f L : Addr), swapsWith (.Call (.Attribute (.Call (.Name "super" p0) [] [] p1) "__init__" p2) [] [] p3) none p4.line (envF ⟨"__init__", q, params, body, scope, cl, c⟩ f L) = pure false)
    (hsw2 : ∀ (cl : List (Str × Addr)) (c f L : Addr), swapsWith (.Name pn p7) (some (.Attribute (.Name "self" p5) fl p6)) p8.line (envF ⟨"__init__", q, params, body, scope, cl, c⟩ f L) = pure false)
    (hsw3 : ∀ (cl : List (Str × Addr)) (c f L : Addr), swapsWith (.Name pm2 r7) (some (.Attribute (.Name "self" r5) fm r6)) r8.line (envF ⟨"__init__", q, params, body, scope, cl, c⟩ f L) = pure false) :
    XOkK P w K mg base C f NB tl ["self", pn, pm2] (spXf C [fl, fm]) [pm2, pn] swG := by
  obtain ⟨cl, c, fd, S⟩ := S
  have hN0 : (["self", pn, pm2, "__class__"] : List Str)[0]? = some ar.arg := by rw [har]; rfl
  have hka : scope.names.lookup ar.arg = some .local := by rw [har]; exact hss
  have G : FnOk P w K mg base (L2C.CX P w) (0 + 1) f fd ["self", pn, pm2] (spXf C [fl, fm]) := by
    refine fnS_ofG (rest := [.Assign [.Attribute (.Name "self" p5) fl p6] (.Name pn p7) p8, .Assign [.Attribute (.Name "self" r5) fm r6] (.Name pm2 r7) r8]) BA S U T NS hb hP hT hp hN0 hka (pl := pl) (fun L => hev _) (fun L => hint cl c f L) (fun L => hsw cl c f L) hks hkc ?_ ?_
    · rintro vs H Q E ⟨a, ws, rfl, hl, _⟩
      simpa using hl
    · rintro A outer s H vs Q E hr ⟨a, ws, rfl, hl, ha, q⟩
      obtain ⟨v, x, rfl⟩ : ∃ v x, ws = [v, x] := by
        match ws, hl with
        | [v, x], _ => exact ⟨v, x, rfl⟩
      refine ⟨a, [v, x], rfl, ha, _, pss_cons (ps_fld BA T hno (pe_var (i := 0) rfl (Or.inl hss) (by decide) (by decide)) (pe_var (i := 1) rfl (Or.inl hps) hpn hpc) (hsw2 cl c f _)) (pss_one (ps_fld BA T hno2 (pe_var (i := 0) rfl (Or.inl hss) (by decide) (by decide)) (pe_var (i := 2) rfl (Or.inl hqs) hqn hqc) (hsw3 cl c f _))), ?_⟩
      refine ⟨v, rfl, .ref a, rfl, a, rfl, Or.inl ⟨ha, fun dx n ne => ?_⟩⟩
      refine ⟨x, rfl, .ref a, rfl, a, rfl, Or.inr ⟨dx, [(fl, v)], by rw [upd_ne (Ne.symm ne), upd_same], upd_same, by show 1 ≤ 900; omega, ?_⟩⟩
      rw [upd_upd]
      exact q dx n ne
  refine ⟨⟨fd, G, Binds.all fun us hl => ?_, ⟨fun u ws hl => ?_, fun {vs us} r => ?_⟩⟩, T, M.at_, ?_⟩
  · obtain ⟨oc, od, doc, pm, ctv, osl, efd, _⟩ := S.ex
    rw [efd]
    match us, hl with
    | [u, v, x], _ => exact hbind cl c doc pm ctv u v x
  · obtain ⟨oc, od, doc, pm, ctv, osl, efd, _⟩ := S.ex
    rw [efd]
    match ws, hl with
    | [x, v], _ => exact hbindK cl c doc pm ctv u v x
  · match vs, us, r with
    | [], [], .nil => exact .nil
    | [_], [_], .cons h .nil => exact .cons h .nil
    | [_, _], [_, _], .cons h (.cons h2 .nil) => exact .cons h2 (.cons h .nil)
    | _ :: _ :: _ :: _, _ :: _ :: _ :: _, .cons h (.cons h2 (.cons h3 r)) => exact .cons h (.cons h2 (.cons h3 r))
  · have := M.fn
    unfold PySem.W.isFn at this
    simpa using this
end
end Bk
set_option Elab.async false
set_option linter.all false
set_option maxRecDepth 100000
set_option maxHeartbeats 4000000
namespace AM
open PySem PySem.Spec PyProof.Rows L2 Bk
open PySem.W (Frag)
variable [Amb]
section
variable {K : Frag} {G G' : Hp}
theorem Rds.get : ∀ {l : List D} {xs : List V} {i : Nat} {d : D}, Rds K G l xs → l[i]? = some d → ∃ v, xs[i]? = some v ∧ Rd K G d v
  | _, _, _, _, .nil, e => by simp at e
  | _, _, 0, _, .cons h _, e => by simp at e; subst e; exact ⟨_, rfl, h⟩
  | _, _, i + 1, d, .cons _ r, e => by
    obtain ⟨v, h1, h2⟩ := Rds.get (i := i) (d := d) r (by simpa using e)
    exact ⟨v, by simpa using h1, h2⟩
theorem Rds.app : ∀ {l l' : List D} {xs xs' : List V}, Rds K G l xs → Rds K G l' xs' → Rds K G (l ++ l') (xs ++ xs')
  | _, _, _, _, .nil, s => s
  | _, _, _, _, .cons h r, s => .cons h (r.app s)
theorem Rds.take : ∀ {l : List D} {xs : List V} (n : Nat), Rds K G l xs → Rds K G (l.take n) (xs.take n)
  | _, _, 0, _ => .nil
  | _, _, _ + 1, .nil => .nil
  | _, _, n + 1, .cons r t => .cons r (Rds.take n t)
theorem Rds.drop : ∀ {l : List D} {xs : List V} (n : Nat), Rds K G l xs → Rds K G (l.drop n) (xs.drop n)
  | _, _, 0, r => r
  | _, _, _ + 1, .nil => .nil
  | _, _, n + 1, .cons _ t => Rds.drop n t
theorem Rds.rev : ∀ {l : List D} {xs : List V}, Rds K G l xs → Rds K G l.reverse xs.reverse
  | _, _, .nil => .nil
  | _, _, .cons h r => by rw [List.reverse_cons, List.reverse_cons]; exact r.rev.app (.cons h .nil)
theorem Rfs.look : ∀ {l : List (Str × D)} {xs : List (Str × V)} {f : Str} {d : D}, Rfs K G l xs → l.lookup f = some d → ∃ v, xs.lookup f = some v ∧ Rd K G d v
  | _, _, _, _, .nil, e => by simp at e
  | _, _, f, d, .cons (x := x) h r, e => by
    rw [List.lookup_cons] at e ⊢
    cases q : f == x with
    | true => rw [q] at e; cases e; exact ⟨_, rfl, h⟩
    | false => rw [q] at e; exact r.look e
end
theorem Rob.ntb {K : Frag} {G : Hp} {ob : Ob} {u : HO} (r : Rob K G ob (Option.some u)) : NTb u := by
  cases ob with
  | dead => obtain ⟨u', e, h⟩ := r; cases e; exact h
  | lst l => obtain ⟨xs, e1, r⟩ := r; cases e1; exact fun ps z => by cases z
  | ins C fs => obtain ⟨dx, gs, e1, r⟩ := r; cases e1; exact fun ps z => by cases z
  | dic kvs => obtain ⟨vs, e1, r⟩ := r; cases e1; exact fun ps z => by cases z
  | dkt kvs => obtain ⟨vs, e1, r⟩ := r; cases e1; exact fun ps z => by cases z
/-- a thing of the store is no code object -/
theorem Rob.nco {K : Frag} {G : Hp} {ob : Ob} {u : HO} (r : Rob K G ob (Option.some u)) (h : ob ≠ .dead) (c : Addr) (q : Str) : u ≠ LamX.CodeO c q := by
  have e : LamX.CodeO c q = .ext (fun h => ∃ (oc : Obj) (vs : Array Value) (t : Tok), h.get? c = Option.some oc ∧ oc.data = .fields vs ∧ vs[1]? = Option.some (Value.str q t)) := rfl
  rw [e]
  cases ob with
  | dead => exact absurd rfl h
  | lst l => obtain ⟨xs, e1, r⟩ := r; cases e1; exact fun z => by cases z
  | ins C fs => obtain ⟨dx, gs, e1, r⟩ := r; cases e1; exact fun z => by cases z
  | dic kvs => obtain ⟨vs, e1, r⟩ := r; cases e1; exact fun z => by cases z
  | dkt kvs => obtain ⟨vs, e1, r⟩ := r; cases e1; exact fun z => by cases z
variable {K : Frag}
theorem APt.up {c c' : Cfg K} {r : Rs Bool} {Q : Bool → Hp → Prop} {E : XK} (h : APt c r Q E) (l : c.le c') : APt c' r Q E := by
  cases r with
  | ok w S => exact fun c2 l2 e => h c2 (l.tr l2) e
  | ex C fs S => exact fun c2 l2 e => h c2 (l.tr l2) e
  | bad => exact h
def aT (K : Frag) (E : XK) (f : MT) : TT := fun σ H Q => ∃ (c : Cfg K) (ε : Ev), c.H = H ∧ Re c ε σ ∧ APt c (f ε c.S) Q E
def aA (K : Frag) (E : XK) (f : MA) : TA := fun σ H Q => ∃ (c : Cfg K) (ε : Ev), c.H = H ∧ Re c ε σ ∧ APa c (f ε c.S) Q E
section
variable {c : Cfg K} {ε : Ev} {σ : L2.St} {Q : VK} {Qt : Bool → Hp → Prop} {Qa : List V → Hp → Prop} {Ds : Ends} {E : XK} {f : ME} {ft : MT} {fa : MA}
theorem ee (re : Re c ε σ) {k : W → Sto → Rs W} (h : AP c ((f ε c.S).bind k) Q E) {T : VK} (g : ∀ (c' : Cfg K) w u, c.le c' → Rw c' w u → AP c' (k w c'.S) Q E → T u c'.H) : aE K E f σ c.H T := by
  refine ⟨c, ε, rfl, re, ?_⟩
  cases e : f ε c.S with
  | ok w S => rw [e] at h; exact fun c' l es u r => g c' w u l r (by rw [es]; exact AP.up (show AP c (k w S) Q E from h) l)
  | ex C fs S => rw [e] at h; exact h
  | bad => rw [e] at h; exact h
theorem et (re : Re c ε σ) {k : W → Sto → Rs Bool} (h : APt c ((f ε c.S).bind k) Qt E) {T : VK} (g : ∀ (c' : Cfg K) w u, c.le c' → Rw c' w u → APt c' (k w c'.S) Qt E → T u c'.H) : aE K E f σ c.H T := by
  refine ⟨c, ε, rfl, re, ?_⟩
  cases e : f ε c.S with
  | ok w S => rw [e] at h; exact fun c' l es u r => g c' w u l r (by rw [es]; exact APt.up (show APt c (k w S) Qt E from h) l)
  | ex C fs S => rw [e] at h; exact h
  | bad => rw [e] at h; exact h
theorem te (re : Re c ε σ) {k : Bool → Sto → Rs W} (h : AP c ((ft ε c.S).bind k) Q E) {T : Bool → Hp → Prop} (g : ∀ (c' : Cfg K) w, c.le c' → AP c' (k w c'.S) Q E → T w c'.H) : aT K E ft σ c.H T := by
  refine ⟨c, ε, rfl, re, ?_⟩
  cases e : ft ε c.S with
  | ok w S => rw [e] at h; exact fun c' l es => g c' w l (by rw [es]; exact AP.up (show AP c (k w S) Q E from h) l)
  | ex C fs S => rw [e] at h; exact h
  | bad => rw [e] at h; exact h
theorem tt (re : Re c ε σ) {k : Bool → Sto → Rs Bool} (h : APt c ((ft ε c.S).bind k) Qt E) {T : Bool → Hp → Prop} (g : ∀ (c' : Cfg K) w, c.le c' → APt c' (k w c'.S) Qt E → T w c'.H) : aT K E ft σ c.H T := by
  refine ⟨c, ε, rfl, re, ?_⟩
  cases e : ft ε c.S with
  | ok w S => rw [e] at h; exact fun c' l es => g c' w l (by rw [es]; exact APt.up (show APt c (k w S) Qt E from h) l)
  | ex C fs S => rw [e] at h; exact h
  | bad => rw [e] at h; exact h
theorem ts (re : Re c ε σ) {k : Bool → Sto → Rt} (h : APs c ((ft ε c.S).bindT k) Ds E) {T : Bool → Hp → Prop} (g : ∀ (c' : Cfg K) w, c.le c' → APs c' (k w c'.S) Ds E → T w c'.H) : aT K E ft σ c.H T := by
  refine ⟨c, ε, rfl, re, ?_⟩
  cases e : ft ε c.S with
  | ok w S => rw [e] at h; exact fun c' l es => g c' w l (by rw [es]; exact APs.up (show APs c (k w S) Ds E from h) l)
  | ex C fs S => rw [e] at h; exact h
  | bad => rw [e] at h; exact h
theorem ae (re : Re c ε σ) {k : List W → Sto → Rs W} (h : AP c ((fa ε c.S).bind k) Q E) {T : List V → Hp → Prop} (g : ∀ (c' : Cfg K) w u, c.le c' → Rws c' w u → AP c' (k w c'.S) Q E → T u c'.H) : aA K E fa σ c.H T := by
  refine ⟨c, ε, rfl, re, ?_⟩
  cases e : fa ε c.S with
  | ok w S => rw [e] at h; exact fun c' l es u r => g c' w u l r (by rw [es]; exact AP.up (show AP c (k w S) Q E from h) l)
  | ex C fs S => rw [e] at h; exact h
  | bad => rw [e] at h; exact h
theorem aa (re : Re c ε σ) {k : List W → Sto → Rs (List W)} (h : APa c ((fa ε c.S).bind k) Qa E) {T : List V → Hp → Prop} (g : ∀ (c' : Cfg K) w u, c.le c' → Rws c' w u → APa c' (k w c'.S) Qa E → T u c'.H) : aA K E fa σ c.H T := by
  refine ⟨c, ε, rfl, re, ?_⟩
  cases e : fa ε c.S with
  | ok w S => rw [e] at h; exact fun c' l es u r => g c' w u l r (by rw [es]; exact APa.up (show APa c (k w S) Qa E from h) l)
  | ex C fs S => rw [e] at h; exact h
  | bad => rw [e] at h; exact h
theorem as (re : Re c ε σ) {k : List W → Sto → Rt} (h : APs c ((fa ε c.S).bindT k) Ds E) {T : List V → Hp → Prop} (g : ∀ (c' : Cfg K) w u, c.le c' → Rws c' w u → APs c' (k w c'.S) Ds E → T u c'.H) : aA K E fa σ c.H T := by
  refine ⟨c, ε, rfl, re, ?_⟩
  cases e : fa ε c.S with
  | ok w S => rw [e] at h; exact fun c' l es u r => g c' w u l r (by rw [es]; exact APs.up (show APs c (k w S) Ds E from h) l)
  | ex C fs S => rw [e] at h; exact h
  | bad => rw [e] at h; exact h
end
end AM
namespace L2
open PySem
end L2
set_option Elab.async false
set_option linter.all false
set_option maxRecDepth 100000
set_option maxHeartbeats 4000000
namespace AM
open PySem PySem.Spec PyProof.Rows L2 Bk
open PySem.W (Frag)
variable {K : Frag} [Amb]
/-- a thing that changes is known from now on -/
def Cfg.freeze (c : Cfg K) (n : Nat) (a : Addr) (ob : Ob) (o : HO) (h1 : c.m[n]? = some a) (h2 : c.S[n]? = some ob) (h3 : ob ≠ .dead) (h4 : c.H a = some o) : Cfg K where
  G := upd c.G a o
  m := c.m
  S := c.S.set n .dead
  H := c.H
  sub := fun b u e => by
    by_cases hb : b = a
    · subst hb; rw [upd_same] at e; cases e; exact h4
    · rw [upd_ne hb] at e; exact c.sub b u e
  len := by rw [List.length_set]; exact c.len
  nd := c.nd
  at_ := fun k b ob' e1 e2 => by
    rw [List.getElem?_set] at e2
    by_cases hk : n = k
    · rw [if_pos hk] at e2
      subst hk
      rw [h1] at e1
      cases e1
      split at e2
      · cases e2; exact ⟨o, h4, by have r := c.at_ n a ob h1 h2; rw [h4] at r; exact r.ntb⟩
      · cases e2
    · rw [if_neg hk] at e2
      exact (c.at_ k b ob' e1 e2).mono (same_new (c.fr n a ob h1 h2 h3))
  fr := fun k b ob' e1 e2 e3 => by
    rw [List.getElem?_set] at e2
    by_cases hk : n = k
    · rw [if_pos hk] at e2
      split at e2
      · cases e2; exact absurd rfl e3
      · cases e2
    · rw [if_neg hk] at e2
      rw [upd_ne (fun z => hk ?_)]
      · exact c.fr k b ob' e1 e2 e3
      · rw [z] at e1
        have l1 := (List.getElem?_eq_some_iff.mp h1)
        have l2 := (List.getElem?_eq_some_iff.mp e1)
        obtain ⟨g1, e1'⟩ := l1
        obtain ⟨g2, e2'⟩ := l2
        exact (List.getElem_inj c.nd).mp (e1'.trans e2'.symm)
  z := c.z
  zat := c.zat
  zm := c.zm
  zg := fun q hq => by
    rw [upd_ne (fun z => c.zm q hq (by rw [z]; exact List.mem_of_getElem? h1))]
    exact c.zg q hq
  zn := c.zn
  zt := c.zt
  gt := fun b u e => by
    by_cases q : b = a
    · subst q
      rw [upd_same] at e
      cases e
      have r := c.at_ n b ob h1 h2
      rw [h4] at r
      exact r.ntb
    · rw [upd_ne q] at e; exact c.gt b u e
  tb := c.tb
def rowsD : List Nat → Sto → Option (List D × Sto)
  | [], S => some ([], S)
  | k :: ns, S => match S[k]? with
    | some (.lst l) => (rowsD ns (S.set k .dead)).map fun q => (.lst l :: q.1, q.2)
    | _ => none
def toD : W → Sto → Option (D × Sto)
  | .val d, S => some (d, S)
  | .ref n, S => match S[n]? with
    | some (.lst l) => some (.lst l, S.set n .dead)
    | some (.ins C fs) => some (.obj C fs, S.set n .dead)
    | some (.dic kvs) => some (.dic kvs, S.set n .dead)
    | _ => none
  | .rws ns, S => (rowsD ns S).map fun q => (.lst q.1, q.2)
  | .exc _ _, _ => none
  | .clo, _ => none
def toDs : List W → Sto → Option (List D × Sto)
  | [], S => some ([], S)
  | w :: ws, S => (toD w S).bind fun p => (toDs ws p.2).map fun q => (p.1 :: q.1, q.2)
theorem rowsD_ok : ∀ {ns : List Nat} {c : Cfg K} {xs : List V} {ds : List D} {S' : Sto}, rowsD ns c.S = some (ds, S') → Rns c.m ns xs → ∃ c' : Cfg K, c.le c' ∧ c'.S = S' ∧ c'.H = c.H ∧ Rds K c'.G ds xs
  | [], c, _, _, _, h, .nil => by cases h; exact ⟨c, .refl, rfl, rfl, .nil⟩
  | k :: ns, c, _, ds, S', h, .cons (a := a) e1 r => by
    unfold rowsD at h
    split at h
    · rename_i l e2
      obtain ⟨xs, e3, r3⟩ := c.at_ k a _ e1 e2
      have sm : Same c.G (upd c.G a (.lst xs)) := same_new (c.fr k a _ e1 e2 (fun z => by cases z))
      let c1 := c.freeze k a _ _ e1 e2 (fun z => by cases z) e3
      have l1 : c.le c1 := ⟨sm, List.prefix_refl _, List.prefix_refl _⟩
      cases q : rowsD ns (c.S.set k .dead) with
      | none => rw [q] at h; cases h
      | some p =>
        rw [q] at h
        cases h
        obtain ⟨c2, l2, s2, h2, r2⟩ := rowsD_ok (ns := ns) (c := c1) (ds := p.1) (S' := p.2) q r
        exact ⟨c2, l1.tr l2, s2, h2, .cons (.lst (l2.g _ _ (show upd c.G a _ a = _ from upd_same)) (r3.mono (Same.tr sm l2.g))) r2⟩
    · cases h
theorem toD_ok {c : Cfg K} {w : W} {u : V} {d : D} {S' : Sto} (h : toD w c.S = some (d, S')) (r : Rw c w u) : ∃ c' : Cfg K, c.le c' ∧ c'.S = S' ∧ c'.H = c.H ∧ Rd K c'.G d u := by
  cases w with
  | val d' => cases h; exact ⟨c, .refl, rfl, rfl, r⟩
  | exc C fs => cases h
  | clo => cases h
  | rws ns =>
    obtain ⟨a, xs, rfl, q, rn⟩ := r
    cases q2 : rowsD ns c.S with
    | none => simp [toD, q2] at h
    | some p =>
      simp only [toD, q2, Option.map_some, Option.some.injEq, Prod.mk.injEq] at h
      obtain ⟨rfl, rfl⟩ := h
      obtain ⟨c2, l2, s2, h2, r2⟩ := rowsD_ok q2 rn
      exact ⟨c2, l2, s2, h2, .lst (l2.g _ _ q) r2⟩
  | ref n =>
    obtain ⟨a, e1, rfl⟩ := r
    cases e2 : c.S[n]? with
    | none => simp [toD, e2] at h
    | some ob =>
      cases ob with
      | dead => simp [toD, e2] at h
      | dkt kvs => simp [toD, e2] at h
      | lst l =>
        simp only [toD, e2, Option.some.injEq, Prod.mk.injEq] at h
        obtain ⟨rfl, rfl⟩ := h
        obtain ⟨xs, e3, r⟩ := c.at_ n a _ e1 e2
        have sm : Same c.G (upd c.G a (.lst xs)) := same_new (c.fr n a _ e1 e2 (fun z => by cases z))
        exact ⟨c.freeze n a _ _ e1 e2 (fun z => by cases z) e3, ⟨sm, List.prefix_refl _, List.prefix_refl _⟩, rfl, rfl, .lst (by show upd c.G a _ a = _; rw [upd_same]) (r.mono sm)⟩
      | ins C fs =>
        simp only [toD, e2, Option.some.injEq, Prod.mk.injEq] at h
        obtain ⟨rfl, rfl⟩ := h
        obtain ⟨dx, gs, e3, r⟩ := c.at_ n a _ e1 e2
        have sm : Same c.G (upd c.G a (.ins (He.ga K C) dx gs)) := same_new (c.fr n a _ e1 e2 (fun z => by cases z))
        exact ⟨c.freeze n a _ _ e1 e2 (fun z => by cases z) e3, ⟨sm, List.prefix_refl _, List.prefix_refl _⟩, rfl, rfl, .obj (by show upd c.G a _ a = _; rw [upd_same]) (r.mono sm)⟩
      | dic kvs =>
        simp only [toD, e2, Option.some.injEq, Prod.mk.injEq] at h
        obtain ⟨rfl, rfl⟩ := h
        obtain ⟨vs, e3, r⟩ := c.at_ n a _ e1 e2
        have sm : Same c.G (upd c.G a (.dK (keyS vs))) := same_new (c.fr n a _ e1 e2 (fun z => by cases z))
        exact ⟨c.freeze n a _ _ e1 e2 (fun z => by cases z) e3, ⟨sm, List.prefix_refl _, List.prefix_refl _⟩, rfl, rfl, .dic (by show upd c.G a _ a = _; rw [upd_same]) (r.mono sm)⟩
theorem toDs_ok : ∀ {ws : List W} {us : List V} {c : Cfg K} {ds : List D} {S' : Sto}, toDs ws c.S = some (ds, S') → Rws c ws us → ∃ c' : Cfg K, c.le c' ∧ c'.S = S' ∧ c'.H = c.H ∧ Rds K c'.G ds us
  | _, _, c, _, _, h, .nil => by cases h; exact ⟨c, .refl, rfl, rfl, .nil⟩
  | w :: ws, u :: us, c, ds, S', h, .cons r rs => by
    unfold toDs at h
    cases e : toD w c.S with
    | none => rw [e] at h; cases h
    | some p =>
      obtain ⟨d, S1⟩ := p
      rw [e] at h
      obtain ⟨c1, l1, s1, h1, r1⟩ := toD_ok e r
      cases e2 : toDs ws S1 with
      | none => simp only [Option.bind_some, e2] at h; cases h
      | some q =>
        obtain ⟨ds2, S2⟩ := q
        simp only [Option.bind_some, e2] at h
        cases h
        subst s1
        obtain ⟨c2, l2, s2, h2, r2⟩ := toDs_ok e2 (rs.mono l1)
        exact ⟨c2, l1.tr l2, s2, h2.trans h1, .cons (r1.mono l2.g) r2⟩
section
variable {X : Cx} {E : XK} {pos : Pos} {a b e : Expr} {fa fb f : ME}
def cVar (i : Nat) : ME := fun ε S => match ε[i]? with | some (some w) => .ok w S | _ => .bad
theorem de_var {i : Nat} {x : Str} (hN : X.N[i]? = some x) (hv : Vis X.env.scope x) (hd : (x == ("__debug__" : Str)) = false := by decide) (hcd : (x == ("__classdict__" : Str)) = false := by decide) : PE X (.Name x pos) (aE K E (cVar i)) :=
  (pe_var hN hv hd hcd).weak fun σ H Q h => by
    obtain ⟨c, ε, rfl, re, h⟩ := h
    unfold cVar at h
    split at h
    · rename_i w e
      obtain ⟨v, e2, r⟩ := re.at_ _ _ e
      exact ⟨v, e2, h.ok r⟩
    · exact h.elim
theorem de_int {i j} : PE X (.Constant (.int i) j pos) (aE K E (cC (.int i))) := pe_int.weak fun _ _ _ h => aE_c (fun _ => .int i) h
theorem de_bl {i j} : PE X (.Constant (.bool i) j pos) (aE K E (cC (.bl i))) := pe_bl.weak fun _ _ _ h => aE_c (fun _ => .bl i) h
theorem de_non {j} : PE X (.Constant .none j pos) (aE K E (cC .non)) := pe_non.weak fun _ _ _ h => aE_c (fun _ => .non) h
def rA (K : Frag) (E : XK) (g : W → W → Sto → Rs W) : R2 := fun u v H Q => ∃ (c : Cfg K) (x y : W), c.H = H ∧ Rw c x u ∧ Rw c y v ∧ AP c (g x y c.S) Q E
def rA1 (K : Frag) (E : XK) (g : W → Sto → Rs W) : V → Hp → VK → Prop := fun u H Q => ∃ (c : Cfg K) (x : W), c.H = H ∧ Rw c x u ∧ AP c (g x c.S) Q E
def rAs (K : Frag) (E : XK) (g : List W → Sto → Rs W) : List V → Hp → VK → Prop := fun us H Q => ∃ (c : Cfg K) (xs : List W), c.H = H ∧ Rws c xs us ∧ AP c (g xs c.S) Q E
def cBin (g : W → W → Sto → Rs W) (fa fb : ME) : ME := fun ε S => (fa ε S).bind fun x S => (fb ε S).bind fun y S => g x y S
def cUn (g : W → Sto → Rs W) (fa : ME) : ME := fun ε S => (fa ε S).bind fun x S => g x S
theorem tOp_of {g : W → W → Sto → Rs W} {σ : L2.St} {H : Hp} {Q : VK} (h : aE K E (cBin g fa fb) σ H Q) : tOp (rA K E g) (aE K E fa) (aE K E fb) σ H Q := by
  obtain ⟨c, ε, rfl, re, h⟩ := h
  refine ee re h fun c1 w1 u1 l1 r1 h1 => ?_
  refine ee (re.mono l1) h1 fun c2 w2 u2 l2 r2 h2 => ?_
  exact ⟨c2, w1, w2, rfl, r1.mono l2, r2, h2⟩
theorem tUn_of {g : W → Sto → Rs W} {σ : L2.St} {H : Hp} {Q : VK} (h : aE K E (cUn g fa) σ H Q) : tUn (rA1 K E g) (aE K E fa) σ H Q := by
  obtain ⟨c, ε, rfl, re, h⟩ := h
  refine ee re h fun c1 w1 u1 l1 r1 h1 => ?_
  exact ⟨c1, w1, rfl, r1, h1⟩
theorem de_op {op : Operator} {g : W → W → Sto → Rs W} (ho : OpR X (binaryOp op) (rA K E g)) (ha : PE X a (aE K E fa)) (hb : PE X b (aE K E fb)) : PE X (.BinOp a op b pos) (aE K E (cBin g fa fb)) :=
  (pe_op ho ha hb).weak fun _ _ _ h => tOp_of h
theorem de_un {op : UnaryOp} {g : W → Sto → Rs W} (ho : UnR X (unaryOp op) (rA1 K E g)) (ha : PE X a (aE K E fa)) : PE X (.UnaryOp op a pos) (aE K E (cUn g fa)) :=
  (pe_un ho ha).weak fun _ _ _ h => tUn_of h
theorem de_cmp {op : CmpOp} {g : W → W → Sto → Rs W} (ho : OpR X (compareOp op) (rA K E g)) (ha : PE X a (aE K E fa)) (hb : PE X b (aE K E fb)) (hm : behindInMarks op b = false) : PE X (.Compare a [op] [b] pos) (aE K E (cBin g fa fb)) :=
  (pe_cmpR ho ha hb hm).weak fun _ _ _ h => tOp_of h
/-- a value as a test: a truth value -/
def cTest (fa : ME) : MT := fun ε S => (fa ε S).bind fun x S => match x with | .val (.bl b) => .ok b S | _ => .bad
theorem dt_cmp {op : CmpOp} {g : W → W → Sto → Rs W} (ho : OpR X (compareOp op) (rA K E g)) (ha : PE X a (aE K E fa)) (hb : PE X b (aE K E fb)) (hm : behindInMarks op b = false) : PT X (.Compare a [op] [b] pos) (aT K E (cTest (cBin g fa fb))) :=
  (pt_cmpR ho ha hb hm).weak fun σ H Q h => by
    obtain ⟨c, ε, rfl, re, h⟩ := h
    show tOp (rA K E g) (aE K E fa) (aE K E fb) σ c.H fun x H' => ∃ k, x = .bl k ∧ Q k H'
    refine tOp_of ?_
    refine et (f := cBin g fa fb) re h fun c1 w1 u1 l1 r1 h1 => ?_
    split at h1
    · cases r1
      exact ⟨_, rfl, h1.ok⟩
    · exact h1.elim
theorem dt_val (ha : PE X e (aE K E fa)) (he : ∀ whole, isTrue e X.env whole = (do let v ← whole; standAt e.pos; holding [v] (truthy v)) := by intro _; rfl) : PT X e (aT K E (cTest fa)) :=
  (pt_val ha he).weak fun σ H Q h => by
    obtain ⟨c, ε, rfl, re, h⟩ := h
    refine et re h fun c1 w1 u1 l1 r1 h1 => ?_
    split at h1
    · cases r1
      exact ⟨_, rfl, h1.ok⟩
    · exact h1.elim
variable {ft fu : MT} {rest : List Expr}
def cOrT (s t : MT) : MT := fun ε S => (s ε S).bind fun b S => if b then .ok true S else t ε S
def cNotT (s : MT) : MT := fun ε S => (s ε S).bind fun b S => .ok (!b) S
theorem dw_or1 (ha : PT X a (aT K E ft)) : PW X (.BoolOp .Or [a] pos) (aT K E ft) := pw_or1 ha
theorem dw_or (ha : PT X a (aT K E ft)) (hb : PW X (.BoolOp .Or (b :: rest) pos) (aT K E fu)) : PW X (.BoolOp .Or (a :: b :: rest) pos) (aT K E (cOrT ft fu)) :=
  (pw_or ha hb).weak fun σ H Q h => by
    obtain ⟨c, ε, rfl, re, h⟩ := h
    refine tt re h fun c1 w1 l1 h1 => ?_
    cases w1 with
    | false => exact ⟨c1, ε, rfl, re.mono l1, h1⟩
    | true => exact h1.ok
theorem dt_not (ha : PT X a (aT K E ft)) : PT X (.UnaryOp .Not a pos) (aT K E (cNotT ft)) :=
  (pt_not ha).weak fun σ H Q h => by
    obtain ⟨c, ε, rfl, re, h⟩ := h
    refine tt re h fun c1 w1 l1 h1 => ?_
    exact h1.ok
def cAndV (s t : ME) : ME := fun ε S => (s ε S).bind fun x S => match x with | .val (.bl b) => if b = true then t ε S else .ok (.val (.bl false)) S | _ => .bad
def cNotV (s : ME) : ME := fun ε S => (s ε S).bind fun x S => match x with | .val (.bl b) => .ok (.val (.bl (!b))) S | _ => .bad
theorem de_one {op} (h : PE X a (aE K E fa)) : PE X (.BoolOp op [a] pos) (aE K E fa) := pe_one h
theorem de_and (ha : PE X a (aE K E fa)) (hb : PE X (.BoolOp .And (b :: rest) pos) (aE K E fb)) : PE X (.BoolOp .And (a :: b :: rest) pos) (aE K E (cAndV fa fb)) :=
  (pe_and ha hb).weak fun σ H Q h => by
    obtain ⟨c, ε, rfl, re, h⟩ := h
    refine ee re h fun c1 w1 u1 l1 r1 h1 => ?_
    split at h1
    · rename_i b
      cases r1
      cases b with
      | true => exact ⟨true, rfl, ⟨c1, ε, rfl, re.mono l1, h1⟩⟩
      | false => exact ⟨false, rfl, AP.ok (w := .val (.bl false)) h1 (show Rd K _ _ _ from .bl false)⟩
    · exact h1.elim
theorem de_not (ha : PE X a (aE K E fa)) : PE X (.UnaryOp .Not a pos) (aE K E (cNotV fa)) :=
  (pe_not ha).weak fun σ H Q h => by
    obtain ⟨c, ε, rfl, re, h⟩ := h
    refine ee re h fun c1 w1 u1 l1 r1 h1 => ?_
    split at h1
    · cases r1; exact ⟨_, rfl, h1.ok (show Rd K _ _ _ from .bl _)⟩
    · exact h1.elim
variable {es : List Expr} {fs : MA}
theorem da_nil : PA X [] (aA K E cNil) := pa_nil.weak fun σ H Q h => by
  obtain ⟨c, ε, rfl, re, h⟩ := h
  exact h.ok .nil
theorem da_cons (ha : PE X e (aE K E f)) (hr : PA X es (aA K E fs)) (hs : starEach (e :: es) X.env = (false, eval e X.env) :: starEach es X.env := by rfl) : PA X (e :: es) (aA K E (cCons f fs)) :=
  (pa_cons ha hr hs).weak fun σ H Q h => by
    obtain ⟨c, ε, rfl, re, h⟩ := h
    refine ea re h fun c1 w1 u1 l1 r1 h1 => ?_
    refine aa (re.mono l1) h1 fun c2 w2 u2 l2 r2 h2 => ?_
    exact h2.ok (.cons (r1.mono l2) r2)
def cTup (fs : MA) : ME := fun ε S => (fs ε S).bind fun ws S => match toDs ws S with | some (ds, S) => if ds.length ≤ sizeLine then .ok (.val (.tup ds)) S else .bad | none => .bad
def cLst (fs : MA) : ME := fun ε S => (fs ε S).bind fun ws S => match toDs ws S with | some (ds, S) => if ds.length ≤ sizeLine then .ok (.val (.lst ds)) S else .bad | none => .bad
theorem de_tup {x1} (h : PA X es (aA K E fs)) : PE X (.Tuple es x1 pos) (aE K E (cTup fs)) :=
  (pe_tup h).weak fun σ H Q h => by
    obtain ⟨c, ε, rfl, re, h⟩ := h
    refine ae re h fun c1 ws us l1 r1 h1 => ?_
    split at h1
    · rename_i ds S e
      obtain ⟨c2, l2, rfl, e2, r2⟩ := toDs_ok e r1
      split at h1
      · rename_i hz
        refine ⟨by rw [← r2.length]; exact hz, fun p hp => ?_⟩
        rw [← e2] at hp ⊢
        exact (h1.up l2).tup r2 hp
      · exact h1.elim
    · exact h1.elim
theorem de_lst (h : PA X es (aA K E fs)) : PE X (.List es pos) (aE K E (cLst fs)) :=
  (pe_lst h).weak fun σ H Q h => by
    obtain ⟨c, ε, rfl, re, h⟩ := h
    refine ae re h fun c1 ws us l1 r1 h1 => ?_
    split at h1
    · rename_i ds S e
      obtain ⟨c2, l2, rfl, e2, r2⟩ := toDs_ok e r1
      split at h1
      · rename_i hz
        refine ⟨by rw [← r2.length]; exact hz, fun p hp => ?_⟩
        rw [← e2] at hp ⊢
        exact (h1.up l2).lst r2 hp
      · exact h1.elim
    · exact h1.elim
end
end AM
set_option Elab.async false
set_option linter.all false
set_option maxRecDepth 100000
set_option maxHeartbeats 4000000
namespace AM
open PySem PySem.Spec PyProof.Rows L2 Bk
open PySem.W (Frag)
variable {K : Frag} [Amb]
theorem Cfg.notin (c : Cfg K) {p : Addr} (h : c.H p = none) : p ∉ c.m := fun hm => by
  obtain ⟨n, hn, e⟩ := List.mem_iff_getElem.mp hm
  have hl := c.len
  have e1 : c.m[n]? = some p := by rw [List.getElem?_eq_getElem hn, e]
  obtain ⟨u, hu⟩ := (c.at_ n p _ e1 (List.getElem?_eq_getElem (by omega))).some
  rw [h] at hu
  cases hu
def Cfg.take (c : Cfg K) (n : Nat) : Cfg K where
  G := c.G
  m := c.m.take n
  S := c.S.take n
  H := c.H
  sub := c.sub
  len := by rw [List.length_take, List.length_take, c.len]
  nd := (List.take_sublist n c.m).nodup c.nd
  at_ := fun k a ob e1 e2 => by
    rw [List.getElem?_take] at e1 e2
    split at e1
    · rename_i hk
      rw [if_pos hk] at e2
      exact c.at_ k a ob e1 e2
    · cases e1
  fr := fun k a ob e1 e2 => by
    rw [List.getElem?_take] at e1 e2
    split at e1
    · rename_i hk
      rw [if_pos hk] at e2
      exact c.fr k a ob e1 e2
    · cases e1
  z := c.z
  zat := c.zat
  zm := fun q hq hm => c.zm q hq (List.mem_of_mem_take hm)
  zg := c.zg
  zn := c.zn
  zt := c.zt
  gt := c.gt
  tb := c.tb
theorem pre_take {α : Type} {l l' : List α} (h : l <+: l') {n : Nat} (hn : l.length ≤ n) : l <+: l'.take n := by
  obtain ⟨t, rfl⟩ := h
  rw [List.take_append, List.take_of_length_le hn]
  exact List.prefix_append _ _
theorem Cfg.le.take {c c' : Cfg K} (h : c.le c') {n : Nat} (hn : c.S.length ≤ n) : c.le (c'.take n) := ⟨h.g, pre_take h.m (by rw [c.len]; exact hn), h.z⟩
/-- the thing at n is written -/
def Cfg.put (c : Cfg K) (n : Nat) (a : Addr) (ob ob' : Ob) (o : HO) (h1 : c.m[n]? = some a) (h2 : c.S[n]? = some ob) (h3 : ob ≠ .dead) (r : Rob K c.G ob' (some o)) : Cfg K where
  G := c.G
  m := c.m
  S := c.S.set n ob'
  H := upd c.H a o
  sub := fun b u e => by
    have := c.fr n a ob h1 h2 h3
    rw [upd_ne (ne_of_none e this)]
    exact c.sub b u e
  len := by rw [List.length_set]; exact c.len
  nd := c.nd
  at_ := fun k b ob2 e1 e2 => by
    rw [List.getElem?_set] at e2
    by_cases hk : n = k
    · subst hk
      rw [h1] at e1
      cases e1
      rw [if_pos rfl] at e2
      split at e2
      · cases e2
        rw [upd_same]
        exact r
      · cases e2
    · rw [if_neg hk] at e2
      have ne : b ≠ a := fun z => hk (by
        rw [z] at e1
        obtain ⟨g1, e1'⟩ := List.getElem?_eq_some_iff.mp h1
        obtain ⟨g2, e2'⟩ := List.getElem?_eq_some_iff.mp e1
        exact (List.getElem_inj c.nd).mp (e1'.trans e2'.symm))
      rw [upd_ne ne]
      exact c.at_ k b ob2 e1 e2
  fr := fun k b ob2 e1 e2 e3 => by
    rw [List.getElem?_set] at e2
    by_cases hk : n = k
    · subst hk
      rw [h1] at e1
      cases e1
      exact c.fr n a ob h1 h2 h3
    · rw [if_neg hk] at e2
      exact c.fr k b ob2 e1 e2 e3
  z := c.z
  zat := fun q hq => by
    rw [upd_ne (fun z => c.zm q hq (by rw [z]; exact List.mem_of_getElem? h1))]
    exact c.zat q hq
  zm := c.zm
  zg := c.zg
  zn := c.zn
  zt := c.zt
  gt := c.gt
  tb := tabs_upd c.tb (fun u e => by have r2 := c.at_ n a ob h1 h2; rw [e] at r2; exact r2.ntb) (fun u e q => by have r2 := c.at_ n a ob h1 h2; rw [e] at r2; exact r2.nco h3 a q)
theorem Cfg.put_le {c : Cfg K} {n : Nat} {a : Addr} {ob ob' : Ob} {o : HO} {h1 : c.m[n]? = some a} {h2 : c.S[n]? = some ob} {h3 : ob ≠ .dead} {r : Rob K c.G ob' (some o)} : c.le (c.put n a ob ob' o h1 h2 h3 r) := ⟨Same.rfl', List.prefix_refl _, List.prefix_refl _⟩
/-- a new thing that may change -/
def Cfg.push (c : Cfg K) (p : Addr) (ob : Ob) (o : HO) (h : c.H p = none) (r : Rob K c.G ob (some o)) : Cfg K where
  G := c.G
  m := c.m ++ [p]
  S := c.S ++ [ob]
  H := upd c.H p o
  sub := fun b u e => by
    rw [upd_ne (ne_of_none e (c.gnone h))]
    exact c.sub b u e
  len := by rw [List.length_append, List.length_append, c.len]; rfl
  nd := by
    rw [List.nodup_append]
    refine ⟨c.nd, by simp, fun a ha b hb => ?_⟩
    rw [List.mem_singleton] at hb
    subst hb
    exact fun z => c.notin h (by rw [← z]; exact ha)
  at_ := fun k b ob2 e1 e2 => by
    have hl := c.len
    by_cases hk : k < c.m.length
    · rw [List.getElem?_append_left hk] at e1
      rw [List.getElem?_append_left (by omega)] at e2
      rw [upd_ne (fun z => c.notin h (by rw [← z]; exact List.mem_of_getElem? e1))]
      exact c.at_ k b ob2 e1 e2
    · rw [List.getElem?_append_right (by omega)] at e1 e2
      rw [List.getElem?_singleton] at e1 e2
      split at e1
      · rename_i h0
        rw [if_pos (by omega)] at e2
        cases e1; cases e2
        rw [upd_same]
        exact r
      · cases e1
  fr := fun k b ob2 e1 e2 e3 => by
    have hl := c.len
    by_cases hk : k < c.m.length
    · rw [List.getElem?_append_left hk] at e1
      rw [List.getElem?_append_left (by omega)] at e2
      exact c.fr k b ob2 e1 e2 e3
    · rw [List.getElem?_append_right (by omega)] at e1
      rw [List.getElem?_singleton] at e1
      split at e1
      · cases e1
        exact c.gnone h
      · cases e1
  z := c.z
  zat := fun q hq => by rw [upd_ne (ne_of_none (c.zat q hq) h)]; exact c.zat q hq
  zm := fun q hq hm => by
    rcases List.mem_append.mp hm with h1 | h1
    · exact c.zm q hq h1
    · rw [List.mem_singleton] at h1
      have := c.zat q hq
      rw [h1, h] at this
      cases this
  zg := c.zg
  zn := c.zn
  zt := c.zt
  gt := c.gt
  tb := tabs_new c.tb h
end AM
set_option Elab.async false
set_option linter.all false
set_option maxRecDepth 100000
set_option maxHeartbeats 4000000
namespace AM
open PySem PySem.Spec PyProof.Rows L2 Bk
open PySem.W (Frag)
variable {K : Frag} [Amb]
section
variable {X : Cx} {E : XK} {pos : Pos} {a b e : Expr} {fa fb f : ME} {ft : MT} {st : Stmt} {rest : List Stmt} {s t : MS}
def sNil : MS := fun ε S => .nx ε S
def sSeq (a b : MS) : MS := fun ε S => match a ε S with | .nx ε S => b ε S | r => r
def sExpr (f : ME) : MS := fun ε S => (f ε S).bindT fun _ S => .nx ε S
def sRet (f : ME) : MS := fun ε S => (f ε S).bindT fun w S => .rt w S
def sIf (c : MT) (a b : MS) : MS := fun ε S => (c ε S).bindT fun k S => if k then a ε S else b ε S
theorem dss_nil : PSs X [] (aS K E sNil) := pss_nil.weak fun D σ H h => by
  obtain ⟨c, ε, rfl, re, h⟩ := h
  exact h c .refl rfl σ re
theorem dss_cons (h1 : PS X st (aS K E s)) (h2 : PSs X rest (aS K E t)) : PSs X (st :: rest) (aS K E (sSeq s t)) := (pss_cons h1 h2).weak fun D σ H h => by
  obtain ⟨c, ε, rfl, re, h⟩ := h
  refine ⟨c, ε, rfl, re, ?_⟩
  unfold sSeq at h
  cases q : s ε c.S with
  | nx ε' S => rw [q] at h; exact fun c' l es σ' r => ⟨c', ε', rfl, r, by rw [es]; exact APs.up h l⟩
  | rt w S => rw [q] at h; exact h
  | bk ε' S => rw [q] at h; exact h
  | ct ε' S => rw [q] at h; exact h
  | ex C fs S => rw [q] at h; exact h
  | bad => rw [q] at h; exact h
theorem dss_one (h1 : PS X st (aS K E s)) : PSs X [st] (aS K E s) := pss_one h1
theorem ds_expr (he : PE X e (aE K E f)) (hs : swapsWith e none pos.line X.env = pure false := by rfl) : PS X (.Expr e pos) (aS K E (sExpr f)) := (ps_expr he hs).weak fun D σ H h => by
  obtain ⟨c, ε, rfl, re, h⟩ := h
  exact es re h fun c1 w1 u1 l1 r1 h1 => h1 c1 .refl rfl σ (re.mono l1)
theorem ds_ret (he : PE X e (aE K E f)) : PS X (.Return (some e) pos) (aS K E (sRet f)) := (ps_ret he).weak fun D σ H h => by
  obtain ⟨c, ε, rfl, re, h⟩ := h
  exact es re h fun c1 w1 u1 l1 r1 h1 => h1 c1 .refl rfl u1 r1
theorem ds_if {c : Expr} {aa bb : List Stmt} (hc : PT X c (aT K E ft)) (ha : PSs X aa (aS K E s)) (hb : PSs X bb (aS K E t)) : PS X (.If c aa bb pos) (aS K E (sIf ft s t)) := (ps_if hc ha hb).weak fun D σ H h => by
  obtain ⟨c, ε, rfl, re, h⟩ := h
  refine ts re h fun c1 w1 l1 h1 => ?_
  cases w1 with
  | true => exact ⟨c1, ε, rfl, re.mono l1, h1⟩
  | false => exact ⟨c1, ε, rfl, re.mono l1, h1⟩
abbrev MG := W → Ev → Option Ev
def aG (K : Frag) (is : List Nat) (g : MG) : TG := fun v σ H Q => ∃ (c : Cfg K) (ε ε' : Ev) (w : W), c.H = H ∧ Re c ε σ ∧ Rw c w v ∧ g w ε = some ε' ∧ ∀ σ', Re c ε' σ' → σ'.length = σ.length → (∀ i, i ∉ is → σ'[i]? = σ[i]?) → Q σ' H
def gNm (i : Nat) : MG := fun w ε => some (ε.set i (some w))
theorem dg_name {i : Nat} {x : Str} (hN : X.N.Nodup) (hi : X.N[i]? = some x) (hx : Loc X.env.scope x) (hf : X.fn x = true ∨ X.env.scope.names.lookup x = some .local := by first | exact .inl rfl | exact .inr rfl | assumption) : PG X (.Name x pos) (aG K [i] (gNm i)) :=
  PG.weak (pg_name hN hi hx hf) fun v σ H Q h => by
    obtain ⟨c, ε, ε', w, rfl, re, r, e, q⟩ := h
    cases e
    refine q _ (re.set i r) (List.length_set ..) fun j hj => ?_
    rw [List.getElem?_set_ne (fun z => hj (by simp [z]))]
def sAsg (g : MG) (f : ME) : MS := fun ε S => (f ε S).bindT fun w S => match g w ε with | some ε => .nx ε S | none => .bad
theorem ds_set {i : Nat} {x : Str} {pos' : Pos} (hN : X.N.Nodup) (hi : X.N[i]? = some x) (hx : Loc X.env.scope x) (he : PE X e (aE K E f)) (hs : swapsWith e (some (.Name x pos')) pos.line X.env = pure false := by rfl) (hf : X.fn x = true ∨ X.env.scope.names.lookup x = some .local := by first | exact .inl rfl | exact .inr rfl | assumption) :
    PS X (.Assign [.Name x pos'] e pos) (aS K E (sAsg (gNm i) f)) := (ps_set hN hi hx he hs hf).weak fun D σ H h => by
  obtain ⟨c, ε, rfl, re, h⟩ := h
  exact es re h fun c1 w1 u1 l1 r1 h1 => h1 c1 .refl rfl _ ((re.mono l1).set i r1)
/-- a, b = x, y -/
def sPar (i j : Nat) (fs : MA) : MS := fun ε S => (fs ε S).bindT fun ws S => match ws with | [v, w] => .nx ((ε.set i (some v)).set j (some w)) S | _ => .bad
theorem ds_par {i j : Nat} {x y : Str} {fs : MA} {px py pt : Pos} {kt k2 pt2} (hc : X.calm = true) (hN : X.N.Nodup) (hi : X.N[i]? = some x) (hj : X.N[j]? = some y) (hij : i ≠ j)
    (hx : X.env.scope.names.lookup x = some .local) (hy : X.env.scope.names.lookup y = some .local) (ha : PA X [a, b] (aA K E fs))
    (hw : swappedStores [.Tuple [.Name x px, .Name y py] kt pt] (.Tuple [a, b] k2 pt2) X.env = pure (some [x, y]))
    (hs : swapsWithSole [.Tuple [.Name x px, .Name y py] kt pt] (.Tuple [a, b] k2 pt2) pos.line X.env = pure false := by rfl) :
    PS X (.Assign [.Tuple [.Name x px, .Name y py] kt pt] (.Tuple [a, b] k2 pt2) pos) (aS K E (sPar i j fs)) := (ps_par hc hN hi hj hij hx hy ha hw hs).weak fun D σ H h => by
  obtain ⟨c, ε, rfl, re, h⟩ := h
  refine as re h fun c1 ws us l1 r1 h1 => ?_
  split at h1
  · rename_i v w
    cases r1 with
    | cons r1 r2 => cases r2 with
      | cons r2 r3 =>
        cases r3
        exact ⟨_, _, rfl, h1 c1 .refl rfl _ (((re.mono l1).set i r1).set j r2)⟩
  · exact h1.elim
abbrev MI := Ev → Sto → Rs (List D)
structure AIt (c0 : Cfg K) (items : List D) (J : It) : Prop where
  go : ∀ (c : Cfg K), c0.le c → ∀ (i : Nat) d, items[i]? = some d → J.go i c.H ∧ ∀ x H', J.yld i c.H x H' → ∃ c' : Cfg K, c.le c' ∧ c'.S = c.S ∧ c'.H = H' ∧ Rd K c'.G d x
  stop : ∀ c : Cfg K, c0.le c → J.stop items.length c.H
theorem AIt.up {c c' : Cfg K} {items : List D} {J : It} (h : AIt c items J) (l : c.le c') : AIt c' items J := ⟨fun c2 l2 => h.go c2 (l.tr l2), fun c2 l2 => h.stop c2 (l.tr l2)⟩
def API (c : Cfg K) (r : Rs (List D)) (R : It → Hp → Prop) (E : XK) : Prop := match r with
  | .ok ds S => ∀ c' : Cfg K, c.le c' → c'.S = S → ∀ J, AIt c' ds J → R J c'.H
  | .ex C fs S => ∀ c' : Cfg K, c.le c' → c'.S = S → XO c' C fs E
  | .bad => False
def aI (K : Frag) (E : XK) (f : MI) : TI := fun σ H R => ∃ (c : Cfg K) (ε : Ev), c.H = H ∧ Re c ε σ ∧ API c (f ε c.S) R E
theorem API.up {c c' : Cfg K} {r : Rs (List D)} {R : It → Hp → Prop} {E : XK} (h : API c r R E) (l : c.le c') : API c' r R E := by
  cases r with
  | ok w S => exact fun c2 l2 e => h c2 (l.tr l2) e
  | ex C fs S => exact fun c2 l2 e => h c2 (l.tr l2) e
  | bad => exact h
theorem ai {c : Cfg K} {ε : Ev} {σ : L2.St} {fs : MA} (re : Re c ε σ) {k : List W → Sto → Rs (List D)} {R : It → Hp → Prop} (h : API c ((fs ε c.S).bind k) R E) {T : List V → Hp → Prop} (g : ∀ (c' : Cfg K) w u, c.le c' → Rws c' w u → API c' (k w c'.S) R E → T u c'.H) : aA K E fs σ c.H T := by
  refine ⟨c, ε, rfl, re, ?_⟩
  cases e : fs ε c.S with
  | ok w S => rw [e] at h; exact fun c' l es u r => g c' w u l r (by rw [es]; exact API.up (show API c (k w S) R E from h) l)
  | ex C fs S => rw [e] at h; exact h
  | bad => rw [e] at h; exact h
def signs (x : Str) : List D := x.cps.toList.map fun c => .str ⟨#[c]⟩
def iterD : W → Option (List D)
  | .val (.tup l) => some l
  | .val (.lst l) => some l
  | .val (.fl l) => some l
  | .val (.str x) => some (signs x)
  | .val (.tux l) => some l
  | _ => none
def cIter (f : ME) : MI := fun ε S => (f ε S).bind fun w S => match iterD w with | some l => .ok l S | none => .bad
theorem ait_list {c : Cfg K} {a : Addr} {xs : List V} {l : List D} (h : SqL K c.G a xs) (r : Rds K c.G l xs) : AIt c l (Itl K a) := by
  have wk := walk_list (K := K) (a := a) (xs := xs)
  have hl := r.length
  refine ⟨fun c2 l2 i d e => ?_, fun c2 l2 => ?_⟩
  · have sq : SqL K c2.H a xs := sqL_same c2.sub (sqL_same l2.g h)
    obtain ⟨v, e2, r2⟩ := r.get e
    have hi := (List.getElem?_eq_some_iff.mp e2).1
    refine ⟨wk.goes i _ hi sq, fun x H' hy => ?_⟩
    obtain ⟨rfl, e3⟩ := wk.yields i _ x H' hi sq hy
    rw [e2] at e3
    cases e3
    exact ⟨c2, .refl, rfl, rfl, r2.mono l2.g⟩
  · rw [hl]
    exact wk.stops _ (sqL_same c2.sub (sqL_same l2.g h))
theorem ait_tup {c : Cfg K} {a : Addr} {xs : List V} {l : List D} (h : SqT K c.G a xs) (r : Rds K c.G l xs) : AIt c l (Itt K a) := by
  have wk := walk_tup (K := K) (a := a) (xs := xs)
  have hl := r.length
  refine ⟨fun c2 l2 i d e => ?_, fun c2 l2 => ?_⟩
  · have sq : SqT K c2.H a xs := Same.tup c2.sub (Same.tup l2.g h)
    obtain ⟨v, e2, r2⟩ := r.get e
    have hi := (List.getElem?_eq_some_iff.mp e2).1
    refine ⟨wk.goes i _ hi sq, fun x H' hy => ?_⟩
    obtain ⟨rfl, e3⟩ := wk.yields i _ x H' hi sq hy
    rw [e2] at e3
    cases e3
    exact ⟨c2, .refl, rfl, rfl, r2.mono l2.g⟩
  · rw [hl]
    exact wk.stops _ (Same.tup c2.sub (Same.tup l2.g h))
theorem ait_str {c : Cfg K} {z : Str} : AIt c (signs z) (Its z) := by
  have wk := walk_str (z := z)
  have hl : (signs z).length = z.cps.size := by unfold signs; rw [List.length_map, Array.length_toList]
  refine ⟨fun c2 l2 i d e => ?_, fun c2 l2 => ?_⟩
  · have hi : i < z.cps.size := by rw [← hl]; exact (List.getElem?_eq_some_iff.mp e).1
    refine ⟨wk.goes i _ hi trivial, fun x H' hy => ?_⟩
    obtain ⟨rfl, cc, e3, rfl⟩ := wk.yields i _ x H' hi trivial hy
    unfold signs at e
    rw [List.getElem?_map, Array.getElem?_toList, e3] at e
    cases e
    exact ⟨c2, .refl, rfl, rfl, .str _ (by show 1 ≤ sizeLine; decide)⟩
  · rw [hl]
    exact wk.stops _ trivial
end
end AM
set_option Elab.async false
set_option linter.all false
set_option maxRecDepth 100000
set_option maxHeartbeats 4000000
namespace AM
open PySem PySem.Spec PyProof.Rows L2 Bk
open PySem.W (Frag)
variable {K : Frag} [Amb]
section
variable {X : Cx} {E : XK} {pos : Pos} {a b e tg : Expr} {fa fb f : ME} {ft : MT} {st : Stmt} {rest : List Stmt} {s t : MS}
theorem PI.or {t t' : TI} (h : PI X tg e t) (h' : PI X tg e t') : PI X tg e (fun σ H R => t σ H R ∨ t' σ H R) := ⟨fun pins s σ H R I hw => hw.elim (h.run pins s σ H R I) (h'.run pins s σ H R I)⟩
theorem di_val (hK : X.K = K) (he : PE X e (aE K E f)) : PI X tg e (aI K E (cIter f)) := by
  subst hK
  refine PI.weak (PI.or (pi_list he) (PI.or (pi_tup he) (pi_str he))) fun σ H R h => ?_
  obtain ⟨c, ε, rfl, re, h⟩ := h
  unfold cIter at h
  cases q : f ε c.S with
  | bad => rw [q] at h; exact h.elim
  | ex C fs S => rw [q] at h; exact .inl ⟨c, ε, rfl, re, by rw [q]; exact h⟩
  | ok w S =>
    rw [q] at h
    cases w with
    | ref n => exact h.elim
    | rws ns => exact h.elim
    | exc C fs => exact h.elim
    | clo => exact h.elim
    | val d =>
      cases d with
      | tup l =>
        refine .inr (.inl ⟨c, ε, rfl, re, ?_⟩)
        rw [q]
        intro c' l1 es u r
        cases r with
        | tup hs rs => exact ⟨_, rfl, ⟨_, Same.tup c'.sub hs⟩, h c' l1 es _ (ait_tup hs rs)⟩
      | lst l =>
        refine .inl ⟨c, ε, rfl, re, ?_⟩
        rw [q]
        intro c' l1 es u r
        cases r with
        | lst hs rs => exact ⟨_, rfl, ⟨_, .inl (.inl (c'.sub _ _ hs))⟩, h c' l1 es _ (ait_list (.inl (.inl hs)) rs)⟩
      | fl l =>
        refine .inl ⟨c, ε, rfl, re, ?_⟩
        rw [q]
        intro c' l1 es u r
        cases r with
        | fl hs rs => exact ⟨_, rfl, ⟨_, sqL_same c'.sub hs⟩, h c' l1 es _ (ait_list hs rs)⟩
      | str x =>
        refine .inr (.inr ⟨c, ε, rfl, re, ?_⟩)
        rw [q]
        intro c' l1 es u r
        cases r with
        | str _ hz => exact ⟨_, rfl, h c' l1 es _ ait_str⟩
      | tux l =>
        refine .inr (.inl ⟨c, ε, rfl, re, ?_⟩)
        rw [q]
        intro c' l1 es u r
        cases r with
        | tux hs hd rs => exact ⟨_, rfl, ⟨_, .inl (.inr ⟨_, c'.sub _ _ hs⟩)⟩, h c' l1 es _ (ait_tup (.inl (.inr ⟨_, hs⟩)) rs)⟩
      | _ => exact h.elim
def rangeD (lo : Int) (n : Nat) : List D := (List.range n).map fun (i : Nat) => .int (lo + i)
theorem ait_range {c : Cfg K} {lo : Int} {n : Nat} : AIt c (rangeD lo n) (Itr lo n) := by
  have wk := walk_range (lo := lo) (n := n)
  have hl : (rangeD lo n).length = n := by unfold rangeD; rw [List.length_map, List.length_range]
  refine ⟨fun c2 l2 i d e => ?_, fun c2 l2 => ?_⟩
  · have hi : i < n := by have := (List.getElem?_eq_some_iff.mp e).1; omega
    refine ⟨wk.goes i _ hi trivial, fun x H' hy => ?_⟩
    obtain ⟨rfl, rfl⟩ := wk.yields i _ x H' hi trivial hy
    unfold rangeD at e
    rw [List.getElem?_map, List.getElem?_range hi] at e
    cases e
    exact ⟨c2, .refl, rfl, rfl, .int _⟩
  · rw [hl]
    exact wk.stops _ trivial
def cRange1 (fs : MA) : MI := fun ε S => (fs ε S).bind fun ws S => match ws with | [.val (.int j)] => if -(2 ^ 62) ≤ j ∧ j < 2 ^ 62 then .ok (rangeD 0 j.toNat) S else .bad | _ => .bad
theorem di_range1 {fs : MA} {p : Pos} (hg : Gl X "range") (hm : X.mg "range" = none) (ha : PA X [a] (aA K E fs)) (hs : starEach [a] X.env = [(false, eval a X.env)] := by rfl) : PI X tg (.Call (.Name "range" p) [a] [] pos) (aI K E (cRange1 fs)) :=
  (pi_range1 hg hm ha hs).weak fun σ H R h => by
    obtain ⟨c, ε, rfl, re, h⟩ := h
    refine ai re h fun c1 ws us l1 r1 h1 => ?_
    split at h1
    · rename_i j
      split at h1
      · rename_i hj
        cases r1 with
        | cons r1 r2 =>
          cases r1; cases r2
          exact ⟨j, rfl, hj.1, hj.2, h1 c1 .refl rfl _ ait_range⟩
      · exact h1.elim
    · exact h1.elim
def forL (g : MG) (body : MS) : List D → MS
  | [], ε, S => .nx ε S
  | d :: ds, ε, S => match g (.val d) ε with
    | none => .bad
    | some ε => match body ε S with
      | .nx ε S => forL g body ds ε S
      | .ct ε S => forL g body ds ε S
      | .bk ε S => .nx ε S
      | r => r
def sFor (g : MG) (fi : MI) (body : MS) : MS := fun ε S => (fi ε S).bindT fun ds S => forL g body ds ε S
theorem ds_for {iter : Expr} {body : List Stmt} {is : List Nat} {g : MG} {fi : MI} (hp : PassesOwn (model X.prog X.w) X.A X.env X.xe) (hc : X.calm = true) (hi : PI X tg iter (aI K E fi)) (hg : PG X tg (aG K is g)) (hb : PSs X body (aS K E s))
    (hs : ∀ x, foldedSetIterable iter X.env x = pure x := by intro _; rfl) : PS X (.For tg iter body [] pos) (aS K E (sFor g fi s)) := (ps_for hp hc hi hg hb hs).weak fun D σ H h => by
  obtain ⟨c, ε, rfl, re, h⟩ := h
  refine ⟨c, ε, rfl, re, ?_⟩
  unfold sFor at h
  cases q : fi ε c.S with
  | bad => rw [q] at h; exact h.elim
  | ex C fs S => rw [q] at h; exact h
  | ok ds S =>
    rw [q] at h
    intro c1 l1 es J ai
    have h1 : APs c1 (forL g s ds ε S) D E := APs.up h l1
    refine ⟨fun i m σ H => ∃ (c2 : Cfg K) (ε2 : Ev), c1.le c2 ∧ c2.H = H ∧ Re c2 ε2 σ ∧ m = ds.length - i ∧ i ≤ ds.length ∧ APs c2 (forL g s (ds.drop i) ε2 c2.S) D E, ⟨ds.length, c1, ε, .refl, rfl, re.mono l1, rfl, Nat.zero_le _, by rw [es]; exact h1⟩, ?_⟩
    rintro i m σ2 H2 ⟨c2, ε2, l2, rfl, re2, rfl, hi, h2⟩
    by_cases hlt : i < ds.length
    · refine .inr ?_
      have e := List.getElem?_eq_getElem hlt
      obtain ⟨go, yl⟩ := ai.go c2 l2 i _ e
      refine ⟨go, fun σ' H' => ∃ (c3 : Cfg K) (ε3 : Ev), c2.le c3 ∧ c3.H = H' ∧ Re c3 ε3 σ' ∧ APs c3 (forL g s (ds.drop (i + 1)) ε3 c3.S) D E, ?_, ?_⟩
      · rintro σ' H' ⟨c3, ε3, l3, rfl, re3, h3⟩
        exact ⟨ds.length - (i + 1), by omega, c3, ε3, l2.tr l3, rfl, re3, rfl, hlt, h3⟩
      · intro x H' hy
        obtain ⟨c3, l3, s3, rfl, r3⟩ := yl x H' hy
        rw [List.drop_eq_getElem_cons hlt] at h2
        have h3 := APs.up h2 l3
        rw [← s3] at h3
        unfold forL at h3
        cases e4 : g (.val ds[i]) ε2 with
        | none => rw [e4] at h3; exact h3.elim
        | some ε4 =>
          rw [e4] at h3
          refine ⟨c3, ε2, ε4, .val _, rfl, re2.mono l3, r3, e4, fun σ4 re4 _ _ => ⟨c3, ε4, rfl, re4, ?_⟩⟩
          cases e5 : s ε4 c3.S with
          | nx ε5 S5 =>
            simp only [e5] at h3
            exact fun c6 l6 es6 σ6 re6 => ⟨c6, ε5, l3.tr l6, rfl, re6, by rw [es6]; exact APs.up h3 l6⟩
          | ct ε5 S5 =>
            simp only [e5] at h3
            exact fun c6 l6 es6 σ6 re6 => ⟨c6, ε5, l3.tr l6, rfl, re6, by rw [es6]; exact APs.up h3 l6⟩
          | bk ε5 S5 => simp only [e5] at h3; exact h3
          | rt w S5 => simp only [e5] at h3; exact h3
          | ex C fs S5 => simp only [e5] at h3; exact h3
          | bad => simp only [e5] at h3; exact h3.elim
    · refine .inl ?_
      have e : i = ds.length := by omega
      subst e
      rw [List.drop_length] at h2
      exact ⟨ai.stop c2 l2, h2 c2 .refl rfl σ2 re2⟩
end
end AM
set_option Elab.async false
set_option linter.all false
set_option maxRecDepth 100000
set_option maxHeartbeats 4000000
namespace AM
open PySem PySem.Spec PyProof.Rows L2 Bk
open PySem.W (Frag)
variable {K : Frag} [Amb]
def wipeE (ε : Ev) : List Nat → Ev
  | [] => ε
  | v :: vs => (wipeE ε vs).set v none
theorem wipe_get (σ : L2.St) (i : Nat) : ∀ vs : List Nat, (wipe σ vs)[i]? = if i ∈ vs then (if i < σ.length then some none else none) else σ[i]?
  | [] => by simp [wipe]
  | v :: vs => by
    unfold wipe
    rw [List.getElem?_set, wipe_get σ i vs, wipe_length]
    by_cases h : v = i
    · subst h; simp
    · rw [if_neg h]
      have : (i ∈ v :: vs) ↔ i ∈ vs := by rw [List.mem_cons]; exact ⟨fun z => z.elim (fun z => absurd z.symm h) id, .inr⟩
      simp only [this]
theorem wipeE_len (ε : Ev) : ∀ vs : List Nat, (wipeE ε vs).length = ε.length
  | [] => rfl
  | v :: vs => by unfold wipeE; rw [List.length_set, wipeE_len ε vs]
theorem wipeE_get (ε : Ev) (i : Nat) : ∀ vs : List Nat, (wipeE ε vs)[i]? = if i ∈ vs then (if i < ε.length then some none else none) else ε[i]?
  | [] => by simp [wipeE]
  | v :: vs => by
    unfold wipeE
    rw [List.getElem?_set, wipeE_get ε i vs, wipeE_len]
    by_cases h : v = i
    · subst h; simp
    · rw [if_neg h]
      have : (i ∈ v :: vs) ↔ i ∈ vs := by rw [List.mem_cons]; exact ⟨fun z => z.elim (fun z => absurd z.symm h) id, .inr⟩
      simp only [this]
theorem Re.wipe {c : Cfg K} {ε : Ev} {σ : L2.St} (r : Re c ε σ) (vs : List Nat) : Re c (wipeE ε vs) (L2.wipe σ vs) := by
  refine ⟨by rw [wipeE_len, wipe_length, r.len], fun i w e => ?_⟩
  rw [wipeE_get] at e
  rw [wipe_get]
  split at e
  · split at e <;> cases e
  · rename_i h
    rw [if_neg h]
    exact r.at_ i w e
theorem wipe_back {σ σ2 : L2.St} {is vs : List Nat} (hi : ∀ i ∈ is, i ∈ vs) (hl : σ2.length = (wipe σ vs).length) (h : ∀ i, i ∉ is → σ2[i]? = (wipe σ vs)[i]?) : wipe σ2 vs = wipe σ vs := by
  apply List.ext_getElem?
  intro i
  rw [wipe_get, wipe_get]
  rw [wipe_length] at hl
  by_cases hv : i ∈ vs
  · rw [if_pos hv, if_pos hv, hl]
  · rw [if_neg hv, if_neg hv, h i (fun z => hv (hi i z)), wipe_get, if_neg hv]
def lcL (n : Nat) (g : MG) (ft : MT) (fe : ME) (ε : Ev) : List D → Sto → Option Sto
  | [], S => some S
  | d :: ds, S => match g (.val d) ε with
    | none => none
    | some ε1 => match ft ε1 S with
      | .ok true S => match fe ε1 S with
        | .ok w S => match toD w S with
          | some (x, S) => match S[n]? with
            | some (.lst acc) => if acc.length < sizeLine then lcL n g ft fe ε ds (S.set n (.lst (acc ++ [x]))) else none
            | _ => none
          | none => none
        | _ => none
      | .ok false S => lcL n g ft fe ε ds S
      | _ => none
def cLc (mu : Bool) (vs : List Nat) (g : MG) (fi : MI) (ft : MT) (fe : ME) : ME := fun ε S => (fi ε S).bind fun ds S => match lcL S.length g ft fe (wipeE ε vs) ds (S ++ [.lst []]) with
  | some S' => match S'[S.length]? with
    | some (.lst acc) => if mu then .ok (.ref S.length) (S'.take (S.length + 1)) else .ok (.val (.lst acc)) (S'.take S.length)
    | _ => .bad
  | none => .bad
def tYesM : MT := fun _ S => .ok true S
theorem lc_of {E0 : XK} {E : XK} {mu : Bool} {vs is : List Nat} {g : MG} {fi : MI} {ft : MT} {fe : ME} (hi : ∀ i ∈ is, i ∈ vs) {σ : L2.St} {H : Hp} {Q : VK} (h : aE K E (cLc mu vs g fi ft fe) σ H Q) :
    tLc (aI K E fi) (aG K is g) (aT K E0 ft) (aE K E0 fe) vs σ H Q := by
  obtain ⟨c, ε, rfl, re, h⟩ := h
  refine ⟨c, ε, rfl, re, ?_⟩
  unfold cLc at h
  cases q : fi ε c.S with
  | bad => rw [q] at h; exact h.elim
  | ex C fs S => rw [q] at h; exact h
  | ok ds S =>
    rw [q] at h
    simp only [Rs.bind] at h
    intro c1 l1 es J ai A hA
    subst es
    generalize hn : c1.S.length = n at h
    have hm : c1.m.length = n := by rw [c1.len, hn]
    let c1' := c1.push A (.lst []) (.lst []) hA ⟨[], rfl, .nil⟩
    have lp : c1.le c1' := ⟨Same.rfl', List.prefix_append _ _, List.prefix_refl _⟩
    -- what is wanted of the rest
    let Fin : Option Sto → Prop := fun r => ∃ S', r = some S' ∧ ∃ acc, S'[n]? = some (.lst acc) ∧ AP c (if mu then Rs.ok (.ref n) (S'.take (n + 1)) else .ok (.val (.lst acc)) (S'.take n)) Q E
    have h0 : Fin (lcL n g ft fe (wipeE ε vs) ds c1'.S) := by
      show Fin (lcL n g ft fe (wipeE ε vs) ds (c1.S ++ [.lst []]))
      cases e : lcL n g ft fe (wipeE ε vs) ds (c1.S ++ [.lst []]) with
      | none => rw [e] at h; exact h.elim
      | some S' =>
        rw [e] at h
        simp only at h
        split at h
        · rename_i acc e2
          exact ⟨S', rfl, acc, e2, h⟩
        · exact h.elim
    refine ⟨fun i m H => ∃ c2 : Cfg K, c1'.le c2 ∧ c2.H = H ∧ m = ds.length - i ∧ i ≤ ds.length ∧ Fin (lcL n g ft fe (wipeE ε vs) (ds.drop i) c2.S), ⟨ds.length, c1', .refl, rfl, rfl, Nat.zero_le _, h0⟩, ?_⟩
    rintro i m H2 ⟨c2, l2, rfl, rfl, hi2, h2⟩
    by_cases hlt : i < ds.length
    · refine .inr ?_
      obtain ⟨go, yl⟩ := ai.go c2 (lp.tr l2) i _ (List.getElem?_eq_getElem hlt)
      refine ⟨go, fun H' => ∃ c3 : Cfg K, c2.le c3 ∧ c3.H = H' ∧ Fin (lcL n g ft fe (wipeE ε vs) (ds.drop (i + 1)) c3.S), ?_, ?_⟩
      · rintro H' ⟨c3, l3, rfl, h3⟩
        exact ⟨ds.length - (i + 1), by omega, c3, l2.tr l3, rfl, rfl, hlt, h3⟩
      · intro x H' hy
        obtain ⟨c3, l3, s3, rfl, r3⟩ := yl x H' hy
        rw [List.drop_eq_getElem_cons hlt, ← s3] at h2
        unfold lcL at h2
        cases e4 : g (.val ds[i]) (wipeE ε vs) with
        | none => rw [e4] at h2; obtain ⟨_, z, _⟩ := h2; cases z
        | some ε4 =>
          rw [e4] at h2
          have lc3 : c.le c3 := l1.tr (lp.tr (l2.tr l3))
          refine ⟨c3, wipeE ε vs, ε4, .val _, rfl, (re.mono lc3).wipe vs, r3, e4, fun σ4 re4 hl4 hs4 => ⟨wipe_back hi hl4 hs4, c3, ε4, rfl, re4, ?_⟩⟩
          cases e5 : ft ε4 c3.S with
          | bad => simp only [e5] at h2; obtain ⟨_, z, _⟩ := h2; cases z
          | ex C fs S5 => simp only [e5] at h2; obtain ⟨_, z, _⟩ := h2; cases z
          | ok b S5 =>
            intro c5 l5 es5
            cases b with
            | false =>
              simp only [e5] at h2
              rw [if_neg Bool.false_ne_true]
              exact ⟨c5, l3.tr l5, rfl, by rw [es5]; exact h2⟩
            | true =>
              simp only [e5] at h2
              rw [if_pos rfl]
              refine ⟨c5, ε4, rfl, re4.mono l5, ?_⟩
              rw [es5]
              cases e6 : fe ε4 S5 with
              | bad => simp only [e6] at h2; obtain ⟨_, z, _⟩ := h2; cases z
              | ex C fs S6 => simp only [e6] at h2; obtain ⟨_, z, _⟩ := h2; cases z
              | ok w S6 =>
                simp only [e6] at h2
                intro c6 l6 es6 u r6
                cases e7 : toD w S6 with
                | none => simp only [e7] at h2; obtain ⟨_, z, _⟩ := h2; cases z
                | some pr =>
                  obtain ⟨x7, S7⟩ := pr
                  simp only [e7] at h2
                  rw [← es6] at e7
                  obtain ⟨c7, l7, es7, eh7, r7⟩ := toD_ok e7 r6
                  split at h2
                  · rename_i acc e8
                    split at h2
                    · rename_i hz
                      have lt7 : c1'.le c7 := l2.tr (l3.tr (l5.tr (l6.tr l7)))
                      have em : c7.m[n]? = some A := by
                        refine pre_get lt7.m ?_
                        show (c1.m ++ [A])[n]? = some A
                        rw [List.getElem?_append_right (by omega), hm, Nat.sub_self]
                        rfl
                      rw [← es7] at e8
                      obtain ⟨accV, eA, rA⟩ := c7.at_ n A _ em e8
                      refine ⟨accV, by rw [← eh7]; exact eA, by rw [← rA.length]; exact hz, ?_⟩
                      refine ⟨c7.put n A _ (.lst (acc ++ [x7])) (.lst (accV ++ [u])) em e8 (fun z => by cases z) ⟨_, rfl, rA.app (.cons r7 .nil)⟩, l3.tr (l5.tr (l6.tr (l7.tr Cfg.put_le))), ?_, ?_⟩
                      · show upd c7.H A _ = upd c6.H A _
                        rw [eh7]
                      · show Fin (lcL n g ft fe (wipeE ε vs) (ds.drop (i + 1)) (c7.S.set n _))
                        rw [es7]
                        exact h2
                    · obtain ⟨_, z, _⟩ := h2; cases z
                  · obtain ⟨_, z, _⟩ := h2; cases z
    · refine .inl ?_
      have e : i = ds.length := by omega
      subst e
      rw [List.drop_length] at h2
      refine ⟨ai.stop c2 (lp.tr l2), ?_⟩
      obtain ⟨S', e1, acc, e2, h3⟩ := h2
      cases e1
      have em : c2.m[n]? = some A := by
        refine pre_get l2.m ?_
        show (c1.m ++ [A])[n]? = some A
        rw [List.getElem?_append_right (by omega), hm, Nat.sub_self]
        rfl
      have lc2 : c.le c2 := l1.tr (lp.tr l2)
      have lc1 : c1.le c2 := lp.tr l2
      have hcn : c.S.length ≤ n := by
        have := l1.m.length_le
        rw [c.len, hm] at this
        exact this
      cases mu with
      | true =>
        refine h3 (c2.take (n + 1)) (lc2.take (by omega)) rfl _ ⟨A, ?_, rfl⟩
        show (c2.m.take (n + 1))[n]? = some A
        rw [List.getElem?_take, if_pos (Nat.lt_succ_self n)]
        exact em
      | false =>
        obtain ⟨accV, eA, rA⟩ := c2.at_ n A _ em e2
        have sm : Same c2.G (upd c2.G A (.lst accV)) := same_new (c2.fr n A _ em e2 (fun z => by cases z))
        let c4 := c2.freeze n A _ _ em e2 (fun z => by cases z) eA
        have l4 : c2.le c4 := ⟨sm, List.prefix_refl _, List.prefix_refl _⟩
        refine h3 (c4.take n) ((lc2.tr l4).take hcn) ?_ _ (Rd.lst (by show upd c2.G A _ A = _; rw [upd_same]) (rA.mono sm))
        show (c2.S.set n .dead).take n = c2.S.take n
        rw [List.take_set_of_le (Nat.le_refl n)]
section
variable {X : Cx} {E E0 : XK} {pos : Pos}
theorem de_lc {mu : Bool} {elt tg iter : Expr} {ifs : List Expr} {scope : Scope} {own : List (Str × Nat)} {is : List Nat} {g : MG} {fi : MI} {ft : MT} {fe : ME} (hc : X.calm = true) (hN : X.N.Nodup) (hi : PI X tg iter (aI K E fi)) (ok : BlkOk X.N X.env.scope scope own)
    (hg : ∀ (s : Shared) (H : Hp) (C : Addr) (cl : List (Str × Addr)) (fp : List Addr), PG (X.blk s H scope (compEnvC scope cl C X.env) fp) tg (aG K is g)) (ht : ∀ (s : Shared) (H : Hp) (C : Addr) (cl : List (Str × Addr)) (fp : List Addr), PTs (X.blk s H scope (compEnvC scope cl C X.env) fp) ifs (aT K E0 ft))
    (he : ∀ (s : Shared) (H : Hp) (C : Addr) (cl : List (Str × Addr)) (fp : List Addr), PE (X.blk s H scope (compEnvC scope cl C X.env) fp) elt (aE K E0 fe)) (hvs : ∀ i ∈ is, i ∈ own.map (·.2) := by decide) (hs : ∀ x, foldedSetIterable iter X.env x = pure x := by intro _; rfl) :
    PE X (.ListComp elt [⟨tg, iter, ifs, 0⟩] scope pos) (aE K E (cLc mu (own.map (·.2)) g fi ft fe)) := (pe_lc hc hN hi ok hg ht he hs).weak fun σ H Q h => lc_of hvs h
theorem ds_setLc {mu : Bool} {i : Nat} {y : Str} {py : Pos} {spos : Pos} {elt tg iter : Expr} {ifs : List Expr} {scope : Scope} {own : List (Str × Nat)} {is : List Nat} {g : MG} {fi : MI} {ft : MT} {fe : ME} (hc : X.calm = true) (hN : X.N.Nodup) (hy : X.N[i]? = some y) (hyl : X.env.scope.names.lookup y = some .local)
    (hsw : swapsWith (.ListComp elt [⟨tg, iter, ifs, 0⟩] scope pos) (some (.Name y py)) spos.line X.env = pure true) (hi : PI X tg iter (aI K E fi)) (ok : BlkOk X.N X.env.scope scope own)
    (hg : ∀ (s : Shared) (H : Hp) (C : Addr) (cl : List (Str × Addr)) (fp : List Addr), PG (X.blk s H scope (compEnvC scope cl C X.env) fp) tg (aG K is g)) (ht : ∀ (s : Shared) (H : Hp) (C : Addr) (cl : List (Str × Addr)) (fp : List Addr), PTs (X.blk s H scope (compEnvC scope cl C X.env) fp) ifs (aT K E0 ft))
    (he : ∀ (s : Shared) (H : Hp) (C : Addr) (cl : List (Str × Addr)) (fp : List Addr), PE (X.blk s H scope (compEnvC scope cl C X.env) fp) elt (aE K E0 fe)) (hvs : ∀ i ∈ is, i ∈ own.map (·.2) := by decide) (hs : ∀ x, foldedSetIterable iter X.env x = pure x := by intro _; rfl) :
    PS X (.Assign [.Name y py] (.ListComp elt [⟨tg, iter, ifs, 0⟩] scope pos) spos) (aS K E (sAsg (gNm i) (cLc mu (own.map (·.2)) g fi ft fe))) :=
  (ps_setLc hc hN hy hyl hsw hi ok hg ht he hs).weak fun D σ H h => by
    obtain ⟨c, ε, rfl, re, h⟩ := h
    have hh : aE K E (cLc mu (own.map (·.2)) g fi ft fe) σ c.H (fun x H1 => D.nx (σ.set i (some x)) H1) := es re h fun c1 w1 u1 l1 r1 h1 => h1 c1 .refl rfl _ ((re.mono l1).set i r1)
    exact lc_of hvs hh
theorem dts_nil : PTs X [] (aT K E tYesM) := pts_nil.weak fun σ H Q h => by
  obtain ⟨c, ε, rfl, re, h⟩ := h
  exact h.ok
end
end AM
set_option Elab.async false
set_option linter.all false
set_option maxRecDepth 100000
set_option maxHeartbeats 4000000
namespace AM
open PySem PySem.Spec PyProof.Rows L2 Bk
open PySem.W (Frag)
variable {K : Frag} [Amb]
def exitW (mu : Bool) (n : Nat) (w : W) (S : Sto) : Rs W := match w with
  | .val d => .ok (.val d) (S.take n)
  | .ref k => if k < n then .ok (.ref k) (S.take n) else match S[k]? with
    | some (.lst l) => if mu then .ok (.ref n) (S.take n ++ [.lst l]) else .ok (.val (.lst l)) (S.take n)
    | some (.ins C fs) => if mu then .ok (.ref n) (S.take n ++ [.ins C fs]) else .ok (.val (.obj C fs)) (S.take n)
    | some (.dkt kvs) => if mu then .ok (.ref n) (S.take n ++ [.dkt kvs]) else .bad
    | _ => .bad
  | .rws ns => match rowsD ns S with
    | some (ds, S') => .ok (.val (.lst ds)) (S'.take n)
    | none => .bad
  | .exc _ _ => .bad
  | .clo => .bad
def exitF (mu : Bool) (n : Nat) (r : Rt) : Rs W := match r with
  | .rt w S => exitW mu n w S
  | .nx _ S => .ok (.val .non) (S.take n)
  | .ex C fs S => .ex C fs (S.take n)
  | _ => .bad
def callF (mu : Bool) (N np : Nat) (body : MS) : F1 := fun ws S => if ws.length = np then exitF mu S.length (body (ws.map some ++ List.replicate (N - np) none) S) else .bad
def aSp (K : Frag) (F : F1) : Sp := fun vs H Q E => ∃ (c : Cfg K) (ws : List W), c.H = H ∧ Rws c ws vs ∧ AP c (F ws c.S) Q E
theorem aSp_len {mu : Bool} {N np : Nat} {body : MS} {vs : List V} {H : Hp} {Q : VK} {E : XK} (h : aSp K (callF mu N np body) vs H Q E) : vs.length = np := by
  obtain ⟨c, ws, rfl, r, h⟩ := h
  unfold callF at h
  split at h
  · rename_i e
    rw [← r.length]
    exact e
  · exact h.elim
theorem Rws.get {c : Cfg K} : ∀ {ws : List W} {vs : List V} {i : Nat} {w : W}, Rws c ws vs → ws[i]? = some w → ∃ v, vs[i]? = some v ∧ Rw c w v
  | _, _, _, _, .nil, e => by simp at e
  | _, _, 0, _, .cons h _, e => by simp at e; subst e; exact ⟨_, rfl, h⟩
  | _, _, i + 1, d, .cons _ r, e => by
    obtain ⟨v, h1, h2⟩ := Rws.get (i := i) (w := d) r (by simpa using e)
    exact ⟨v, by simpa using h1, h2⟩
theorem re_start {c : Cfg K} {ws : List W} {vs : List V} (N : List Str) (r : Rws c ws vs) : Re c (ws.map some ++ List.replicate (N.length - ws.length) none) (L2.start N vs) := by
  have hl := r.length
  refine ⟨?_, fun i w e => ?_⟩
  · unfold L2.start
    simp [hl]
  · by_cases hi : i < ws.length
    · rw [List.getElem?_append_left (by rw [List.length_map]; exact hi), List.getElem?_map] at e
      cases e2 : ws[i]? with
      | none => rw [e2] at e; cases e
      | some w2 =>
        rw [e2] at e
        cases e
        obtain ⟨v, e3, r3⟩ := r.get e2
        refine ⟨v, ?_, r3⟩
        unfold L2.start
        rw [List.getElem?_append_left (by rw [List.length_map]; omega), List.getElem?_map, e3]
        rfl
    · rw [List.getElem?_append_right (by rw [List.length_map]; omega)] at e
      rw [List.getElem?_replicate] at e
      split at e <;> cases e
/-- the thing at k is kept, at n -/
def Cfg.keep (c : Cfg K) (n k : Nat) (a : Addr) (ob : Ob) (hk : n ≤ k) (h1 : c.m[k]? = some a) (h2 : c.S[k]? = some ob) : Cfg K where
  G := c.G
  m := c.m.take n ++ [a]
  S := c.S.take n ++ [ob]
  H := c.H
  sub := c.sub
  len := by rw [List.length_append, List.length_append, List.length_take, List.length_take, c.len]; rfl
  nd := by
    rw [List.nodup_append]
    refine ⟨(List.take_sublist n c.m).nodup c.nd, by simp, fun x hx b hb z => ?_⟩
    rw [List.mem_singleton] at hb
    subst hb z
    obtain ⟨j, hj, e⟩ := List.mem_iff_getElem.mp hx
    rw [List.length_take] at hj
    rw [List.getElem_take] at e
    obtain ⟨g1, e1⟩ := List.getElem?_eq_some_iff.mp h1
    have := (List.getElem_inj c.nd).mp (e.trans e1.symm)
    omega
  at_ := fun j b ob2 e1 e2 => by
    have hl := c.len
    have hk2 := (List.getElem?_eq_some_iff.mp h1).1
    by_cases hj : j < n
    · rw [List.getElem?_append_left (by rw [List.length_take]; omega), List.getElem?_take, if_pos hj] at e1 e2
      exact c.at_ j b ob2 e1 e2
    · rw [List.getElem?_append_right (by rw [List.length_take]; omega), List.getElem?_singleton] at e1 e2
      rw [List.length_take] at e1 e2
      split at e1
      · rw [if_pos (by omega)] at e2
        cases e1; cases e2
        exact c.at_ k a ob h1 h2
      · cases e1
  fr := fun j b ob2 e1 e2 e3 => by
    have hl := c.len
    have hk2 := (List.getElem?_eq_some_iff.mp h1).1
    by_cases hj : j < n
    · rw [List.getElem?_append_left (by rw [List.length_take]; omega), List.getElem?_take, if_pos hj] at e1 e2
      exact c.fr j b ob2 e1 e2 e3
    · rw [List.getElem?_append_right (by rw [List.length_take]; omega), List.getElem?_singleton] at e1 e2
      rw [List.length_take] at e1 e2
      split at e1
      · rw [if_pos (by omega)] at e2
        cases e1; cases e2
        exact c.fr k a ob h1 h2 e3
      · cases e1
  z := c.z
  zat := c.zat
  zm := fun q hq hm => by
    rcases List.mem_append.mp hm with h | h
    · exact c.zm q hq (List.mem_of_mem_take h)
    · rw [List.mem_singleton] at h
      exact c.zm q hq (by rw [h]; exact List.mem_of_getElem? h1)
  zg := c.zg
  zn := c.zn
  zt := c.zt
  gt := c.gt
  tb := c.tb
theorem exit_ok {mu : Bool} {c c' : Cfg K} {w : W} {u : V} {Q : VK} {E : XK} (l : c.le c') (h : AP c (exitW mu c.S.length w c'.S) Q E) (r : Rw c' w u) : Q u c'.H := by
  have hcl := c.len
  cases w with
  | val d => exact h (c'.take c.S.length) (l.take (Nat.le_refl _)) rfl u r
  | exc C fs => exact h.elim
  | clo => exact h.elim
  | rws ns =>
    obtain ⟨a, xs, rfl, q, rn⟩ := r
    simp only [exitW] at h
    split at h
    · rename_i ds S' q2
      obtain ⟨c2, l2, s2, h2, r2⟩ := rowsD_ok q2 rn
      rw [← h2]
      exact h (c2.take c.S.length) ((l.tr l2).take (Nat.le_refl _)) (by rw [← s2]; rfl) _ (show Rd K _ _ _ from .lst (l2.g _ _ q) r2)
    · exact h.elim
  | ref k =>
    obtain ⟨a, e1, rfl⟩ := r
    simp only [exitW] at h
    split at h
    · rename_i hk
      refine h (c'.take c.S.length) (l.take (Nat.le_refl _)) rfl _ ⟨a, ?_, rfl⟩
      show (c'.m.take c.S.length)[k]? = some a
      rw [List.getElem?_take, if_pos hk]
      exact e1
    · rename_i hk
      have hm : (c'.m.take c.S.length).length = c.S.length := by
        rw [List.length_take]
        have := l.m.length_le
        omega
      have le2 : ∀ ob (h2 : c'.S[k]? = some ob), c.le (c'.keep c.S.length k a ob (by omega) e1 h2) := fun ob h2 =>
        ⟨l.g, (pre_take l.m (Nat.le_of_eq hcl)).trans (List.prefix_append _ _), l.z⟩
      have at2 : (c'.m.take c.S.length ++ [a])[c.S.length]? = some a := by
        rw [List.getElem?_append_right (by omega), hm, Nat.sub_self]
        rfl
      split at h
      · rename_i lst e2
        cases mu with
        | true => exact h (c'.keep c.S.length k a _ (by omega) e1 e2) (le2 _ e2) rfl _ ⟨a, at2, rfl⟩
        | false =>
          obtain ⟨xs, e3, r3⟩ := c'.at_ k a _ e1 e2
          have sm : Same c'.G (upd c'.G a (.lst xs)) := same_new (c'.fr k a _ e1 e2 (fun z => by cases z))
          have l4 : c'.le (c'.freeze k a _ _ e1 e2 (fun z => by cases z) e3) := ⟨sm, List.prefix_refl _, List.prefix_refl _⟩
          refine h ((c'.freeze k a _ _ e1 e2 (fun z => by cases z) e3).take c.S.length) ((l.tr l4).take (Nat.le_refl _)) ?_ _ (Rd.lst (by show upd c'.G a _ a = _; rw [upd_same]) (r3.mono sm))
          show (c'.S.set k .dead).take c.S.length = c'.S.take c.S.length
          rw [List.take_set_of_le (by omega)]
      · rename_i C fs e2
        cases mu with
        | true => exact h (c'.keep c.S.length k a _ (by omega) e1 e2) (le2 _ e2) rfl _ ⟨a, at2, rfl⟩
        | false =>
          obtain ⟨dx, gs, e3, r3⟩ := c'.at_ k a _ e1 e2
          have sm : Same c'.G (upd c'.G a (.ins (He.ga K C) dx gs)) := same_new (c'.fr k a _ e1 e2 (fun z => by cases z))
          have l4 : c'.le (c'.freeze k a _ _ e1 e2 (fun z => by cases z) e3) := ⟨sm, List.prefix_refl _, List.prefix_refl _⟩
          refine h ((c'.freeze k a _ _ e1 e2 (fun z => by cases z) e3).take c.S.length) ((l.tr l4).take (Nat.le_refl _)) ?_ _ (Rd.obj (by show upd c'.G a _ a = _; rw [upd_same]) (r3.mono sm))
          show (c'.S.set k .dead).take c.S.length = c'.S.take c.S.length
          rw [List.take_set_of_le (by omega)]
      · rename_i kvs e2
        cases mu with
        | true => exact h (c'.keep c.S.length k a _ (by omega) e1 e2) (le2 _ e2) rfl _ ⟨a, at2, rfl⟩
        | false => exact h.elim
      · exact h.elim
theorem aSp_start {mu : Bool} {np : Nat} {N : List Str} {body : MS} {vs : List V} {H : Hp} {Q : VK} {E : XK} (h : aSp K (callF mu N.length np body) vs H Q E) :
    aS K E body { nx := fun _ H' => Q .non H', rt := Q } (L2.start N vs) H := by
  obtain ⟨c, ws, rfl, r, h⟩ := h
  unfold callF at h
  split at h
  · rename_i e
    refine ⟨c, ws.map some ++ List.replicate (N.length - np) none, rfl, by rw [← e]; exact re_start N r, ?_⟩
    cases q : body (ws.map some ++ List.replicate (N.length - np) none) c.S with
    | nx ε S => rw [q] at h; exact fun c' l es σ _ => h (c'.take c.S.length) (l.take (Nat.le_refl _)) (by rw [← es]; rfl) .non (show Rd K _ _ _ from .non)
    | rt w S => rw [q] at h; exact fun c' l es u ru => exit_ok (mu := mu) l (by rw [es]; exact h) ru
    | ex C fs S => rw [q] at h; exact fun c' l es => h (c'.take c.S.length) (l.take (Nat.le_refl _)) (by rw [← es]; rfl)
    | bk ε S => rw [q] at h; exact h.elim
    | ct ε S => rw [q] at h; exact h.elim
    | bad => rw [q] at h; exact h.elim
  · exact h.elim
section
variable {X : Cx} {E : XK} {pos p : Pos} {e o : Expr} {es : List Expr} {f : ME} {fs : MA} {k : Nat} {x : Str} {ps : List Str} {F : F1}
def cCall (F : F1) (fs : MA) : ME := fun ε S => (fs ε S).bind fun ws S => F ws S
theorem call_of {σ : L2.St} {H : Hp} {Q : VK} (h : aE K E (cCall F fs) σ H Q) : tCall (aSp K F) [] E (aA K E fs) σ H Q := by
  obtain ⟨c, ε, rfl, re, h⟩ := h
  refine ae re h fun c1 ws us l1 r1 h1 => ?_
  rw [List.append_nil]
  exact ⟨c1, ws, rfl, r1, h1⟩
theorem de_callD (D : DOk X.prog X.w X.K X.mg X.base k x ps (aSp K F)) (hr : Room k X.A) (hg : Gl X x) (hx : Passes (L2C.CX X.prog X.w) X E)
    (ha : PA X (e :: es) (aA K E fs)) (hdb : (x == ("__debug__" : Str)) = false := by decide)
    (he : starEach (e :: es) X.env = (false, eval e X.env) :: starEach es X.env := by rfl)
    (hpl : (backTo pos (starEach es X.env)).any (·.1) = false := by rfl) :
    PE X (.Call (.Name x p) (e :: es) [] pos) (aE K E (cCall F fs)) := (pe_callD D hr hg hx ha hdb he hpl).weak fun _ _ _ h => call_of h
theorem de_callG (D : GOk X.prog X.w X.K X.mg X.base k x ps (aSp K F)) (hG : X.A.guards = some []) (hr : Room k X.A) (hg : Gl X x) (hx : Passes (L2C.CX X.prog X.w) X E)
    (ha : PA X (e :: es) (aA K E fs)) (hdb : (x == ("__debug__" : Str)) = false := by decide)
    (he : starEach (e :: es) X.env = (false, eval e X.env) :: starEach es X.env := by rfl)
    (hpl : (backTo pos (starEach es X.env)).any (·.1) = false := by rfl) :
    PE X (.Call (.Name x p) (e :: es) [] pos) (aE K E (cCall F fs)) := (pe_callGD D hG hr hg hx ha hdb he hpl).weak fun _ _ _ h => call_of h
def cBi (g : List W → Sto → Rs W) (fs : MA) : ME := fun ε S => (fs ε S).bind fun ws S => g ws S
theorem cb_of {g : List W → Sto → Rs W} {σ : L2.St} {H : Hp} {Q : VK} (h : aE K E (cBi g fs) σ H Q) : tCB (rAs K E g) (aA K E fs) σ H Q := by
  obtain ⟨c, ε, rfl, re, h⟩ := h
  refine ae re h fun c1 ws us l1 r1 h1 => ?_
  exact ⟨c1, ws, rfl, r1, h1⟩
theorem de_callB {id : String} {g : List W → Sto → Rs W} (hc : CallR X (.builtin id) (rAs K E g)) (hg : Gl X x) (hm : X.mg x = none) (hv : bootBuiltins x = some (.builtin id)) (ha : PA X (e :: es) (aA K E fs)) (hn : x ≠ "__name__" := by decide) (hdb : (x == ("__debug__" : Str)) = false := by decide)
    (he : starEach (e :: es) X.env = (false, eval e X.env) :: starEach es X.env := by rfl) (hpl : (backTo pos (starEach es X.env)).any (·.1) = false := by rfl) : PE X (.Call (.Name x p) (e :: es) [] pos) (aE K E (cBi g fs)) :=
  (pe_callB hc hg hm hv ha hn hdb he hpl).weak fun _ _ _ h => cb_of h
theorem de_callTy {T : String} {g : List W → Sto → Rs W} (hc : CallR X (.type T) (rAs K E g)) (hg : Gl X x) (hm : X.mg x = none) (hv : bootBuiltins x = some (.type T)) (ha : PA X (e :: es) (aA K E fs)) (hn : x ≠ "__name__" := by decide) (hdb : (x == ("__debug__" : Str)) = false := by decide)
    (he : starEach (e :: es) X.env = (false, eval e X.env) :: starEach es X.env := by rfl) (hpl : (backTo pos (starEach es X.env)).any (·.1) = false := by rfl) : PE X (.Call (.Name x p) (e :: es) [] pos) (aE K E (cBi g fs)) :=
  (pe_callTy hc hg hm hv ha hn hdb he hpl).weak fun _ _ _ h => cb_of h
end
end AM
set_option Elab.async false
set_option linter.all false
set_option maxRecDepth 100000
set_option maxHeartbeats 4000000
namespace AM
open PySem PySem.Spec PyProof.Rows L2 Bk
open PySem.W (Frag)
variable {K : Frag} [Amb]
def Rc (c : Cfg K) (d : D) (u : V) : Prop := match d with
  | .lst l => ∃ a xs, u = .ref a ∧ c.H a = some (.lst xs) ∧ Rds K c.G l xs
  | .obj C fs => ∃ a dx gs, u = .ref a ∧ c.H a = some (.ins (He.ga K C) dx gs) ∧ Rfs K c.G fs gs
  | .dic kvs => ∃ a vs, u = .ref a ∧ c.H a = some (.dK (keyS vs)) ∧ Rfs K c.G kvs vs
  | d => Rd K c.G d u
theorem view_ok {c : Cfg K} {w : W} {u : V} {d : D} (h : view w c.S = some d) (r : Rw c w u) : Rc c d u := by
  cases w with
  | rws ns => cases h
  | exc C fs => cases h
  | clo => cases h
  | val d' =>
    cases h
    cases r with
    | lst h1 h2 => exact ⟨_, _, rfl, c.sub _ _ h1, h2⟩
    | non => exact .non
    | bl b => exact .bl b
    | int i => exact .int i
    | str x hx => exact .str x hx
    | tup h1 h2 => exact .tup h1 h2
    | fl h1 h2 => exact .fl h1 h2
    | obj h1 h2 => exact ⟨_, _, _, rfl, c.sub _ _ h1, h2⟩
    | ty n => exact .ty n
    | cls C => exact .cls C
    | dic h1 h2 => exact ⟨_, _, rfl, c.sub _ _ h1, h2⟩
    | tux h1 hd h2 => exact .tux h1 hd h2
    | key h1 h2 => exact .key h1 h2
    | xv h1 h2 h3 => exact .xv h1 h2 h3
    | xv0 h1 => exact .xv0 h1
  | ref n =>
    obtain ⟨a, e1, rfl⟩ := r
    cases e2 : c.S[n]? with
    | none => simp [view, e2] at h
    | some ob =>
      cases ob with
      | dead => simp [view, e2] at h
      | dkt kvs => simp [view, e2] at h
      | ins C fs =>
        simp only [view, e2, Option.some.injEq] at h
        subst h
        obtain ⟨dx, gs, e3, r⟩ := c.at_ n a _ e1 e2
        exact ⟨a, dx, gs, rfl, e3, r⟩
      | dic kvs =>
        simp only [view, e2, Option.some.injEq] at h
        subst h
        obtain ⟨vs, e3, r⟩ := c.at_ n a _ e1 e2
        exact ⟨a, vs, rfl, e3, r⟩
      | lst l =>
        simp only [view, e2, Option.some.injEq] at h
        subst h
        obtain ⟨xs, e3, r⟩ := c.at_ n a _ e1 e2
        exact ⟨a, xs, rfl, e3, r⟩
def views : List W → Sto → Option (List D)
  | [], _ => some []
  | w :: ws, S => (view w S).bind fun d => (views ws S).map fun ds => d :: ds
inductive Rcs (c : Cfg K) : List D → List V → Prop
  | nil : Rcs c [] []
  | cons {d : D} {v : V} {ds : List D} {vs : List V} (h : Rc c d v) (r : Rcs c ds vs) : Rcs c (d :: ds) (v :: vs)
theorem views_ok {c : Cfg K} : ∀ {ws : List W} {us : List V} {ds : List D}, views ws c.S = some ds → Rws c ws us → Rcs c ds us
  | _, _, _, h, .nil => by cases h; exact .nil
  | w :: ws, _, ds, h, .cons r rs => by
    unfold views at h
    cases e : view w c.S with
    | none => rw [e] at h; cases h
    | some d =>
      rw [e] at h
      cases e2 : views ws c.S with
      | none => simp only [Option.bind_some, e2] at h; cases h
      | some l =>
        simp only [Option.bind_some, e2] at h
        cases h
        exact .cons (view_ok e r) (views_ok e2 rs)
def aBin (g : D → D → Option D) : W → W → Sto → Rs W := fun x y S => match view x S, view y S with
  | some a, some b => match g a b with | some d => .ok (.val d) S | none => .bad
  | _, _ => .bad
def aUn (g : D → Option D) : W → Sto → Rs W := fun x S => match view x S with
  | some a => match g a with | some d => .ok (.val d) S | none => .bad
  | _ => .bad
def aFn (g : List D → Option D) : List W → Sto → Rs W := fun xs S => match views xs S with
  | some l => match g l with | some d => .ok (.val d) S | none => .bad
  | none => .bad
section
variable {X : Cx} {E : XK}
theorem aBin_of {g : D → D → Option D} {u v : V} {H : Hp} {Q : VK} (h : rA K E (aBin g) u v H Q) : ∃ (c : Cfg K) (a b d : D), c.H = H ∧ Rc c a u ∧ Rc c b v ∧ g a b = some d ∧ AP c (.ok (.val d) c.S) Q E := by
  obtain ⟨c, x, y, rfl, rx, ry, h⟩ := h
  unfold aBin at h
  split at h
  · rename_i a b ea eb
    split at h
    · rename_i d e
      exact ⟨c, a, b, d, rfl, view_ok ea rx, view_ok eb ry, e, h⟩
    · exact h.elim
  · exact h.elim
theorem aUn_of {g : D → Option D} {u : V} {H : Hp} {Q : VK} (h : rA1 K E (aUn g) u H Q) : ∃ (c : Cfg K) (a d : D), c.H = H ∧ Rc c a u ∧ g a = some d ∧ AP c (.ok (.val d) c.S) Q E := by
  obtain ⟨c, x, rfl, rx, h⟩ := h
  unfold aUn at h
  split at h
  · rename_i a ea
    split at h
    · rename_i d e
      exact ⟨c, a, d, rfl, view_ok ea rx, e, h⟩
    · exact h.elim
  · exact h.elim
theorem aFn_of {g : List D → Option D} {us : List V} {H : Hp} {Q : VK} (h : rAs K E (aFn g) us H Q) : ∃ (c : Cfg K) (l : List D) (d : D), c.H = H ∧ Rcs c l us ∧ g l = some d ∧ AP c (.ok (.val d) c.S) Q E := by
  obtain ⟨c, x, rfl, rx, h⟩ := h
  unfold aFn at h
  split at h
  · rename_i l ea
    split at h
    · rename_i d e
      exact ⟨c, l, d, rfl, views_ok ea rx, e, h⟩
    · exact h.elim
  · exact h.elim
theorem CallR.or {f : Value} {r r' : List V → Hp → VK → Prop} (h : CallR X f r) (h' : CallR X f r') : CallR X f (fun u H Q => r u H Q ∨ r' u H Q) := fun pins s σ H x v Q I rx hw => hw.elim (h pins s σ H x v Q I rx) (h' pins s σ H x v Q I rx)
def addD : D → D → Option D
  | .int i, .int j => some (.int (i + j))
  | .str x, .str y => if x.length + y.length ≤ sizeLine then some (.str (x ++ y)) else none
  | .tup l, .tup r => if l.length + r.length ≤ sizeLine then some (.tup (l ++ r)) else none
  | .lst l, .lst r => if l.length + r.length ≤ sizeLine then some (.lst (l ++ r)) else none
  | _, _ => none
theorem oa_add (hK : X.K = K) : OpR X (binaryOp .Add) (rA K E (aBin addD)) := by
  subst hK
  refine OpR.weak (OpR.or op_add (OpR.or op_add_str (OpR.or op_catA op_cat))) fun u v H Q h => ?_
  replace h := aBin_of h
  obtain ⟨c, a, b, d, rfl, ra, rb, e, h⟩ := h
  unfold addD at e
  split at e
  · cases ra; cases rb; cases e
    exact .inl ⟨_, _, rfl, rfl, h.int⟩
  · split at e
    · rename_i x y hz
      cases ra; cases rb; cases e
      exact .inr (.inl ⟨_, _, rfl, rfl, hz, h.str (by rw [Str.length_append]; exact hz)⟩)
    · cases e
  · split at e
    · rename_i l r hz
      cases e
      cases ra with
      | tup h1 r1 => cases rb with
        | tup h2 r2 =>
          rename_i a xs a2 ys
          refine .inr (.inr (.inl ⟨_, _, xs, ys, rfl, rfl, Same.tup c.sub h1, Same.tup c.sub h2, by rw [← r1.length, ← r2.length]; exact hz, fun z => ?_, fun z1 z => ?_, fun z1 z2 p hp => h.tup (r1.app r2) hp⟩))
          · subst z
            cases r1
            exact h.ok (show Rd X.K _ _ _ from .tup h2 (by simpa using r2))
          · subst z
            cases r2
            exact h.ok (show Rd X.K _ _ _ from .tup h1 (by simpa using r1))
    · cases e
  · split at e
    · rename_i l r hz
      cases e
      obtain ⟨a, xs, rfl, h1, r1⟩ := ra
      obtain ⟨b, ys, rfl, h2, r2⟩ := rb
      exact .inr (.inr (.inr ⟨_, _, xs, ys, rfl, rfl, h1, h2, by rw [← r1.length, ← r2.length]; exact hz, fun p hp => h.lst (r1.app r2) hp⟩))
    · cases e
  · cases e
def intD (g : Int → Int → Option D) : D → D → Option D
  | .int i, .int j => g i j
  | _, _ => none
theorem intD_of {g : Int → Int → Option D} {c : Cfg K} {a b d : D} {u v : V} (ra : Rc c a u) (rb : Rc c b v) (e : intD g a b = some d) : ∃ i j, u = .int i ∧ v = .int j ∧ g i j = some d := by
  unfold intD at e
  split at e
  · cases ra; cases rb; exact ⟨_, _, rfl, rfl, e⟩
  · cases e
def mulD : D → D → Option D
  | .int i, .int j => if CMul i j then some (.int (i * j)) else none
  | .lst l, .int k => if (-(2 ^ 63) ≤ k ∧ k < 2 ^ 63) ∧ l.length * k.toNat ≤ sizeLine then some (.lst (List.replicate k.toNat l).flatten) else none
  | _, _ => none
theorem rds_rep {G : Hp} {l : List D} {xs : List V} (r : Rds K G l xs) : ∀ n : Nat, Rds K G (List.replicate n l).flatten (List.replicate n xs).flatten
  | 0 => .nil
  | n + 1 => by
    rw [List.replicate_succ, List.replicate_succ, List.flatten_cons, List.flatten_cons]
    exact r.app (rds_rep r n)
theorem oa_mul : OpR X (binaryOp .Mult) (rA K E (aBin mulD)) := OpR.weak (OpR.or op_mul op_rep) fun u v H Q h => by
  replace h := aBin_of h
  obtain ⟨c, a, b, d, rfl, ra, rb, e, h⟩ := h
  unfold mulD at e
  split at e
  · split at e
    · rename_i hc
      cases ra; cases rb; cases e
      exact .inl ⟨_, _, rfl, rfl, hc, h.int⟩
    · cases e
  · split at e
    · rename_i hc
      cases e
      obtain ⟨a, xs, rfl, h1, r1⟩ := ra
      cases rb
      exact .inr ⟨_, _, xs, rfl, rfl, h1, hc.1.1, hc.1.2, by rw [← r1.length]; exact hc.2, fun p hp => h.lst (rds_rep r1 _) hp⟩
    · cases e
  · cases e
def modD : D → D → Option D := intD fun i j => if 0 < j then some (.int (i % j)) else none
theorem oa_mod : OpR X (binaryOp .Mod) (rA K E (aBin modD)) := OpR.weak op_mod fun u v H Q h => by
  replace h := aBin_of h
  obtain ⟨c, a, b, d, rfl, ra, rb, e, h⟩ := h
  obtain ⟨i, j, rfl, rfl, e⟩ := intD_of ra rb e
  split at e
  · rename_i hc
    cases e
    exact ⟨i, j, rfl, rfl, hc, h.int⟩
  · cases e
def powD : D → D → Option D := intD fun i j => if CPow i j then some (.int (i ^ j.toNat)) else none
theorem oa_pow : OpR X (binaryOp .Pow) (rA K E (aBin powD)) := OpR.weak op_pow fun u v H Q h => by
  replace h := aBin_of h
  obtain ⟨c, a, b, d, rfl, ra, rb, e, h⟩ := h
  obtain ⟨i, j, rfl, rfl, e⟩ := intD_of ra rb e
  split at e
  · rename_i hc
    cases e
    exact ⟨i, j, rfl, rfl, hc, h.int⟩
  · cases e
def negD : D → Option D | .int i => some (.int (-i)) | _ => none
theorem ua_neg : UnR X (unaryOp .USub) (rA1 K E (aUn negD)) := UnR.weak un_neg fun u H Q h => by
  replace h := aUn_of h
  obtain ⟨c, a, d, rfl, ra, e, h⟩ := h
  unfold negD at e
  split at e
  · cases ra; cases e; exact ⟨_, rfl, h.int⟩
  · cases e
def ltS (x y : Str) : Bool := decide (x.cps.toList < y.cps.toList)
def cmpD (p : Int → Int → Bool) (q : Str → Str → Bool) : D → D → Option D
  | .int i, .int j => some (.bl (p i j))
  | .str i, .str j => some (.bl (q i j))
  | _, _ => none
theorem cmpD_of {p : Int → Int → Bool} {q : Str → Str → Bool} {c : Cfg K} {a b d : D} {u v : V} (ra : Rc c a u) (rb : Rc c b v) (e : cmpD p q a b = some d) : (∃ i j, u = .int i ∧ v = .int j ∧ d = .bl (p i j)) ∨ ∃ i j, u = .str i ∧ v = .str j ∧ d = .bl (q i j) := by
  unfold cmpD at e
  split at e
  · cases ra; cases rb; cases e; exact .inl ⟨_, _, rfl, rfl, rfl⟩
  · cases ra; cases rb; cases e; exact .inr ⟨_, _, rfl, rfl, rfl⟩
  · cases e
def ltD := cmpD (fun i j => decide (i < j)) ltS
theorem oa_lt : OpR X (compareOp .Lt) (rA K E (aBin ltD)) := OpR.weak (OpR.or op_lt op_lt_str) fun u v H Q h => by
  replace h := aBin_of h
  obtain ⟨c, a, b, d, rfl, ra, rb, e, h⟩ := h
  rcases cmpD_of ra rb e with ⟨i, j, rfl, rfl, rfl⟩ | ⟨i, j, rfl, rfl, rfl⟩
  · exact .inl ⟨_, _, rfl, rfl, h.bl⟩
  · exact .inr ⟨_, _, rfl, rfl, h.bl⟩
def keyP : Key → PyData
  | .inl i => .int i
  | .inr x => .str x
theorem keyP_ok {G : Hp} : ∀ ks : List Key, DpAll K G (ks.map kV) (ks.map keyP)
  | [] => .nil
  | .inl i :: ks => .cons (.int i) (keyP_ok ks)
  | .inr x :: ks => .cons (.str x) (keyP_ok ks)
mutual
def toP : D → Option PyData
  | .non => some .none
  | .bl b => some (.bool b)
  | .int i => some (.int i)
  | .str x => some (.str x)
  | .tup l => (toPs l).map .tuple
  | .lst l => (toPs l).map .list
  | .fl l => (toPs l).map .list
  | .obj _ _ => none
  | .ty _ => none
  | .cls _ => none
  | .dic _ => none
  | .xv _ _ => none
  | .tux l => (toPs l).map .tuple
  | .key ks => some (.tuple (ks.map keyP))
def toPs : List D → Option (List PyData)
  | [] => some []
  | d :: l => (toP d).bind fun p => (toPs l).map fun ps => p :: ps
end
mutual
theorem toP_ok {G : Hp} : ∀ {d : D} {p : PyData} {v : V}, toP d = some p → Rd K G d v → Dp K G v p
  | .non, _, _, h, .non => by cases h; exact .non
  | .bl b, _, _, h, .bl _ => by cases h; exact .bl b
  | .int i, _, _, h, .int _ => by cases h; exact .int i
  | .str x, _, _, h, .str _ _ => by cases h; exact .str x
  | .tup l, p, _, h, .tup h1 h2 => by
    unfold toP at h
    cases e : toPs l with
    | none => rw [e] at h; cases h
    | some ps => rw [e] at h; cases h; exact .tup h1 (toPs_ok e h2)
  | .lst l, p, _, h, .lst h1 h2 => by
    unfold toP at h
    cases e : toPs l with
    | none => rw [e] at h; cases h
    | some ps => rw [e] at h; cases h; exact .lst (.inl (.inl h1)) (toPs_ok e h2)
  | .fl l, p, _, h, .fl h1 h2 => by
    unfold toP at h
    cases e : toPs l with
    | none => rw [e] at h; cases h
    | some ps => rw [e] at h; cases h; exact .lst h1 (toPs_ok e h2)
  | .obj _ _, _, _, h, _ => by unfold toP at h; cases h
  | .ty _, _, _, h, _ => by unfold toP at h; cases h
  | .cls _, _, _, h, _ => by unfold toP at h; cases h
  | .dic _, _, _, h, _ => by unfold toP at h; cases h
  | .xv _ _, _, _, h, _ => by unfold toP at h; cases h
  | .tux l, p, _, h, .tux h1 _ h2 => by
    unfold toP at h
    cases e : toPs l with
    | none => rw [e] at h; cases h
    | some ps => rw [e] at h; cases h; exact .tup (.inl (.inr ⟨_, h1⟩)) (toPs_ok e h2)
  | .key ks, p, _, h, .key h1 _ => by
    unfold toP at h
    cases h
    exact .tup (.inl (.inl h1)) (keyP_ok ks)
theorem toPs_ok {G : Hp} : ∀ {l : List D} {ps : List PyData} {vs : List V}, toPs l = some ps → Rds K G l vs → DpAll K G vs ps
  | [], _, _, h, .nil => by cases h; exact .nil
  | d :: l, ps, _, h, .cons h1 h2 => by
    unfold toPs at h
    cases e : toP d with
    | none => rw [e] at h; cases h
    | some p =>
      rw [e] at h
      cases e2 : toPs l with
      | none => simp only [Option.bind_some, e2] at h; cases h
      | some qs =>
        simp only [Option.bind_some, e2] at h
        cases h
        exact .cons (toP_ok e h1) (toPs_ok e2 h2)
end
theorem rc_dp {c : Cfg K} {d : D} {p : PyData} {v : V} (h : toP d = some p) (r : Rc c d v) : Dp K c.H v p := by
  cases d with
  | lst l =>
    obtain ⟨a, xs, rfl, h1, r⟩ := r
    unfold toP at h
    cases e : toPs l with
    | none => rw [e] at h; cases h
    | some ps => rw [e] at h; cases h; exact .lst (.inl (.inl h1)) (dpsS c.sub (toPs_ok e r))
  | obj C fs => unfold toP at h; cases h
  | dic kvs => unfold toP at h; cases h
  | _ => exact dpS c.sub (toP_ok h r)
/-- scalars of a kind -/
def scE : D → D → Option Bool
  | .int i, .int j => some (decide (i = j))
  | .str i, .str j => some (decide (i = j))
  | .bl i, .bl j => some (decide (i = j))
  | .non, .non => some true
  | .non, .int _ => some false | .int _, .non => some false | .non, .bl _ => some false | .bl _, .non => some false | .non, .str _ => some false | .str _, .non => some false
  | .int _, .str _ => some false | .str _, .int _ => some false | .bl _, .str _ => some false | .str _, .bl _ => some false
  | _, _ => none
def eqDD (a b : D) : Option Bool := match scE a b with
  | some r => some r
  | none => match toP a, toP b with
    | some p, some q => if SeqAt.shaped p && SeqAt.shaped q then some (PyData.eqv p q) else none
    | _, _ => none
theorem scE_of {c : Cfg K} {a b : D} {u v : V} {r : Bool} (ra : Rc c a u) (rb : Rc c b v) (h : scE a b = some r) : scal u v = true ∧ decide (u = v) = r := by
  unfold scE at h
  split at h <;> first
    | (cases ra; cases rb; cases h; exact ⟨rfl, by simp⟩)
    | (cases h)
def eqD (a b : D) : Option D := (eqDD a b).map .bl
def neD (a b : D) : Option D := (eqDD a b).map fun r => .bl (!r)
theorem oa_eq (hK : X.K = K) (hu : X.A.units + 64 < cLine) : OpR X (compareOp .Eq) (rA K E (aBin eqD)) := by
  subst hK
  refine OpR.weak (OpR.or op_eq (op_eqD hu)) fun u v H Q h => ?_
  replace h := aBin_of h
  obtain ⟨c, a, b, d, rfl, ra, rb, e, h⟩ := h
  unfold eqD eqDD at e
  split at e
  · rename_i r es
    cases e
    obtain ⟨h1, h2⟩ := scE_of ra rb es
    refine .inl ⟨h1, ?_⟩
    rw [h2]
    exact h.bl
  · split at e
    · rename_i p q ep eq
      split at e
      · rename_i hs
        cases e
        rw [Bool.and_eq_true] at hs
        exact .inr ⟨p, q, rc_dp ep ra, rc_dp eq rb, hs.1, hs.2, h.bl⟩
      · cases e
    · cases e
theorem oa_ne (hK : X.K = K) (hu : X.A.units + 64 < cLine) : OpR X (compareOp .NotEq) (rA K E (aBin neD)) := by
  subst hK
  refine OpR.weak (OpR.or op_ne (op_neD hu)) fun u v H Q h => ?_
  replace h := aBin_of h
  obtain ⟨c, a, b, d, rfl, ra, rb, e, h⟩ := h
  unfold neD eqDD at e
  split at e
  · rename_i r es
    cases e
    obtain ⟨h1, h2⟩ := scE_of ra rb es
    refine .inl ⟨h1, ?_⟩
    rw [h2]
    exact h.bl
  · split at e
    · rename_i p q ep eq
      split at e
      · rename_i hs
        cases e
        rw [Bool.and_eq_true] at hs
        exact .inr ⟨p, q, rc_dp ep ra, rc_dp eq rb, hs.1, hs.2, h.bl⟩
      · cases e
    · cases e
end
end AM
set_option Elab.async false
set_option linter.all false
set_option maxRecDepth 100000
set_option maxHeartbeats 4000000
namespace AM
open PySem PySem.Spec PyProof.Rows L2 Bk
open PySem.W (Frag)
variable {K : Frag} [Amb]
section
variable {X : Cx} {E : XK} {pos : Pos} {a b e o : Expr} {fa fb f : ME}
theorem atI_rd {G : Hp} {l : List D} {xs : List V} {i : Int} {d : D} (r : Rds K G l xs) (h : atI l i = some d) : ∃ v, atI xs i = some v ∧ Rd K G d v := by
  unfold atI at h ⊢
  rw [← r.length]
  cases e : ixN l.length i with
  | none => rw [e] at h; cases h
  | some j =>
    rw [e] at h
    exact r.get h
def ixD : D → D → Option D
  | .lst l, .int i => atI l i
  | .fl l, .int i => atI l i
  | .tup l, .int i => atI l i
  | .str x, .int i => (atI x.cps.toList i).map fun c => .str ⟨#[c]⟩
  | .tux l, .int i => atI l i
  | _, _ => none
theorem sz1 (c : Nat) : (⟨#[c]⟩ : Str).length ≤ sizeLine := by show 1 ≤ sizeLine; decide
theorem xa_ix (hK : X.K = K) : IxR X (rA K E (aBin ixD)) := by
  subst hK
  refine IxR.weak (IxR.or ix_list (IxR.or ix_tup ix_str)) fun u v H Q h => ?_
  replace h := aBin_of h
  obtain ⟨c, a, b, d, rfl, ra, rb, e, h⟩ := h
  unfold ixD at e
  split at e
  · obtain ⟨a, xs, rfl, h1, r1⟩ := ra
    cases rb
    obtain ⟨v, e2, r2⟩ := atI_rd r1 e
    exact .inl ⟨_, xs, _, v, rfl, rfl, .inl (.inl h1), e2, h.ok r2⟩
  · cases ra with
    | fl h1 r1 =>
      cases rb
      obtain ⟨v, e2, r2⟩ := atI_rd r1 e
      exact .inl ⟨_, _, _, v, rfl, rfl, sqL_same c.sub h1, e2, h.ok r2⟩
  · cases ra with
    | tup h1 r1 =>
      cases rb
      obtain ⟨v, e2, r2⟩ := atI_rd r1 e
      exact .inr (.inl ⟨_, _, _, v, rfl, rfl, Same.tup c.sub h1, e2, h.ok r2⟩)
  · rename_i x i
    cases ra with
    | str _ hz =>
      cases rb
      cases e2 : atI x.cps.toList i with
      | none => rw [e2] at e; cases e
      | some cc =>
        rw [e2] at e
        cases e
        exact .inr (.inr ⟨_, _, cc, rfl, rfl, hz, e2, h.str (sz1 _)⟩)
  · cases ra with
    | tux h1 hd r1 =>
      cases rb
      obtain ⟨v, e2, r2⟩ := atI_rd r1 e
      exact .inr (.inl ⟨_, _, _, v, rfl, rfl, .inl (.inr ⟨_, c.sub _ _ h1⟩), e2, h.ok r2⟩)
  · cases e
theorem de_ix (hK : X.K = K) (ha : PE X a (aE K E fa)) (hb : PE X b (aE K E fb)) (hs : PlainIx b := by intro _ _; rfl) : PE X (.Subscript a b pos) (aE K E (cBin (aBin ixD) fa fb)) :=
  (pe_ix (xa_ix hK) ha hb hs).weak fun _ _ _ h => tOp_of h
def cutL {α : Type} (xs : List α) (lo hi : Option Int) : List α := (xs.drop (HT.sIx xs.length 0 lo)).take (HT.sIx xs.length xs.length hi - HT.sIx xs.length 0 lo)
theorem Rds.cut {G : Hp} {l : List D} {xs : List V} (r : Rds K G l xs) (lo hi : Option Int) : Rds K G (cutL l lo hi) (cutV xs lo hi) := by
  unfold cutL cutV
  rw [r.length]
  exact (r.drop _).take _
def slD : D → Option Int → Option Int → Option D
  | .lst l, lo, hi => some (.lst (cutL l lo hi))
  | .fl l, lo, hi => some (.lst (cutL l lo hi))
  | .tup l, lo, hi => some (.tup (cutL l lo hi))
  | .str x, lo, hi => some (.str (cutS x lo hi))
  | _, _, _ => none
theorem cutS_len (x : Str) (lo hi : Option Int) : (cutS x lo hi).length ≤ x.length := by
  show (List.toArray _).size ≤ x.cps.size
  rw [List.size_toArray, List.length_take, List.length_drop, Array.length_toList]
  omega
def oNone : MO := fun _ S => .ok none S
def oSome (f : ME) : MO := fun ε S => (f ε S).bind fun w S => match w with | .val (.int i) => .ok (some i) S | _ => .bad
theorem do_none : PO X none (aO K E oNone) := PO.weak po_none fun σ H Q h => by
  obtain ⟨c, ε, rfl, re, h⟩ := h
  exact h c .refl rfl
theorem do_some (he : PE X e (aE K E f)) : PO X (some e) (aO K E (oSome f)) := PO.weak (po_some he) fun σ H Q h => by
  obtain ⟨c, ε, rfl, re, h⟩ := h
  refine ⟨c, ε, rfl, re, ?_⟩
  unfold oSome at h
  cases q : f ε c.S with
  | bad => rw [q] at h; exact h.elim
  | ex C fs S => rw [q] at h; exact h
  | ok w S =>
    rw [q] at h
    simp only [Rs.bind] at h
    intro c' l es u r
    split at h
    · cases r
      exact ⟨_, rfl, h c' l es⟩
    · exact h.elim
def cSl (f : ME) (lo hi : MO) : ME := fun ε S => (f ε S).bind fun w S => (lo ε S).bind fun i S => (hi ε S).bind fun j S => match view w S with
  | some d => match slD d i j with | some r => .ok (.val r) S | none => .bad
  | none => .bad
theorem de_slice {lo hi : Option Expr} {fl fh : MO} {p2 : Pos} (hK : X.K = K) (he : PE X e (aE K E f)) (hl : PO X lo (aO K E fl)) (hh : PO X hi (aO K E fh)) : PE X (.Subscript e (.Slice lo hi none p2) pos) (aE K E (cSl f fl fh)) := by
  subst hK
  refine (pe_slice (SlR.or sl_list (SlR.or sl_tupA sl_str)) he hl hh).weak fun σ H Q h => ?_
  obtain ⟨c, ε, rfl, re, h⟩ := h
  refine ee re h fun c1 w1 u1 l1 r1 h1 => ?_
  refine oe (re.mono l1) h1 fun c2 i l2 h2 => ?_
  refine oe ((re.mono l1).mono l2) h2 fun c3 j l3 h3 => ?_
  split at h3
  · rename_i d ed
    have rc := view_ok ed ((r1.mono l2).mono l3)
    split at h3
    · rename_i r er
      unfold slD at er
      split at er
      · cases er
        obtain ⟨a, xs, rfl, q1, q2⟩ := rc
        exact .inl ⟨a, xs, rfl, .inl (.inl q1), fun p hp => h3.lst (q2.cut _ _) hp⟩
      · cases er
        cases rc with
        | fl q1 q2 => exact .inl ⟨_, _, rfl, sqL_same c3.sub q1, fun p hp => h3.lst (q2.cut _ _) hp⟩
      · rename_i l
        cases er
        cases rc with
        | tup q1 q2 =>
          rename_i a xs
          refine .inr (.inl ⟨_, _, rfl, Same.tup c3.sub q1, fun z => ?_, fun _ p hp => h3.tup (q2.cut _ _) hp⟩)
          have e : cutL l i j = l := by
            unfold cutL
            rw [q2.length, z.1, z.2, List.drop_zero, Nat.sub_zero, ← q2.length, List.take_length]
          rw [e] at h3
          exact h3.ok (show Rd X.K _ _ _ from .tup q1 q2)
      · cases er
        cases rc with
        | str _ hz => exact .inr (.inr ⟨_, rfl, hz, h3.str (Nat.le_trans (cutS_len _ _ _) hz)⟩)
      · cases er
    · exact h3.elim
  · exact h3.elim
theorem rc1 {c : Cfg K} {d : D} {us : List V} (r : Rcs c [d] us) : ∃ u, us = [u] ∧ Rc c d u := by
  cases r with
  | cons h r => cases r; exact ⟨_, rfl, h⟩
def lenD : List D → Option D
  | [.str x] => some (.int x.length)
  | [.lst l] => some (.int l.length)
  | [.fl l] => some (.int l.length)
  | [.tup l] => some (.int l.length)
  | [.tux l] => some (.int l.length)
  | _ => none
theorem ca_len (hK : X.K = K) : CallR X (.builtin "len") (rAs K E (aFn lenD)) := by
  subst hK
  refine CallR.weak call_len fun u H Q h => ?_
  replace h := aFn_of h
  obtain ⟨c, l, d, rfl, r, e, h⟩ := h
  unfold lenD at e
  split at e
  · cases e
    replace r := rc1 r
    obtain ⟨u, rfl, r⟩ := r
    cases r with
    | str _ hz => exact ⟨_, _, rfl, ⟨hz, rfl⟩, h.int⟩
  · cases e
    replace r := rc1 r
    obtain ⟨u, rfl, r⟩ := r
    obtain ⟨a, xs, rfl, q1, q2⟩ := r
    rw [q2.length] at h
    exact ⟨_, _, rfl, .inl ⟨xs, .inl (.inl q1), rfl⟩, h.int⟩
  · cases e
    replace r := rc1 r
    obtain ⟨u, rfl, r⟩ := r
    cases r with
    | fl q1 q2 =>
      rw [q2.length] at h
      exact ⟨_, _, rfl, .inl ⟨_, sqL_same c.sub q1, rfl⟩, h.int⟩
  · cases e
    replace r := rc1 r
    obtain ⟨u, rfl, r⟩ := r
    cases r with
    | tup q1 q2 =>
      rw [q2.length] at h
      exact ⟨_, _, rfl, .inr ⟨_, Same.tup c.sub q1, rfl⟩, h.int⟩
  · cases e
    replace r := rc1 r
    obtain ⟨u, rfl, r⟩ := r
    cases r with
    | tux q1 hd q2 =>
      rw [q2.length] at h
      exact ⟨_, _, rfl, .inr ⟨_, .inl (.inr ⟨_, c.sub _ _ q1⟩), rfl⟩, h.int⟩
  · cases e
def intFD : List D → Option D
  | [.int i] => some (.int i)
  | [.bl k] => some (.int (if k then 1 else 0))
  | [.str x] => if x.length ≤ 640 then (PySem.intText? x).map .int else none
  | _ => none
theorem ca_int : CallR X (.type "int") (rAs K E (aFn intFD)) := CallR.weak (CallR.or call_int1 call_int_str) fun u H Q h => by
  replace h := aFn_of h
  obtain ⟨c, l, d, rfl, r, e, h⟩ := h
  unfold intFD at e
  split at e
  · cases e
    replace r := rc1 r
    obtain ⟨u, rfl, r⟩ := r
    cases r
    exact .inl (.inl ⟨_, rfl, h.int⟩)
  · cases e
    replace r := rc1 r
    obtain ⟨u, rfl, r⟩ := r
    cases r
    exact .inl (.inr ⟨_, rfl, h.int⟩)
  · split at e
    · rename_i x hx
      replace r := rc1 r
      obtain ⟨u, rfl, r⟩ := r
      cases r
      cases e2 : PySem.intText? x with
      | none => rw [e2] at e; cases e
      | some n =>
        rw [e2] at e
        cases e
        exact .inr ⟨x, n, rfl, e2, hx, h.int⟩
    · cases e
  · cases e
/-- repr -/
def reprD : List D → Option D
  | [d] => match toP d with
    | some p => if isDisplay p && p.showable && decide (p.depth ≤ 60) && decide (p.shown.length ≤ sizeLine) then some (.str p.shown) else none
    | none => none
  | _ => none
theorem ca_repr (hK : X.K = K) (hG : X.A.guards = some []) (hu : X.A.units + 64 < cLine) : CallR X (.builtin "repr") (rAs K E (aFn reprD)) := by
  subst hK
  refine CallR.weak (call_repr hG hu) fun u H Q h => ?_
  replace h := aFn_of h
  obtain ⟨c, l, d, rfl, r, e, h⟩ := h
  unfold reprD at e
  split at e
  · replace r := rc1 r
    obtain ⟨u, rfl, r⟩ := r
    split at e
    · rename_i p ep
      split at e
      · rename_i hs
        cases e
        simp only [Bool.and_eq_true, decide_eq_true_eq] at hs
        exact ⟨u, p, rfl, rc_dp ep r, hs.1.1.1, hs.1.1.2, hs.1.2, hs.2, h.str hs.2⟩
      · cases e
    · cases e
  · cases e
end
end AM
set_option Elab.async false
set_option linter.all false
set_option maxRecDepth 100000
set_option maxHeartbeats 4000000
namespace AM
open PySem PySem.Spec PyProof.Rows L2 Bk
open PySem.W (Frag)
variable {K : Frag} [Amb]
section
variable {X : Cx} {E : XK} {pos apos : Pos} {a b e o : Expr} {fa fb f : ME} {es : List Expr} {fs : MA}
def kindOf : D → Option String
  | .non => some "NoneType" | .bl _ => some "bool" | .int _ => some "int" | .str _ => some "str" | .tup _ => some "tuple" | .lst _ => some "list" | .fl _ => some "list" | .dic _ => some "dict" | .tux _ => some "tuple" | _ => none
theorem Own.pt {own : List Str} (w : Own K own) {C : Str} (h : C ∈ own) {T : String} (hT : T ∈ plainTys) : PySem.W.kitOne K (.type T) (.ref (He.ga K C)) = some false ∧ PySem.W.kitOne K (.ref (He.ga K C)) (.type T) = some false ∧ PySem.W.notFirst K (He.ga K C) (.type T) = true := by
  have := List.all_eq_true.mp w.b C h
  simp only [Bool.and_eq_true] at this
  have := List.all_eq_true.mp this.1.2 T hT
  simp only [Bool.and_eq_true, decide_eq_true_eq] at this
  exact ⟨this.1.1, this.1.2, this.2⟩
/-- a class as a value -/
theorem de_ty {x : Str} {n : String} (hg : Gl X x) (hm : X.mg x = none) (hv : bootBuiltins x = some (.type n)) (hn : x ≠ "__name__" := by decide) (hd : (x == ("__debug__" : Str)) = false := by decide) : PE X (.Name x pos) (aE K E (cC (.ty n))) :=
  (pe_bltn (v := .ty n) hg hm hv rfl hn hd).weak fun _ _ _ h => aE_c (fun _ => .ty n) h
theorem de_cls {x : Str} (hg : Gl X x) (hm : X.mg x = some (.ref (He.ga K x))) (hd : (x == ("__debug__" : Str)) = false := by decide) : PE X (.Name x pos) (aE K E (cC (.cls x))) :=
  (pe_glob (v := .ref (He.ga K x)) hg hm rfl hd).weak fun _ _ _ h => aE_c (fun _ => .cls x) h
/-- constants of the module -/
theorem de_gint {x : Str} {i : Int} (hg : Gl X x) (hm : ∃ t, X.mg x = some (.int i t)) (hd : (x == ("__debug__" : Str)) = false := by decide) : PE X (.Name x pos) (aE K E (cC (.int i))) := by
  obtain ⟨t, hm⟩ := hm
  exact (pe_glob (v := .int i) hg hm ⟨_, rfl⟩ hd).weak fun _ _ _ h => aE_c (fun _ => .int i) h
def isLst (n : Nat) (S : Sto) : Bool := match S[n]? with | some (.lst _) => true | _ => false
/-- g: the list, the arguments; the answer and the list behind it -/
def cMut (g : List D → List D → Option (D × List D)) (fo : ME) (fs : MA) : ME := fun ε S => (fo ε S).bind fun w S => match w with
  | .ref n => if isLst n S then (fs ε S).bind fun ws S => match toDs ws S with
    | some (ds, S) => match S[n]? with
      | some (.lst l) => match g l ds with | some (r, l') => .ok (.val r) (S.set n (.lst l')) | none => .bad
      | _ => .bad
    | none => .bad
    else .bad
  | _ => .bad
def rMut (K : Frag) (E : XK) (g : List D → List D → Option (D × List D)) : V → List V → Hp → VK → Prop := fun x vs H Q => ∃ (c : Cfg K) (a : Addr) (l l' ds : List D) (xs : List V) (r : D), c.H = H ∧ x = .ref a ∧ H a = some (.lst xs) ∧ Rds K c.G l xs ∧ Rds K c.G ds vs ∧ g l ds = some (r, l') ∧
  ∀ xs', Rds K c.G l' xs' → ∀ u, Rd K c.G r u → Q u (upd H a (.lst xs'))
theorem mut_of {g : List D → List D → Option (D × List D)} {σ : L2.St} {H : Hp} {Q : VK} (h : aE K E (cMut g f fs) σ H Q) : tBM K "list" (rMut K E g) (aE K E f) (aA K E fs) σ H Q := by
  obtain ⟨c, ε, rfl, re, h⟩ := h
  refine ee re h fun c1 w1 u1 l1 r1 h1 => ?_
  split at h1
  · rename_i n
    split at h1
    · rename_i hn
      obtain ⟨a, e1, rfl⟩ := r1
      have ty : ∃ xs, SqL K c1.H a xs := by
        unfold isLst at hn
        split at hn
        · rename_i l el
          obtain ⟨xs, e2, _⟩ := c1.at_ n a _ e1 el
          exact ⟨xs, .inl (.inl e2)⟩
        · cases hn
      refine ⟨.inl ⟨rfl, ty⟩, ae (re.mono l1) h1 fun c2 ws us l2 r2 h2 => ?_⟩
      split at h2
      · rename_i ds S3 e3
        obtain ⟨c3, l3, s3, hh3, r3⟩ := toDs_ok e3 r2
        split at h2
        · rename_i l el
          split at h2
          · rename_i r l' eg
            rw [← s3] at el h2
            have em : c3.m[n]? = some a := pre_get l3.m (pre_get l2.m e1)
            obtain ⟨xs, ex, rx⟩ := c3.at_ n a _ em el
            refine ⟨c3, a, l, l', ds, xs, r, hh3, rfl, by rw [← hh3]; exact ex, rx, r3, eg, fun xs' rx' u ru => ?_⟩
            have := h2 (c3.put n a _ (.lst l') (.lst xs') em el (fun z => by cases z) ⟨xs', rfl, rx'⟩) (l3.tr Cfg.put_le) rfl u ru
            rw [← hh3]
            exact this
          · exact h2.elim
        · exact h2.elim
      · exact h2.elim
    · exact h1.elim
  · exact h1.elim
theorem de_mut {g : List D → List D → Option (D × List D)} {name : Str} {id : String} (hK : X.K = K) (slot : Slot "list" name id) (hty : typeOf (.builtin id) = pure (.type "method_descriptor")) (hm : MtR X id (rMut K E g)) (ho : PE X o (aE K E f)) (ha : PA X (e :: es) (aA K E fs))
    (hbase : attributeBase o name X.env (eval o X.env) = eval o X.env := by rfl)
    (hfew : ((backTo pos (starEach (e :: es) X.env)).all (fun x => !x.1) && (backToKw pos (keywordEach [] X.env)).all (fun x => x.1.isSome)
      && decide ((e :: es).length + ([] : List Keyword).length + (if ([] : List Keyword).isEmpty then 0 else 1) < 30)) = true := by rfl)
    (hline : (apos.endLine == pos.line) = true := by rfl) (hs : starEach (e :: es) X.env = (false, eval e X.env) :: starEach es X.env := by rfl) (hplain : (backTo pos (starEach es X.env)).any (·.1) = false := by rfl) :
    PE X (.Call (.Attribute o name apos) (e :: es) [] pos) (aE K E (cMut g f fs)) := by
  subst hK
  exact (pe_bm PySem.F.plainAttrs_list slot hty hm ho ha hbase hfew hline hs hplain).weak fun _ _ _ h => mut_of h
def gAppend : List D → List D → Option (D × List D) | l, [d] => if l.length < sizeLine then some (.non, l ++ [d]) else none | _, _ => none
theorem ma_append : MtR X "list.append" (rMut K E gAppend) := MtR.weak mt_append fun x vs H Q h => by
  obtain ⟨c, a, l, l', ds, xs, r, rfl, rfl, hx, rx, rd, eg, q⟩ := h
  unfold gAppend at eg
  split at eg
  · split at eg
    · rename_i hz
      cases eg
      cases rd with
      | cons r1 r2 =>
        cases r2
        exact ⟨a, xs, _, rfl, rfl, hx, by rw [← rx.length]; exact hz, q _ (rx.app (.cons r1 .nil)) _ .non⟩
    · cases eg
  · cases eg
/-- a new list that will change -/
def cLstM (fs : MA) : ME := fun ε S => (fs ε S).bind fun ws S => match toDs ws S with | some (ds, S) => if ds.length ≤ sizeLine then .ok (.ref S.length) (S ++ [.lst ds]) else .bad | none => .bad
theorem de_lstM (h : PA X es (aA K E fs)) : PE X (.List es pos) (aE K E (cLstM fs)) :=
  (pe_lst h).weak fun σ H Q h => by
    obtain ⟨c, ε, rfl, re, h⟩ := h
    refine ae re h fun c1 ws us l1 r1 h1 => ?_
    split at h1
    · rename_i ds S e
      obtain ⟨c2, l2, rfl, e2, r2⟩ := toDs_ok e r1
      split at h1
      · rename_i hz
        refine ⟨by rw [← r2.length]; exact hz, fun p hp => ?_⟩
        rw [← e2] at hp ⊢
        refine (h1.up l2) (c2.push p (.lst ds) (.lst us) hp ⟨us, rfl, r2⟩) ⟨Same.rfl', List.prefix_append _ _, List.prefix_refl _⟩ rfl _ ⟨p, ?_, rfl⟩
        show (c2.m ++ [p])[c2.S.length]? = some p
        rw [List.getElem?_append_right (by rw [c2.len]; exact Nat.le_refl _), c2.len, Nat.sub_self]
        rfl
      · exact h1.elim
    · exact h1.elim
end
end AM
set_option Elab.async false
set_option linter.all false
set_option maxRecDepth 100000
set_option maxHeartbeats 4000000
namespace AM
open PySem PySem.Spec PyProof.Rows L2 Bk
open PySem.W (Frag)
variable {K : Frag} [Amb]
section
variable {X : Cx} {E : XK} {pos apos p : Pos} {a b e o : Expr} {fa fb f : ME} {es : List Expr} {fs : MA} {C : Str} {F : F1} {k : Nat} {ps : List Str}
theorem Rws.app {c : Cfg K} : ∀ {l l' : List W} {xs xs' : List V}, Rws c l xs → Rws c l' xs' → Rws c (l ++ l') (xs ++ xs')
  | _, _, _, _, .nil, s => s
  | _, _, _, _, .cons h r, s => .cons h (r.app s)
def putD (f : Str) (v : D) : List (Str × D) → List (Str × D)
  | [] => [(f, v)]
  | (g, x) :: r => if g = f then (g, v) :: r else (g, x) :: putD f v r
theorem Rfs.put {G : Hp} {f : Str} {d : D} {v : V} (h : Rd K G d v) : ∀ {l : List (Str × D)} {xs : List (Str × V)}, Rfs K G l xs → Rfs K G (putD f d l) (putF f v xs)
  | _, _, .nil => .cons h .nil
  | _, _, .cons (x := x) h1 r => by
    unfold putD putF
    split
    · exact .cons h r
    · exact .cons h1 (r.put h)
end
end AM
set_option Elab.async false
set_option linter.all false
set_option maxRecDepth 100000
set_option maxHeartbeats 4000000
namespace AM
open PySem PySem.Spec PyProof.Rows L2 Bk
open PySem.W (Frag)
variable {K : Frag} [Amb]
section
variable {X : Cx} {E : XK} {pos apos p : Pos} {a b c' e o : Expr} {fa fb fc f : ME} {es : List Expr} {fs : MA}
theorem dv (i : Nat) {x : Str} (hN : X.N[i]? = some x := by rfl) (hv : Vis X.env.scope x := by first | exact Or.inl rfl | exact Or.inr (Or.inl rfl) | exact Or.inr (Or.inr rfl)) (hd : (x == ("__debug__" : Str)) = false := by decide) (hcd : (x == ("__classdict__" : Str)) = false := by decide) : PE X (.Name x pos) (aE K E (cVar i)) := de_var hN hv hd hcd
/-- a < b < c -/
def cChain (g g' : W → W → Sto → Rs W) (fa fb fc : ME) : ME := fun ε S => (fa ε S).bind fun x S => (fb ε S).bind fun y S => (g x y S).bind fun r S => match r with
  | .val (.bl k) => if k = true then (fc ε S).bind fun z S => g' y z S else .ok (.val (.bl false)) S
  | _ => .bad
theorem chain_of {g g' : W → W → Sto → Rs W} {σ : L2.St} {H : Hp} {Q : VK} (h : aE K E (cChain g g' fa fb fc) σ H Q) : tChain (rA K E g) (rA K E g') (aE K E fa) (aE K E fb) (aE K E fc) σ H Q := by
  obtain ⟨c, ε, rfl, re, h⟩ := h
  refine ee re h fun c1 w1 u1 l1 r1 h1 => ?_
  refine ee (re.mono l1) h1 fun c2 w2 u2 l2 r2 h2 => ?_
  refine ⟨c2, w1, w2, rfl, r1.mono l2, r2, ?_⟩
  cases q : g w1 w2 c2.S with
  | bad => rw [q] at h2; exact h2
  | ex C fs S => rw [q] at h2; exact h2
  | ok r S =>
    rw [q] at h2
    simp only [Rs.bind] at h2
    intro c3 l3 s3 u3 r3
    split at h2
    · rename_i k
      cases r3
      cases k with
      | true =>
       refine ⟨true, rfl, ?_⟩
       rw [if_pos rfl] at h2 ⊢
       refine ee (c := c3) (((re.mono l1).mono l2).mono l3) (by rw [s3]; exact AP.up h2 l3) fun c4 w4 u4 l4 r4 h4 => ?_
       exact ⟨c4, w2, w4, rfl, (r2.mono l3).mono l4, r4, h4⟩
      | false =>
       refine ⟨false, rfl, ?_⟩
       rw [if_neg Bool.false_ne_true] at h2 ⊢
       exact h2 c3 l3 s3 _ (show Rd K _ _ _ from .bl false)
    · exact h2.elim
theorem de_chain {op op' : CmpOp} {g g' : W → W → Sto → Rs W} (ho : OpR X (compareOp op) (rA K E g)) (ho' : OpR X (compareOp op') (rA K E g')) (ha : PE X a (aE K E fa)) (hb : PE X b (aE K E fb)) (hc : PE X c' (aE K E fc))
    (hm : lastMarks [op, op'] [b, c'] = false := by with_unfolding_all rfl) : PE X (.Compare a [op, op'] [b, c'] pos) (aE K E (cChain g g' fa fb fc)) := (pe_chain ho ho' ha hb hc hm).weak fun _ _ _ h => chain_of h
end
end AM
set_option Elab.async false
set_option linter.all false
set_option maxRecDepth 100000
set_option maxHeartbeats 4000000
namespace AM
open PySem PySem.Spec PyProof.Rows L2 Bk
open PySem.W (Frag)
variable {K : Frag} [Amb]
section
variable {X : Cx} {E : XK} {pos apos p : Pos} {e o : Expr} {f : ME} {es : List Expr} {fs gs : MA} {C : Str} {F : F1} {k : Nat} {ps ks : List Str} {kws : List Keyword} {nm : Option Str} {kpos : Pos}
theorem dk_nil : PK X [] (aA K E cNil) := PK.weak pk_nil fun σ H Q h => by
  obtain ⟨c, ε, rfl, re, h⟩ := h
  exact h.ok .nil
theorem dk_cons (ha : PE X e (aE K E f)) (hr : PK X kws (aA K E fs)) : PK X (⟨nm, e, kpos⟩ :: kws) (aA K E (cCons f fs)) := PK.weak (pk_cons ha hr) fun σ H Q h => by
  obtain ⟨c, ε, rfl, re, h⟩ := h
  refine ea re h fun c1 w1 u1 l1 r1 h1 => ?_
  refine aa (re.mono l1) h1 fun c2 w2 u2 l2 r2 h2 => ?_
  exact h2.ok (.cons (r1.mono l2) r2)
end
end AM
set_option Elab.async false
set_option linter.all false
set_option maxRecDepth 100000
set_option maxHeartbeats 4000000
namespace AM
open PySem PySem.Spec PyProof.Rows L2 Bk RZ
open PySem.W (Frag)
end AM
set_option Elab.async false
set_option linter.all false
set_option maxRecDepth 100000
set_option maxHeartbeats 4000000
namespace AM
open PySem PySem.Spec PyProof.Rows L2 Bk
open PySem.W (Frag)
variable {K : Frag} [Amb]
/-- something is laid that nobody knows of -/
def Cfg.junk (c : Cfg K) (p : Addr) (o : HO) (h : c.H p = none) : Cfg K where
  G := c.G
  m := c.m
  S := c.S
  H := upd c.H p o
  sub := fun a u e => by
    rw [upd_ne (ne_of_none e (c.gnone h))]
    exact c.sub a u e
  len := c.len
  nd := c.nd
  at_ := fun n a ob e1 e2 => by
    have r := c.at_ n a ob e1 e2
    obtain ⟨u, hu⟩ := r.some
    rw [upd_ne (ne_of_none hu h)]
    exact r
  fr := c.fr
  z := c.z
  zat := fun q hq => by rw [upd_ne (ne_of_none (c.zat q hq) h)]; exact c.zat q hq
  zm := c.zm
  zg := c.zg
  zn := c.zn
  zt := c.zt
  gt := c.gt
  tb := tabs_new c.tb h
theorem Cfg.junk_le (c : Cfg K) {p : Addr} {o : HO} (h : c.H p = none) : c.le (c.junk p o h) := ⟨Same.rfl', List.prefix_refl _, List.prefix_refl _⟩
end AM
set_option Elab.async false
set_option linter.all false
set_option maxRecDepth 100000
set_option maxHeartbeats 4000000
namespace AM
open PySem PySem.Spec PyProof.Rows L2 Bk
open PySem.W (Frag)
variable {K : Frag} [Amb]
section
variable {X : Cx} {E : XK} {pos apos p1 : Pos} {a b e o : Expr} {fa fb f : ME} {es : List Expr} {fs : MA}
end
end AM
set_option Elab.async false
set_option linter.all false
set_option maxRecDepth 100000
set_option maxHeartbeats 4000000
namespace AM
open PySem PySem.Spec PyProof.Rows L2 Bk
open PySem.W (Frag)
variable {K : Frag} [Amb]
section
variable {X : Cx} {E : XK} {pos apos p1 : Pos} {a b e o : Expr} {fa fb fc f : ME} {es : List Expr} {fs : MA}
end
end AM
set_option Elab.async false
set_option linter.all false
set_option maxRecDepth 100000
set_option maxHeartbeats 4000000
namespace AM
open PySem PySem.Spec PyProof.Rows L2 Bk
open PySem.W (Frag)
variable {K : Frag} [Amb]
end AM
set_option Elab.async false
set_option linter.all false
set_option maxRecDepth 100000
set_option maxHeartbeats 4000000
namespace AM
open PySem PySem.Spec PyProof.Rows L2 Bk
open PySem.W (Frag)
end AM
set_option Elab.async false
set_option linter.all false
set_option maxRecDepth 100000
set_option maxHeartbeats 4000000
namespace Bk
open PySem PySem.Spec PyProof.Rows L2 PySem.NumText
open PySem.W (Frag)
section
variable {file : Str} {xk : Frag → Bool} {fn : List He5.DefA} {fx : List DefX} {dn : DicL} {w : World} {K : Frag}
theorem SaysE.toC (c : SaysE file xk fn fx dn w K) : SaysC file xk fn fx K := congrArg Prod.fst c
end
end Bk
namespace AM
open PySem PySem.Spec PyProof.Rows L2 Bk
open PySem.W (Frag)
end AM
set_option Elab.async false
set_option linter.all false
set_option maxRecDepth 100000
set_option maxHeartbeats 4000000
namespace ZM
open PySem PySem.Spec PyProof.Rows L2
end ZM
namespace AM
open PySem PySem.Spec PyProof.Rows L2 Bk
open PySem.W (Frag)
variable {K : Frag} [Amb]
section
variable {X : Cx} {E : XK}
/-- repr of scalars, too -/
def scR : List D → Option Str
  | [.bl b] => some (if b then "True" else "False")
  | [.non] => some "None"
  | [.int i] => if i.natAbs.log2 < 1920 ∧ (Str.ofString (toString i)).length ≤ sizeLine then some (toString i) else none
  | _ => none
def reprD2 (l : List D) : Option D := match scR l with
  | some x => some (.str x)
  | none => reprD l
theorem call_repr_sc : CallR X (.builtin "repr") (fun xs H Q => (∃ b : Bool, xs = [.bl b] ∧ Q (.str (if b then "True" else "False")) H) ∨ (xs = [.non] ∧ Q (.str "None") H)) := by
  intro pins s σ H xs us Q I r h
  rcases h with ⟨b, rfl, q⟩ | ⟨rfl, q⟩
  · obtain ⟨u, rfl, ru⟩ := vals1 r
    cases (show u = Value.bool b from ru)
    exact PySem.P.repr_of_bool ⟨.str _, H, I.tok _, ⟨_, rfl⟩, q⟩
  · obtain ⟨u, rfl, ru⟩ := vals1 r
    cases (show u = Value.none from ru)
    exact PySem.P.repr_of_none ⟨.str _, H, I.tok _, ⟨_, rfl⟩, q⟩
theorem ca_repr2 (hK : X.K = K) (hG : X.A.guards = some []) (hu : X.A.units + 64 < cLine) : CallR X (.builtin "repr") (rAs K E (aFn reprD2)) := by
  subst hK
  refine CallR.weak (CallR.or (ca_repr (E := E) rfl hG hu) (CallR.or call_repr_sc SkE.call_repr_int)) fun u H Q h => ?_
  obtain ⟨c, x, rfl, rx, h⟩ := h
  unfold aFn at h
  split at h
  · rename_i l el
    split at h
    · rename_i d e
      unfold reprD2 at e
      split at e
      · rename_i z ez
        cases e
        have rc := views_ok el rx
        unfold scR at ez
        split at ez
        · cases ez
          obtain ⟨u, rfl, r⟩ := rc1 rc
          cases r
          exact .inr (.inl (.inl ⟨_, rfl, AP.str h (by split <;> decide +kernel)⟩))
        · cases ez
          obtain ⟨u, rfl, r⟩ := rc1 rc
          cases r
          exact .inr (.inl (.inr ⟨rfl, AP.str h (by decide +kernel)⟩))
        · split at ez
          · rename_i hi
            cases ez
            obtain ⟨u, rfl, r⟩ := rc1 rc
            cases r
            exact .inr (.inr ⟨_, rfl, hi.1, AP.str h hi.2⟩)
          · cases ez
        · cases ez
      · exact .inl ⟨c, x, rfl, rx, by unfold aFn; rw [el]; simp only [e]; exact h⟩
    · exact h.elim
  · exact h.elim
end
end AM
set_option Elab.async false
set_option linter.all false
set_option maxRecDepth 100000
set_option maxHeartbeats 4000000
namespace Bk
open PySem PySem.Spec PySem.Calls PyProof.Rows L2
open PySem.W (Frag)
end Bk
namespace AM
open PySem PySem.Spec PyProof.Rows L2 Bk
open PySem.W (Frag)
end AM
set_option Elab.async false
set_option linter.all false
set_option maxRecDepth 100000
set_option maxHeartbeats 4000000
namespace AM
open PySem PySem.Spec PyProof.Rows L2 Bk
open PySem.W (Frag)
variable {K : Frag} [Amb]
/-- what the store held at its end is known by a pin -/
def Cfg.pin (c : Cfg K) (n : Nat) (a : Addr) (ob : Ob) (o : HO) (hn : c.S.length = n + 1) (h1 : c.m[n]? = some a) (h2 : c.S[n]? = some ob) (h3 : ob ≠ .dead) (h4 : c.H a = some o) (ho : ∃ xs, o = HO.lst xs) : Cfg K where
  G := c.G
  m := c.m.take n
  S := c.S.take n
  H := c.H
  sub := c.sub
  len := (c.take n).len
  nd := (c.take n).nd
  at_ := (c.take n).at_
  fr := (c.take n).fr
  z := c.z ++ [(a, o)]
  zat := fun q hq => by
    rcases List.mem_append.mp hq with hq | hq
    · exact c.zat q hq
    · rw [List.mem_singleton] at hq; subst hq; exact h4
  zm := fun q hq hm => by
    rcases List.mem_append.mp hq with hq | hq
    · exact c.zm q hq (List.mem_of_mem_take hm)
    · rw [List.mem_singleton] at hq
      subst hq
      obtain ⟨j, hj, e⟩ := List.mem_iff_getElem.mp hm
      rw [List.length_take] at hj
      rw [List.getElem_take] at e
      obtain ⟨g1, e1⟩ := List.getElem?_eq_some_iff.mp h1
      have := (List.getElem_inj c.nd).mp (e.trans e1.symm)
      omega
  zg := fun q hq => by
    rcases List.mem_append.mp hq with hq | hq
    · exact c.zg q hq
    · rw [List.mem_singleton] at hq; subst hq; exact c.fr n a ob h1 h2 h3
  zn := by
    rw [List.map_append, List.nodup_append]
    refine ⟨c.zn, by simp, fun x hx b hb e => ?_⟩
    simp only [List.map_cons, List.map_nil, List.mem_singleton] at hb
    subst hb
    obtain ⟨q, hq, rfl⟩ := List.mem_map.mp hx
    exact c.zm q hq (by rw [e]; exact List.mem_of_getElem? h1)
  zt := fun q hq => by
    rcases List.mem_append.mp hq with hq | hq
    · exact c.zt q hq
    · rw [List.mem_singleton] at hq; subst hq; exact ho
  gt := c.gt
  tb := c.tb
theorem Pins.mem {c0 c : Cfg K} : ∀ {ls : List (List D)} {bs : List Addr}, Pins c0 c ls bs → ∀ b ∈ bs, ∃ o, (b, o) ∈ c.z
  | _, _, .nil, _, h => by simp at h
  | _, _, .cons h r n0 nb t, b, hb => by
    rcases List.mem_cons.mp hb with rfl | hb
    · exact ⟨_, h⟩
    · exact t.mem b hb
theorem Pins.snoc {c0 c : Cfg K} {l : List D} {b : Addr} {xs : List V} (h : (b, HO.lst xs) ∈ c.z) (r : Rds K c.G l xs) (n0 : ∀ p ∈ c0.z, p.1 ≠ b) : ∀ {ls : List (List D)} {bs : List Addr}, Pins c0 c ls bs → b ∉ bs → Pins c0 c (ls ++ [l]) (bs ++ [b])
  | _, _, .nil, _ => .cons h r n0 (by simp) .nil
  | _, _, .cons h' r' n0' nb t, hb => .cons h' r' n0' (fun hm => by
      rcases List.mem_append.mp hm with hm | hm
      · exact nb hm
      · rw [List.mem_singleton] at hm; exact hb (by rw [hm]; exact List.mem_cons_self)) (Pins.snoc h r n0 t fun z => hb (List.mem_cons_of_mem _ z))
end AM
set_option Elab.async false
set_option linter.all false
set_option maxRecDepth 100000
set_option maxHeartbeats 4000000
namespace Bk
open PySem PySem.Spec PyProof.Rows L2
open PySem.W (Frag)
end Bk
namespace AM
open PySem PySem.Spec PyProof.Rows L2 Bk
open PySem.W (Frag)
variable {K : Frag} [Amb]
section
variable {X : Cx} {E : XK} {pos tpos : Pos} {o i e : Expr} {fo fi fv : ME}
theorem Rns.get {m : List Addr} : ∀ {ns : List Nat} {vs : List V} {j k : Nat}, Rns m ns vs → ns[j]? = some k → ∃ b, vs[j]? = some (.ref b) ∧ m[k]? = some b
  | _, _, _, _, .nil, e => by simp at e
  | _, _, 0, _, .cons h _, e => by simp at e; subst e; exact ⟨_, rfl, h⟩
  | _, _, j + 1, k, .cons _ r, e => by
    obtain ⟨b, h1, h2⟩ := Rns.get (j := j) (k := k) r (by simpa using e)
    exact ⟨b, by simpa using h1, h2⟩
end
end AM
set_option Elab.async false
set_option linter.all false
set_option maxRecDepth 100000
set_option maxHeartbeats 4000000
namespace Z3
open PySem PySem.Spec PyProof.Rows L2
open PySem.W (Frag)
def ItX (k : Bool) (h : Heap) (it a : Addr) (i : Nat) : Prop := if k then h.IsTupleIter it a i else h.IsListIter it a i
def SeX (k : Bool) (h : Heap) (a : Addr) (vs : Array Value) : Prop := if k then h.IsTuple a vs else h.IsList a vs
theorem SqX.at {X : Cx} {pins : List (Addr × Obj)} {σ : L2.St} {H : Hp} {s : Shared} (I : L2.Inv X pins σ H s) {k : Bool} {a : Addr} {xs : List V} (h : SqX k X.K H a xs) : ∃ its : List Value, Vals xs its ∧ SeX k s.heap a its.toArray ∧ a < s.heap.objs.size := by
  cases k with
  | true =>
    obtain ⟨its, rv, p, _⟩ := I.tuple h
    exact ⟨its, rv, p, by obtain ⟨o, ho, _⟩ := id p; exact Heap.lt_size ho⟩
  | false =>
    obtain ⟨its, rv, p, _⟩ := I.list h
    exact ⟨its, rv, p.isList, p.lt⟩
theorem ItX.at {k : Bool} {h h' : Heap} {it a : Addr} {i : Nat} (x : ItX k h it a i) (q : ∀ o, h.get? it = some o → h'.get? it = some o) : ItX k h' it a i := by
  cases k with
  | true => exact Heap.IsTupleIter.at x q
  | false => exact Heap.IsListIter.at x q
theorem ItX.there {k : Bool} {h : Heap} {it a : Addr} {i : Nat} (x : ItX k h it a i) : ∃ o, h.get? it = some o ∧ ∀ v, o.data ≠ .cell v := by
  cases k with
  | true => obtain ⟨o, e, _, d⟩ := x; exact ⟨o, e, fun v q => by rw [d] at q; cases q⟩
  | false => obtain ⟨o, e, _, d⟩ := x; exact ⟨o, e, fun v q => by rw [d] at q; cases q⟩
end Z3
namespace AM
open PySem PySem.Spec PyProof.Rows L2 Bk
open PySem.W (Frag)
end AM
set_option Elab.async false
set_option linter.all false
set_option maxRecDepth 100000
set_option maxHeartbeats 4000000
namespace Bk
open PySem PySem.Spec PyProof.Rows L2
open PySem.W (Frag)
end Bk
set_option Elab.async false
set_option linter.all false
set_option maxRecDepth 100000
set_option maxHeartbeats 4000000
namespace AM
open PySem PySem.Spec PyProof.Rows L2 Bk
open PySem.W (Frag)
variable {K : Frag} [Amb]
def lookT (kvs : List (List Key × D)) (k : List Key) : Option D := (kvs.find? fun kv => decide (kv.1 = k)).map (·.2)
def putT (kvs : List (List Key × D)) (k : List Key) (d : D) : List (List Key × D) :=
  if (kvs.any fun kv => decide (kv.1 = k)) = true then kvs.map (fun kv => if kv.1 = k then (kv.1, d) else kv) else kvs ++ [(k, d)]
theorem Rkt.look {G : Hp} {k : List Key} : ∀ {l : List (List Key × D)} {xs : List (List Key × V)}, Rkt K G l xs → (lookT l k = none ∧ valV xs k = none) ∨ ∃ d v, lookT l k = some d ∧ valV xs k = some v ∧ Rd K G d v
  | _, _, .nil => .inl ⟨rfl, rfl⟩
  | _, _, .cons (ks := ks) (d := d) (v := v) h r => by
    by_cases e : ks = k
    · subst e
      exact .inr ⟨d, v, by simp [lookT, List.find?_cons], by simp [valV, List.find?_cons], h⟩
    · rcases Rkt.look (k := k) r with ⟨a, b⟩ | ⟨d2, v2, a, b, c⟩
      · exact .inl ⟨by unfold lookT at a ⊢; rw [List.find?_cons, decide_eq_false e]; exact a, by unfold valV at b ⊢; rw [List.find?_cons, decide_eq_false e]; exact b⟩
      · exact .inr ⟨d2, v2, by unfold lookT at a ⊢; rw [List.find?_cons, decide_eq_false e]; exact a, by unfold valV at b ⊢; rw [List.find?_cons, decide_eq_false e]; exact b, c⟩
theorem Rkt.any {G : Hp} {k : List Key} : ∀ {l : List (List Key × D)} {xs : List (List Key × V)}, Rkt K G l xs → (l.any fun kv => decide (kv.1 = k)) = xs.any fun kv => decide (kv.1 = k)
  | _, _, .nil => rfl
  | _, _, .cons h r => by rw [List.any_cons, List.any_cons, Rkt.any r]
theorem Rkt.repl {G : Hp} {k : List Key} {d : D} {v : V} (h : Rd K G d v) : ∀ {l : List (List Key × D)} {xs : List (List Key × V)}, Rkt K G l xs → Rkt K G (l.map fun kv => if kv.1 = k then (kv.1, d) else kv) (xs.map fun kv => if kv.1 = k then (kv.1, v) else kv)
  | _, _, .nil => .nil
  | _, _, .cons (ks := ks) h1 r => by
    rw [List.map_cons, List.map_cons]
    by_cases e : ks = k
    · simp only [if_pos e]; exact .cons h (Rkt.repl h r)
    · simp only [if_neg e]; exact .cons h1 (Rkt.repl h r)
theorem Rkt.snoc {G : Hp} {k : List Key} {d : D} {v : V} (h : Rd K G d v) : ∀ {l : List (List Key × D)} {xs : List (List Key × V)}, Rkt K G l xs → Rkt K G (l ++ [(k, d)]) (xs ++ [(k, v)])
  | _, _, .nil => .cons h .nil
  | _, _, .cons h1 r => .cons h1 (Rkt.snoc h r)
theorem Rkt.put {G : Hp} {k : List Key} {d : D} {v : V} (h : Rd K G d v) {l : List (List Key × D)} {xs : List (List Key × V)} (r : Rkt K G l xs) : Rkt K G (putT l k d) (putK xs k v) := by
  unfold putT putK
  rw [r.any]
  split
  · exact r.repl h
  · exact r.snoc h
end AM
set_option Elab.async false
set_option linter.all false
set_option maxRecDepth 100000
set_option maxHeartbeats 4000000
namespace AM
open PySem PySem.Spec PyProof.Rows L2 Bk
open PySem.W (Frag)
end AM
namespace AM
open PySem PySem.Spec PyProof.Rows L2 Bk
end AM
set_option Elab.async false
set_option linter.all false
set_option maxRecDepth 100000
set_option maxHeartbeats 4000000
namespace Bk
open PySem PySem.Spec PyProof.Rows L2
open PySem.W (Frag)
end Bk
namespace AM
open PySem PySem.Spec PyProof.Rows L2 Bk
open PySem.W (Frag)
variable {K : Frag} [Amb]
section
variable {X : Cx} {E : XK} {pos apos p1 : Pos} {a b e o i : Expr} {fa fb fc f fo fi fv : ME} {es : List Expr} {fs : MA}
theorem Rfs.any {G : Hp} {z : Str} : ∀ {l : List (Str × D)} {xs : List (Str × V)}, Rfs K G l xs → (l.any fun kv => decide (kv.1 = z)) = xs.any fun kv => decide (kv.1 = z)
  | _, _, .nil => rfl
  | _, _, .cons h r => by rw [List.any_cons, List.any_cons, Rfs.any r]
theorem Rfs.repl {G : Hp} {z : Str} {d : D} {v : V} (h : Rd K G d v) : ∀ {l : List (Str × D)} {xs : List (Str × V)}, Rfs K G l xs → Rfs K G (l.map fun kv => if kv.1 = z then (kv.1, d) else kv) (xs.map fun kv => if kv.1 = z then (kv.1, v) else kv)
  | _, _, .nil => .nil
  | _, _, .cons (x := x) h1 r => by
    rw [List.map_cons, List.map_cons]
    by_cases e : x = z
    · simp only [if_pos e]; exact .cons h (Rfs.repl h r)
    · simp only [if_neg e]; exact .cons h1 (Rfs.repl h r)
theorem Rfs.snoc {G : Hp} {z : Str} {d : D} {v : V} (h : Rd K G d v) : ∀ {l : List (Str × D)} {xs : List (Str × V)}, Rfs K G l xs → Rfs K G (l ++ [(z, d)]) (xs ++ [(z, v)])
  | _, _, .nil => .cons h .nil
  | _, _, .cons h1 r => .cons h1 (Rfs.snoc h r)
end
end AM
set_option Elab.async false
set_option linter.all false
set_option maxRecDepth 100000
set_option maxHeartbeats 4000000
namespace Bk
open PySem PySem.Spec PyProof.Rows L2
open PySem.W (Frag)
end Bk
namespace AM
open PySem PySem.Spec PyProof.Rows L2 Bk
open PySem.W (Frag)
end AM
set_option Elab.async false
set_option linter.all false
set_option maxRecDepth 100000
set_option maxHeartbeats 4000000
namespace Bk
open PySem PySem.Spec PyProof.Rows L2
open PySem.W (Frag)
end Bk
namespace AM
open PySem PySem.Spec PyProof.Rows L2 Bk
open PySem.W (Frag)
variable {K : Frag} [Amb]
section
variable {X : Cx} {E : XK} {pos apos tpos : Pos} {o i e : Expr} {fa fb f : ME}
end
end AM
set_option Elab.async false
set_option linter.all false
set_option maxRecDepth 100000
set_option maxHeartbeats 4000000
namespace AM
open PySem PySem.Spec PyProof.Rows L2 Bk
open PySem.W (Frag)
variable {K : Frag} [Amb]
theorem rfs_zipX {G : Hp} : ∀ {fl : List Str} {ds : List D} {us : List V}, Rds K G ds us → Rfs K G (fl.zip ds) (fl.zip us)
  | [], _, _, _ => by simp only [List.zip_nil_left]; exact .nil
  | f :: fl, _, _, .nil => by simp only [List.zip_nil_right]; exact .nil
  | f :: fl, _, _, .cons h r => .cons h (rfs_zipX r)
theorem Rfs.app {G : Hp} : ∀ {l l' : List (Str × D)} {xs xs' : List (Str × V)}, Rfs K G l xs → Rfs K G l' xs' → Rfs K G (l ++ l') (xs ++ xs')
  | _, _, _, _, .nil, s => s
  | _, _, _, _, .cons h r, s => .cons h (r.app s)
theorem Rfs.rev {G : Hp} : ∀ {l : List (Str × D)} {xs : List (Str × V)}, Rfs K G l xs → Rfs K G l.reverse xs.reverse
  | _, _, .nil => .nil
  | _, _, .cons h r => by rw [List.reverse_cons, List.reverse_cons]; exact r.rev.app (.cons h .nil)
/-- raise C(..) -/
def sRaise (C : Str) (fl : List Str) (fs : MA) : MS := fun ε S => (fs ε S).bindT fun ws S => match toDs ws S with
  | some (ds, S) => if ds.length = fl.length ∧ ds.length ≤ 1000 then .ex C (fl.zip ds).reverse S else .bad
  | none => .bad
section
variable {X : Cx} {E : XK} {pos p pos2 : Pos} {e : Expr} {es : List Expr} {fs : MA} {x : Str} {fI : Addr} {ps fl : List Str} {B NB Ii : String} {tl : List Value}
theorem raise_of {c1 : Cfg K} {ws : List W} {us : List V} {Ds : Ends} (r : Rws c1 ws us)
    (h : APs c1 (match toDs ws c1.S with | some (ds, S) => if ds.length = fl.length ∧ ds.length ≤ 1000 then .ex x (fl.zip ds).reverse S else .bad | none => .bad) Ds E) :
    us.length = fl.length ∧ us.length ≤ 1000 ∧ ∀ d, c1.H d = none → E (.ref (He.ga K x)) (some d) (upd c1.H d (.xd (fl.zip us).reverse)) := by
  split at h
  · rename_i ds S' q
    obtain ⟨c2, l2, s2, h2, r2⟩ := toDs_ok q r
    split at h
    · rename_i hl
      rw [r2.length] at hl
      refine ⟨hl.1, hl.2, fun d hd => ?_⟩
      rw [← h2] at hd ⊢
      have z := (h (c2.junk d (.xd (fl.zip us).reverse) hd) (l2.tr (c2.junk_le hd)) s2).1 d (fl.zip us).reverse upd_same (rfs_zipX r2).rev
      exact z
    · exact h.elim
  · exact h.elim
end
theorem bareB_ok {N : String} {tl : List Value} {x : Str} {K : Frag} (h : bareB N tl x K = true) : PySem.W.excIn K (He.ga K x) tl N = true ∧ PySem.W.keepIn K (.ref (He.ga K x)) = true ∧ PySem.W.subIn K (.ref (He.ga K x)) (.type "BaseException") = some true ∧ PySem.W.typeIn K (.ref (He.ga K x)) = some (.type "type") := by
  obtain ⟨h1, h⟩ := He.ba h
  obtain ⟨h2, h⟩ := He.ba h
  obtain ⟨h3, h4⟩ := He.ba h
  exact ⟨h1, h2, of_decide_eq_true h3, of_decide_eq_true h4⟩
end AM
set_option Elab.async false
set_option linter.all false
set_option maxRecDepth 100000
set_option maxHeartbeats 4000000
namespace AM
open PySem PySem.Spec PyProof.Rows L2 Bk
open PySem.W (Frag)
variable {K : Frag}
abbrev Amb.on (A : Amb) (h : Option (Addr × Str × Option Addr)) : Amb := ⟨h, A.lam, A.tabs⟩
section
variable (A : Amb) (h : Option (Addr × Str × Option Addr))
def Cfg.up (c : @Cfg A K) : @Cfg (A.on h) K := @Cfg.mk (A.on h) K (@Cfg.G A K c) (@Cfg.m A K c) (@Cfg.S A K c) (@Cfg.H A K c) (@Cfg.sub A K c) (@Cfg.len A K c) (@Cfg.nd A K c) (@Cfg.at_ A K c) (@Cfg.fr A K c) (@Cfg.z A K c) (@Cfg.zat A K c) (@Cfg.zm A K c) (@Cfg.zg A K c) (@Cfg.zn A K c) (@Cfg.zt A K c) (@Cfg.gt A K c) (@Cfg.tb A K c)
def Cfg.dn (c : @Cfg (A.on h) K) : @Cfg A K := @Cfg.mk A K (@Cfg.G (A.on h) K c) (@Cfg.m (A.on h) K c) (@Cfg.S (A.on h) K c) (@Cfg.H (A.on h) K c) (@Cfg.sub (A.on h) K c) (@Cfg.len (A.on h) K c) (@Cfg.nd (A.on h) K c) (@Cfg.at_ (A.on h) K c) (@Cfg.fr (A.on h) K c) (@Cfg.z (A.on h) K c) (@Cfg.zat (A.on h) K c) (@Cfg.zm (A.on h) K c) (@Cfg.zg (A.on h) K c) (@Cfg.zn (A.on h) K c) (@Cfg.zt (A.on h) K c) (@Cfg.gt (A.on h) K c) (@Cfg.tb (A.on h) K c)
theorem Cfg.dn_le {c : @Cfg A K} {c2 : @Cfg (A.on h) K} (l : @Cfg.le (A.on h) K (Cfg.up A h c) c2) : @Cfg.le A K c (Cfg.dn A h c2) := @Cfg.le.mk A K _ _ (@Cfg.le.g (A.on h) K _ _ l) (@Cfg.le.m (A.on h) K _ _ l) (@Cfg.le.z (A.on h) K _ _ l)
end
/-- an exception's dict is known from now on -/
def Cfg.knowX [Amb] (c : Cfg K) (d : Addr) (gs : List (Str × V)) (h : c.H d = some (.xd gs)) : Cfg K where
  G := upd c.G d (.xd gs)
  m := c.m
  S := c.S
  H := c.H
  sub := fun a u e => by
    by_cases q : a = d
    · subst q; rw [upd_same] at e; cases e; exact h
    · rw [upd_ne q] at e; exact c.sub a u e
  len := c.len
  nd := c.nd
  at_ := fun n a ob e1 e2 => (c.at_ n a ob e1 e2).mono fun x o e => by
    by_cases q : x = d
    · subst q
      have := c.sub _ _ e
      rw [h] at this
      cases this
      exact upd_same
    · rw [upd_ne q]; exact e
  fr := fun n a ob e1 e2 e3 => by
    have r := c.at_ n a ob e1 e2
    by_cases q : a = d
    · exfalso
      rw [q, h] at r
      cases ob with
      | dead => exact e3 rfl
      | lst l => obtain ⟨ys, z, _⟩ := r; cases z
      | ins C fs => obtain ⟨dx, gs, z, _⟩ := r; cases z
      | dic kvs => obtain ⟨vs, z, _⟩ := r; cases z
      | dkt kvs => obtain ⟨vs, z, _⟩ := r; cases z
    · rw [upd_ne q]
      exact c.fr n a ob e1 e2 e3
  z := c.z
  zat := c.zat
  zm := c.zm
  zg := fun p hp => by
    have q : p.1 ≠ d := fun e => by
      have := c.zat p hp
      obtain ⟨ys, z⟩ := c.zt p hp
      rw [e, h, z] at this
      cases this
    rw [upd_ne q]
    exact c.zg p hp
  zn := c.zn
  zt := c.zt
  gt := fun a u e => by
    by_cases q : a = d
    · subst q; rw [upd_same] at e; cases e; exact fun ps z => by cases z
    · rw [upd_ne q] at e; exact c.gt a u e
  tb := c.tb
theorem Cfg.knowX_same [Amb] (c : Cfg K) {d : Addr} {gs : List (Str × V)} (h : c.H d = some (.xd gs)) : Same c.G (upd c.G d (.xd gs)) := fun x o e => by
  by_cases q : x = d
  · subst q
    have := c.sub _ _ e
    rw [h] at this
    cases this
    exact upd_same
  · rw [upd_ne q]; exact e
theorem Cfg.knowX_le [Amb] (c : Cfg K) {d : Addr} {gs : List (Str × V)} (h : c.H d = some (.xd gs)) : c.le (c.knowX d gs h) := ⟨c.knowX_same h, List.prefix_refl _, List.prefix_refl _⟩
def isaX (T : ExcT) (C : Str) (ds : List Str) : Option Bool := (T.lookup C).map fun anc => ds.any fun D => anc.contains D
def noX : Option W → Option W
  | some (.exc _ _) => none
  | some .clo => none
  | w => w
def clr (i : Option Nat) (ε : Ev) : Ev := match i with
  | none => ε.map noX
  | some i => (ε.map noX).set i none
def unE (i : Option Nat) : Rt → Rt
  | .nx ε S => .nx (clr i ε) S
  | .bk ε S => .bk (clr i ε) S
  | .ct ε S => .ct (clr i ε) S
  | .rt (.exc _ _) _ => .bad
  | .rt .clo _ => .bad
  | .rt w S => .rt w S
  | .ex C fs S => match i with
    | none => .ex C fs S
    | some _ => .bad
  | .bad => .bad
def onE (i : Option Nat) (C : Str) (fs : List (Str × D)) (ε : Ev) : Ev := match i with
  | none => ε
  | some i => ε.set i (some (.exc C fs))
abbrev MC := List Str × Option Nat × MS
theorem noX_get {ε : Ev} {i : Nat} {w : W} (e : (ε.map noX)[i]? = some (some w)) : ε[i]? = some (some w) ∧ (∀ C fs, w ≠ .exc C fs) ∧ w ≠ .clo := by
  rw [List.getElem?_map] at e
  cases q : ε[i]? with
  | none => rw [q] at e; cases e
  | some o =>
    rw [q] at e
    cases o with
    | none => cases e
    | some v =>
      cases v with
      | exc C fs => cases e
      | clo => cases e
      | val d => cases e; exact ⟨rfl, (fun C fs z => by cases z), (fun z => by cases z)⟩
      | ref n => cases e; exact ⟨rfl, (fun C fs z => by cases z), (fun z => by cases z)⟩
      | rws ns => cases e; exact ⟨rfl, (fun C fs z => by cases z), (fun z => by cases z)⟩
theorem rw_dn (A : Amb) (h : Option (Addr × Str × Option Addr)) {c : @Cfg (A.on h) K} {w : W} {v : V} (hw : (∀ C fs, w ≠ .exc C fs) ∧ w ≠ .clo) (r : @Rw (A.on h) K c w v) : @Rw A K (Cfg.dn A h c) w v := by
  cases w with
  | val d => exact r
  | ref n => exact r
  | rws ns => exact r
  | exc C fs => exact absurd rfl (hw.1 C fs)
  | clo => exact absurd rfl hw.2
theorem re_dn (A : Amb) (h : Option (Addr × Str × Option Addr)) {c : @Cfg (A.on h) K} {ε : Ev} {σ : L2.St} (r : @Re (A.on h) K c ε σ) (i : Option Nat) : @Re A K (Cfg.dn A h c) (clr i ε) (match i with | none => σ | some i => σ.set i none) := by
  have base : @Re A K (Cfg.dn A h c) (ε.map noX) σ := @Re.mk A K _ _ _ (by rw [List.length_map]; exact @Re.len (A.on h) K _ _ _ r) fun j w e => by
    obtain ⟨e1, e2⟩ := noX_get e
    obtain ⟨v, e3, e4⟩ := @Re.at_ (A.on h) K _ _ _ r j w e1
    exact ⟨v, e3, rw_dn A h e2 e4⟩
  cases i with
  | none => exact base
  | some i =>
    refine @Re.mk A K _ _ _ (by show (List.set _ i none).length = (σ.set i none).length; rw [List.length_set, List.length_set]; exact base.len) fun j w e => ?_
    have e : ((ε.map noX).set i none)[j]? = some (some w) := e
    show ∃ v, (σ.set i none)[j]? = some (some v) ∧ _
    by_cases q : i = j
    · subst q
      rw [List.getElem?_set] at e
      rw [if_pos rfl] at e
      split at e <;> cases e
    · rw [List.getElem?_set_ne q] at e ⊢
      exact base.at_ j w e
/-- what the head tells of the classes in the clauses -/
structure ExOk (K : Frag) (T : ExcT) (hs : List Str) : Prop where
  at_ : ∀ C anc D, T.lookup C = some anc → D ∈ hs → PySem.W.exmOne K (.ref (He.ga K C)) (.ref (He.ga K D)) = some (anc.contains D)
theorem lookup_mem {α : Type} {T : List (Str × α)} {C : Str} {anc : α} (h : T.lookup C = some anc) : (C, anc) ∈ T := by
  induction T with
  | nil => cases h
  | cons p T ih =>
    obtain ⟨x, a⟩ := p
    rw [List.lookup_cons] at h
    cases q : C == x with
    | true =>
      rw [q] at h
      cases h
      rw [eq_of_beq q]
      exact List.mem_cons_self
    | false =>
      rw [q] at h
      exact List.mem_cons_of_mem _ (ih h)
theorem exOkB_ok {T : ExcT} {hs : List Str} {K : Frag} (h : exOkB T hs K = true) : ExOk K T hs :=
  ⟨fun C anc D e hD => of_decide_eq_true (List.all_eq_true.mp (List.all_eq_true.mp h _ (lookup_mem e)) D hD)⟩
def mOf (K : Frag) : List Str → Value → Option Bool
  | [D], cls => PySem.W.exmOne K cls (.ref (He.ga K D))
  | ds, cls => PySem.W.exmAny K cls (ds.map fun D => Value.ref (He.ga K D))
theorem exmAny_of {T : ExcT} {hs : List Str} (X : ExOk K T hs) {C : Str} {anc : List Str} (e : T.lookup C = some anc) : ∀ {ds : List Str}, (∀ D ∈ ds, D ∈ hs) → PySem.W.exmAny K (.ref (He.ga K C)) (ds.map fun D => Value.ref (He.ga K D)) = some (ds.any fun D => anc.contains D)
  | [], _ => rfl
  | D :: ds, h => by
    have h1 := X.at_ C anc D e (h D List.mem_cons_self)
    have h2 := exmAny_of X e (ds := ds) fun D' hD => h D' (List.mem_cons_of_mem _ hD)
    rw [List.map_cons]
    unfold PySem.W.exmAny
    rw [h1, h2]
    rfl
theorem mOf_of {T : ExcT} {hs ds : List Str} (X : ExOk K T hs) {C : Str} {b : Bool} (hd : ∀ D ∈ ds, D ∈ hs) (e : isaX T C ds = some b) : mOf K ds (.ref (He.ga K C)) = some b := by
  unfold isaX at e
  cases q : T.lookup C with
  | none => rw [q] at e; cases e
  | some anc =>
    rw [q] at e
    cases e
    match ds, hd with
    | [D], hd =>
      show PySem.W.exmOne K _ _ = _
      rw [X.at_ C anc D q (hd D List.mem_cons_self)]
      simp
    | [], hd => rfl
    | D :: D' :: r, hd => exact exmAny_of X q hd
variable [A : Amb]
section
variable {X : Cx} {E : XK}
/-- the suite's reading: the class and the dict are told -/
def tsOf (K : Frag) (E : XK) (s : MS) (a : Addr) (cls : Value) (d : Option Addr) : TS := fun D σ H => ∃ C : Str, cls = .ref (He.ga K C) ∧ @aS (A.on (some (a, C, d))) K E s D σ H
/-- a suite without a name may raise -/
def suE (i : Option Nat) (E : XK) : XK := match i with
  | none => E
  | some _ => fun _ _ _ => False
/-- clauses of the text and clauses of the mirror -/
inductive HdsA (X : Cx) (K : Frag) (hs : List Str) (E : XK) : List ExceptHandler → List MC → Prop
  | nil : HdsA X K hs E [] []
  | cons {te : Expr} {ds : List Str} {n : Str} {i : Nat} {s : MS} {b₀ : Stmt} {suite : List Stmt} {pos' : Pos} {hds : List ExceptHandler} {l : List MC} (hd : ∀ D ∈ ds, D ∈ hs) (ht : TestX X te (mOf K ds)) (hn : SlotOk X (some n) (some i))
      (hsu : ∀ (a : Addr) (oe : Obj) (C : Str) (d : Option Addr) (pn : List (Addr × Obj)), L2C.Held a oe (.ref (He.ga K C)) d pn → (∃ vs, oe.data = .fields vs) → PSs (X.suite a ((a, oe) :: pn)) (b₀ :: suite) (@aS (A.on (some (a, C, d))) K (fun _ _ _ => False) s)) (r : HdsA X K hs E hds l) :
      HdsA X K hs E (.ExceptHandler (some te) (some n) (b₀ :: suite) pos' :: hds) ((ds, some i, s) :: l)
  | consR {te : Expr} {ds : List Str} {s : MS} {b₀ : Stmt} {suite : List Stmt} {pos' : Pos} {hds : List ExceptHandler} {l : List MC} (hd : ∀ D ∈ ds, D ∈ hs) (ht : TestX X te (mOf K ds))
      (hsu : ∀ (a : Addr) (oe : Obj) (C : Str) (d : Option Addr) (pn : List (Addr × Obj)), L2C.Held a oe (.ref (He.ga K C)) d pn → (∃ vs, oe.data = .fields vs) → L2C.Takes (L2H.suiteX X a ((a, oe) :: pn)) (fun cls d _ H => E cls d H) → PSs (L2H.suiteX X a ((a, oe) :: pn)) (b₀ :: suite) (@aS (A.on (some (a, C, d))) K E s)) (r : HdsA X K hs E hds l) :
      HdsA X K hs E (.ExceptHandler (some te) none (b₀ :: suite) pos' :: hds) ((ds, none, s) :: l)
def clsOf (K : Frag) (E : XK) (c : MC) : Clause := (mOf K c.1, c.2.1, tsOf K (suE c.2.1 E) c.2.2)
theorem hdsA_ok {hs : List Str} {hds : List ExceptHandler} {l : List MC} (h : HdsA X K hs E hds l) : HdsX X (fun cls d _ H => E cls d H) hds (l.map (clsOf K E)) := by
  induction h with
  | nil => exact .nil
  | cons hd ht hn hsu r ih =>
    refine .cons ht hn (fun a oe cls d pn hz hf => ⟨fun pins s σ H D I hw => ?_⟩) ih
    obtain ⟨C, rfl, hw⟩ := hw
    exact (hsu a oe C d pn hz hf).run pins s σ H D I hw
  | consR hd ht hsu r ih =>
    refine .consR ht (fun a oe cls d pn hz hf tk => ⟨fun pins s σ H D I hw => ?_⟩) ih
    obtain ⟨C, rfl, hw⟩ := hw
    exact (hsu a oe C d pn hz hf tk).run pins s σ H D I hw
/-- the exception's dict holds the fields -/
def HasX (K : Frag) (G H : Hp) (fs : List (Str × AM.D)) : Option Addr → Prop
  | some d => ∃ gs, H d = some (.xd gs) ∧ Rfs K G fs gs
  | none => fs = []
theorem hdsA_mem {hs : List Str} {hds : List ExceptHandler} {l : List MC} (h : HdsA X K hs E hds l) : ∀ p ∈ l, ∀ x ∈ p.1, x ∈ hs := by
  induction h with
  | nil => intro p hp; cases hp
  | cons hd ht hn hsu r ih =>
    intro p hp
    rcases List.mem_cons.mp hp with rfl | hp
    · exact hd
    · exact ih p hp
  | consR hd ht hsu r ih =>
    intro p hp
    rcases List.mem_cons.mp hp with rfl | hp
    · exact hd
    · exact ih p hp
end
end AM
set_option Elab.async false
set_option linter.all false
set_option maxRecDepth 100000
set_option maxHeartbeats 4000000
namespace AM
open PySem PySem.Spec PyProof.Rows L2 Bk
open PySem.W (Frag)
open HotX L2H
variable {K : Frag} [A : Amb]
/-- the context bears the exception at a, of the class C, with the dict d -/
structure HotK (X : Cx) (K : Frag) (a : Addr) (C : Str) (d : Option Addr) (oe : Obj) : Prop where
  pin : (a, oe) ∈ X.pn
  cls : oe.cls = .ref (He.ga K C)
  dct : oe.dict = d
  fld : ∃ vs, oe.data = .fields vs
  hot : X.A.handled = some (.ref a)
  ch : ∃ l, L2C.Ch (fun b o => (b, o) ∈ X.pn) a l
theorem HotK.blk {X : Cx} {a : Addr} {C : Str} {d : Option Addr} {oe : Obj} {s : Shared} {H : Hp} {scope : Scope} {cenv : Env} {fp : List Addr} (h : HotK X K a C d oe) : HotK (blkH X s H scope cenv fp) K a C d oe := ⟨h.pin, h.cls, h.dct, h.fld, h.hot, h.ch⟩
theorem rw_exc {h : Option (Addr × Str × Option Addr)} {c : @Cfg (A.on h) K} {C : Str} {fs : List (Str × AM.D)} {v : V} (r : @Rw (A.on h) K c (.exc C fs) v) : ∃ a d, v = .ref a ∧ h = some (a, C, d) ∧ HasX K (@Cfg.G (A.on h) K c) (@Cfg.G (A.on h) K c) fs d := by
  obtain ⟨a, d, e1, e2, e3⟩ := r
  refine ⟨a, d, e1, e2, ?_⟩
  cases d with
  | none => exact e3
  | some d => exact e3
structure IsOk (K : Frag) (T : ExcT) (TB : ExcB) (Ds : List Str) (Bs : List String) : Prop where
  ec : ∀ C anc, T.lookup C = some anc → ExcC K (He.ga K C) ∧ ∀ D ∈ Ds, PySem.W.kitOne K (.ref (He.ga K C)) (.ref (He.ga K D)) = some (anc.contains D)
  eb : ∀ C bs, TB.lookup C = some bs → ExcC K (He.ga K C) ∧ ∀ b ∈ Bs, PySem.W.kitOne K (.ref (He.ga K C)) (.type b) = some (bs.contains b)
theorem excCB_ok {K : Frag} {C : Addr} (h : excCB K C = true) : ExcC K C := by
  obtain ⟨h1, h⟩ := He.ba h
  obtain ⟨h2, h⟩ := He.ba h
  obtain ⟨h3, h⟩ := He.ba h
  obtain ⟨h4, h⟩ := He.ba h
  obtain ⟨h5, h⟩ := He.ba h
  obtain ⟨h6, h⟩ := He.ba h
  obtain ⟨h7, h8⟩ := He.ba h
  exact ⟨of_decide_eq_true h1, of_decide_eq_true h2, of_decide_eq_true h3, h4, of_decide_eq_true h5, of_decide_eq_true h6, of_decide_eq_true h7, of_decide_eq_true h8⟩
theorem isOkB_ok {T : ExcT} {TB : ExcB} {Ds : List Str} {Bs : List String} {K : Frag} (h : isOkB T TB Ds Bs K = true) : IsOk K T TB Ds Bs := by
  obtain ⟨h1, h2⟩ := He.ba h
  refine ⟨fun C anc e => ?_, fun C bs e => ?_⟩
  · obtain ⟨a, b⟩ := He.ba (List.all_eq_true.mp h1 _ (lookup_mem e))
    exact ⟨excCB_ok a, fun D hD => of_decide_eq_true (List.all_eq_true.mp b D hD)⟩
  · obtain ⟨a, b⟩ := He.ba (List.all_eq_true.mp h2 _ (lookup_mem e))
    exact ⟨excCB_ok a, fun D hD => of_decide_eq_true (List.all_eq_true.mp b D hD)⟩
section
variable {X : Cx} {E : XK} {a : Addr} {C : Str} {d : Option Addr} {oe : Obj} {pos p : Pos} {e : Expr} {es : List Expr}
def cXf (ns : List Str) (f : Str) (fa : ME) : ME := fun ε S => (fa ε S).bind fun w S => match w with
  | .exc C fs => if ns.contains C then (match fs.lookup f with | some x => .ok (.val x) S | none => .bad) else .bad
  | _ => .bad
structure XfOk (K : Frag) (ns : List Str) (f : Str) : Prop where
  at_ : ∀ C ∈ ns, XfC K (He.ga K C) ∧ PySem.W.findIn K (.ref (He.ga K C)) f = some none
theorem xfOkB_ok {ns : List Str} {f : Str} {K : Frag} (h : xfOkB ns f K = true) : XfOk K ns f := ⟨fun C hC => by
  obtain ⟨h1, h2⟩ := He.ba (List.all_eq_true.mp h C hC)
  exact ⟨xfB_ok h1, of_decide_eq_true h2⟩⟩
theorem de_xf {ns : List Str} {f : Str} {fa : ME} {pn : List (Addr × Obj)} (hK : X.K = K) (O : XfOk K ns f) (hz : L2C.Held a oe (.ref (He.ga K C)) d pn) (hf : ∃ vs, oe.data = .fields vs) (he : PE (X.suite a ((a, oe) :: pn)) e (@aE (A.on (some (a, C, d))) K E fa))
    (hb : attributeBase e f X.env (eval e X.env) = eval e X.env := by rfl) : PE (X.suite a ((a, oe) :: pn)) (.Attribute e f pos) (@aE (A.on (some (a, C, d))) K E (cXf ns f fa)) := by
  subst hK
  refine ⟨fun pins s σ H Q I h => ?_⟩
  obtain ⟨c, ε, rfl, re, h⟩ := h
  by_cases hC : C ∈ ns
  · obtain ⟨x1, x2⟩ := O.at_ C hC
    refine (pe_xf x1 x2 ⟨hz.cls, hz.dict⟩ hf he hb).run pins s σ _ Q I ?_
    refine @ee (A.on (some (a, C, d))) X.K c ε σ Q E fa re _ h _ fun c1 w u l1 r1 h1 => ?_
    split at h1
    · rename_i C' fs
      split at h1
      · split at h1
        · rename_i y hy
          obtain ⟨a2, d2, e1, e2, e3⟩ := rw_exc r1
          cases e2
          cases d with
          | none => cases (show fs = [] from e3); cases hy
          | some dd =>
            obtain ⟨gs, g1, g2⟩ := e3
            obtain ⟨v, v1, v2⟩ := g2.look hy
            exact ⟨e1, rfl, dd, gs, v, rfl, @Cfg.sub (A.on (some (a, C, some dd))) X.K c1 _ _ g1, v1, @AP.ok (A.on (some (a, C, some dd))) X.K c1 _ _ _ _ h1 v2⟩
        · exact h1.elim
      · exact h1.elim
    · exact h1.elim
  · -- the class has no such field
    refine attr_of hb (wpAny_mono (he.run pins s σ _ (fun _ _ => False) I (@ee (A.on (some (a, C, d))) X.K c ε σ Q E fa re _ h _ fun c1 w u l1 r1 h1 => ?_)) (fun v s' hh => ?_) fun _ _ z => z)
    · split at h1
      · rename_i C' fs
        split at h1
        · rename_i hn
          obtain ⟨a2, d2, e1, e2, e3⟩ := rw_exc r1
          cases e2
          exact hC (List.contains_iff_mem.mp hn)
        · exact h1.elim
      · exact h1.elim
    · obtain ⟨_, _, _, _, z⟩ := hh
      exact z.elim
end
end AM
set_option Elab.async false
set_option linter.all false
set_option maxRecDepth 100000
set_option maxHeartbeats 4000000
namespace AM
open PySem PySem.Spec PyProof.Rows L2 Bk
open PySem.W (Frag)
open LamX
variable {K : Frag}
variable [A : Amb]
end AM
set_option Elab.async false
set_option linter.all false
set_option maxRecDepth 100000
set_option maxHeartbeats 4000000
namespace Bk
open PySem PySem.Spec PyProof.Rows L2 PySem.NumText
open PySem.W (Frag)
open LamX
/-- the tables of the defs that make lambdas -/
def TabBs (tf : TfL) (K : Frag) (mg : Str → Option Value) (base : Heap) : Prop := ∀ p ∈ tf, TabB base mg (He.cT K p).1 (He.cT K p).2
theorem obsFG_eq {l : List Addr} {file : Str} {ex : Frag → Bool} {fn : List He5.DefA} {fx : List DefX} {dn : DicL} {tf : TfL} {g : Addr → Option Obj} {s : Shared} (h : ∀ a, g a = s.heap.get? a) : obsFG l file ex fn fx dn tf g = (hookF l file ex fn fx dn tf).obs s := by
  obtain rfl : g = s.heap.get? := funext h
  rfl
/-- what is shown of the law's own def -/
structure GLawT (P : Program) (w : World) (K : Frag) (mg : Str → Option Value) (tf : TfL) (k : Nat) (x : Str) (ps : List Str) (sp : Sp) : Prop where
  ok : ∃ fd, (∀ (s : Shared) (us : List Value), us.length = ps.length → BindsTo s fd ⟨us, []⟩ (ps.zip us)) ∧ ∀ base : Heap, TabBs tf K mg base → FnG P w K mg base (L2C.CX P w) k (He.ga K x) fd ps sp
theorem gokLT_of {P : Program} {w : World} {K : Frag} {mg : Str → Option Value} {tf : TfL} {x : Str} {st : Stmt} {N ps : List Str} {k : Nat} {sp : Sp} {kws : List (Str × V)}
    (F : ∃ fd, FunD K x x (defArgs st) (defBody st) (defScope st) [] kws (He.ga K x) fd) (S : FnScope N ps (defScope st))
    (hb : ∀ (kV doc pm : Value) (an : Option Addr) (cdv ct : Value) (us : List Value), us.length = ps.length → bindArgs (PySem.W.fnOf x x (defArgs st) (defBody st) (defScope st) .none kV doc pm an cdv ct) ⟨us, []⟩ = pure (ps.zip us))
    (len : ∀ vs H Q E, sp vs H Q E → vs.length = ps.length)
    (hbody : ∀ (base : Heap), TabBs tf K mg base → ∀ (cdv : Value) (A : Around) (outer : List Env) (s : Shared) (H : Hp) (vs : List V) (Q : VK) (E : XK), A.guards = some [] → cdv = .ref (He.codeOf K (x, none)) →
      Room k (A.deeper (envOfC x (defScope st) s.heap.objs.size (He.ga K x) cdv)) → sp vs H Q E →
      ∃ t, PSs (cxOf (L2C.CX P w) P w K mg base N x (defScope st) (He.ga K x) cdv A outer s H E) (defBody st) t ∧ t { nx := fun _ H' => Q .non H', rt := Q } (start N vs) H) :
    GLawT P w K mg tf (k + 1) x ps sp := by
  obtain ⟨fd, F⟩ := F
  have bd := FunD.bindsA (ps := ps) F hb
  obtain ⟨oc, od, dV, kV, doc, pm, an, cdv, ct, osl, rfl, lk, hcd, _, _⟩ := id F.ex
  obtain ⟨c, rfl⟩ := He.codeIn_ref hcd
  exact ⟨_, bd, fun base B => fnG_of lk hcd S len fun A outer s H vs Q E hG hr hsp => hbody base B _ A outer s H vs Q E hG (by rw [show He.codeOf K (x, none) = c from He.codeOf_eq (p := (x, none)) lk rfl]) hr hsp⟩
end Bk
namespace Bk
open PySem PySem.Spec PyProof.Rows L2 PySem.NumText
open PySem.W (Frag)
open LamX
section
variable {P : Program} {w : World} {K : Frag} {mg mb : Str → Option Value} {k : Nat} {fa a : Addr} {fd : FuncData} {x : Str} {sp : Sp} {s₁ : Shared} {vs : List Value} {ns : List Int} {tf : TfL}
def tabH (ts : List Addr) (H : Hp) : Hp := fun b => if b ∈ ts then some (.tbl #[]) else H b
theorem callGT (KX : K.In s₁.heap) (hns : s₁.heap.Ns mainGlobals mg) (hb : s₁.heap.Ns builtinsNs mb) (hbb : ∀ x : Str, x ≠ "__name__" → mb x = bootBuiltins x) (hlim : s₁.heap.NoLimit) (hg : s₁.gens = #[])
    (hbm : ∃ (bm : Addr) (ob : Obj), mg "__builtins__" = some (.ref bm) ∧ bm ≠ builtinsNs ∧ s₁.heap.get? bm = some ob ∧ ob.cls = .type "module" ∧ ob.dict = some builtinsNs ∧ ob.data = .plain)
    (hd : ∀ p ∈ tf, PySem.W.codeHdIn K (He.cT K p).1 (He.cT K p).2 = true) (out : ∀ p ∈ tf, K.lookup (He.cT K p).2 = none) (empty : ∀ p ∈ tf, s₁.heap.get? (He.cT K p).2 = some { cls := .none, data := .fields #[] })
    (ha : s₁.heap.get? a = some { cls := .type "list", data := .seq vs.toArray }) (hr : Room k callerA)
    (F : ∀ base : Heap, TabBs tf K mg base → FnG P w K mg base (L2C.CX P w) k fa fd [x] sp) (hbind : ∀ (s : Shared) (u : Value), BindsTo s fd ⟨[u], []⟩ [(x, u)])
    (H : Hp) (hO : Only H) (hsp : sp [.ref a] (tabH (tf.map fun p => (He.cT K p).2) H) (fun v _ => v = .bl true) fun _ _ _ => False) (hok : HOk P w H s₁.heap) (hA : ∀ b, H b ≠ none → b = a) (hK : H a ≠ none → K.lookup a = none) :
    codeAny (model P w) callerA (.call (.ref fa) ⟨[.ref a], []⟩) (fun r s' => r = .ok (.ret (.bool true)) ∧ OldK s₁.heap s'.heap ∧ s'.os = s₁.os ∧ AllBare s'.gens) s₁ := by
  generalize hts : tf.map (fun p => (He.cT K p).2) = ts at hsp
  have isT : ∀ b ∈ ts, s₁.heap.get? b = some { cls := .none, data := .fields #[] } := fun b hb2 => by
    rw [← hts] at hb2
    obtain ⟨p, hp, rfl⟩ := List.mem_map.mp hb2
    exact empty p hp
  have outT : ∀ b ∈ ts, K.lookup b = none := fun b hb2 => by
    rw [← hts] at hb2
    obtain ⟨p, hp, rfl⟩ := List.mem_map.mp hb2
    exact out p hp
  have aT : a ∉ ts := fun z => by
    have q := isT a z
    rw [ha] at q
    cases q
  have at1 : ∀ {b : Addr} {u : HO}, tabH ts H b = some u → (b ∈ ts ∧ u = .tbl #[]) ∨ (b ∉ ts ∧ b = a ∧ H b = some u) := fun {b u} q => by
    unfold tabH at q
    by_cases hb2 : b ∈ ts
    · rw [if_pos hb2] at q
      cases q
      exact .inl ⟨hb2, rfl⟩
    · rw [if_neg hb2] at q
      exact .inr ⟨hb2, hA b (fun z => by rw [q] at z; cases z), q⟩
  have none1 : ∀ {b : Addr} {o : Obj}, s₁.heap.get? b = some o → (∀ vs n, o.data ≠ .seq vs n) → o.data ≠ .fields #[] → tabH ts H b = none := fun {b o} e h1 h2 => by
    match q : tabH ts H b with
    | none => rfl
    | some u =>
      rcases at1 q with ⟨hb2, _⟩ | ⟨_, hb2, _⟩
      · rw [isT b hb2] at e
        cases e
        exact absurd rfl h2
      · rw [hb2, ha] at e
        cases e
        exact absurd rfl (h1 _ _)
  have base_of : ∀ {b : Addr} {o : Obj}, s₁.heap.get? b = some o → tabH ts H b = none → (hidT s₁.heap (tabH ts H)).get? b = some o := fun e n => hidT_get e n
  have nsK : ∀ {b : Addr} {m : Str → Option Value}, s₁.heap.Ns b m → (hidT s₁.heap (tabH ts H)).Ns b m := by
    rintro b m ⟨o, es, ep, e, d, r⟩
    exact ⟨o, es, ep, base_of e (none1 e (fun vs n z => by rw [d] at z; cases z) fun z => by rw [d] at z; cases z), d, r⟩
  have hKb : K.In (hidT s₁.heap (tabH ts H)) := by
    intro b o e
    refine base_of (KX b o e) ?_
    match q : tabH ts H b with
    | none => rfl
    | some u =>
      rcases at1 q with ⟨hb2, _⟩ | ⟨_, hb2, q2⟩
      · rw [outT b hb2] at e
        cases e
      · rw [hb2] at e q2
        rw [hK (fun z => by rw [q2] at z; cases z)] at e
        cases e
  obtain ⟨mc, l1, l2⟩ := hlim
  have hM : L2.Mod K mg (hidT s₁.heap (tabH ts H)) := ⟨hKb, nsK hns, ⟨mb, nsK hb, hbb⟩, ⟨mc, nsK l1, l2⟩⟩
  have TBs : TabBs tf K mg (hidT s₁.heap (tabH ts H)) := fun p hp => by
    have hTp := empty p hp
    refine NdefX.tabB_of_K hKb (hd p hp) ?_ fun z => ?_
    · obtain ⟨bm, ob, b1, b2, b3, b4, b5, b6⟩ := hbm
      have nG : bm ≠ mainGlobals := fun q => by
        obtain ⟨o, es, ep, e, hdd, _⟩ := hns
        rw [q, e] at b3
        cases b3
        rw [hdd] at b6
        cases b6
      have nP : bm ≠ (He.cT K p).2 := fun q => by
        rw [q, hTp] at b3
        cases b3
        cases b6
      exact ⟨bm, ob, b1, b2, nG, nP, base_of b3 (none1 b3 (fun vs n z => by rw [b6] at z; cases z) fun z => by rw [b6] at z; cases z), b4, b5, b6⟩
    · obtain ⟨o, es, ep, e, hdd, _⟩ := hns
      rw [z, hTp] at e
      cases e
      cases hdd
  have hok2 : HOk P w (tabH ts H) s₁.heap := fun b o e => by
    rcases at1 e with ⟨hb2, rfl⟩ | ⟨hb2, hb3, q2⟩
    · exact isT b hb2
    · obtain ⟨ob, xs, e3⟩ := (hO b).resolve_left (fun z => by rw [q2] at z; cases z)
      rw [q2] at e3
      cases e3
      exact hok b _ q2
  have none_in : ∀ b : Addr, b ∉ ([] : List Addr) := fun b z => by cases z
  have e0 : Env0 P w K mg (hidT s₁.heap (tabH ts H)) callerA [] s₁ (tabH ts H) := ⟨rfl, hM, fun b o e => of_hidT e, Nat.le_of_eq (hidT_size _ _), trivial, fun b hb => absurd hb (none_in b), hok2, .of_eq hg⟩
  refine codeAny_mono ((F _ TBs).run callerA [] s₁ (tabH ts H) ⟨[.ref a], []⟩ [.ref a] [.ref a] _ _ rfl hr e0 (hbind s₁ (.ref a)) (.cons rfl .nil) hsp) ?_
  intro r s' h
  match r, h with
  | .error e, h =>
    obtain ⟨_, _, _, _, _, _, _, _, _, _, _, _, z⟩ := h
    exact z.elim
  | .ok .next, h => exact h.elim
  | .ok .brk, h => exact h.elim
  | .ok .cont, h => exact h.elim
  | .ok (.ret u), h =>
    obtain ⟨v, H', os, bare, un, hok', r', q⟩ := h
    obtain rfl : v = .bl true := q
    obtain rfl : u = Value.bool true := r'
    have keep : ∀ b o, b ∉ ts → s₁.heap.get? b = some o → s'.heap.get? b = some o := fun b o nb e => by
      match q : tabH ts H b with
      | none => exact un.keep b o e q (none_in b) (none_in b)
      | some u =>
        rcases at1 q with ⟨hb2, _⟩ | ⟨_, _, q2⟩
        · exact absurd hb2 nb
        · rcases hO b with z | ⟨ob, xs, z⟩
          · rw [q2] at z
            cases z
          · have q3 : tabH ts H b = some (.frz ob (.lst xs)) := by unfold tabH; rw [if_neg nb]; exact z
            obtain ⟨f1, _⟩ := hok b _ z
            obtain ⟨f2, _⟩ := hok' b _ (un.frzs b ob _ q3)
            rw [e] at f1
            cases f1
            exact f2
    have grown : ∀ b ∈ ts, ∃ more : Array Value, s'.heap.get? b = some { cls := .none, data := .fields more } := fun b hb2 => by
      obtain ⟨more, z⟩ := un.tbls b #[] (by unfold tabH; rw [if_pos hb2])
      exact ⟨_, hok' b _ z⟩
    refine ⟨rfl, ⟨fun b o e => ?_, fun b o e => ?_⟩, os, bare⟩
    · by_cases hb2 : b ∈ ts
      · obtain ⟨more, hm⟩ := grown b hb2
        have hb3 := hb2
        rw [← hts] at hb3
        obtain ⟨p, hp, rfl⟩ := List.mem_map.mp hb3
        have hTp := empty p hp
        rw [hTp] at e
        cases e
        exact .inr (.inl ⟨((PySem.W.codeHd_of_K KX (hd p hp)).tab hTp).isCodeTable, rfl, #[], more, rfl, by rw [Array.empty_append]; exact hm⟩)
      · exact .inl (keep b o hb2 e)
    · by_cases hb2 : b ∈ ts
      · obtain ⟨more, hm⟩ := grown b hb2
        exact ⟨_, hm⟩
      · exact ⟨o, keep b o hb2 e⟩
theorem law_callGT (KX : K.In s₁.heap) (hns : s₁.heap.Ns mainGlobals mg) (hb : s₁.heap.Ns builtinsNs mb) (hbb : ∀ x : Str, x ≠ "__name__" → mb x = bootBuiltins x) (hlim : s₁.heap.NoLimit) (hg : s₁.gens = #[])
    (hbm : ∃ (bm : Addr) (ob : Obj), mg "__builtins__" = some (.ref bm) ∧ bm ≠ builtinsNs ∧ s₁.heap.get? bm = some ob ∧ ob.cls = .type "module" ∧ ob.dict = some builtinsNs ∧ ob.data = .plain)
    (hd : ∀ p ∈ tf, PySem.W.codeHdIn K (He.cT K p).1 (He.cT K p).2 = true) (out : ∀ p ∈ tf, K.lookup (He.cT K p).2 = none) (empty : ∀ p ∈ tf, s₁.heap.get? (He.cT K p).2 = some { cls := .none, data := .fields #[] })
    (ha : s₁.heap.get? a = some { cls := .type "list", data := .seq vs.toArray }) (hi : IntsAre vs ns) (hl : ns.length ≤ sizeLine) (hr : Room k callerA)
    (F : ∀ base : Heap, TabBs tf K mg base → FnG P w K mg base (L2C.CX P w) k fa fd [x] sp) (hbind : ∀ (s : Shared) (u : Value), BindsTo s fd ⟨[u], []⟩ [(x, u)])
    (hsp : ∀ H : Hp, Only H → SqL K H a (ns.map V.int) → (∀ p ∈ tf, H (He.cT K p).2 = none) → sp [.ref a] (tabH (tf.map fun p => (He.cT K p).2) H) (fun v _ => v = .bl true) fun _ _ _ => False) :
    codeAny (model P w) callerA (.call (.ref fa) ⟨[.ref a], []⟩) (fun r s' => r = .ok (.ret (.bool true)) ∧ OldK s₁.heap s'.heap ∧ s'.os = s₁.os ∧ AllBare s'.gens) s₁ := by
  have rv := vals_ints hi
  have lenV := hi.length
  have aT : ∀ p ∈ tf, (He.cT K p).2 ≠ a := fun p hp z => by
    have q := empty p hp
    rw [z, ha] at q
    cases q
  match hk : K.lookup a with
  | some o =>
    have e := KX a o hk
    rw [ha] at e
    cases e
    have only : Only (fun _ => none) := fun _ => .inl rfl
    refine callGT KX hns hb hbb hlim hg hbm hd out empty ha hr F hbind (fun _ => none) only (hsp _ only ?_ fun _ _ => rfl) (fun b u z => nomatch z) (fun b z => absurd rfl z) (fun z => absurd rfl z)
    exact .inr ⟨_, vs.toArray, _, hk, rfl, rfl, rfl, by rw [List.size_toArray, lenV]; exact hl, by simpa using rv⟩
  | none =>
    have only : Only (fun b => if b = a then some (.frz { cls := .type "list", data := .seq vs.toArray } (.lst (ns.map V.int))) else none) := by
      intro b
      by_cases hb : b = a
      · exact .inr ⟨_, _, if_pos hb⟩
      · exact .inl (if_neg hb)
    refine callGT KX hns hb hbb hlim hg hbm hd out empty ha hr F hbind _ only (hsp _ only (.inl (.inr ⟨{ cls := .type "list", data := .seq vs.toArray }, if_pos rfl⟩)) fun p hp => if_neg (aT p hp)) ?_ ?_ (fun _ => hk)
    · intro b u z
      by_cases hb : b = a
      · have z' := (if_pos hb).symm.trans z
        cases z'
        subst hb
        exact ⟨ha, by rw [List.length_map]; exact hl, vs, _, rv, ha⟩
      · have z' := (if_neg hb).symm.trans z
        cases z'
    · intro b z
      by_cases hb : b = a
      · exact hb
      · exact absurd (if_neg hb) z
end
theorem walk_ofGT {l : PySem.W.OpenLaw} {n k : Nat} {q : Program} {loose : List Str} {XP : (Str → Option Value) → Heap → Prop} {YP : World → Heap → Prop} {d : DefRec} {x : Str} {tf : TfL}
    (hn : l.most = some n) (hn2 : n ≤ sizeLine) (hdf : d.params.defaults = []) (hr : Room k callerA)
    (F : ∀ (w : World) (mg : Str → Option Value) (fa : Addr) (h : Heap), YP w h → h.Ns mainGlobals mg → mg d.name = some (.ref fa) → (∀ K : Frag, K.In h → (∀ p ∈ tf, PySem.W.codeHdIn K (He.cT K p).1 (He.cT K p).2 = true) → (∀ p ∈ tf, h.get? (He.cT K p).2 = some { cls := .none, data := .fields #[] }) → TabBs tf K mg h) →
      ∃ (K : Frag) (fd : FuncData) (sp : Sp), K.In h ∧ (∀ p ∈ tf, PySem.W.codeHdIn K (He.cT K p).1 (He.cT K p).2 = true) ∧ (∀ p ∈ tf, K.lookup (He.cT K p).2 = none) ∧ (∀ p ∈ tf, h.get? (He.cT K p).2 = some { cls := .none, data := .fields #[] }) ∧ (∀ (s : Shared) (u : Value), BindsTo s fd ⟨[u], []⟩ [(x, u)]) ∧
        (∀ (H : Hp) (a : Addr) (ns : List Int), ns.length ≤ n → (∀ z ∈ ns, Builtin.Int.intBits z ≤ 1048576) → Only H → SqL K H a (ns.map V.int) → (∀ p ∈ tf, H (He.cT K p).2 = none) → sp [.ref a] (tabH (tf.map fun p => (He.cT K p).2) H) (fun v _ => v = .bl true) fun _ _ _ => False) ∧
        ∀ base : Heap, TabBs tf K mg base → FnG l.prog w K mg base (L2C.CX l.prog w) k fa fd [x] sp) :
    PySem.W.WalkO q loose XP YP l.row.toRowW d [] (fun f vs => PySem.call f vs) := by
  refine Att.attach_callB hn hdf fun w s₀ s₁ mg mb fa o pm cd doc a vs ns G Y ho hd hcd hmg hobj hints hlen hbits hg => ?_
  have TBh : ∀ K : Frag, K.In s₁.heap → (∀ p ∈ tf, PySem.W.codeHdIn K (He.cT K p).1 (He.cT K p).2 = true) → (∀ p ∈ tf, s₁.heap.get? (He.cT K p).2 = some { cls := .none, data := .fields #[] }) → TabBs tf K mg s₁.heap := fun K KX hd2 em p hp => by
    have hTp := em p hp
    refine NdefX.tabB_of_K KX (hd2 p hp) ?_ fun z => ?_
    · obtain ⟨bm, ob, b1, b2, b3, b4, b5, b6⟩ := G.T.bmain
      refine ⟨bm, ob, b1, b2, fun q => ?_, fun q => ?_, b3, b4, b5, b6⟩
      · obtain ⟨o2, es, ep, e, hdd, _⟩ := G.T.g
        rw [q, e] at b3
        cases b3
        rw [hdd] at b6
        cases b6
      · rw [q, hTp] at b3
        cases b3
        cases b6
    · obtain ⟨o2, es, ep, e, hdd, _⟩ := G.T.g
      rw [z, hTp] at e
      cases e
      cases hdd
  obtain ⟨K, fd, sp, KX, h1, h2, h3, hb, hsp, hF⟩ := F w mg fa _ Y G.T.g hmg TBh
  exact law_callGT KX G.T.g G.T.b G.T.builtins G.T.nolimit hg G.T.bmain h1 h2 h3 hobj hints (Nat.le_trans hlen hn2) hr hF hb fun H hO hS hT => hsp H a ns hlen hbits hO hS hT
end Bk
set_option Elab.async false
set_option linter.all false
set_option maxRecDepth 100000
set_option maxHeartbeats 4000000
namespace L2H
open PySem PySem.Spec PyProof.Rows L2
theorem RoomH.units {k : Nat} {A : Around} (r : RoomH k A) : A.units + 64 < cLine := by have := r.un; omega
end L2H
namespace Bk
open PySem PySem.Spec PyProof.Rows L2 PySem.NumText
open PySem.W (Frag)
open LamX
end Bk
namespace AM
open PySem PySem.Spec PyProof.Rows L2 Bk
open PySem.W (Frag)
abbrev amb [A : Amb] : Amb := A
theorem rds_ints {K : Frag} {G : Hp} : ∀ ns : List Int, Rds K G (ns.map D.int) (ns.map V.int)
  | [] => .nil
  | n :: ns => .cons (.int n) (rds_ints ns)
theorem tabH_in {ts : List Addr} {H : Hp} {b : Addr} (h : b ∈ ts) : tabH ts H b = some (.tbl #[]) := by
  unfold tabH
  rw [if_pos h]
theorem tabH_out {ts : List Addr} {H : Hp} (hn : ∀ b ∈ ts, H b = none) {b : Addr} {o : HO} (h : H b = some o) : tabH ts H b = some o := by
  unfold tabH
  rw [if_neg (fun z => by rw [hn b z] at h; cases h)]
  exact h
def cfgStart {K : Frag} (tf : TfL) (H : Hp) (hO : Only H) (hT : ∀ p ∈ tf, H (He.cT K p).2 = none) : @Cfg (ambOf tf) K :=
  @Cfg.mk (ambOf tf) K H [] [] (tabH (tf.map fun p => (He.cT K p).2) H)
    (fun b o e => tabH_out (fun b hb => by obtain ⟨p, hp, rfl⟩ := List.mem_map.mp hb; exact hT p hp) e) rfl List.nodup_nil (fun n a ob e => by simp at e) (fun n a ob e => by simp at e) [] (fun p hp => by cases hp) (fun p hp => by cases hp) (fun p hp => by cases hp) List.nodup_nil (fun p hp => by cases hp)
    (fun b o e ps z => by
      rcases hO b with q | ⟨ob, xs, q⟩
      · rw [e] at q; cases q
      · rw [e] at q; cases q; cases z)
    (fun p hp => by
      obtain ⟨q, hq, rfl⟩ := List.mem_map.mp hp
      exact LamX.TabS.nil (tabH_in (List.mem_map.mpr ⟨q, hq, rfl⟩)))
theorem sp_start {K : Frag} {tf : TfL} {F : F1} (H : Hp) (a : Addr) (ns : List Int) (hO : Only H) (hT : ∀ p ∈ tf, H (He.cT K p).2 = none) (hS : SqL K H a (ns.map V.int)) (h : ∃ S', F [.val (.fl (ns.map D.int))] [] = .ok (.val (.bl true)) S') :
    @aSp (ambOf tf) K F [.ref a] (tabH (tf.map fun p => (He.cT K p).2) H) (fun v _ => v = .bl true) (fun _ _ _ => False) := by
  obtain ⟨S', e⟩ := h
  refine ⟨cfgStart tf H hO hT, [.val (.fl (ns.map D.int))], rfl, @Rws.cons (ambOf tf) K _ _ _ _ _ (Rd.fl hS (rds_ints ns)) (@Rws.nil (ambOf tf) K _), ?_⟩
  show @AP (ambOf tf) K _ (F [.val (.fl (ns.map D.int))] []) _ _
  rw [e]
  intro c' _ _ u r
  cases r
  rfl
end AM
set_option Elab.async false
set_option linter.all false
set_option maxRecDepth 100000
set_option maxHeartbeats 4000000
namespace Bk
open PySem PySem.Spec PyProof.Rows L2 PySem.NumText
open PySem.W (Frag)
end Bk
namespace AM
open PySem PySem.Spec PyProof.Rows L2 Bk
open PySem.W (Frag)
end AM
namespace Bk
open PySem PySem.Spec PyProof.Rows L2
open PySem.W (Frag)
end Bk
namespace AM
open PySem PySem.Spec PyProof.Rows L2 Bk
open PySem.W (Frag)
end AM
set_option Elab.async false
set_option linter.all false
set_option maxRecDepth 100000
set_option maxHeartbeats 4000000
namespace AM
open PySem PySem.Spec PyProof.Rows L2 Bk PySem.NumText
open PySem.W (Frag)
variable {K : Frag} [Amb]
/-- what is shown d levels below -/
structure Lw (X : Cx) (A : Around) (d : Nat) : Prop where
  fr : A.frames = X.A.frames
  hd : A.handled = X.A.handled
  dp : A.depth ≤ X.A.depth + d
  un : A.units ≤ X.A.units + d
theorem Lw.under {X : Cx} {A : Around} {d : Nat} (h : Lw X A d) (args : Args) : Lw X (A.under (Code.builtin "list.__repr__.loop" args)) (d + 1) := by
  have w1 : (Code.builtin "list.__repr__.loop" args).weight = 1 := by kernel_rfl
  have w2 : (Code.builtin "list.__repr__.loop" args).envs = [] := by kernel_rfl
  have u := units_under_list_loop A args
  have h2 := h.dp
  have h3 := h.un
  refine ⟨?_, h.hd, ?_, by omega⟩
  · unfold Around.under
    simp only [w2]
    exact h.fr
  · unfold Around.under
    simp only [w1]
    omega
theorem Lw.in1 {X : Cx} {A : Around} {d : Nat} (h : Lw X A d) : Lw X A.in1 (d + 1) := ⟨h.fr, h.hd, Nat.le_succ_of_le h.dp, Nat.succ_le_succ h.un⟩
end AM
set_option Elab.async false
set_option linter.all false
set_option maxRecDepth 100000
set_option maxHeartbeats 4000000
namespace Bk
open PySem PySem.Spec PyProof.Rows L2 PySem.NumText SeqAt
open PySem.W (Frag)
end Bk
namespace Bk
open PySem PySem.Spec PyProof.Rows L2 PySem.NumText SeqAt
open PySem.W (Frag)
end Bk
namespace AM
open PySem PySem.Spec PyProof.Rows L2 Bk
open PySem.W (Frag)
end AM
set_option Elab.async false
set_option linter.all false
set_option maxRecDepth 100000
set_option maxHeartbeats 4000000
namespace AM
open PySem PySem.Spec PyProof.Rows L2 Bk
open PySem.W (Frag)
open L2H
end AM
set_option Elab.async false
set_option linter.all false
set_option maxRecDepth 100000
set_option maxHeartbeats 4000000
namespace Bk
open PySem PySem.Spec PyProof.Rows L2
open PySem.W (Frag)
end Bk
namespace AM
open PySem PySem.Spec PyProof.Rows L2 Bk
open PySem.W (Frag)
variable {K : Frag} [A : Amb]
def aEW (K : Frag) (W : WX) (f : ME) : TE := fun σ H Q => aE K (fun cls d H' => W cls d σ H') f σ H Q
def aAW (K : Frag) (W : WX) (fs : MA) : TA := fun σ H Q => aA K (fun cls d H' => W cls d σ H') fs σ H Q
def aSW (K : Frag) (W : WX) (f : MS) : TS := fun D σ H => aS K (fun cls d H' => W cls d σ H') f D σ H
section
variable {X : Cx} {W : WX} {f : ME} {fs : MA} {e : Expr} {es : List Expr} {pos : Pos} {k : Nat} {ps : List Str} {F : F1}
/-- what raises nothing -/
theorem deW (h : ∀ E : XK, PE X e (aE K E f)) : PE X e (aEW K W f) := ⟨fun pins s σ H Q I z => (h _).run pins s σ H Q I z⟩
theorem daW (h : ∀ E : XK, PA X es (aA K E fs)) : PA X es (aAW K W fs) := ⟨fun pos pins s σ H Q I z => (h _).run pos pins s σ H Q I z⟩
theorem da_consW (ha : PE X e (aEW K W f)) (hr : PA X es (aAW K W fs)) (hs : starEach (e :: es) X.env = (false, eval e X.env) :: starEach es X.env := by rfl) : PA X (e :: es) (aAW K W (cCons f fs)) :=
  (pa_cons ha hr hs).weak fun σ H Q h => by
    obtain ⟨c, ε, rfl, re, h⟩ := h
    refine ea re h fun c1 w1 u1 l1 r1 h1 => ?_
    refine aa (re.mono l1) h1 fun c2 w2 u2 l2 r2 h2 => ?_
    exact h2.ok (.cons (r1.mono l2) r2)
theorem dss_oneW {st : Stmt} {b : MS} (h : PS X st (aSW K W b)) : PSs X [st] (aSW K W b) := pss_one h
end
def sTryE (T : ExcT) (ε0 : Ev) : List MC → Str → List (Str × D) → Sto → Rt
  | [], C, fs, S => .ex C fs S
  | (ds, i, s) :: r, C, fs, S => match isaX T C ds with
    | some true => unE i (s (onE i C fs (ε0.map noX)) S)
    | some false => sTryE T ε0 r C fs S
    | none => .bad
def sTryW (T : ExcT) (b : MS) (hs : List MC) : MS := fun ε S => match b ε S with
  | .ex C fs S' => sTryE T ε hs C fs S'
  | r => r
section
variable {X : Cx} {E : XK}
theorem rw_up (A : Amb) (h : Option (Addr × Str × Option Addr)) {c : @Cfg A K} {w : W} {v : V} (hw : (∀ C fs, w ≠ .exc C fs) ∧ w ≠ .clo) (r : @Rw A K c w v) : @Rw (A.on h) K (Cfg.up A h c) w v := by
  cases w with
  | val d => exact r
  | ref n => exact r
  | rws ns => exact r
  | exc C fs => exact absurd rfl (hw.1 C fs)
  | clo => exact absurd rfl hw.2
theorem re_up (A : Amb) (h : Option (Addr × Str × Option Addr)) {c : @Cfg A K} {ε : Ev} {σ : L2.St} (r : @Re A K c ε σ) : @Re (A.on h) K (Cfg.up A h c) (ε.map noX) σ := @Re.mk (A.on h) K _ _ _ (by rw [List.length_map]; exact @Re.len A K _ _ _ r) fun j w e => by
  obtain ⟨e1, e2⟩ := noX_get e
  obtain ⟨v, e3, e4⟩ := @Re.at_ A K _ _ _ r j w e1
  exact ⟨v, e3, rw_up A h e2 e4⟩
/-- a suite runs, the names known -/
theorem suite_ofE {c : Cfg K} {C : Str} {fs : List (Str × D)} {a : Addr} {d : Option Addr} {i : Option Nat} {s : MS} {S' : Sto} {ε0 : Ev} {D : Ends} {σ : L2.St} (r0 : Re c ε0 σ) (es : c.S = S') (hx : HasX K c.G c.H fs d)
    (h : APs c (unE i (s (onE i C fs (ε0.map noX)) S')) D E) : tsOf K (suE i E) s a (.ref (He.ga K C)) d (offE i D) (onS i a σ) c.H := by
  refine ⟨C, rfl, ?_⟩
  -- the dict is known
  obtain ⟨c1, l1, s1, h1, x1⟩ : ∃ c1 : Cfg K, c.le c1 ∧ c1.S = c.S ∧ c1.H = c.H ∧ HasX K c1.G c1.G fs d := by
    cases d with
    | none => exact ⟨c, .refl, rfl, rfl, hx⟩
    | some d =>
      obtain ⟨gs, g1, g2⟩ := hx
      exact ⟨c.knowX d gs g1, c.knowX_le g1, rfl, rfl, gs, upd_same, g2.mono (c.knowX_same g1)⟩
  have r1 : Re c1 ε0 σ := r0.mono l1
  rw [← h1]
  subst es
  rw [← s1] at h
  have h : APs c1 (unE i (s (onE i C fs (ε0.map noX)) c1.S)) D E := APs.up h l1
  clear l1 s1 h1 hx r0
  let hh : Option (Addr × Str × Option Addr) := some (a, C, d)
  let c2 : @Cfg (A.on hh) K := Cfg.up A hh c1
  have rw2 : @Rw (A.on hh) K c2 (.exc C fs) (.ref a) := by
    refine ⟨a, d, rfl, rfl, ?_⟩
    cases d with
    | none => exact x1
    | some d => exact x1
  have re2 : @Re (A.on hh) K c2 (onE i C fs (ε0.map noX)) (onS i a σ) := by
    have re0 : @Re (A.on hh) K c2 (ε0.map noX) σ := re_up A hh r1
    cases i with
    | none => exact re0
    | some i => exact @Re.set (A.on hh) K c2 _ _ _ _ re0 i rw2
  refine ⟨c2, onE i C fs (ε0.map noX), rfl, re2, ?_⟩
  show @APs (A.on hh) K c2 (s (onE i C fs (ε0.map noX)) c1.S) (offE i D) (suE i E)
  have back := fun {c3 : @Cfg (A.on hh) K} {ε3 : Ev} {σ3 : L2.St} (r : @Re (A.on hh) K c3 ε3 σ3) => re_dn A hh r i
  cases q : s (onE i C fs (ε0.map noX)) c1.S with
  | nx ε3 S3 =>
    rw [q] at h
    intro c3 l3 e3 σ3 r3
    have z := h (Cfg.dn A hh c3) (Cfg.dn_le A hh l3) e3 _ (back r3)
    cases i with
    | none => exact z
    | some i => exact z
  | bk ε3 S3 =>
    rw [q] at h
    intro c3 l3 e3 σ3 r3
    have z := h (Cfg.dn A hh c3) (Cfg.dn_le A hh l3) e3 _ (back r3)
    cases i with
    | none => exact z
    | some i => exact z
  | ct ε3 S3 =>
    rw [q] at h
    intro c3 l3 e3 σ3 r3
    have z := h (Cfg.dn A hh c3) (Cfg.dn_le A hh l3) e3 _ (back r3)
    cases i with
    | none => exact z
    | some i => exact z
  | rt w S3 =>
    rw [q] at h
    intro c3 l3 e3 u r3
    have nw : (∀ C fs, w ≠ .exc C fs) ∧ w ≠ .clo := ⟨fun C fs z => by rw [z] at h; exact h, fun z => by rw [z] at h; exact h⟩
    have z : D.rt u (Cfg.dn A hh c3).H := by
      cases w with
      | exc C fs => exact absurd rfl (nw.1 C fs)
      | clo => exact absurd rfl nw.2
      | val d => exact h (Cfg.dn A hh c3) (Cfg.dn_le A hh l3) e3 u (rw_dn A hh nw r3)
      | ref n => exact h (Cfg.dn A hh c3) (Cfg.dn_le A hh l3) e3 u (rw_dn A hh nw r3)
      | rws n => exact h (Cfg.dn A hh c3) (Cfg.dn_le A hh l3) e3 u (rw_dn A hh nw r3)
    cases i with
    | none => exact z
    | some i => exact z
  | ex C' fs' S3 =>
    rw [q] at h
    cases i with
    | none =>
      intro c3 l3 e3
      exact h (Cfg.dn A hh c3) (Cfg.dn_le A hh l3) e3
    | some i => exact h.elim
  | bad => rw [q] at h; exact h.elim
theorem tryE_of {T : ExcT} {hs : List Str} (XT : ExOk K T hs) {ε0 : Ev} {D : Ends} {C : Str} {fs : List (Str × AM.D)} {d : Option Addr} {c : Cfg K} (hx : HasX K c.G c.H fs d) :
    ∀ {l : List MC}, (∀ p ∈ l, ∀ x ∈ p.1, x ∈ hs) → APs c (sTryE T ε0 l C fs c.S) D E → ∀ σ : L2.St, Re c ε0 σ → wH (fun cls d _ H => E cls d H) D (l.map (clsOf K E)) (.ref (He.ga K C)) d σ c.H
  | [], _, h, σ, _ => by
    have z := h c .refl rfl
    cases d with
    | none => exact z.2 hx
    | some d =>
      obtain ⟨gs, g1, g2⟩ := hx
      exact z.1 d gs g1 g2
  | (ds, i, s) :: r, hm, h, σ, hl => by
    unfold sTryE at h
    have hd := hm _ List.mem_cons_self
    split at h
    · rename_i e
      exact ⟨true, mOf_of XT hd e, fun _ a ha => suite_ofE hl rfl hx h, (fun z => by cases z)⟩
    · rename_i e
      exact ⟨false, mOf_of XT hd e, (fun z => by cases z), fun _ => tryE_of XT hx (fun p hp => hm p (List.mem_cons_of_mem _ hp)) h σ hl⟩
    · exact h.elim
end
end AM
set_option Elab.async false
set_option linter.all false
set_option maxRecDepth 100000
set_option maxHeartbeats 4000000
namespace AM
open PySem PySem.Spec PyProof.Rows L2 Bk
open PySem.W (Frag)
end AM
set_option Elab.async false
set_option linter.all false
set_option maxRecDepth 100000
set_option maxHeartbeats 4000000
namespace AM
open PySem PySem.Spec PyProof.Rows L2 Bk
open PySem.W (Frag)
end AM
set_option Elab.async false
set_option linter.all false
set_option maxRecDepth 100000
set_option maxHeartbeats 4000000
namespace Bk
open PySem PySem.Spec PyProof.Rows L2
open PySem.W (Frag)
end Bk
namespace AM
open PySem PySem.Spec PyProof.Rows L2 Bk
open PySem.W (Frag)
end AM
set_option Elab.async false
set_option linter.all false
set_option maxRecDepth 100000
set_option maxHeartbeats 4000000
namespace AM
open PySem PySem.Spec PyProof.Rows L2 Bk
open PySem.W (Frag)
variable {K : Frag} [Amb]
/-- C(e, ..) -/
def cXmk (C : Str) (fl : List Str) (fs : MA) : ME := fun ε S => (fs ε S).bind fun ws S => match toDs ws S with
  | some (ds, S) => if ds.length = fl.length ∧ ds.length ≤ 1000 then .ok (.val (.xv C (fl.zip ds).reverse)) S else .bad
  | none => .bad
/-- C(k = e, ..) -/
def cXmkK (C : Str) (fl : List Str) (m : Nat) (g : List D → List D) (fs : MA) : ME := fun ε S => (fs ε S).bind fun ws S => match toDs ws S with
  | some (ds, S) => if (ds.length = m ∧ (g ds).length = fl.length) ∧ ds.length ≤ 1000 then .ok (.val (.xv C (fl.zip (g ds)).reverse)) S else .bad
  | none => .bad
def cXmk0 (C : Str) : ME := fun _ S => .ok (.val (.xv C [])) S
section
variable {X : Cx} {E : XK} {pos p : Pos} {e : Expr} {es : List Expr} {kws : List Keyword} {fs : MA} {x : Str} {fI : Addr} {ps fl ks : List Str} {B NB Ii : String} {tl : List Value}
theorem de_xmk {g : {α : Type} → List α → List α} (BA : EBa B NB Ii tl) (hK : X.K = K) (O : XOkK X.prog X.w K X.mg X.base (He.ga K x) fI NB tl ps (spXf (He.ga K x) fl) ks g) (hr : Room 2 X.A) (hg : Gl X x) (hm : X.mg x = some (.ref (He.ga K x)))
    (ha : PA X (e :: es) (aA K E fs)) (hdb : (x == ("__debug__" : Str)) = false := by decide) (he : starEach (e :: es) X.env = (false, eval e X.env) :: starEach es X.env := by rfl) (hpl : (backTo pos (starEach es X.env)).any (·.1) = false := by rfl) :
    PE X (.Call (.Name x p) (e :: es) [] pos) (aE K E (cXmk x fl fs)) := by
  subst hK
  obtain ⟨fd, F, b, _⟩ := O.ok
  refine (pe_xmk BA O.oex O.ini O.tyI F hr b hg hm ha hdb he hpl).weak fun σ H Q h => ?_
  obtain ⟨c, ε, rfl, re, h⟩ := h
  refine ae re h fun c1 ws us l1 r1 h1 => ?_
  split at h1
  · rename_i ds S q
    obtain ⟨c2, l2, rfl, e2, r2⟩ := toDs_ok q r1
    split at h1
    · rename_i hl
      refine ⟨by rw [← r2.length]; exact hl.2, fun a ha => ⟨a, us, rfl, by rw [← r2.length]; exact hl.1, upd_same, fun dx hn ne => ⟨rfl, ?_⟩⟩⟩
      rw [upd_ne ne] at hn
      rw [Bk.upd_upd]
      rw [← e2] at ha hn ⊢
      exact (h1.up l2).xv (rfs_zipX r2).rev ha hn ne
    · exact h1.elim
  · exact h1.elim
theorem de_xmkK {g : {α : Type} → List α → List α} (BA : EBa B NB Ii tl) (hK : X.K = K) (O : XOkK X.prog X.w K X.mg X.base (He.ga K x) fI NB tl ps (spXf (He.ga K x) fl) ks g) (hr : Room 2 X.A) (hg : Gl X x) (hm : X.mg x = some (.ref (He.ga K x)))
    (hgr : ∀ {G : Hp} {ds : List D} {us : List V}, Rds K G ds us → Rds K G (g ds) (g us)) (hkw : PK X kws (aA K E fs))
    (hall : (backToKw pos (keywordEach kws X.env)).all (·.1.isSome) = true := by rfl) (hks : (backToKw pos (keywordEach kws X.env)).filterMap (·.1) = ks := by rfl) (hdb : (x == ("__debug__" : Str)) = false := by decide)
    (hpl : ((backTo pos (starEach [] X.env)).any (·.1) || (backToKw pos (keywordEach kws X.env)).any (·.1.isNone)) = false := by rfl) :
    PE X (.Call (.Name x p) [] kws pos) (aE K E (cXmkK x fl ks.length (fun l => g l) fs)) := by
  subst hK
  obtain ⟨fd, F, _, b⟩ := O.ok
  refine (pe_xmkK BA O.oex O.ini O.tyI F hr b hg hm hkw hall hks hdb hpl).weak fun σ H Q h => ?_
  obtain ⟨c, ε, rfl, re, h⟩ := h
  refine ae re h fun c1 ws us l1 r1 h1 => ?_
  split at h1
  · rename_i ds S q
    obtain ⟨c2, l2, rfl, e2, r2⟩ := toDs_ok q r1
    split at h1
    · rename_i hl
      have r3 := hgr r2
      refine ⟨by rw [← r2.length]; exact hl.1.1, by rw [← r2.length]; exact hl.2, fun a ha => ⟨a, g us, rfl, by rw [← r3.length]; exact hl.1.2, upd_same, fun dx hn ne => ⟨rfl, ?_⟩⟩⟩
      rw [upd_ne ne] at hn
      rw [Bk.upd_upd]
      rw [← e2] at ha hn ⊢
      exact (h1.up l2).xv (rfs_zipX r3).rev ha hn ne
    · exact h1.elim
  · exact h1.elim
theorem rds_id {G : Hp} {ds : List D} {us : List V} (r : Rds K G ds us) : Rds K G (idG ds) (idG us) := r
theorem rds_sw {G : Hp} {ds : List D} {us : List V} (r : Rds K G ds us) : Rds K G (swG ds) (swG us) := by
  match ds, us, r with
  | [], [], .nil => exact .nil
  | [_], [_], .cons h .nil => exact .cons h .nil
  | [_, _], [_, _], .cons h (.cons h2 .nil) => exact .cons h2 (.cons h .nil)
  | _ :: _ :: _ :: _, _ :: _ :: _ :: _, .cons h (.cons h2 (.cons h3 r)) => exact .cons h (.cons h2 (.cons h3 r))
theorem de_xmk0 (BA : EBa B NB Ii tl) (hK : X.K = K) (q : PySem.W.excIn K (He.ga K x) tl NB = true) (kC : PySem.W.keepIn K (.ref (He.ga K x)) = true) (hg : Gl X x) (hm : X.mg x = some (.ref (He.ga K x))) (hdb : (x == ("__debug__" : Str)) = false := by decide) :
    PE X (.Call (.Name x p) [] [] pos) (aE K E (cXmk0 x)) := by
  subst hK
  refine (pe_xmk0 BA q hm kC hg hdb).weak fun σ H Q h => ?_
  obtain ⟨c, ε, rfl, re, h⟩ := h
  exact fun a ha => AP.xv0 h ha
def isVW (T : ExcT) (TB : ExcB) (Ds : List Str) (Bs : List String) : List W → Sto → Rs W := fun ws S => match ws with
  | [.val (.xv C _), .val (.cls D)] => if Ds.contains D then (match T.lookup C with | some anc => .ok (.val (.bl (anc.contains D))) S | none => .bad) else .bad
  | [.val (.xv C _), .val (.ty b)] => if Bs.contains b then (match TB.lookup C with | some bs => .ok (.val (.bl (bs.contains b))) S | none => .bad) else .bad
  | _ => .bad
theorem rd_xv {G : Hp} {C : Str} {gs : List (Str × D)} {v : V} (r : Rd K G (.xv C gs) v) : ∃ a d, v = .ref a ∧ G a = some (exo a (He.ga K C) d) ∧ (∀ dd, d = some dd → ∃ fs, G dd = some (exd dd fs) ∧ Rfs K G gs fs) ∧ (d = none → gs = []) := by
  cases r with
  | xv h h2 r => exact ⟨_, _, rfl, h, (fun dd e => by cases e; exact ⟨_, h2, r⟩), (fun z => by cases z)⟩
  | xv0 h => exact ⟨_, _, rfl, h, (fun dd e => by cases e), fun _ => rfl⟩
theorem ca_isV {T : ExcT} {TB : ExcB} {Ds : List Str} {Bs : List String} (hK : X.K = K) (O : IsOk K T TB Ds Bs) : CallR X (.builtin "isinstance") (rAs K E (isVW T TB Ds Bs)) := by
  subst hK
  intro pins s σ H xs us Q I rx h
  obtain ⟨c, ws, rfl, rws, h⟩ := h
  unfold isVW at h
  split at h
  · rename_i C' fs D
    split at h
    · rename_i hD
      split at h
      · rename_i anc hT
        cases rws with
        | cons r1 rr =>
          cases rr with
          | cons r2 r3 =>
          cases r3
          obtain ⟨a, d, rfl, ea, ed, _⟩ := rd_xv r1
          cases r2
          match us, rx with
          | [_, _], .cons u1 (.cons u2 .nil) =>
            obtain rfl : _ = Value.ref a := u1
            obtain rfl : _ = Value.ref (He.ga X.K D) := u2
            obtain ⟨x1, x2⟩ := O.ec _ _ hT
            exact isXv_of x1 I (c.sub _ _ ea) (fun dd e => by obtain ⟨fs, g1, _⟩ := ed dd e; exact ⟨fs, c.sub _ _ g1⟩) (x2 D (List.contains_iff_mem.mp hD)) fun tk => ⟨.bl _, _, I.kept (t' := tk) fun _ _ z => z, rfl, AP.ok h (Rd.bl _)⟩
      · exact h.elim
    · exact h.elim
  · rename_i C' fs b
    split at h
    · rename_i hD
      split at h
      · rename_i bs hT
        cases rws with
        | cons r1 rr =>
          cases rr with
          | cons r2 r3 =>
          cases r3
          obtain ⟨a, d, rfl, ea, ed, _⟩ := rd_xv r1
          cases r2
          match us, rx with
          | [_, _], .cons u1 (.cons u2 .nil) =>
            obtain rfl : _ = Value.ref a := u1
            obtain rfl : _ = Value.type b := u2
            obtain ⟨x1, x2⟩ := O.eb _ _ hT
            exact isXv_of x1 I (c.sub _ _ ea) (fun dd e => by obtain ⟨fs, g1, _⟩ := ed dd e; exact ⟨fs, c.sub _ _ g1⟩) (x2 b (List.contains_iff_mem.mp hD)) fun tk => ⟨.bl _, _, I.kept (t' := tk) fun _ _ z => z, rfl, AP.ok h (Rd.bl _)⟩
      · exact h.elim
    · exact h.elim
  · exact h.elim
def cXvf (ns : List Str) (f : Str) (fa : ME) : ME := fun ε S => (fa ε S).bind fun w S => match w with
  | .val (.xv C fs) => if ns.contains C then (match fs.lookup f with | some x => .ok (.val x) S | none => .bad) else .bad
  | _ => .bad
theorem de_xvf {ns : List Str} {f : Str} {fa : ME} (hK : X.K = K) (O : XfOk K ns f) (he : PE X e (aE K E fa)) (hb : attributeBase e f X.env (eval e X.env) = eval e X.env := by rfl) : PE X (.Attribute e f pos) (aE K E (cXvf ns f fa)) := by
  subst hK
  refine (pe_xget he hb).weak fun σ H Q h => ?_
  obtain ⟨c, ε, rfl, re, h⟩ := h
  refine ee re h fun c1 w u l1 r1 h1 => ?_
  split at h1
  · rename_i C fs
    split at h1
    · rename_i hC
      split at h1
      · rename_i y hy
        obtain ⟨a, d, rfl, ea, ed, en⟩ := rd_xv r1
        cases d with
        | none => rw [en rfl] at hy; cases hy
        | some dd =>
          obtain ⟨gs, g1, g2⟩ := ed dd rfl
          obtain ⟨v, v1, v2⟩ := g2.look hy
          obtain ⟨x1, x2⟩ := O.at_ C (List.contains_iff_mem.mp hC)
          exact ⟨a, _, dd, gs, v, rfl, x1, x2, c1.sub _ _ ea, c1.sub _ _ g1, v1, AP.ok h1 v2⟩
      · exact h1.elim
    · exact h1.elim
  · exact h1.elim
end
section
variable {X : Cx} {W : WX} {pos p pos2 : Pos} {e : Expr} {es : List Expr} {fs : MA} {x : Str} {fI : Addr} {ps fl : List Str} {B NB Ii : String} {tl : List Value}
theorem ds_raiseW (BA : EBa B NB Ii tl) (hK : X.K = K) (O : XOkG X.prog X.w K X.mg X.base (He.ga K x) fI NB tl ps (spXf (He.ga K x) fl)) (hc : X.calm = true) (tk : L2C.Takes X W) (hr : Room 2 X.A) (hg : Gl X x) (hm : X.mg x = some (.ref (He.ga K x)))
    (ha : PA X (e :: es) (aAW K W fs)) (hdb : (x == ("__debug__" : Str)) = false := by decide) (he : starEach (e :: es) X.env = (false, eval e X.env) :: starEach es X.env := by rfl) (hpl : (backTo pos (starEach es X.env)).any (·.1) = false := by rfl) :
    PS X (.Raise (some (.Call (.Name x p) (e :: es) [] pos)) none pos2) (aSW K W (sRaise x fl fs)) := by
  subst hK
  refine (L2C.ps_raise (pos := pos2) hc tk (pmk_x (p := p) (pos := pos) BA O hr hg hm ha hdb he hpl)).weak fun D σ H h => ?_
  obtain ⟨c, ε, rfl, re, h⟩ := h
  refine as re h fun c1 ws us l1 r1 h1 => ?_
  obtain ⟨q1, q2, q3⟩ := raise_of (x := x) r1 h1
  exact made_end (Q := fun cls d H' => W cls d σ H') q1 q2 q3
end
section
variable {X : Cx} {E : XK}
theorem ds_tryV {T : ExcT} {hs : List Str} {body : List Stmt} {h₀ : ExceptHandler} {hds : List ExceptHandler} {l : List MC} {pos : Pos} {b : MS} (hK : X.K = K) (XT : ExOk K T hs) (hst : X.stack = X.env :: X.outer) (hf : X.env.frame = some X.env.locals) (hN : X.N.Nodup)
    (tk : L2C.Takes X (fun cls d _ H => E cls d H)) (hpa : ∀ hd : Option Value, PassesOwnAt (model X.prog X.w) (X.A.mark hd) X.A X.env X.xe)
    (hb : ∀ (W : WX) (pn : List (Addr × Obj)) (xe : Value → Shared → Prop), L2C.Takes (X.tr pn xe) W → PassesOwn (model X.prog X.w) X.A X.env xe → PSs (X.tr pn xe) body (aSW K W b)) (hh : HdsA X K hs E (h₀ :: hds) l) :
    PS X (.Try body (h₀ :: hds) [] [] pos) (aS K E (sTryW T b l)) := by
  refine (ps_tryG (tb := fun W => aSW K W b) hst hf hN tk hpa hb (hdsA_ok hh)).weak fun D σ H h => ?_
  obtain ⟨c, ε, rfl, re, h⟩ := h
  refine ⟨c, ε, rfl, re, ?_⟩
  unfold sTryW at h
  cases q : b ε c.S with
  | nx ε' S => rw [q] at h; exact h
  | bk ε' S => rw [q] at h; exact h
  | ct ε' S => rw [q] at h; exact h
  | rt w S => rw [q] at h; exact h
  | bad => rw [q] at h; exact h
  | ex C fs S =>
    rw [q] at h
    intro c' l' es
    have h' : APs c' (sTryE T ε l C fs c'.S) D E := by rw [es]; exact APs.up h l'
    exact ⟨fun d gs g1 g2 _ => tryE_of XT (d := some d) ⟨gs, g1, g2⟩ (hdsA_mem hh) h' σ (re.mono l'), fun e _ => tryE_of XT (d := none) e (hdsA_mem hh) h' σ (re.mono l')⟩
end
section
variable {X : Cx} {E : XK}
theorem call_repr_st : CallR X (.builtin "repr") (fun xs H Q => ∃ x : Str, xs = [.str x] ∧ (reprText x).length ≤ sizeLine ∧ Q (.str (reprText x)) H) := by
  intro pins s σ H xs us Q I r h
  obtain ⟨x, rfl, hl, q⟩ := h
  obtain ⟨u, rfl, ru⟩ := vals1 r
  obtain ⟨t, rfl⟩ : ∃ t, u = Value.str x t := ru
  exact PySem.P.repr_of_str ⟨.str _, H, I.tok _, ⟨_, rfl⟩, q⟩ hl
def reprD5 (l : List D) : Option D := match l with
  | [.str x] => if (reprText x).length ≤ sizeLine then some (.str (reprText x)) else none
  | l => reprD2 l
theorem ca_repr5 (hK : X.K = K) (hG : X.A.guards = some []) (hu : X.A.units + 64 < cLine) : CallR X (.builtin "repr") (rAs K E (aFn reprD5)) := by
  subst hK
  refine CallR.weak (CallR.or (ca_repr2 (E := E) rfl hG hu) call_repr_st) fun u H Q h => ?_
  obtain ⟨c, x, rfl, rx, h⟩ := h
  unfold aFn at h
  split at h
  · rename_i l el
    split at h
    · rename_i d e
      unfold reprD5 at e
      split at e
      · rename_i y
        split at e
        · rename_i hl
          cases e
          have rc := views_ok el rx
          obtain ⟨u, rfl, r⟩ := rc1 rc
          cases r
          exact .inr ⟨_, rfl, hl, AP.str h hl⟩
        · cases e
      · exact .inl ⟨c, x, rfl, rx, by unfold aFn; rw [el]; simp only [e]; exact h⟩
    · exact h.elim
  · exact h.elim
end
end AM
set_option Elab.async false
set_option linter.all false
set_option maxRecDepth 100000
set_option maxHeartbeats 4000000
namespace Bk
open PySem
def m__law_bases : AM.MS := (AM.sSeq (AM.sAsg (AM.gNm 1) (AM.cLst (AM.cCons (AM.cBi (AM.isVW excT excU isDs isBs) (AM.cCons (AM.cVar 0) (AM.cCons (AM.cC (.cls "NotRight")) AM.cNil))) (AM.cCons (AM.cBi (AM.isVW excT excU isDs isBs) (AM.cCons (AM.cVar 0) (AM.cCons (AM.cC (.cls "NotThere")) AM.cNil))) (AM.cCons (AM.cBi (AM.isVW excT excU isDs isBs) (AM.cCons (AM.cVar 0) (AM.cCons (AM.cC (.cls "CannotBe")) AM.cNil))) AM.cNil))))) (AM.sSeq (AM.sAsg (AM.gNm 1) (AM.cBin (AM.aBin AM.addD) (AM.cVar 1) (AM.cLst (AM.cCons (AM.cBi (AM.isVW excT excU isDs isBs) (AM.cCons (AM.cVar 0) (AM.cCons (AM.cC (.ty "ValueError")) AM.cNil))) (AM.cCons (AM.cBi (AM.isVW excT excU isDs isBs) (AM.cCons (AM.cVar 0) (AM.cCons (AM.cC (.ty "LookupError")) AM.cNil))) (AM.cCons (AM.cBi (AM.isVW excT excU isDs isBs) (AM.cCons (AM.cVar 0) (AM.cCons (AM.cC (.ty "ArithmeticError")) AM.cNil))) AM.cNil)))))) (AM.sRet (AM.cBin (AM.aBin AM.addD) (AM.cVar 1) (AM.cLst (AM.cCons (AM.cBi (AM.isVW excT excU isDs isBs) (AM.cCons (AM.cVar 0) (AM.cCons (AM.cC (.ty "KeyError")) AM.cNil))) (AM.cCons (AM.cBi (AM.isVW excT excU isDs isBs) (AM.cCons (AM.cVar 0) (AM.cCons (AM.cC (.ty "IndexError")) AM.cNil))) (AM.cCons (AM.cBi (AM.isVW excT excU isDs isBs) (AM.cCons (AM.cVar 0) (AM.cCons (AM.cC (.ty "ZeroDivisionError")) AM.cNil))) AM.cNil))))))))
def F__law_bases : AM.F1 := AM.callF false 2 1 m__law_bases
def m__law_due : AM.MS := (AM.sSeq (AM.sPar 1 2 (AM.cCons (AM.cBin (AM.aBin AM.ltD) (AM.cVar 0) (AM.cC (.int 18))) (AM.cCons (AM.cChain (AM.aBin AM.ltD) (AM.aBin AM.ltD) (AM.cC (.int 17)) (AM.cVar 0) (AM.cC (.int 20))) AM.cNil))) (AM.sSeq (AM.sAsg (AM.gNm 3) (AM.cAndV (AM.cNotV (AM.cVar 1)) (AM.cNotV (AM.cVar 2)))) (AM.sRet (AM.cBin (AM.aBin AM.addD) (AM.cBin (AM.aBin AM.mulD) (AM.cLst (AM.cCons (AM.cVar 1) (AM.cCons (AM.cVar 2) (AM.cCons (AM.cVar 3) AM.cNil)))) (AM.cC (.int 2))) (AM.cBin (AM.aBin AM.mulD) (AM.cLst (AM.cCons (AM.cC (.bl false)) AM.cNil)) (AM.cC (.int 3)))))))
def F__law_due : AM.F1 := AM.callF false 4 1 m__law_due
def m__law_given : AM.MS := (AM.sSeq (AM.sAsg (AM.gNm 1) (AM.cLst (AM.cCons (AM.cXmk "InvalidText" ["given"] (AM.cCons (AM.cVar 0) AM.cNil)) (AM.cCons (AM.cXmk "InvalidSlots" ["given"] (AM.cCons (AM.cVar 0) AM.cNil)) (AM.cCons (AM.cXmk "InvalidName" ["given"] (AM.cCons (AM.cVar 0) AM.cNil)) (AM.cCons (AM.cXmk "InvalidAsk" ["given"] (AM.cCons (AM.cVar 0) AM.cNil)) AM.cNil)))))) (AM.sSeq (AM.sAsg (AM.gNm 1) (AM.cBin (AM.aBin AM.addD) (AM.cVar 1) (AM.cLst (AM.cCons (AM.cXmk "InvalidFact" ["given"] (AM.cCons (AM.cVar 0) AM.cNil)) (AM.cCons (AM.cXmk "InvalidRecord" ["given"] (AM.cCons (AM.cVar 0) AM.cNil)) (AM.cCons (AM.cXmk "InvalidWord" ["given"] (AM.cCons (AM.cVar 0) AM.cNil)) (AM.cCons (AM.cXmk "InvalidWish" ["given"] (AM.cCons (AM.cVar 0) AM.cNil)) AM.cNil))))))) (AM.sSeq (AM.sAsg (AM.gNm 1) (AM.cBin (AM.aBin AM.addD) (AM.cVar 1) (AM.cLst (AM.cCons (AM.cXmk "InvalidClaim" ["given"] (AM.cCons (AM.cVar 0) AM.cNil)) (AM.cCons (AM.cXmk "InvalidPlace" ["given"] (AM.cCons (AM.cVar 0) AM.cNil)) (AM.cCons (AM.cXmk "NotATown" ["given"] (AM.cCons (AM.cVar 0) AM.cNil)) (AM.cCons (AM.cXmk "NotALog" ["given"] (AM.cCons (AM.cVar 0) AM.cNil)) AM.cNil))))))) (AM.sSeq (AM.sAsg (AM.gNm 1) (AM.cBin (AM.aBin AM.addD) (AM.cVar 1) (AM.cLst (AM.cCons (AM.cXmk "InvalidStands" ["index"] (AM.cCons (AM.cVar 0) AM.cNil)) (AM.cCons (AM.cXmk "InvalidRoads" ["index"] (AM.cCons (AM.cVar 0) AM.cNil)) (AM.cCons (AM.cXmk "InvalidFacts" ["index"] (AM.cCons (AM.cVar 0) AM.cNil)) (AM.cCons (AM.cXmk "InvalidReadings" ["index"] (AM.cCons (AM.cVar 0) AM.cNil)) AM.cNil))))))) (AM.sSeq (AM.sAsg (AM.gNm 1) (AM.cBin (AM.aBin AM.addD) (AM.cVar 1) (AM.cLst (AM.cCons (AM.cXmk "InvalidWishes" ["index"] (AM.cCons (AM.cVar 0) AM.cNil)) (AM.cCons (AM.cXmk "InvalidChanges" ["index"] (AM.cCons (AM.cVar 0) AM.cNil)) (AM.cCons (AM.cXmk "UnknownName" ["given"] (AM.cCons (AM.cVar 0) AM.cNil)) (AM.cCons (AM.cXmk "InUse" ["index"] (AM.cCons (AM.cVar 0) AM.cNil)) AM.cNil))))))) (AM.sSeq (AM.sAsg (AM.gNm 1) (AM.cBin (AM.aBin AM.addD) (AM.cVar 1) (AM.cLst (AM.cCons (AM.cXmk0 "Impossible") (AM.cCons (AM.cXmk0 "OtherTown") (AM.cCons (AM.cXmk "TooMany" ["most"] (AM.cCons (AM.cVar 0) AM.cNil)) (AM.cCons (AM.cXmk "Contradicts" ["given"] (AM.cCons (AM.cVar 0) AM.cNil)) (AM.cCons (AM.cXmk0 "NothingToUndo") AM.cNil)))))))) (AM.sSeq (AM.sAsg (AM.gNm 1) (AM.cBin (AM.aBin AM.addD) (AM.cVar 1) (AM.cLst (AM.cCons (AM.cXmk "Broken" ["index", "shown"] (AM.cCons (AM.cVar 0) (AM.cCons (AM.cC (.int 7)) AM.cNil))) AM.cNil)))) (AM.sSeq (AM.sAsg (AM.gNm 2) (AM.cLst (AM.cCons (AM.cXmkK "InvalidText" ["given"] (["given"] : List Str).length (fun l => Bk.idG l) (AM.cCons (AM.cVar 0) AM.cNil)) (AM.cCons (AM.cXmkK "InvalidSlots" ["given"] (["given"] : List Str).length (fun l => Bk.idG l) (AM.cCons (AM.cVar 0) AM.cNil)) (AM.cCons (AM.cXmkK "InvalidName" ["given"] (["given"] : List Str).length (fun l => Bk.idG l) (AM.cCons (AM.cVar 0) AM.cNil)) AM.cNil))))) (AM.sSeq (AM.sAsg (AM.gNm 2) (AM.cBin (AM.aBin AM.addD) (AM.cVar 2) (AM.cLst (AM.cCons (AM.cXmkK "InvalidAsk" ["given"] (["given"] : List Str).length (fun l => Bk.idG l) (AM.cCons (AM.cVar 0) AM.cNil)) (AM.cCons (AM.cXmkK "InvalidFact" ["given"] (["given"] : List Str).length (fun l => Bk.idG l) (AM.cCons (AM.cVar 0) AM.cNil)) (AM.cCons (AM.cXmkK "InvalidRecord" ["given"] (["given"] : List Str).length (fun l => Bk.idG l) (AM.cCons (AM.cVar 0) AM.cNil)) AM.cNil)))))) (AM.sSeq (AM.sAsg (AM.gNm 2) (AM.cBin (AM.aBin AM.addD) (AM.cVar 2) (AM.cLst (AM.cCons (AM.cXmkK "InvalidWord" ["given"] (["given"] : List Str).length (fun l => Bk.idG l) (AM.cCons (AM.cVar 0) AM.cNil)) (AM.cCons (AM.cXmkK "InvalidWish" ["given"] (["given"] : List Str).length (fun l => Bk.idG l) (AM.cCons (AM.cVar 0) AM.cNil)) (AM.cCons (AM.cXmkK "InvalidClaim" ["given"] (["given"] : List Str).length (fun l => Bk.idG l) (AM.cCons (AM.cVar 0) AM.cNil)) AM.cNil)))))) (AM.sSeq (AM.sAsg (AM.gNm 2) (AM.cBin (AM.aBin AM.addD) (AM.cVar 2) (AM.cLst (AM.cCons (AM.cXmkK "InvalidPlace" ["given"] (["given"] : List Str).length (fun l => Bk.idG l) (AM.cCons (AM.cVar 0) AM.cNil)) (AM.cCons (AM.cXmkK "NotATown" ["given"] (["given"] : List Str).length (fun l => Bk.idG l) (AM.cCons (AM.cVar 0) AM.cNil)) (AM.cCons (AM.cXmkK "NotALog" ["given"] (["given"] : List Str).length (fun l => Bk.idG l) (AM.cCons (AM.cVar 0) AM.cNil)) AM.cNil)))))) (AM.sSeq (AM.sAsg (AM.gNm 2) (AM.cBin (AM.aBin AM.addD) (AM.cVar 2) (AM.cLst (AM.cCons (AM.cXmkK "InvalidStands" ["index"] (["index"] : List Str).length (fun l => Bk.idG l) (AM.cCons (AM.cVar 0) AM.cNil)) (AM.cCons (AM.cXmkK "InvalidRoads" ["index"] (["index"] : List Str).length (fun l => Bk.idG l) (AM.cCons (AM.cVar 0) AM.cNil)) (AM.cCons (AM.cXmkK "InvalidFacts" ["index"] (["index"] : List Str).length (fun l => Bk.idG l) (AM.cCons (AM.cVar 0) AM.cNil)) AM.cNil)))))) (AM.sSeq (AM.sAsg (AM.gNm 2) (AM.cBin (AM.aBin AM.addD) (AM.cVar 2) (AM.cLst (AM.cCons (AM.cXmkK "InvalidReadings" ["index"] (["index"] : List Str).length (fun l => Bk.idG l) (AM.cCons (AM.cVar 0) AM.cNil)) (AM.cCons (AM.cXmkK "InvalidWishes" ["index"] (["index"] : List Str).length (fun l => Bk.idG l) (AM.cCons (AM.cVar 0) AM.cNil)) (AM.cCons (AM.cXmkK "InvalidChanges" ["index"] (["index"] : List Str).length (fun l => Bk.idG l) (AM.cCons (AM.cVar 0) AM.cNil)) AM.cNil)))))) (AM.sSeq (AM.sAsg (AM.gNm 2) (AM.cBin (AM.aBin AM.addD) (AM.cVar 2) (AM.cLst (AM.cCons (AM.cXmkK "UnknownName" ["given"] (["given"] : List Str).length (fun l => Bk.idG l) (AM.cCons (AM.cVar 0) AM.cNil)) (AM.cCons (AM.cXmkK "InUse" ["index"] (["index"] : List Str).length (fun l => Bk.idG l) (AM.cCons (AM.cVar 0) AM.cNil)) (AM.cCons (AM.cXmk0 "Impossible") (AM.cCons (AM.cXmk0 "OtherTown") AM.cNil))))))) (AM.sSeq (AM.sAsg (AM.gNm 2) (AM.cBin (AM.aBin AM.addD) (AM.cVar 2) (AM.cLst (AM.cCons (AM.cXmkK "TooMany" ["most"] (["most"] : List Str).length (fun l => Bk.idG l) (AM.cCons (AM.cVar 0) AM.cNil)) (AM.cCons (AM.cXmkK "Contradicts" ["given"] (["given"] : List Str).length (fun l => Bk.idG l) (AM.cCons (AM.cVar 0) AM.cNil)) (AM.cCons (AM.cXmk0 "NothingToUndo") AM.cNil)))))) (AM.sSeq (AM.sAsg (AM.gNm 2) (AM.cBin (AM.aBin AM.addD) (AM.cVar 2) (AM.cLst (AM.cCons (AM.cXmkK "Broken" ["index", "shown"] (["shown", "index"] : List Str).length (fun l => Bk.swG l) (AM.cCons (AM.cC (.int 7)) (AM.cCons (AM.cVar 0) AM.cNil))) AM.cNil)))) (AM.sRet (AM.cLst (AM.cCons (AM.cVar 1) (AM.cCons (AM.cVar 2) AM.cNil))))))))))))))))))))
def F__law_given : AM.F1 := AM.callF false 3 1 m__law_given
def m__law_kept_right : AM.MS := (AM.sSeq (AM.sAsg (AM.gNm 2) (AM.cLc false [3] (AM.gNm 3) (AM.cIter (AM.cLst (AM.cCons (AM.cC (.int 0)) (AM.cCons (AM.cC (.int 1)) (AM.cCons (AM.cC (.int 2)) (AM.cCons (AM.cC (.int 3)) (AM.cCons (AM.cC (.int 4)) (AM.cCons (AM.cC (.int 5)) (AM.cCons (AM.cC (.int 6)) (AM.cCons (AM.cC (.int 7)) (AM.cCons (AM.cC (.int 8)) (AM.cCons (AM.cC (.int 9)) (AM.cCons (AM.cC (.int 10)) (AM.cCons (AM.cC (.int 11)) (AM.cCons (AM.cC (.int 18)) (AM.cCons (AM.cC (.int 23)) AM.cNil)))))))))))))))) AM.tYesM (AM.cXvf excF_given "given" (AM.cBin (AM.aBin AM.ixD) (AM.cVar 0) (AM.cVar 3))))) (AM.sSeq (AM.sAsg (AM.gNm 2) (AM.cBin (AM.aBin AM.addD) (AM.cVar 2) (AM.cLc false [3] (AM.gNm 3) (AM.cIter (AM.cLst (AM.cCons (AM.cC (.int 12)) (AM.cCons (AM.cC (.int 13)) (AM.cCons (AM.cC (.int 14)) (AM.cCons (AM.cC (.int 15)) (AM.cCons (AM.cC (.int 16)) (AM.cCons (AM.cC (.int 17)) (AM.cCons (AM.cC (.int 19)) AM.cNil))))))))) AM.tYesM (AM.cXvf excF_index "index" (AM.cBin (AM.aBin AM.ixD) (AM.cVar 0) (AM.cVar 3)))))) (AM.sSeq (AM.sAsg (AM.gNm 2) (AM.cBin (AM.aBin AM.addD) (AM.cVar 2) (AM.cLc false [3] (AM.gNm 3) (AM.cIter (AM.cLst (AM.cCons (AM.cC (.int 22)) AM.cNil))) AM.tYesM (AM.cXvf excF_most "most" (AM.cBin (AM.aBin AM.ixD) (AM.cVar 0) (AM.cVar 3)))))) (AM.sSeq (AM.sAsg (AM.gNm 4) (AM.cBin (AM.aBin AM.ixD) (AM.cVar 0) (AM.cC (.int 25)))) (AM.sRet (AM.cAndV (AM.cBin (AM.aBin AM.eqD) (AM.cBi (AM.aFn AM.reprD5) (AM.cCons (AM.cVar 2) AM.cNil)) (AM.cBi (AM.aFn AM.reprD5) (AM.cCons (AM.cBin (AM.aBin AM.mulD) (AM.cLst (AM.cCons (AM.cVar 1) AM.cNil)) (AM.cBi (AM.aFn AM.lenD) (AM.cCons (AM.cVar 2) AM.cNil))) AM.cNil))) (AM.cBin (AM.aBin AM.eqD) (AM.cBi (AM.aFn AM.reprD5) (AM.cCons (AM.cLst (AM.cCons (AM.cXvf excF_index "index" (AM.cVar 4)) (AM.cCons (AM.cXvf excF_shown "shown" (AM.cVar 4)) AM.cNil))) AM.cNil)) (AM.cBi (AM.aFn AM.reprD5) (AM.cCons (AM.cLst (AM.cCons (AM.cVar 1) (AM.cCons (AM.cC (.int 7)) AM.cNil))) AM.cNil)))))))))
def F__law_kept_right : AM.F1 := AM.callF false 5 2 m__law_kept_right
def m__law_raised_right : AM.MS := (AM.sSeq (AM.sAsg (AM.gNm 1) (AM.cLstM AM.cNil)) (AM.sSeq (AM.sTryW excT (AM.sRaise "InvalidText" ["given"] (AM.cCons (AM.cVar 0) AM.cNil)) [(["NotRight"], (some 2), (AM.sExpr (AM.cMut AM.gAppend (AM.cVar 1) (AM.cCons (AM.cBi (AM.aFn AM.reprD5) (AM.cCons (AM.cXf excF_given "given" (AM.cVar 2)) AM.cNil)) AM.cNil))))]) (AM.sSeq (AM.sTryW excT (AM.sRaise "UnknownName" ["given"] (AM.cCons (AM.cVar 0) AM.cNil)) [(["NotThere"], (some 2), (AM.sExpr (AM.cMut AM.gAppend (AM.cVar 1) (AM.cCons (AM.cBi (AM.aFn AM.reprD5) (AM.cCons (AM.cXf excF_given "given" (AM.cVar 2)) AM.cNil)) AM.cNil))))]) (AM.sSeq (AM.sTryW excT (AM.sRaise "Broken" ["index", "shown"] (AM.cCons (AM.cVar 0) (AM.cCons (AM.cC (.int 3)) AM.cNil))) [(["CannotBe"], (some 2), (AM.sExpr (AM.cMut AM.gAppend (AM.cVar 1) (AM.cCons (AM.cBi (AM.aFn AM.reprD5) (AM.cCons (AM.cXf excF_index "index" (AM.cVar 2)) AM.cNil)) AM.cNil))))]) (AM.sRet (AM.cBin (AM.aBin AM.eqD) (AM.cVar 1) (AM.cBin (AM.aBin AM.mulD) (AM.cLst (AM.cCons (AM.cBi (AM.aFn AM.reprD5) (AM.cCons (AM.cVar 0) AM.cNil)) AM.cNil)) (AM.cC (.int 3)))))))))
def F__law_raised_right : AM.F1 := AM.callF false 3 1 m__law_raised_right
def m__law_sorts : AM.MS := (AM.sSeq (AM.sAsg (AM.gNm 1) (AM.cLst (AM.cCons (AM.cBi (AM.isVW excT excU isDs isBs) (AM.cCons (AM.cVar 0) (AM.cCons (AM.cC (.cls "InvalidText")) AM.cNil))) (AM.cCons (AM.cBi (AM.isVW excT excU isDs isBs) (AM.cCons (AM.cVar 0) (AM.cCons (AM.cC (.cls "InvalidSlots")) AM.cNil))) (AM.cCons (AM.cBi (AM.isVW excT excU isDs isBs) (AM.cCons (AM.cVar 0) (AM.cCons (AM.cC (.cls "InvalidName")) AM.cNil))) AM.cNil))))) (AM.sSeq (AM.sAsg (AM.gNm 1) (AM.cBin (AM.aBin AM.addD) (AM.cVar 1) (AM.cLst (AM.cCons (AM.cBi (AM.isVW excT excU isDs isBs) (AM.cCons (AM.cVar 0) (AM.cCons (AM.cC (.cls "InvalidAsk")) AM.cNil))) (AM.cCons (AM.cBi (AM.isVW excT excU isDs isBs) (AM.cCons (AM.cVar 0) (AM.cCons (AM.cC (.cls "InvalidFact")) AM.cNil))) (AM.cCons (AM.cBi (AM.isVW excT excU isDs isBs) (AM.cCons (AM.cVar 0) (AM.cCons (AM.cC (.cls "InvalidRecord")) AM.cNil))) AM.cNil)))))) (AM.sSeq (AM.sAsg (AM.gNm 1) (AM.cBin (AM.aBin AM.addD) (AM.cVar 1) (AM.cLst (AM.cCons (AM.cBi (AM.isVW excT excU isDs isBs) (AM.cCons (AM.cVar 0) (AM.cCons (AM.cC (.cls "InvalidWord")) AM.cNil))) (AM.cCons (AM.cBi (AM.isVW excT excU isDs isBs) (AM.cCons (AM.cVar 0) (AM.cCons (AM.cC (.cls "InvalidWish")) AM.cNil))) (AM.cCons (AM.cBi (AM.isVW excT excU isDs isBs) (AM.cCons (AM.cVar 0) (AM.cCons (AM.cC (.cls "InvalidClaim")) AM.cNil))) AM.cNil)))))) (AM.sSeq (AM.sAsg (AM.gNm 1) (AM.cBin (AM.aBin AM.addD) (AM.cVar 1) (AM.cLst (AM.cCons (AM.cBi (AM.isVW excT excU isDs isBs) (AM.cCons (AM.cVar 0) (AM.cCons (AM.cC (.cls "InvalidPlace")) AM.cNil))) (AM.cCons (AM.cBi (AM.isVW excT excU isDs isBs) (AM.cCons (AM.cVar 0) (AM.cCons (AM.cC (.cls "NotATown")) AM.cNil))) (AM.cCons (AM.cBi (AM.isVW excT excU isDs isBs) (AM.cCons (AM.cVar 0) (AM.cCons (AM.cC (.cls "NotALog")) AM.cNil))) AM.cNil)))))) (AM.sSeq (AM.sAsg (AM.gNm 1) (AM.cBin (AM.aBin AM.addD) (AM.cVar 1) (AM.cLst (AM.cCons (AM.cBi (AM.isVW excT excU isDs isBs) (AM.cCons (AM.cVar 0) (AM.cCons (AM.cC (.cls "InvalidStands")) AM.cNil))) (AM.cCons (AM.cBi (AM.isVW excT excU isDs isBs) (AM.cCons (AM.cVar 0) (AM.cCons (AM.cC (.cls "InvalidRoads")) AM.cNil))) (AM.cCons (AM.cBi (AM.isVW excT excU isDs isBs) (AM.cCons (AM.cVar 0) (AM.cCons (AM.cC (.cls "InvalidFacts")) AM.cNil))) AM.cNil)))))) (AM.sSeq (AM.sAsg (AM.gNm 1) (AM.cBin (AM.aBin AM.addD) (AM.cVar 1) (AM.cLst (AM.cCons (AM.cBi (AM.isVW excT excU isDs isBs) (AM.cCons (AM.cVar 0) (AM.cCons (AM.cC (.cls "InvalidReadings")) AM.cNil))) (AM.cCons (AM.cBi (AM.isVW excT excU isDs isBs) (AM.cCons (AM.cVar 0) (AM.cCons (AM.cC (.cls "InvalidWishes")) AM.cNil))) AM.cNil))))) (AM.sSeq (AM.sAsg (AM.gNm 1) (AM.cBin (AM.aBin AM.addD) (AM.cVar 1) (AM.cLst (AM.cCons (AM.cBi (AM.isVW excT excU isDs isBs) (AM.cCons (AM.cVar 0) (AM.cCons (AM.cC (.cls "InvalidChanges")) AM.cNil))) (AM.cCons (AM.cBi (AM.isVW excT excU isDs isBs) (AM.cCons (AM.cVar 0) (AM.cCons (AM.cC (.cls "UnknownName")) AM.cNil))) (AM.cCons (AM.cBi (AM.isVW excT excU isDs isBs) (AM.cCons (AM.cVar 0) (AM.cCons (AM.cC (.cls "InUse")) AM.cNil))) AM.cNil)))))) (AM.sSeq (AM.sAsg (AM.gNm 1) (AM.cBin (AM.aBin AM.addD) (AM.cVar 1) (AM.cLst (AM.cCons (AM.cBi (AM.isVW excT excU isDs isBs) (AM.cCons (AM.cVar 0) (AM.cCons (AM.cC (.cls "Impossible")) AM.cNil))) (AM.cCons (AM.cBi (AM.isVW excT excU isDs isBs) (AM.cCons (AM.cVar 0) (AM.cCons (AM.cC (.cls "OtherTown")) AM.cNil))) (AM.cCons (AM.cBi (AM.isVW excT excU isDs isBs) (AM.cCons (AM.cVar 0) (AM.cCons (AM.cC (.cls "TooMany")) AM.cNil))) AM.cNil)))))) (AM.sSeq (AM.sAsg (AM.gNm 1) (AM.cBin (AM.aBin AM.addD) (AM.cVar 1) (AM.cLst (AM.cCons (AM.cBi (AM.isVW excT excU isDs isBs) (AM.cCons (AM.cVar 0) (AM.cCons (AM.cC (.cls "Contradicts")) AM.cNil))) (AM.cCons (AM.cBi (AM.isVW excT excU isDs isBs) (AM.cCons (AM.cVar 0) (AM.cCons (AM.cC (.cls "NothingToUndo")) AM.cNil))) (AM.cCons (AM.cBi (AM.isVW excT excU isDs isBs) (AM.cCons (AM.cVar 0) (AM.cCons (AM.cC (.cls "Broken")) AM.cNil))) AM.cNil)))))) (AM.sRet (AM.cVar 1)))))))))))
def F__law_sorts : AM.F1 := AM.callF false 2 1 m__law_sorts
def m__law_right : AM.MS := (AM.sSeq (AM.sFor (AM.gNm 1) (AM.cIter (AM.cCall F__law_given (AM.cCons (AM.cVar 0) AM.cNil))) (AM.sSeq (AM.sFor (AM.gNm 2) (AM.cRange1 (AM.cCons (AM.cBi (AM.aFn AM.lenD) (AM.cCons (AM.cVar 1) AM.cNil)) AM.cNil)) (AM.sSeq (AM.sAsg (AM.gNm 3) (AM.cLc false [4] (AM.gNm 4) (AM.cRange1 (AM.cCons (AM.cBi (AM.aFn AM.lenD) (AM.cCons (AM.cVar 1) AM.cNil)) AM.cNil)) AM.tYesM (AM.cBin (AM.aBin AM.eqD) (AM.cVar 4) (AM.cVar 2)))) (AM.sIf (AM.cOrT (AM.cTest (AM.cBin (AM.aBin AM.neD) (AM.cCall F__law_sorts (AM.cCons (AM.cBin (AM.aBin AM.ixD) (AM.cVar 1) (AM.cVar 2)) AM.cNil)) (AM.cVar 3))) (AM.cTest (AM.cBin (AM.aBin AM.neD) (AM.cCall F__law_bases (AM.cCons (AM.cBin (AM.aBin AM.ixD) (AM.cVar 1) (AM.cVar 2)) AM.cNil)) (AM.cCall F__law_due (AM.cCons (AM.cVar 2) AM.cNil))))) (AM.sRet (AM.cC (.bl false))) AM.sNil))) (AM.sIf (AM.cNotT (AM.cTest (AM.cCall F__law_kept_right (AM.cCons (AM.cVar 1) (AM.cCons (AM.cVar 0) AM.cNil))))) (AM.sRet (AM.cC (.bl false))) AM.sNil))) (AM.sRet (AM.cCall F__law_raised_right (AM.cCons (AM.cVar 0) AM.cNil))))
def F__law_right : AM.F1 := AM.callF false 5 1 m__law_right
def m_law : AM.MS := (AM.sSeq (AM.sAsg (AM.gNm 1) (AM.cLst (AM.cCons (AM.cC (.int 8)) (AM.cCons (AM.cC (.int 5)) (AM.cCons (AM.cC (.int 40)) (AM.cCons (AM.cC (.int 12)) (AM.cCons (AM.cC (.int 3)) (AM.cCons (AM.cC (.int 12)) (AM.cCons (AM.cC (.int 9999)) AM.cNil))))))))) (AM.sSeq (AM.sAsg (AM.gNm 1) (AM.cBin (AM.aBin AM.addD) (AM.cVar 1) (AM.cLst (AM.cCons (AM.cC (.int 6)) (AM.cCons (AM.cC (.int 5)) AM.cNil))))) (AM.sSeq (AM.sIf (AM.cTest (AM.cBin (AM.aBin AM.neD) (AM.cVar 1) (AM.cLst (AM.cCons (AM.cC (.int 8)) (AM.cCons (AM.cC (.int 5)) (AM.cCons (AM.cC (.int 40)) (AM.cCons (AM.cC (.int 12)) (AM.cCons (AM.cC (.int 3)) (AM.cCons (AM.cC (.int 12)) (AM.cCons (AM.cC (.int 9999)) (AM.cCons (AM.cC (.int 6)) (AM.cCons (AM.cC (.int 5)) AM.cNil)))))))))))) (AM.sRet (AM.cC (.bl false))) AM.sNil) (AM.sSeq (AM.sAsg (AM.gNm 2) (AM.cBin (AM.aBin AM.addD) (AM.cLst (AM.cCons (AM.cC .non) (AM.cCons (AM.cC (.str "a")) (AM.cCons (AM.cTup (AM.cCons (AM.cC (.int 1)) (AM.cCons (AM.cC (.str "x")) AM.cNil))) (AM.cCons (AM.cC (.bl true)) (AM.cCons (AM.cUn (AM.aUn AM.negD) (AM.cC (.int 3))) AM.cNil)))))) (AM.cLc false [3] (AM.gNm 3) (AM.cIter (AM.cSl (AM.cVar 0) AM.oNone (AM.oSome (AM.cC (.int 3))))) AM.tYesM (AM.cBin (AM.aBin AM.modD) (AM.cBi (AM.aFn AM.intFD) (AM.cCons (AM.cVar 3) AM.cNil)) (AM.cBin (AM.aBin AM.powD) (AM.cC (.int 10)) (AM.cC (.int 12))))))) (AM.sRet (AM.cBin (AM.aBin AM.eqD) (AM.cLc false [4] (AM.gNm 4) (AM.cIter (AM.cVar 2)) (AM.cNotT (AM.cTest (AM.cCall F__law_right (AM.cCons (AM.cVar 4) AM.cNil)))) (AM.cVar 4)) (AM.cLst AM.cNil)))))))
def F_law : AM.F1 := AM.callF false 5 1 m_law
end Bk
set_option Elab.async false
set_option linter.all false
set_option maxRecDepth 100000
set_option maxHeartbeats 4000000
namespace Bk
open PySem PySem.Spec PyProof.Rows L2 PySem.NumText
open PySem.W (Frag)
set_option maxHeartbeats 0
theorem ob_eq (s : PySem.W.SharedT) : ob s = hk.obs s.abs := obsFG_eq (HandSHeadRun.getT_eq s)
end Bk
set_option Elab.async false
set_option linter.all false
set_option maxRecDepth 100000
set_option maxHeartbeats 4000000
namespace AM
open PySem
theorem filter_yes {α : Type} (l : List α) : l.filter (fun _ => true) = l := List.filter_eq_self.mpr fun _ _ => rfl
theorem szl : sizeLine = 16777216 := by decide
end AM
namespace AM
open PySem
theorem last_app {S : Sto} {o : Ob} : (S ++ [o])[S.length]? = some o := by rw [List.getElem?_append_right (Nat.le_refl _), Nat.sub_self]; rfl
theorem set_last {S : Sto} {o o' : Ob} : (S ++ [o]).set S.length o' = S ++ [o'] := by rw [List.set_append_right _ _ (Nat.le_refl _), Nat.sub_self]; rfl
theorem take_last {S : Sto} {o : Ob} : (S ++ [o]).take S.length = S := by rw [List.take_append_of_le_length (Nat.le_refl _), List.take_length]
section
variable {α : Type} {g : MG} {ft : MT} {fe : ME} {ε : Ev} {enc f : α → D} {p : α → Bool}
theorem lcL_at (S : Sto) : ∀ (l : List α) (acc : List D), (∀ a ∈ l, ∃ ε1, g (.val (enc a)) ε = some ε1 ∧ ∀ acc', ft ε1 (S ++ [.lst acc']) = .ok (p a) (S ++ [.lst acc']) ∧ (p a = true → fe ε1 (S ++ [.lst acc']) = .ok (.val (f a)) (S ++ [.lst acc']))) → acc.length + l.length ≤ sizeLine →
    lcL S.length g ft fe ε (l.map enc) (S ++ [.lst acc]) = some (S ++ [.lst (acc ++ (l.filter p).map f)])
  | [], acc, _, _ => by simp [lcL]
  | d :: ds, acc, hd, hl => by
    obtain ⟨ε1, e1, e2⟩ := hd d List.mem_cons_self
    have hd' := fun x hx => hd x (List.mem_cons_of_mem _ hx)
    simp only [List.length_cons] at hl
    obtain ⟨e3, e4⟩ := e2 acc
    cases hp : p d with
    | true =>
      rw [hp] at e3
      simp only [List.map_cons, lcL, e1, e3, e4 hp, toD, last_app]
      rw [if_pos (by omega), set_last, lcL_at S ds (acc ++ [f d]) hd' (by rw [List.length_append]; simp only [List.length_cons, List.length_nil]; omega)]
      rw [List.filter_cons_of_pos hp, List.map_cons, List.append_assoc]
      rfl
    | false =>
      rw [hp] at e3
      simp only [List.map_cons, lcL, e1, e3]
      rw [lcL_at S ds acc hd' (by omega), List.filter_cons_of_neg (by rw [hp]; exact Bool.false_ne_true)]
theorem cLc_atF {vs : List Nat} {fi : MI} {S S1 : Sto} (l : List α) (hi : fi ε S = .ok (l.map enc) S1) (hd : ∀ a ∈ l, ∃ ε1, g (.val (enc a)) (wipeE ε vs) = some ε1 ∧ ∀ acc', ft ε1 (S1 ++ [.lst acc']) = .ok (p a) (S1 ++ [.lst acc']) ∧ (p a = true → fe ε1 (S1 ++ [.lst acc']) = .ok (.val (f a)) (S1 ++ [.lst acc']))) (hl : l.length ≤ sizeLine) :
    cLc false vs g fi ft fe ε S = .ok (.val (.lst ((l.filter p).map f))) S1 := by
  unfold cLc
  rw [hi]
  simp only [Rs.bind]
  rw [lcL_at (p := p) (f := f) S1 l [] hd (by simpa using hl)]
  simp only [List.nil_append, last_app, take_last]
  rfl
theorem cLc_at {vs : List Nat} {fi : MI} {S S1 : Sto} (l : List α) (hi : fi ε S = .ok (l.map enc) S1) (hd : ∀ a ∈ l, ∃ ε1, g (.val (enc a)) (wipeE ε vs) = some ε1 ∧ ∀ acc', fe ε1 (S1 ++ [.lst acc']) = .ok (.val (f a)) (S1 ++ [.lst acc'])) (hl : l.length ≤ sizeLine) :
    cLc false vs g fi tYesM fe ε S = .ok (.val (.lst (l.map f))) S1 := by
  have := cLc_atF (g := g) (ft := tYesM) (fe := fe) (ε := ε) (enc := enc) (f := f) (p := fun _ => true) (vs := vs) (fi := fi) l hi (fun d hd' => by
    obtain ⟨ε1, e1, e2⟩ := hd d hd'
    exact ⟨ε1, e1, fun T => ⟨rfl, fun _ => e2 T⟩⟩) hl
  rw [filter_yes] at this
  exact this
end
theorem view_val (d : D) (S : Sto) : view (.val d) S = some d := rfl
theorem toD_val (d : D) (S : Sto) : toD (.val d) S = some (d, S) := rfl
theorem p62 : (2 : Int) ^ 62 = 4611686018427387904 := by decide +kernel
theorem rng62 {j : Int} (h0 : -1000000 ≤ j) (h1 : j ≤ 1000000) : -(2 ^ 62) ≤ j ∧ j < 2 ^ 62 := by rw [p62]; omega
end AM
set_option Elab.async false
set_option linter.all false
set_option maxRecDepth 100000
set_option maxHeartbeats 4000000
namespace AM
open PySem
section
variable {a b : MS} {f g0 : ME} {ε ε1 : Ev} {S S1 S2 : Sto} {w w1 : W} {r : Rt} {i n : Nat} {d : D}
theorem seqS (h1 : a ε S = .nx ε1 S1) (h2 : b ε1 S1 = r) : sSeq a b ε S = r := by simp only [sSeq, h1]; exact h2
theorem exprS (h : f ε S = .ok w S1) : sExpr f ε S = .nx ε S1 := by simp only [sExpr, h, Rs.bindT]
theorem asgS (h : f ε S = .ok w S1) : sAsg (gNm i) f ε S = .nx (ε.set i (some w)) S1 := by simp only [sAsg, h, Rs.bindT, gNm]
theorem retS (h : f ε S = .ok w S1) : sRet f ε S = .rt w S1 := by simp only [sRet, h, Rs.bindT]
theorem forS {g : MG} {fi : MI} {ds : List D} (h : fi ε S = .ok ds S1) (h2 : forL g b ds ε S1 = r) : sFor g fi b ε S = r := by simp only [sFor, h, Rs.bindT]; exact h2
theorem ifF {c : MT} (h : c ε S = .ok false S1) (h2 : b ε S1 = r) : sIf c a b ε S = r := by simp only [sIf, h, Rs.bindT, Bool.false_eq_true, if_false]; exact h2
theorem varS (h : ε[i]? = some (some w)) : cVar i ε S = .ok w S := by simp only [cVar, h]
theorem callS {F : F1} {fs : MA} {ws : List W} {q : Rs W} (h : fs ε S = .ok ws S1) (h2 : F ws S1 = q) : cCall F fs ε S = q := by simp only [cCall, h, Rs.bind]; exact h2
theorem biS {g : List W → Sto → Rs W} {fs : MA} {ws : List W} {q : Rs W} (h : fs ε S = .ok ws S1) (h2 : g ws S1 = q) : cBi g fs ε S = q := by simp only [cBi, h, Rs.bind]; exact h2
theorem binS {g : W → W → Sto → Rs W} {q : Rs W} (h : f ε S = .ok w S1) (h1 : g0 ε S1 = .ok w1 S2) (h2 : g w w1 S2 = q) : cBin g f g0 ε S = q := by simp only [cBin, h, h1, Rs.bind]; exact h2
theorem testS {k : Bool} (h : f ε S = .ok (.val (.bl k)) S1) : cTest f ε S = .ok k S1 := by simp only [cTest, h, Rs.bind]
theorem mutS {g : List D → List D → Option (D × List D)} {xs l' : List D} (h0 : ε[i]? = some (some (.ref n))) (hl : isLst n S = true) (h : f ε S = .ok (.val d) S1) (h1 : S1[n]? = some (.lst xs)) {r : D} (hg : g xs [d] = some (r, l')) :
    cMut g (cVar i) (cCons f cNil) ε S = .ok (.val r) (S1.set n (.lst l')) := by
  simp only [cMut, cVar, h0, Rs.bind, hl, if_true, cCons, cNil, h, toDs, toD_val, Option.bind_some, Option.map_some, h1, hg]
theorem appS {xs : List D} (h0 : ε[i]? = some (some (.ref n))) (hl : isLst n S = true) (h : f ε S = .ok (.val d) S1) (h1 : S1[n]? = some (.lst xs)) (hx : xs.length < sizeLine) :
    sExpr (cMut gAppend (cVar i) (cCons f cNil)) ε S = .nx ε (S1.set n (.lst (xs ++ [d]))) := exprS (mutS h0 hl h h1 (by rw [gAppend, if_pos hx]))
theorem aBinS {g : D → D → Option D} {x y z : D} (hx : view w S = some x) (hy : view w1 S = some y) (hz : g x y = some z) : aBin g w w1 S = .ok (.val z) S := by simp only [aBin, hx, hy, hz]
theorem range1S {fs : MA} {m : Nat} (h : fs ε S = .ok [.val (.int (m : Int))] S1) (hm : m < 1000000) : cRange1 fs ε S = .ok ((List.range m).map fun (j : Nat) => D.int (0 + (j : Int))) S1 := by
  simp only [cRange1, h, Rs.bind]
  rw [if_pos (rng62 (by omega) (by omega))]
  rfl
end
end AM
namespace AM
open PySem
end AM
namespace AM
open PySem
end AM
namespace AM
open PySem
theorem callV {mu : Bool} {N np : Nat} {body : MS} {ws : List W} {S S1 S2 : Sto} {d : D} (hl : ws.length = np) (h : body (ws.map some ++ List.replicate (N - np) none) S = .rt (.val d) S1) (ht : S1.take S.length = S2) : callF mu N np body ws S = .ok (.val d) S2 := by
  unfold callF
  rw [if_pos hl, h, ← ht]
  rfl
theorem callE {mu : Bool} {N np : Nat} {body : MS} {ws : List W} {S : Sto} {d : D} (hl : ws.length = np) (h : body (ws.map some ++ List.replicate (N - np) none) S = .rt (.val d) S) : callF mu N np body ws S = .ok (.val d) S :=
  callV hl h (List.take_length)
theorem cS {d : D} {ε : Ev} {S : Sto} : cC d ε S = .ok (.val d) S := rfl
theorem iterSL {ε : Ev} {S S1 : Sto} {f : ME} {l : List D} (hf : f ε S = .ok (.val (.lst l)) S1) : cIter f ε S = .ok l S1 := by simp only [cIter, hf, Rs.bind, iterD]
theorem bi1S {ε : Ev} {S S1 : Sto} {f : ME} {g : List D → Option D} {d r : D} (hf : f ε S = .ok (.val d) S1) (hg : g [d] = some r) : cBi (aFn g) (cCons f cNil) ε S = .ok (.val r) S1 :=
  biS (consS hf rfl) (by simp only [aFn, views, view_val, Option.bind_some, Option.map_some, hg])
theorem binD {ε : Ev} {S S1 S2 : Sto} {f f2 : ME} {g : D → D → Option D} {d d2 r : D} (hf : f ε S = .ok (.val d) S1) (hf2 : f2 ε S1 = .ok (.val d2) S2) (hg : g d d2 = some r) : cBin (aBin g) f f2 ε S = .ok (.val r) S2 :=
  binS hf hf2 (aBinS rfl rfl hg)
end AM
namespace AM
open PySem
theorem toDs_vals (S : Sto) : ∀ ds : List D, toDs (ds.map W.val) S = some (ds, S)
  | [] => rfl
  | d :: ds => by simp only [List.map_cons, toDs, toD_val, Option.bind_some, toDs_vals S ds, Option.map_some]
theorem lstS {ε : Ev} {S S1 : Sto} {fs : MA} {ds : List D} (h : ArgsV ε S fs ds S1) (hl : ds.length ≤ 1000) : cLst fs ε S = .ok (.val (.lst ds)) S1 := by
  simp only [cLst, h.ok, Rs.bind, toDs_vals]
  rw [if_pos (by rw [szl]; omega)]
theorem tupV {ε : Ev} {S S1 : Sto} {fs : MA} {ds : List D} (h : ArgsV ε S fs ds S1) (hl : ds.length ≤ 1000) : cTup fs ε S = .ok (.val (.tup ds)) S1 := by
  simp only [cTup, h.ok, Rs.bind, toDs_vals]
  rw [if_pos (by rw [szl]; omega)]
end AM
namespace AM
end AM
namespace AM
open PySem
end AM
set_option Elab.async false
set_option linter.all false
set_option maxRecDepth 100000
set_option maxHeartbeats 4000000
namespace AM
open PySem
section
variable {s t : MT} {a b : MS} {f g : ME} {ε : Ev} {S S1 S2 : Sto} {w w1 : W} {x y : Bool} {r : Rt}
theorem notB (h1 : s ε S = .ok x S1) : cNotT s ε S = .ok (!x) S1 := by simp only [cNotT, h1, Rs.bind]
theorem andVY (h1 : f ε S = .ok (.val (.bl true)) S1) {q : Rs W} (h2 : g ε S1 = q) : cAndV f g ε S = q := by simp only [cAndV, h1, Rs.bind, if_true]; exact h2
/-- a branch that does nothing -/
theorem skipS (h : s ε S = .ok false S) : sIf s a sNil ε S = .nx ε S := ifF h rfl
end
end AM
set_option Elab.async false
set_option linter.all false
set_option maxRecDepth 100000
set_option maxHeartbeats 4000000
namespace Bk
open PySem AM
open PyProof.Rows (isDisplay)
structure Fw (w : Nat) (d : PyData) : Prop where
  s : d.showable = true
  l : d.leavesShort 20 = true
  w : d.weight ≤ w
  d : d.depth ≤ 10
theorem fw_all {w : Nat} : ∀ l : List PyData, (∀ d ∈ l, Fw w d) → PyData.showableAll l = true ∧ PyData.leavesShortAll 20 l = true ∧ PyData.weightAll l ≤ l.length * (w + 1) ∧ PyData.depthAll l ≤ 10
  | [], _ => ⟨rfl, rfl, Nat.zero_le _, Nat.zero_le _⟩
  | d :: l, h => by
    have a := h d List.mem_cons_self
    obtain ⟨h1, h2, h3, h4⟩ := fw_all l fun x hx => h x (List.mem_cons_of_mem _ hx)
    refine ⟨?_, ?_, ?_, ?_⟩
    · show (d.showable && PyData.showableAll l) = true
      rw [a.s, h1]; rfl
    · show (d.leavesShort 20 && PyData.leavesShortAll 20 l) = true
      rw [a.l, h2]; rfl
    · show d.weight + 1 + PyData.weightAll l ≤ (l.length + 1) * (w + 1)
      rw [Nat.add_mul, Nat.one_mul]
      have := a.w
      omega
    · show max d.depth (PyData.depthAll l) ≤ 10
      exact Nat.max_le.mpr ⟨a.d, h4⟩
theorem repr_lstX {l : List D} {ps : List PyData} (h : toPs l = some ps) (f : ∀ p ∈ ps, Fw 60 p) (hl : ps.length ≤ 30) : ∃ y, reprD5 [.lst l] = some (.str y) := by
  obtain ⟨h1, h2, h3, h4⟩ := fw_all ps f
  have e : toP (.lst l) = some (.list ps) := by rw [toP, h]; rfl
  have hs : (PyData.list ps).shown.length ≤ sizeLine := by
    have a := PyData.shown_le 20 (by decide) (.list ps) h2
    have b : (PyData.list ps).weight = PyData.weightAll ps := rfl
    have c : ps.length * (60 + 1) ≤ 30 * 61 := Nat.mul_le_mul hl (Nat.le_refl _)
    rw [szl]
    omega
  refine ⟨(PyData.list ps).shown, ?_⟩
  show reprD [.lst l] = _
  simp only [reprD, e]
  rw [show isDisplay (.list ps) = true from rfl, show (PyData.list ps).showable = true from h1, decide_eq_true (show (PyData.list ps).depth ≤ 60 from Nat.le_trans (Nat.succ_le_succ h4) (by decide)), decide_eq_true hs]
  rfl
structure Thing (d : D) : Prop where
  p : ∃ p, toP d = some p ∧ Fw 60 p
  r : ∃ y, reprD5 [d] = some (.str y) ∧ PyData.strOk y = true
theorem toPs_rep {d : D} {p : PyData} (h : toP d = some p) : ∀ k, toPs (List.replicate k d) = some (List.replicate k p)
  | 0 => rfl
  | k + 1 => by rw [List.replicate_succ, toPs, h, Option.bind_some, toPs_rep h k]; rfl
theorem Thing.rl {d : D} (h : Thing d) {k : Nat} (hk : k ≤ 30) : ∃ y, reprD5 [.lst (List.replicate k d)] = some (.str y) := by
  obtain ⟨p, h1, h2⟩ := h.p
  exact repr_lstX (toPs_rep h1 k) (fun q hq => by rw [List.eq_of_mem_replicate hq]; exact h2) (by rw [List.length_replicate]; exact hk)
theorem fw7 : Fw 60 (.int 7) := ⟨by decide +kernel, by decide +kernel, by decide +kernel, by decide +kernel⟩
theorem Thing.r2 {d : D} (h : Thing d) : ∃ y, reprD5 [.lst [d, .int 7]] = some (.str y) := by
  obtain ⟨p, h1, h2⟩ := h.p
  refine repr_lstX (ps := [p, .int 7]) (by simp only [toPs, h1, toP, Option.bind_some, Option.map_some]) (fun q hq => ?_) (Nat.le_of_ble_eq_true rfl)
  simp only [List.mem_cons, List.mem_nil_iff, or_false] at hq
  rcases hq with rfl | rfl
  · exact h2
  · exact fw7
theorem thing_int {z : Int} (h0 : 0 ≤ z) (h1 : z < 1000000000000) : Thing (.int z) := by
  obtain ⟨n, rfl⟩ := Int.eq_ofNat_of_zero_le h0
  have hlen : (Str.ofString (toString ((n : Nat) : Int))).length ≤ 12 := by
    rw [TL.len_tl, TL.tl_num]
    exact TL.numL_len (k := 12) (by decide) (by
      have : (10 : Nat) ^ 12 = 1000000000000 := by decide
      omega)
  have hlog : ((n : Nat) : Int).natAbs.log2 < 1920 := by
    by_cases hz : ((n : Nat) : Int).natAbs = 0
    · rw [hz]; decide
    · exact (Nat.log2_lt hz).mpr (Nat.lt_of_lt_of_le (show ((n : Nat) : Int).natAbs < 2 ^ 40 by omega) (Nat.pow_le_pow_right (by decide) (by decide)))
  have hw : (if (((n : Nat) : Int) == 0) = true then 0 else ((n : Nat) : Int).natAbs.log2 + 1) ≤ 60 := by
    split
    · omega
    · rename_i h
      have hz : ((n : Nat) : Int).natAbs ≠ 0 := by simpa using h
      have := (Nat.log2_lt hz).mpr (show ((n : Nat) : Int).natAbs < 2 ^ 40 by omega)
      omega
  refine ⟨⟨.int (n : Nat), rfl, ⟨decide_eq_true hlog, decide_eq_true (Nat.le_trans hlen (by decide)), hw, Nat.zero_le _⟩⟩, ⟨Str.ofString (toString ((n : Nat) : Int)), ?_, ?_⟩⟩
  · simp only [reprD5, reprD2, scR]
    rw [if_pos ⟨hlog, Nat.le_trans hlen (by decide)⟩]
  · unfold PyData.strOk
    rw [← Array.all_toList, List.all_eq_true]
    intro c hc
    have hd := TL.numL_digits n c (by
      rw [← TL.tl_num]
      exact hc)
    exact decide_eq_true (by omega)
theorem thing_m3 : Thing (.int (-3)) := by
  refine ⟨⟨.int (-3), rfl, ⟨by decide +kernel, by decide +kernel, by decide +kernel, by decide +kernel⟩⟩, ⟨Str.ofString "-3", ?_, by decide +kernel⟩⟩
  simp only [reprD5, reprD2, scR]
  rw [if_pos (by decide +kernel)]
  exact congrArg (fun x => some (D.str x)) (by decide +kernel)
theorem thing_non : Thing .non := ⟨⟨.none, rfl, ⟨rfl, rfl, Nat.zero_le _, Nat.zero_le _⟩⟩, ⟨Str.ofString "None", rfl, by decide +kernel⟩⟩
theorem thing_bl : Thing (.bl true) := ⟨⟨.bool true, rfl, ⟨rfl, rfl, Nat.zero_le _, Nat.zero_le _⟩⟩, ⟨Str.ofString "True", rfl, by decide +kernel⟩⟩
theorem thing_a : Thing (.str "a") := by
  have f : Fw 60 (.str "a") := ⟨by decide +kernel, by decide +kernel, by decide +kernel, by decide +kernel⟩
  exact ⟨⟨.str "a", rfl, f⟩, ⟨reprText "a", if_pos (by decide +kernel), by decide +kernel⟩⟩
theorem thing_t : Thing (.tup [.int 1, .str "x"]) := by
  have f : Fw 60 (.tuple [.int 1, .str "x"]) := ⟨by decide +kernel, by decide +kernel, by decide +kernel, by decide +kernel⟩
  have e : toP (.tup [.int 1, .str "x"]) = some (.tuple [.int 1, .str "x"]) := rfl
  refine ⟨⟨_, e, f⟩, ⟨(PyData.tuple [.int 1, .str "x"]).shown, ?_, by decide +kernel⟩⟩
  show reprD [.tup [.int 1, .str "x"]] = _
  simp only [reprD, e]
  rw [if_pos (by decide +kernel)]
end Bk
set_option Elab.async false
set_option linter.all false
set_option maxRecDepth 100000
set_option maxHeartbeats 4000000
namespace Bk
open PySem AM
def xsG (d : D) : List D := [.xv "InvalidText" [("given", d)], .xv "InvalidSlots" [("given", d)], .xv "InvalidName" [("given", d)], .xv "InvalidAsk" [("given", d)], .xv "InvalidFact" [("given", d)], .xv "InvalidRecord" [("given", d)], .xv "InvalidWord" [("given", d)], .xv "InvalidWish" [("given", d)], .xv "InvalidClaim" [("given", d)], .xv "InvalidPlace" [("given", d)], .xv "NotATown" [("given", d)], .xv "NotALog" [("given", d)],
  .xv "InvalidStands" [("index", d)], .xv "InvalidRoads" [("index", d)], .xv "InvalidFacts" [("index", d)], .xv "InvalidReadings" [("index", d)], .xv "InvalidWishes" [("index", d)], .xv "InvalidChanges" [("index", d)], .xv "UnknownName" [("given", d)], .xv "InUse" [("index", d)],
  .xv "Impossible" [], .xv "OtherTown" [], .xv "TooMany" [("most", d)], .xv "Contradicts" [("given", d)], .xv "NothingToUndo" [], .xv "Broken" [("shown", .int 7), ("index", d)]]
def T0 : Sto := [Ob.lst []]
theorem given_eq (d : D) : F__law_given [.val d] T0 = .ok (.val (.lst [.lst (xsG d), .lst (xsG d)])) T0 := by kernel_rfl
def due25 : D := .lst ((List.range 26).map fun j => .bl (j == 25))
def xBody : MS := (sSeq (sAsg (gNm 3) (cLc false [4] (gNm 4) (cRange1 (cCons (cBi (aFn lenD) (cCons (cVar 1) cNil)) cNil)) tYesM (cBin (aBin eqD) (cVar 4) (cVar 2)))) (sIf (cOrT (cTest (cBin (aBin neD) (cCall F__law_sorts (cCons (cBin (aBin ixD) (cVar 1) (cVar 2)) cNil)) (cVar 3))) (cTest (cBin (aBin neD) (cCall F__law_bases (cCons (cBin (aBin ixD) (cVar 1) (cVar 2)) cNil)) (cCall F__law_due (cCons (cVar 2) cNil))))) (sRet (cC (.bl false))) sNil))
theorem inner_eq (d : D) (w2 w3 : Option W) : forL (gNm 2) xBody ((List.range 26).map fun (j : Nat) => D.int (0 + (j : Int))) [some (.val d), some (.val (.lst (xsG d))), w2, w3, none] T0 = .nx [some (.val d), some (.val (.lst (xsG d))), some (.val (.int 25)), some (.val due25), none] T0 := by kernel_rfl
theorem mulX {d : D} {k : Nat} (hk : k ≤ 30) : mulD (.lst [d]) (.int (k : Nat)) = some (.lst (List.replicate k [d]).flatten) := by
  have hc : (-(2 ^ 63) ≤ ((k : Nat) : Int) ∧ ((k : Nat) : Int) < 2 ^ 63) ∧ [d].length * ((k : Nat) : Int).toNat ≤ sizeLine := by
    have e63 : (2 : Int) ^ 63 = 9223372036854775808 := by decide +kernel
    rw [e63, szl]
    simp only [List.length_cons, List.length_nil]
    omega
  simp only [mulD]
  rw [if_pos hc, Int.toNat_natCast]
theorem eqStrX {y : Str} : eqD (.str y) (.str y) = some (.bl true) := by
  show some (D.bl (decide (y = y))) = _
  rw [decide_eq_true rfl]
theorem kept_eq {d : D} (h : Thing d) : F__law_kept_right [.val (.lst (xsG d)), .val d] T0 = .ok (.val (.bl true)) T0 := by
  obtain ⟨y, ey⟩ := h.rl (k := 22) (by decide)
  obtain ⟨z, ez⟩ := h.r2
  let last : D := .xv "Broken" [("shown", .int 7), ("index", d)]
  let ε : Ev := [some (.val (.lst (xsG d))), some (.val d), some (.val (.lst (List.replicate 22 d))), none, some (.val last)]
  have key : ∀ {r : Rt}, (sRet (cAndV (cBin (aBin eqD) (cBi (aFn reprD5) (cCons (cVar 2) cNil)) (cBi (aFn reprD5) (cCons (cBin (aBin mulD) (cLst (cCons (cVar 1) cNil)) (cBi (aFn lenD) (cCons (cVar 2) cNil))) cNil))) (cBin (aBin eqD) (cBi (aFn reprD5) (cCons (cLst (cCons (cXvf excF_index "index" (cVar 4)) (cCons (cXvf excF_shown "shown" (cVar 4)) cNil))) cNil)) (cBi (aFn reprD5) (cCons (cLst (cCons (cVar 1) (cCons (cC (.int 7)) cNil))) cNil))))) ε T0 = r → m__law_kept_right ([W.val (.lst (xsG d)), .val d].map some ++ List.replicate (5 - 2) none) T0 = r := fun hr => by
    have e : m__law_kept_right ([W.val (.lst (xsG d)), .val d].map some ++ List.replicate (5 - 2) none) T0 = ((sRet (cAndV (cBin (aBin eqD) (cBi (aFn reprD5) (cCons (cVar 2) cNil)) (cBi (aFn reprD5) (cCons (cBin (aBin mulD) (cLst (cCons (cVar 1) cNil)) (cBi (aFn lenD) (cCons (cVar 2) cNil))) cNil))) (cBin (aBin eqD) (cBi (aFn reprD5) (cCons (cLst (cCons (cXvf excF_index "index" (cVar 4)) (cCons (cXvf excF_shown "shown" (cVar 4)) cNil))) cNil)) (cBi (aFn reprD5) (cCons (cLst (cCons (cVar 1) (cCons (cC (.int 7)) cNil))) cNil)))))) ε T0 := by kernel_rfl
    rw [e]
    exact hr
  have f1 : cXvf excF_index "index" (cVar 4) ε T0 = .ok (.val d) T0 := by kernel_rfl
  have f2 : cXvf excF_shown "shown" (cVar 4) ε T0 = .ok (.val (.int 7)) T0 := by kernel_rfl
  refine callE rfl (key (retS (andVY (S1 := T0) (binD (bi1S (varS rfl) ey) (bi1S (d := .lst (List.replicate 22 d)) (binD (d2 := .int ((22 : Nat) : Int)) (lstS (.cons (varS rfl) .nil) (Nat.le_of_ble_eq_true rfl)) (bi1S (varS rfl) rfl) (mulX (by decide))) ey) eqStrX) (binD (bi1S (lstS (.cons f1 (.cons f2 .nil)) (Nat.le_of_ble_eq_true rfl)) ez) (bi1S (lstS (.cons (varS rfl) (.cons cS .nil)) (Nat.le_of_ble_eq_true rfl)) ez) eqStrX))))
abbrev raE (d : D) : Ev := [some (.val d), some (.ref 1), none]
abbrev raS (l : List D) : Sto := [Ob.lst [], Ob.lst l]
theorem try_step {d : D} {y : Str} {C B f : Str} {ns : List Str} {fs : List (Str × D)} {b : MS} {l : List D} (ey : reprD5 [d] = some (.str y)) (hb : b (raE d) (raS l) = .ex C fs (raS l)) (hi : isaX excT C [B] = some true)
    (hf : cXf ns f (cVar 2) [some (.val d), some (.ref 1), some (.exc C fs)] (raS l) = .ok (.val d) (raS l)) (hl : l.length < 100) :
    sTryW excT b [([B], some 2, sExpr (cMut gAppend (cVar 1) (cCons (cBi (aFn reprD5) (cCons (cXf ns f (cVar 2)) cNil)) cNil)))] (raE d) (raS l) = .nx (raE d) (raS (l ++ [.str y])) := by
  unfold sTryW
  rw [hb]
  show sTryE excT (raE d) _ C fs (raS l) = _
  unfold sTryE
  rw [hi]
  simp only []
  refine Eq.trans (congrArg (unE (some 2)) (a₂ := Rt.nx [some (.val d), some (.ref 1), some (.exc C fs)] (raS (l ++ [.str y]))) ?_) rfl
  exact (appS (i := 1) (n := 1) (xs := l) rfl rfl (bi1S hf ey) rfl (by rw [szl]; omega)).trans rfl
theorem eq3 {y : Str} (h : PyData.strOk y = true) : eqD (.lst [.str y, .str y, .str y]) (.lst [.str y, .str y, .str y]) = some (.bl true) := by
  have e1 : toP (.lst [.str y, .str y, .str y]) = some (.list [.str y, .str y, .str y]) := rfl
  have e0 : scE (.lst [.str y, .str y, .str y]) (.lst [.str y, .str y, .str y]) = none := rfl
  have s1 : SeqAt.shaped (.list [.str y, .str y, .str y]) = true := (Sh.list (n := 0) fun d hd => by
    simp only [List.mem_cons, List.mem_nil_iff, or_false, or_self] at hd
    rw [hd]
    exact Sh.str h).shaped
  unfold eqD eqDD
  simp only [e0, e1, s1, Bool.and_self, if_true, Option.map_some]
  simp [PyData.eqv, PyData.eqvAll]
theorem raised_eq {d : D} (h : Thing d) : F__law_raised_right [.val d] T0 = .ok (.val (.bl true)) T0 := by
  obtain ⟨y, ey, oy⟩ := h.r
  have s0 : sAsg (gNm 1) (cLstM cNil) [some (.val d), none, none] T0 = .nx (raE d) (raS []) := rfl
  have s1 := try_step (d := d) (C := "InvalidText") (B := "NotRight") (f := "given") (ns := excF_given) (fs := [("given", d)]) (b := sRaise "InvalidText" ["given"] (cCons (cVar 0) cNil)) (l := []) ey (by kernel_rfl) (by decide +kernel) (by kernel_rfl) (by decide)
  have s2 := try_step (d := d) (C := "UnknownName") (B := "NotThere") (f := "given") (ns := excF_given) (fs := [("given", d)]) (b := sRaise "UnknownName" ["given"] (cCons (cVar 0) cNil)) (l := [.str y]) ey (by kernel_rfl) (by decide +kernel) (by kernel_rfl) (Nat.le_of_ble_eq_true rfl)
  have s3 := try_step (d := d) (C := "Broken") (B := "CannotBe") (f := "index") (ns := excF_index) (fs := [("shown", .int 3), ("index", d)]) (b := sRaise "Broken" ["index", "shown"] (cCons (cVar 0) (cCons (cC (.int 3)) cNil))) (l := [.str y, .str y]) ey (by kernel_rfl) (by decide +kernel) (by kernel_rfl) (Nat.le_of_ble_eq_true rfl)
  refine callV rfl (seqS s0 (seqS s1 (seqS s2 (seqS s3 (retS (binS (varS rfl) (binD (d2 := .int ((3 : Nat) : Int)) (lstS (.cons (bi1S (varS rfl) ey) .nil) (Nat.le_of_ble_eq_true rfl)) cS (mulX (by decide))) (aBinS (x := .lst [.str y, .str y, .str y]) rfl rfl (eq3 oy)))))))) rfl
theorem forL_consX {g : MG} {body : MS} {d : D} {ds : List D} {ε ε1 ε2 : Ev} {S S2 : Sto} {q : Rt} (h : g (.val d) ε = some ε1) (hb : body ε1 S = .nx ε2 S2) (r : forL g body ds ε2 S2 = q) : forL g body (d :: ds) ε S = q := by
  rw [forL, h]
  simp only [hb]
  exact r
theorem right_eq {d : D} (h : Thing d) : F__law_right [.val d] T0 = .ok (.val (.bl true)) T0 := by
  have out : ∀ w2 w3 : Option W, (sSeq (sFor (gNm 2) (cRange1 (cCons (cBi (aFn lenD) (cCons (cVar 1) cNil)) cNil)) (sSeq (sAsg (gNm 3) (cLc false [4] (gNm 4) (cRange1 (cCons (cBi (aFn lenD) (cCons (cVar 1) cNil)) cNil)) tYesM (cBin (aBin eqD) (cVar 4) (cVar 2)))) (sIf (cOrT (cTest (cBin (aBin neD) (cCall F__law_sorts (cCons (cBin (aBin ixD) (cVar 1) (cVar 2)) cNil)) (cVar 3))) (cTest (cBin (aBin neD) (cCall F__law_bases (cCons (cBin (aBin ixD) (cVar 1) (cVar 2)) cNil)) (cCall F__law_due (cCons (cVar 2) cNil))))) (sRet (cC (.bl false))) sNil))) (sIf (cNotT (cTest (cCall F__law_kept_right (cCons (cVar 1) (cCons (cVar 0) cNil))))) (sRet (cC (.bl false))) sNil)) [some (.val d), some (.val (.lst (xsG d))), w2, w3, none] T0 = .nx [some (.val d), some (.val (.lst (xsG d))), some (.val (.int 25)), some (.val due25), none] T0 := fun w2 w3 =>
    seqS (forS (range1S (m := 26) (consS (bi1S (varS rfl) rfl) rfl) (by decide)) (inner_eq d w2 w3)) (skipS (notB (testS (callS (consS (varS rfl) (consS (varS rfl) rfl)) (kept_eq h)))))
  refine callE rfl (seqS (forS (iterSL (callS (consS (varS rfl) rfl) (given_eq d))) (r := .nx [some (.val d), some (.val (.lst (xsG d))), some (.val (.int 25)), some (.val due25), none] T0) ?_) (retS (callS (consS (varS rfl) rfl) (raised_eq h))))
  exact forL_consX rfl (out none none) (forL_consX rfl (out _ _) rfl)
end Bk
set_option Elab.async false
set_option linter.all false
set_option maxRecDepth 100000
set_option maxHeartbeats 4000000
namespace Bk
open PySem AM
theorem lcL_ff {g : MG} {ft : MT} {fe : ME} {ε : Ev} {n : Nat} {T : Sto} : ∀ l : List D, (∀ d ∈ l, ∃ ε1, g (.val d) ε = some ε1 ∧ ft ε1 T = .ok false T) → lcL n g ft fe ε l T = some T
  | [], _ => rfl
  | d :: l, h => by
    obtain ⟨ε1, e1, e2⟩ := h d List.mem_cons_self
    rw [lcL, e1]
    simp only [e2]
    exact lcL_ff l fun x hx => h x (List.mem_cons_of_mem _ hx)
theorem cLc_ff {g : MG} {ft : MT} {fe : ME} {ε : Ev} {vs : List Nat} {fi : MI} {l : List D} (hi : fi ε [] = .ok l []) (h : ∀ d ∈ l, ∃ ε1, g (.val d) (wipeE ε vs) = some ε1 ∧ ft ε1 [Ob.lst []] = .ok false [Ob.lst []]) : cLc false vs g fi ft fe ε [] = .ok (.val (.lst [])) [] := by
  unfold cLc
  rw [hi]
  simp only [Rs.bind]
  have e := lcL_ff (fe := fe) (n := 0) l h
  show (match lcL 0 g ft fe (wipeE ε vs) l [Ob.lst []] with | some S => _ | none => _) = _
  rw [e]
  rfl
def ths (zs : List Int) : List D := [.non, .str "a", .tup [.int 1, .str "x"], .bl true, .int (-3)] ++ zs.map D.int
theorem ths_ok {zs : List Int} (h : ∀ z ∈ zs, 0 ≤ z ∧ z < 1000000000000) : ∀ d ∈ ths zs, Thing d := by
  intro d hd
  rcases List.mem_append.mp hd with hd | hd
  · simp only [List.mem_cons, List.mem_nil_iff, or_false] at hd
    rcases hd with rfl | rfl | rfl | rfl | rfl
    · exact thing_non
    · exact thing_a
    · exact thing_t
    · exact thing_bl
    · exact thing_m3
  · obtain ⟨z, hz, rfl⟩ := List.mem_map.mp hd
    exact thing_int (h z hz).1 (h z hz).2
def lim : D := .lst [.int 8, .int 5, .int 40, .int 12, .int 3, .int 12, .int 9999, .int 6, .int 5]
theorem powX : powD (.int 10) (.int 12) = some (.int 1000000000000) := by kernel_rfl
theorem law_true (ns : List Int) (h : ns.length ≤ 63) : ∃ S, F_law [.val (.fl (ns.map D.int))] [] = .ok (.val (.bl true)) S := by
  obtain ⟨ms, em⟩ : ∃ ms : List Int, cutL (ns.map D.int) none (some 3) = ms.map D.int := by
    unfold cutL
    rw [← List.map_drop, ← List.map_take]
    exact ⟨_, rfl⟩
  have hml : ms.length ≤ 63 := by
    have : (cutL (ns.map D.int) none (some 3)).length ≤ ns.length := by
      unfold cutL
      rw [List.length_take, List.length_drop, List.length_map]
      omega
    rw [em, List.length_map] at this
    omega
  let Fl : Option W := some (.val (.fl (ns.map D.int)))
  let zs : List Int := ms.map fun z => z % 1000000000000
  have s1 : ∀ r : Rt, (sSeq (sIf (cTest (cBin (aBin neD) (cVar 1) (cLst (cCons (cC (.int 8)) (cCons (cC (.int 5)) (cCons (cC (.int 40)) (cCons (cC (.int 12)) (cCons (cC (.int 3)) (cCons (cC (.int 12)) (cCons (cC (.int 9999)) (cCons (cC (.int 6)) (cCons (cC (.int 5)) cNil)))))))))))) (sRet (cC (.bl false))) sNil) (sSeq (sAsg (gNm 2) (cBin (aBin addD) (cLst (cCons (cC .non) (cCons (cC (.str "a")) (cCons (cTup (cCons (cC (.int 1)) (cCons (cC (.str "x")) cNil))) (cCons (cC (.bl true)) (cCons (cUn (aUn negD) (cC (.int 3))) cNil)))))) (cLc false [3] (gNm 3) (cIter (cSl (cVar 0) oNone (oSome (cC (.int 3))))) tYesM (cBin (aBin modD) (cBi (aFn intFD) (cCons (cVar 3) cNil)) (cBin (aBin powD) (cC (.int 10)) (cC (.int 12))))))) (sRet (cBin (aBin eqD) (cLc false [4] (gNm 4) (cIter (cVar 2)) (cNotT (cTest (cCall F__law_right (cCons (cVar 4) cNil)))) (cVar 4)) (cLst cNil))))) [Fl, some (.val lim), none, none, none] [] = r → m_law ([W.val (.fl (ns.map D.int))].map some ++ List.replicate (5 - 1) none) [] = r := fun r hr => by
    refine seqS (ε1 := [Fl, some (.val (.lst [.int 8, .int 5, .int 40, .int 12, .int 3, .int 12, .int 9999])), none, none, none]) (S1 := []) (asgS (lstS (.cons cS (.cons cS (.cons cS (.cons cS (.cons cS (.cons cS (.cons cS .nil))))))) (Nat.le_of_ble_eq_true rfl))) (seqS (asgS (w := .val lim) (S1 := []) (binD (varS rfl) (lstS (.cons cS (.cons cS .nil)) (Nat.le_of_ble_eq_true rfl)) rfl)) hr)
  have t1 : cTest (cBin (aBin neD) (cVar 1) (cLst (cCons (cC (.int 8)) (cCons (cC (.int 5)) (cCons (cC (.int 40)) (cCons (cC (.int 12)) (cCons (cC (.int 3)) (cCons (cC (.int 12)) (cCons (cC (.int 9999)) (cCons (cC (.int 6)) (cCons (cC (.int 5)) cNil))))))))))) [Fl, some (.val lim), none, none, none] [] = .ok false [] :=
    testS (binD (d2 := lim) (varS rfl) (lstS (.cons cS (.cons cS (.cons cS (.cons cS (.cons cS (.cons cS (.cons cS (.cons cS (.cons cS .nil))))))))) (Nat.le_of_ble_eq_true rfl)) (by kernel_rfl))
  have a2 : cLc false [3] (gNm 3) (cIter (cSl (cVar 0) oNone (oSome (cC (.int 3))))) tYesM (cBin (aBin modD) (cBi (aFn intFD) (cCons (cVar 3) cNil)) (cBin (aBin powD) (cC (.int 10)) (cC (.int 12)))) [Fl, some (.val lim), none, none, none] [] = .ok (.val (.lst (ms.map fun z => D.int (z % 1000000000000)))) [] := by
    refine cLc_at (enc := D.int) (f := fun z => D.int (z % 1000000000000)) ms ?_ (fun z hz => ⟨_, rfl, fun acc => binD (bi1S (varS rfl) rfl) (binD cS cS powX) ?_⟩) (by rw [szl]; omega)
    · refine iterSL ?_
      have h0 : ([Fl, some (.val lim), none, none, none] : Ev)[0]? = some (some (.val (.fl (ns.map D.int)))) := rfl
      simp only [cSl, varS h0, oNone, oSome, cC, Rs.bind, view_val, slD, em]
    · show (if (0 : Int) < 1000000000000 then some (D.int (z % 1000000000000)) else none) = _
      rw [if_pos (by decide)]
  have ez : (ms.map fun z => D.int (z % 1000000000000)) = zs.map D.int := by
    show _ = (ms.map fun z => z % 1000000000000).map D.int
    rw [List.map_map]
    rfl
  rw [ez] at a2
  have hzs : ∀ z ∈ zs, 0 ≤ z ∧ z < 1000000000000 := fun z hz => by
    obtain ⟨m, _, rfl⟩ := List.mem_map.mp hz
    exact ⟨Int.emod_nonneg _ (by decide), Int.emod_lt_of_pos _ (by decide)⟩
  have s2 : sAsg (gNm 2) (cBin (aBin addD) (cLst (cCons (cC .non) (cCons (cC (.str "a")) (cCons (cTup (cCons (cC (.int 1)) (cCons (cC (.str "x")) cNil))) (cCons (cC (.bl true)) (cCons (cUn (aUn negD) (cC (.int 3))) cNil)))))) (cLc false [3] (gNm 3) (cIter (cSl (cVar 0) oNone (oSome (cC (.int 3))))) tYesM (cBin (aBin modD) (cBi (aFn intFD) (cCons (cVar 3) cNil)) (cBin (aBin powD) (cC (.int 10)) (cC (.int 12)))))) [Fl, some (.val lim), none, none, none] [] = .nx [Fl, some (.val lim), some (.val (.lst (ths zs))), none, none] [] := by
    refine asgS (binD (lstS (ds := [.non, .str "a", .tup [.int 1, .str "x"], .bl true, .int (-3)]) (.cons cS (.cons cS (.cons (tupV (.cons cS (.cons cS .nil)) (Nat.le_of_ble_eq_true rfl)) (.cons cS (.cons rfl .nil))))) (Nat.le_of_ble_eq_true rfl)) a2 ?_)
    show (if _ then _ else _) = _
    rw [if_pos (by
      rw [List.length_map, List.length_map, szl]
      simp only [List.length_cons, List.length_nil]
      omega)]
    rfl
  refine ⟨[], callE rfl (s1 _ (seqS (skipS t1) (seqS s2 (retS (binD (d := .lst []) (d2 := .lst []) (cLc_ff (iterSL (varS rfl)) (fun d hd => ⟨_, rfl, notB (testS (callS (consS (varS rfl) rfl) (right_eq (ths_ok hzs d hd))))⟩)) (lstS .nil (Nat.zero_le _)) rfl)))))⟩
end Bk
set_option Elab.async false
set_option linter.all false
set_option maxRecDepth 100000
set_option maxHeartbeats 4000000
namespace Bk
open PySem PySem.Spec PyProof.Rows L2 PySem.NumText
open PySem.W (Frag)
structure Tx (P : Program) (w : World) (K : Frag) (mg : Str → Option Value) (base : Heap) : Prop where
  e : SaysE fileN ex fn fx dn w K
  h : ∃ h : Heap, K.In h ∧ h.Ns mainGlobals mg
  pf : ((P.main.file : Str) == fileN) = true
  ps : (P.main.scope.names.lookup ("super" : Str)).isSome = false
  tb : TabBs tf K mg base
theorem Tx.at {P : Program} {w : World} {K : Frag} {mg : Str → Option Value} {base base2 : Heap} (T : Tx P w K mg base) (B : TabBs tf K mg base2) : Tx P w K mg base2 := ⟨T.e, T.h, T.pf, T.ps, B⟩
section
variable {P : Program} {w : World} {K : Frag} {mg : Str → Option Value} {base : Heap}
theorem Tx.c (T : Tx P w K mg base) : SaysC fileN ex fn fx K := T.e.toC
theorem Tx.fct (T : Tx P w K mg base) (i : Nat) {f : He.Fa} (h : fa[i]? = some f := by rfl) : f.ok K = true :=
  List.all_eq_true.mp (show (fa.all fun f => f.ok K) = true from (He.ba T.c.ex).1) f (List.mem_of_getElem? h)
theorem Tx.xt (T : Tx P w K mg base) (i : Nat) {f : Frag → Bool} (h : xx[i]? = some f := by rfl) : f K = true :=
  List.all_eq_true.mp (show (xx.all fun f => f K) = true from (He.ba T.c.ex).2) f (List.mem_of_getElem? h)
theorem g_NotRight (T : Tx P w K mg base) : mg "NotRight" = some (.ref (He.ga K "NotRight")) := let ⟨_, X, G⟩ := T.h; He.glo_ok X G (T.fct 0)
theorem g_InvalidText (T : Tx P w K mg base) : mg "InvalidText" = some (.ref (He.ga K "InvalidText")) := let ⟨_, X, G⟩ := T.h; He.glo_ok X G (T.fct 1)
theorem g_InvalidSlots (T : Tx P w K mg base) : mg "InvalidSlots" = some (.ref (He.ga K "InvalidSlots")) := let ⟨_, X, G⟩ := T.h; He.glo_ok X G (T.fct 2)
theorem g_InvalidName (T : Tx P w K mg base) : mg "InvalidName" = some (.ref (He.ga K "InvalidName")) := let ⟨_, X, G⟩ := T.h; He.glo_ok X G (T.fct 3)
theorem g_InvalidAsk (T : Tx P w K mg base) : mg "InvalidAsk" = some (.ref (He.ga K "InvalidAsk")) := let ⟨_, X, G⟩ := T.h; He.glo_ok X G (T.fct 4)
theorem g_InvalidFact (T : Tx P w K mg base) : mg "InvalidFact" = some (.ref (He.ga K "InvalidFact")) := let ⟨_, X, G⟩ := T.h; He.glo_ok X G (T.fct 5)
theorem g_InvalidRecord (T : Tx P w K mg base) : mg "InvalidRecord" = some (.ref (He.ga K "InvalidRecord")) := let ⟨_, X, G⟩ := T.h; He.glo_ok X G (T.fct 6)
theorem g_InvalidWord (T : Tx P w K mg base) : mg "InvalidWord" = some (.ref (He.ga K "InvalidWord")) := let ⟨_, X, G⟩ := T.h; He.glo_ok X G (T.fct 7)
theorem g_InvalidWish (T : Tx P w K mg base) : mg "InvalidWish" = some (.ref (He.ga K "InvalidWish")) := let ⟨_, X, G⟩ := T.h; He.glo_ok X G (T.fct 8)
theorem g_InvalidClaim (T : Tx P w K mg base) : mg "InvalidClaim" = some (.ref (He.ga K "InvalidClaim")) := let ⟨_, X, G⟩ := T.h; He.glo_ok X G (T.fct 9)
theorem g_InvalidPlace (T : Tx P w K mg base) : mg "InvalidPlace" = some (.ref (He.ga K "InvalidPlace")) := let ⟨_, X, G⟩ := T.h; He.glo_ok X G (T.fct 10)
theorem g_NotATown (T : Tx P w K mg base) : mg "NotATown" = some (.ref (He.ga K "NotATown")) := let ⟨_, X, G⟩ := T.h; He.glo_ok X G (T.fct 11)
theorem g_NotALog (T : Tx P w K mg base) : mg "NotALog" = some (.ref (He.ga K "NotALog")) := let ⟨_, X, G⟩ := T.h; He.glo_ok X G (T.fct 12)
theorem g_InvalidStands (T : Tx P w K mg base) : mg "InvalidStands" = some (.ref (He.ga K "InvalidStands")) := let ⟨_, X, G⟩ := T.h; He.glo_ok X G (T.fct 13)
theorem g_InvalidRoads (T : Tx P w K mg base) : mg "InvalidRoads" = some (.ref (He.ga K "InvalidRoads")) := let ⟨_, X, G⟩ := T.h; He.glo_ok X G (T.fct 14)
theorem g_InvalidFacts (T : Tx P w K mg base) : mg "InvalidFacts" = some (.ref (He.ga K "InvalidFacts")) := let ⟨_, X, G⟩ := T.h; He.glo_ok X G (T.fct 15)
theorem g_InvalidReadings (T : Tx P w K mg base) : mg "InvalidReadings" = some (.ref (He.ga K "InvalidReadings")) := let ⟨_, X, G⟩ := T.h; He.glo_ok X G (T.fct 16)
theorem g_InvalidWishes (T : Tx P w K mg base) : mg "InvalidWishes" = some (.ref (He.ga K "InvalidWishes")) := let ⟨_, X, G⟩ := T.h; He.glo_ok X G (T.fct 17)
theorem g_InvalidChanges (T : Tx P w K mg base) : mg "InvalidChanges" = some (.ref (He.ga K "InvalidChanges")) := let ⟨_, X, G⟩ := T.h; He.glo_ok X G (T.fct 18)
theorem g_NotThere (T : Tx P w K mg base) : mg "NotThere" = some (.ref (He.ga K "NotThere")) := let ⟨_, X, G⟩ := T.h; He.glo_ok X G (T.fct 19)
theorem g_UnknownName (T : Tx P w K mg base) : mg "UnknownName" = some (.ref (He.ga K "UnknownName")) := let ⟨_, X, G⟩ := T.h; He.glo_ok X G (T.fct 20)
theorem g_InUse (T : Tx P w K mg base) : mg "InUse" = some (.ref (He.ga K "InUse")) := let ⟨_, X, G⟩ := T.h; He.glo_ok X G (T.fct 21)
theorem g_CannotBe (T : Tx P w K mg base) : mg "CannotBe" = some (.ref (He.ga K "CannotBe")) := let ⟨_, X, G⟩ := T.h; He.glo_ok X G (T.fct 22)
theorem g_Impossible (T : Tx P w K mg base) : mg "Impossible" = some (.ref (He.ga K "Impossible")) := let ⟨_, X, G⟩ := T.h; He.glo_ok X G (T.fct 23)
theorem g_OtherTown (T : Tx P w K mg base) : mg "OtherTown" = some (.ref (He.ga K "OtherTown")) := let ⟨_, X, G⟩ := T.h; He.glo_ok X G (T.fct 24)
theorem g_TooMany (T : Tx P w K mg base) : mg "TooMany" = some (.ref (He.ga K "TooMany")) := let ⟨_, X, G⟩ := T.h; He.glo_ok X G (T.fct 25)
theorem g_Contradicts (T : Tx P w K mg base) : mg "Contradicts" = some (.ref (He.ga K "Contradicts")) := let ⟨_, X, G⟩ := T.h; He.glo_ok X G (T.fct 26)
theorem g_NothingToUndo (T : Tx P w K mg base) : mg "NothingToUndo" = some (.ref (He.ga K "NothingToUndo")) := let ⟨_, X, G⟩ := T.h; He.glo_ok X G (T.fct 27)
theorem g_Broken (T : Tx P w K mg base) : mg "Broken" = some (.ref (He.ga K "Broken")) := let ⟨_, X, G⟩ := T.h; He.glo_ok X G (T.fct 28)
theorem g__law_sorts (T : Tx P w K mg base) : mg "_law_sorts" = some (.ref (He.ga K "_law_sorts")) := let ⟨_, X, G⟩ := T.h; He.glo_ok X G (T.fct 29)
theorem g__law_bases (T : Tx P w K mg base) : mg "_law_bases" = some (.ref (He.ga K "_law_bases")) := let ⟨_, X, G⟩ := T.h; He.glo_ok X G (T.fct 30)
theorem g__law_due (T : Tx P w K mg base) : mg "_law_due" = some (.ref (He.ga K "_law_due")) := let ⟨_, X, G⟩ := T.h; He.glo_ok X G (T.fct 31)
theorem g__law_given (T : Tx P w K mg base) : mg "_law_given" = some (.ref (He.ga K "_law_given")) := let ⟨_, X, G⟩ := T.h; He.glo_ok X G (T.fct 32)
theorem g__law_kept_right (T : Tx P w K mg base) : mg "_law_kept_right" = some (.ref (He.ga K "_law_kept_right")) := let ⟨_, X, G⟩ := T.h; He.glo_ok X G (T.fct 33)
theorem g__law_raised_right (T : Tx P w K mg base) : mg "_law_raised_right" = some (.ref (He.ga K "_law_raised_right")) := let ⟨_, X, G⟩ := T.h; He.glo_ok X G (T.fct 34)
theorem g__law_right (T : Tx P w K mg base) : mg "_law_right" = some (.ref (He.ga K "_law_right")) := let ⟨_, X, G⟩ := T.h; He.glo_ok X G (T.fct 35)
theorem g_law (T : Tx P w K mg base) : mg "law" = some (.ref (He.ga K "law")) := let ⟨_, X, G⟩ := T.h; He.glo_ok X G (T.fct 36)
theorem b_len (T : Tx P w K mg base) : mg "len" = none := let ⟨_, X, G⟩ := T.h; He.free_ok X G (T.fct 37)
theorem b_int (T : Tx P w K mg base) : mg "int" = none := let ⟨_, X, G⟩ := T.h; He.free_ok X G (T.fct 38)
theorem b_range (T : Tx P w K mg base) : mg "range" = none := let ⟨_, X, G⟩ := T.h; He.free_ok X G (T.fct 39)
theorem b_isinstance (T : Tx P w K mg base) : mg "isinstance" = none := let ⟨_, X, G⟩ := T.h; He.free_ok X G (T.fct 40)
theorem b_repr (T : Tx P w K mg base) : mg "repr" = none := let ⟨_, X, G⟩ := T.h; He.free_ok X G (T.fct 41)
theorem b_super (T : Tx P w K mg base) : mg "super" = none := let ⟨_, X, G⟩ := T.h; He.free_ok X G (T.fct 42)
theorem b_ValueError (T : Tx P w K mg base) : mg "ValueError" = none := let ⟨_, X, G⟩ := T.h; He.free_ok X G (T.fct 43)
theorem b_LookupError (T : Tx P w K mg base) : mg "LookupError" = none := let ⟨_, X, G⟩ := T.h; He.free_ok X G (T.fct 44)
theorem b_ArithmeticError (T : Tx P w K mg base) : mg "ArithmeticError" = none := let ⟨_, X, G⟩ := T.h; He.free_ok X G (T.fct 45)
theorem b_KeyError (T : Tx P w K mg base) : mg "KeyError" = none := let ⟨_, X, G⟩ := T.h; He.free_ok X G (T.fct 46)
theorem b_IndexError (T : Tx P w K mg base) : mg "IndexError" = none := let ⟨_, X, G⟩ := T.h; He.free_ok X G (T.fct 47)
theorem b_ZeroDivisionError (T : Tx P w K mg base) : mg "ZeroDivisionError" = none := let ⟨_, X, G⟩ := T.h; He.free_ok X G (T.fct 48)
theorem c_MOST_SLOTS (T : Tx P w K mg base) : ∃ t, mg "MOST_SLOTS" = some (.int 8 t) := let ⟨_, X, G⟩ := T.h; He.int_ok X G (T.fct 49)
theorem c_MOST_STANDS (T : Tx P w K mg base) : ∃ t, mg "MOST_STANDS" = some (.int 5 t) := let ⟨_, X, G⟩ := T.h; He.int_ok X G (T.fct 50)
theorem c_MOST_SIZE (T : Tx P w K mg base) : ∃ t, mg "MOST_SIZE" = some (.int 40 t) := let ⟨_, X, G⟩ := T.h; He.int_ok X G (T.fct 51)
theorem c_MOST_ROADS (T : Tx P w K mg base) : ∃ t, mg "MOST_ROADS" = some (.int 12 t) := let ⟨_, X, G⟩ := T.h; He.int_ok X G (T.fct 52)
theorem c_MOST_TIME (T : Tx P w K mg base) : ∃ t, mg "MOST_TIME" = some (.int 3 t) := let ⟨_, X, G⟩ := T.h; He.int_ok X G (T.fct 53)
theorem c_MOST_FACTS (T : Tx P w K mg base) : ∃ t, mg "MOST_FACTS" = some (.int 12 t) := let ⟨_, X, G⟩ := T.h; He.int_ok X G (T.fct 54)
theorem c_MOST_NUMBER (T : Tx P w K mg base) : ∃ t, mg "MOST_NUMBER" = some (.int 9999 t) := let ⟨_, X, G⟩ := T.h; He.int_ok X G (T.fct 55)
theorem c_MOST_READINGS (T : Tx P w K mg base) : ∃ t, mg "MOST_READINGS" = some (.int 6 t) := let ⟨_, X, G⟩ := T.h; He.int_ok X G (T.fct 56)
theorem c_MOST_CHANGES (T : Tx P w K mg base) : ∃ t, mg "MOST_CHANGES" = some (.int 5 t) := let ⟨_, X, G⟩ := T.h; He.int_ok X G (T.fct 57)
theorem mt_InvalidText___init__ (T : Tx P w K mg base) : Meth K (He.ga K "InvalidText") "__init__" (He.ma K (He.ga K "InvalidText") "__init__") := He.meth_ok (T.fct 58)
theorem mt_InvalidSlots___init__ (T : Tx P w K mg base) : Meth K (He.ga K "InvalidSlots") "__init__" (He.ma K (He.ga K "InvalidSlots") "__init__") := He.meth_ok (T.fct 59)
theorem mt_InvalidName___init__ (T : Tx P w K mg base) : Meth K (He.ga K "InvalidName") "__init__" (He.ma K (He.ga K "InvalidName") "__init__") := He.meth_ok (T.fct 60)
theorem mt_InvalidAsk___init__ (T : Tx P w K mg base) : Meth K (He.ga K "InvalidAsk") "__init__" (He.ma K (He.ga K "InvalidAsk") "__init__") := He.meth_ok (T.fct 61)
theorem mt_InvalidFact___init__ (T : Tx P w K mg base) : Meth K (He.ga K "InvalidFact") "__init__" (He.ma K (He.ga K "InvalidFact") "__init__") := He.meth_ok (T.fct 62)
theorem mt_InvalidRecord___init__ (T : Tx P w K mg base) : Meth K (He.ga K "InvalidRecord") "__init__" (He.ma K (He.ga K "InvalidRecord") "__init__") := He.meth_ok (T.fct 63)
theorem mt_InvalidWord___init__ (T : Tx P w K mg base) : Meth K (He.ga K "InvalidWord") "__init__" (He.ma K (He.ga K "InvalidWord") "__init__") := He.meth_ok (T.fct 64)
theorem mt_InvalidWish___init__ (T : Tx P w K mg base) : Meth K (He.ga K "InvalidWish") "__init__" (He.ma K (He.ga K "InvalidWish") "__init__") := He.meth_ok (T.fct 65)
theorem mt_InvalidClaim___init__ (T : Tx P w K mg base) : Meth K (He.ga K "InvalidClaim") "__init__" (He.ma K (He.ga K "InvalidClaim") "__init__") := He.meth_ok (T.fct 66)
theorem mt_InvalidPlace___init__ (T : Tx P w K mg base) : Meth K (He.ga K "InvalidPlace") "__init__" (He.ma K (He.ga K "InvalidPlace") "__init__") := He.meth_ok (T.fct 67)
theorem mt_NotATown___init__ (T : Tx P w K mg base) : Meth K (He.ga K "NotATown") "__init__" (He.ma K (He.ga K "NotATown") "__init__") := He.meth_ok (T.fct 68)
theorem mt_NotALog___init__ (T : Tx P w K mg base) : Meth K (He.ga K "NotALog") "__init__" (He.ma K (He.ga K "NotALog") "__init__") := He.meth_ok (T.fct 69)
theorem mt_InvalidStands___init__ (T : Tx P w K mg base) : Meth K (He.ga K "InvalidStands") "__init__" (He.ma K (He.ga K "InvalidStands") "__init__") := He.meth_ok (T.fct 70)
theorem mt_InvalidRoads___init__ (T : Tx P w K mg base) : Meth K (He.ga K "InvalidRoads") "__init__" (He.ma K (He.ga K "InvalidRoads") "__init__") := He.meth_ok (T.fct 71)
theorem mt_InvalidFacts___init__ (T : Tx P w K mg base) : Meth K (He.ga K "InvalidFacts") "__init__" (He.ma K (He.ga K "InvalidFacts") "__init__") := He.meth_ok (T.fct 72)
theorem mt_InvalidReadings___init__ (T : Tx P w K mg base) : Meth K (He.ga K "InvalidReadings") "__init__" (He.ma K (He.ga K "InvalidReadings") "__init__") := He.meth_ok (T.fct 73)
theorem mt_InvalidWishes___init__ (T : Tx P w K mg base) : Meth K (He.ga K "InvalidWishes") "__init__" (He.ma K (He.ga K "InvalidWishes") "__init__") := He.meth_ok (T.fct 74)
theorem mt_InvalidChanges___init__ (T : Tx P w K mg base) : Meth K (He.ga K "InvalidChanges") "__init__" (He.ma K (He.ga K "InvalidChanges") "__init__") := He.meth_ok (T.fct 75)
theorem mt_UnknownName___init__ (T : Tx P w K mg base) : Meth K (He.ga K "UnknownName") "__init__" (He.ma K (He.ga K "UnknownName") "__init__") := He.meth_ok (T.fct 76)
theorem mt_InUse___init__ (T : Tx P w K mg base) : Meth K (He.ga K "InUse") "__init__" (He.ma K (He.ga K "InUse") "__init__") := He.meth_ok (T.fct 77)
theorem mt_TooMany___init__ (T : Tx P w K mg base) : Meth K (He.ga K "TooMany") "__init__" (He.ma K (He.ga K "TooMany") "__init__") := He.meth_ok (T.fct 78)
theorem mt_Contradicts___init__ (T : Tx P w K mg base) : Meth K (He.ga K "Contradicts") "__init__" (He.ma K (He.ga K "Contradicts") "__init__") := He.meth_ok (T.fct 79)
theorem mt_Broken___init__ (T : Tx P w K mg base) : Meth K (He.ga K "Broken") "__init__" (He.ma K (He.ga K "Broken") "__init__") := He.meth_ok (T.fct 80)
theorem xg_InvalidText (T : Tx P w K mg base) : oexGB "ValueError.__new__" [.type "ValueError", .type "Exception", .type "BaseException", .type "object"] "InvalidText" K = true := T.xt 0
theorem xs_InvalidText (T : Tx P w K mg base) : suGB "ValueError" "ValueError.__init__" "InvalidText" K = true := T.xt 1
theorem xt_InvalidText_given (T : Tx P w K mg base) : xtB "InvalidText" "given" K = true := T.xt 2
theorem xg_InvalidSlots (T : Tx P w K mg base) : oexGB "ValueError.__new__" [.type "ValueError", .type "Exception", .type "BaseException", .type "object"] "InvalidSlots" K = true := T.xt 3
theorem xs_InvalidSlots (T : Tx P w K mg base) : suGB "ValueError" "ValueError.__init__" "InvalidSlots" K = true := T.xt 4
theorem xt_InvalidSlots_given (T : Tx P w K mg base) : xtB "InvalidSlots" "given" K = true := T.xt 5
theorem xg_InvalidName (T : Tx P w K mg base) : oexGB "ValueError.__new__" [.type "ValueError", .type "Exception", .type "BaseException", .type "object"] "InvalidName" K = true := T.xt 6
theorem xs_InvalidName (T : Tx P w K mg base) : suGB "ValueError" "ValueError.__init__" "InvalidName" K = true := T.xt 7
theorem xt_InvalidName_given (T : Tx P w K mg base) : xtB "InvalidName" "given" K = true := T.xt 8
theorem xg_InvalidAsk (T : Tx P w K mg base) : oexGB "ValueError.__new__" [.type "ValueError", .type "Exception", .type "BaseException", .type "object"] "InvalidAsk" K = true := T.xt 9
theorem xs_InvalidAsk (T : Tx P w K mg base) : suGB "ValueError" "ValueError.__init__" "InvalidAsk" K = true := T.xt 10
theorem xt_InvalidAsk_given (T : Tx P w K mg base) : xtB "InvalidAsk" "given" K = true := T.xt 11
theorem xg_InvalidFact (T : Tx P w K mg base) : oexGB "ValueError.__new__" [.type "ValueError", .type "Exception", .type "BaseException", .type "object"] "InvalidFact" K = true := T.xt 12
theorem xs_InvalidFact (T : Tx P w K mg base) : suGB "ValueError" "ValueError.__init__" "InvalidFact" K = true := T.xt 13
theorem xt_InvalidFact_given (T : Tx P w K mg base) : xtB "InvalidFact" "given" K = true := T.xt 14
theorem xg_InvalidRecord (T : Tx P w K mg base) : oexGB "ValueError.__new__" [.type "ValueError", .type "Exception", .type "BaseException", .type "object"] "InvalidRecord" K = true := T.xt 15
theorem xs_InvalidRecord (T : Tx P w K mg base) : suGB "ValueError" "ValueError.__init__" "InvalidRecord" K = true := T.xt 16
theorem xt_InvalidRecord_given (T : Tx P w K mg base) : xtB "InvalidRecord" "given" K = true := T.xt 17
theorem xg_InvalidWord (T : Tx P w K mg base) : oexGB "ValueError.__new__" [.type "ValueError", .type "Exception", .type "BaseException", .type "object"] "InvalidWord" K = true := T.xt 18
theorem xs_InvalidWord (T : Tx P w K mg base) : suGB "ValueError" "ValueError.__init__" "InvalidWord" K = true := T.xt 19
theorem xt_InvalidWord_given (T : Tx P w K mg base) : xtB "InvalidWord" "given" K = true := T.xt 20
theorem xg_InvalidWish (T : Tx P w K mg base) : oexGB "ValueError.__new__" [.type "ValueError", .type "Exception", .type "BaseException", .type "object"] "InvalidWish" K = true := T.xt 21
theorem xs_InvalidWish (T : Tx P w K mg base) : suGB "ValueError" "ValueError.__init__" "InvalidWish" K = true := T.xt 22
theorem xt_InvalidWish_given (T : Tx P w K mg base) : xtB "InvalidWish" "given" K = true := T.xt 23
theorem xg_InvalidClaim (T : Tx P w K mg base) : oexGB "ValueError.__new__" [.type "ValueError", .type "Exception", .type "BaseException", .type "object"] "InvalidClaim" K = true := T.xt 24
theorem xs_InvalidClaim (T : Tx P w K mg base) : suGB "ValueError" "ValueError.__init__" "InvalidClaim" K = true := T.xt 25
theorem xt_InvalidClaim_given (T : Tx P w K mg base) : xtB "InvalidClaim" "given" K = true := T.xt 26
theorem xg_InvalidPlace (T : Tx P w K mg base) : oexGB "ValueError.__new__" [.type "ValueError", .type "Exception", .type "BaseException", .type "object"] "InvalidPlace" K = true := T.xt 27
theorem xs_InvalidPlace (T : Tx P w K mg base) : suGB "ValueError" "ValueError.__init__" "InvalidPlace" K = true := T.xt 28
theorem xt_InvalidPlace_given (T : Tx P w K mg base) : xtB "InvalidPlace" "given" K = true := T.xt 29
theorem xg_NotATown (T : Tx P w K mg base) : oexGB "ValueError.__new__" [.type "ValueError", .type "Exception", .type "BaseException", .type "object"] "NotATown" K = true := T.xt 30
theorem xs_NotATown (T : Tx P w K mg base) : suGB "ValueError" "ValueError.__init__" "NotATown" K = true := T.xt 31
theorem xt_NotATown_given (T : Tx P w K mg base) : xtB "NotATown" "given" K = true := T.xt 32
theorem xg_NotALog (T : Tx P w K mg base) : oexGB "ValueError.__new__" [.type "ValueError", .type "Exception", .type "BaseException", .type "object"] "NotALog" K = true := T.xt 33
theorem xs_NotALog (T : Tx P w K mg base) : suGB "ValueError" "ValueError.__init__" "NotALog" K = true := T.xt 34
theorem xt_NotALog_given (T : Tx P w K mg base) : xtB "NotALog" "given" K = true := T.xt 35
theorem xg_InvalidStands (T : Tx P w K mg base) : oexGB "ValueError.__new__" [.type "ValueError", .type "Exception", .type "BaseException", .type "object"] "InvalidStands" K = true := T.xt 36
theorem xs_InvalidStands (T : Tx P w K mg base) : suGB "ValueError" "ValueError.__init__" "InvalidStands" K = true := T.xt 37
theorem xt_InvalidStands_index (T : Tx P w K mg base) : xtB "InvalidStands" "index" K = true := T.xt 38
theorem xg_InvalidRoads (T : Tx P w K mg base) : oexGB "ValueError.__new__" [.type "ValueError", .type "Exception", .type "BaseException", .type "object"] "InvalidRoads" K = true := T.xt 39
theorem xs_InvalidRoads (T : Tx P w K mg base) : suGB "ValueError" "ValueError.__init__" "InvalidRoads" K = true := T.xt 40
theorem xt_InvalidRoads_index (T : Tx P w K mg base) : xtB "InvalidRoads" "index" K = true := T.xt 41
theorem xg_InvalidFacts (T : Tx P w K mg base) : oexGB "ValueError.__new__" [.type "ValueError", .type "Exception", .type "BaseException", .type "object"] "InvalidFacts" K = true := T.xt 42
theorem xs_InvalidFacts (T : Tx P w K mg base) : suGB "ValueError" "ValueError.__init__" "InvalidFacts" K = true := T.xt 43
theorem xt_InvalidFacts_index (T : Tx P w K mg base) : xtB "InvalidFacts" "index" K = true := T.xt 44
theorem xg_InvalidReadings (T : Tx P w K mg base) : oexGB "ValueError.__new__" [.type "ValueError", .type "Exception", .type "BaseException", .type "object"] "InvalidReadings" K = true := T.xt 45
theorem xs_InvalidReadings (T : Tx P w K mg base) : suGB "ValueError" "ValueError.__init__" "InvalidReadings" K = true := T.xt 46
theorem xt_InvalidReadings_index (T : Tx P w K mg base) : xtB "InvalidReadings" "index" K = true := T.xt 47
theorem xg_InvalidWishes (T : Tx P w K mg base) : oexGB "ValueError.__new__" [.type "ValueError", .type "Exception", .type "BaseException", .type "object"] "InvalidWishes" K = true := T.xt 48
theorem xs_InvalidWishes (T : Tx P w K mg base) : suGB "ValueError" "ValueError.__init__" "InvalidWishes" K = true := T.xt 49
theorem xt_InvalidWishes_index (T : Tx P w K mg base) : xtB "InvalidWishes" "index" K = true := T.xt 50
theorem xg_InvalidChanges (T : Tx P w K mg base) : oexGB "ValueError.__new__" [.type "ValueError", .type "Exception", .type "BaseException", .type "object"] "InvalidChanges" K = true := T.xt 51
theorem xs_InvalidChanges (T : Tx P w K mg base) : suGB "ValueError" "ValueError.__init__" "InvalidChanges" K = true := T.xt 52
theorem xt_InvalidChanges_index (T : Tx P w K mg base) : xtB "InvalidChanges" "index" K = true := T.xt 53
theorem xg_UnknownName (T : Tx P w K mg base) : oexGB "LookupError.__new__" [.type "LookupError", .type "Exception", .type "BaseException", .type "object"] "UnknownName" K = true := T.xt 54
theorem xs_UnknownName (T : Tx P w K mg base) : suGB "LookupError" "LookupError.__init__" "UnknownName" K = true := T.xt 55
theorem xt_UnknownName_given (T : Tx P w K mg base) : xtB "UnknownName" "given" K = true := T.xt 56
theorem xg_InUse (T : Tx P w K mg base) : oexGB "LookupError.__new__" [.type "LookupError", .type "Exception", .type "BaseException", .type "object"] "InUse" K = true := T.xt 57
theorem xs_InUse (T : Tx P w K mg base) : suGB "LookupError" "LookupError.__init__" "InUse" K = true := T.xt 58
theorem xt_InUse_index (T : Tx P w K mg base) : xtB "InUse" "index" K = true := T.xt 59
theorem xg_TooMany (T : Tx P w K mg base) : oexGB "ArithmeticError.__new__" [.type "ArithmeticError", .type "Exception", .type "BaseException", .type "object"] "TooMany" K = true := T.xt 60
theorem xs_TooMany (T : Tx P w K mg base) : suGB "ArithmeticError" "ArithmeticError.__init__" "TooMany" K = true := T.xt 61
theorem xt_TooMany_most (T : Tx P w K mg base) : xtB "TooMany" "most" K = true := T.xt 62
theorem xg_Contradicts (T : Tx P w K mg base) : oexGB "ArithmeticError.__new__" [.type "ArithmeticError", .type "Exception", .type "BaseException", .type "object"] "Contradicts" K = true := T.xt 63
theorem xs_Contradicts (T : Tx P w K mg base) : suGB "ArithmeticError" "ArithmeticError.__init__" "Contradicts" K = true := T.xt 64
theorem xt_Contradicts_given (T : Tx P w K mg base) : xtB "Contradicts" "given" K = true := T.xt 65
theorem xg_Broken (T : Tx P w K mg base) : oexGB "ArithmeticError.__new__" [.type "ArithmeticError", .type "Exception", .type "BaseException", .type "object"] "Broken" K = true := T.xt 66
theorem xs_Broken (T : Tx P w K mg base) : suGB "ArithmeticError" "ArithmeticError.__init__" "Broken" K = true := T.xt 67
theorem xt_Broken_index (T : Tx P w K mg base) : xtB "Broken" "index" K = true := T.xt 68
theorem xt_Broken_shown (T : Tx P w K mg base) : xtB "Broken" "shown" K = true := T.xt 69
theorem xb_Impossible (T : Tx P w K mg base) : AM.bareB "ArithmeticError.__new__" [.type "ArithmeticError", .type "Exception", .type "BaseException", .type "object"] "Impossible" K = true := T.xt 70
theorem xb_OtherTown (T : Tx P w K mg base) : AM.bareB "ArithmeticError.__new__" [.type "ArithmeticError", .type "Exception", .type "BaseException", .type "object"] "OtherTown" K = true := T.xt 71
theorem xb_NothingToUndo (T : Tx P w K mg base) : AM.bareB "ArithmeticError.__new__" [.type "ArithmeticError", .type "Exception", .type "BaseException", .type "object"] "NothingToUndo" K = true := T.xt 72
theorem exh_all (T : Tx P w K mg base) : AM.exOkB excT excH K = true := T.xt 74
theorem isx_all (T : Tx P w K mg base) : AM.isOkB excT excU isDs isBs K = true := T.xt 75
theorem xfa_given (T : Tx P w K mg base) : AM.xfOkB excF_given "given" K = true := T.xt 76
theorem xfa_index (T : Tx P w K mg base) : AM.xfOkB excF_index "index" K = true := T.xt 77
theorem xfa_most (T : Tx P w K mg base) : AM.xfOkB excF_most "most" K = true := T.xt 78
theorem xfa_shown (T : Tx P w K mg base) : AM.xfOkB excF_shown "shown" K = true := T.xt 79
theorem FD__law_sorts (T : Tx P w K mg base) : ∃ fd, FunD K "_law_sorts" "_law_sorts" (defArgs s__law_sorts) (defBody s__law_sorts) (defScope s__law_sorts) [] [] (He.ga K "_law_sorts") fd := T.c.def_ 0 (d := d__law_sorts) rfl
theorem FD__law_bases (T : Tx P w K mg base) : ∃ fd, FunD K "_law_bases" "_law_bases" (defArgs s__law_bases) (defBody s__law_bases) (defScope s__law_bases) [] [] (He.ga K "_law_bases") fd := T.c.def_ 1 (d := d__law_bases) rfl
theorem FD__law_due (T : Tx P w K mg base) : ∃ fd, FunD K "_law_due" "_law_due" (defArgs s__law_due) (defBody s__law_due) (defScope s__law_due) [] [] (He.ga K "_law_due") fd := T.c.def_ 2 (d := d__law_due) rfl
theorem FD__law_given (T : Tx P w K mg base) : ∃ fd, FunD K "_law_given" "_law_given" (defArgs s__law_given) (defBody s__law_given) (defScope s__law_given) [] [] (He.ga K "_law_given") fd := T.c.def_ 3 (d := d__law_given) rfl
theorem FD__law_kept_right (T : Tx P w K mg base) : ∃ fd, FunD K "_law_kept_right" "_law_kept_right" (defArgs s__law_kept_right) (defBody s__law_kept_right) (defScope s__law_kept_right) [] [] (He.ga K "_law_kept_right") fd := T.c.def_ 4 (d := d__law_kept_right) rfl
theorem FD__law_raised_right (T : Tx P w K mg base) : ∃ fd, FunD K "_law_raised_right" "_law_raised_right" (defArgs s__law_raised_right) (defBody s__law_raised_right) (defScope s__law_raised_right) [] [] (He.ga K "_law_raised_right") fd := T.c.def_ 5 (d := d__law_raised_right) rfl
theorem FD__law_right (T : Tx P w K mg base) : ∃ fd, FunD K "_law_right" "_law_right" (defArgs s__law_right) (defBody s__law_right) (defScope s__law_right) [] [] (He.ga K "_law_right") fd := T.c.def_ 6 (d := d__law_right) rfl
theorem FD_law (T : Tx P w K mg base) : ∃ fd, FunD K "law" "law" (defArgs s_law) (defBody s_law) (defScope s_law) [] [] (He.ga K "law") fd := T.c.def_ 7 (d := d_law) rfl
theorem X_InvalidText___init__ (T : Tx P w K mg base) : ∃ (cl : List (Str × Addr)) (c : Addr) (fd : FuncData), SuF K fileN ⟨"__init__", "InvalidText.__init__", defArgs s_InvalidText___init__, defBody s_InvalidText___init__, defScope s_InvalidText___init__, cl, c⟩ (He.ma K (He.ga K "InvalidText") "__init__") (He.ga K "InvalidText") fd := T.c.defx 0 (d := x_InvalidText___init__) rfl
theorem X_InvalidSlots___init__ (T : Tx P w K mg base) : ∃ (cl : List (Str × Addr)) (c : Addr) (fd : FuncData), SuF K fileN ⟨"__init__", "InvalidSlots.__init__", defArgs s_InvalidSlots___init__, defBody s_InvalidSlots___init__, defScope s_InvalidSlots___init__, cl, c⟩ (He.ma K (He.ga K "InvalidSlots") "__init__") (He.ga K "InvalidSlots") fd := T.c.defx 1 (d := x_InvalidSlots___init__) rfl
theorem X_InvalidName___init__ (T : Tx P w K mg base) : ∃ (cl : List (Str × Addr)) (c : Addr) (fd : FuncData), SuF K fileN ⟨"__init__", "InvalidName.__init__", defArgs s_InvalidName___init__, defBody s_InvalidName___init__, defScope s_InvalidName___init__, cl, c⟩ (He.ma K (He.ga K "InvalidName") "__init__") (He.ga K "InvalidName") fd := T.c.defx 2 (d := x_InvalidName___init__) rfl
theorem X_InvalidAsk___init__ (T : Tx P w K mg base) : ∃ (cl : List (Str × Addr)) (c : Addr) (fd : FuncData), SuF K fileN ⟨"__init__", "InvalidAsk.__init__", defArgs s_InvalidAsk___init__, defBody s_InvalidAsk___init__, defScope s_InvalidAsk___init__, cl, c⟩ (He.ma K (He.ga K "InvalidAsk") "__init__") (He.ga K "InvalidAsk") fd := T.c.defx 3 (d := x_InvalidAsk___init__) rfl
theorem X_InvalidFact___init__ (T : Tx P w K mg base) : ∃ (cl : List (Str × Addr)) (c : Addr) (fd : FuncData), SuF K fileN ⟨"__init__", "InvalidFact.__init__", defArgs s_InvalidFact___init__, defBody s_InvalidFact___init__, defScope s_InvalidFact___init__, cl, c⟩ (He.ma K (He.ga K "InvalidFact") "__init__") (He.ga K "InvalidFact") fd := T.c.defx 4 (d := x_InvalidFact___init__) rfl
theorem X_InvalidRecord___init__ (T : Tx P w K mg base) : ∃ (cl : List (Str × Addr)) (c : Addr) (fd : FuncData), SuF K fileN ⟨"__init__", "InvalidRecord.__init__", defArgs s_InvalidRecord___init__, defBody s_InvalidRecord___init__, defScope s_InvalidRecord___init__, cl, c⟩ (He.ma K (He.ga K "InvalidRecord") "__init__") (He.ga K "InvalidRecord") fd := T.c.defx 5 (d := x_InvalidRecord___init__) rfl
theorem X_InvalidWord___init__ (T : Tx P w K mg base) : ∃ (cl : List (Str × Addr)) (c : Addr) (fd : FuncData), SuF K fileN ⟨"__init__", "InvalidWord.__init__", defArgs s_InvalidWord___init__, defBody s_InvalidWord___init__, defScope s_InvalidWord___init__, cl, c⟩ (He.ma K (He.ga K "InvalidWord") "__init__") (He.ga K "InvalidWord") fd := T.c.defx 6 (d := x_InvalidWord___init__) rfl
theorem X_InvalidWish___init__ (T : Tx P w K mg base) : ∃ (cl : List (Str × Addr)) (c : Addr) (fd : FuncData), SuF K fileN ⟨"__init__", "InvalidWish.__init__", defArgs s_InvalidWish___init__, defBody s_InvalidWish___init__, defScope s_InvalidWish___init__, cl, c⟩ (He.ma K (He.ga K "InvalidWish") "__init__") (He.ga K "InvalidWish") fd := T.c.defx 7 (d := x_InvalidWish___init__) rfl
theorem X_InvalidClaim___init__ (T : Tx P w K mg base) : ∃ (cl : List (Str × Addr)) (c : Addr) (fd : FuncData), SuF K fileN ⟨"__init__", "InvalidClaim.__init__", defArgs s_InvalidClaim___init__, defBody s_InvalidClaim___init__, defScope s_InvalidClaim___init__, cl, c⟩ (He.ma K (He.ga K "InvalidClaim") "__init__") (He.ga K "InvalidClaim") fd := T.c.defx 8 (d := x_InvalidClaim___init__) rfl
theorem X_InvalidPlace___init__ (T : Tx P w K mg base) : ∃ (cl : List (Str × Addr)) (c : Addr) (fd : FuncData), SuF K fileN ⟨"__init__", "InvalidPlace.__init__", defArgs s_InvalidPlace___init__, defBody s_InvalidPlace___init__, defScope s_InvalidPlace___init__, cl, c⟩ (He.ma K (He.ga K "InvalidPlace") "__init__") (He.ga K "InvalidPlace") fd := T.c.defx 9 (d := x_InvalidPlace___init__) rfl
theorem X_NotATown___init__ (T : Tx P w K mg base) : ∃ (cl : List (Str × Addr)) (c : Addr) (fd : FuncData), SuF K fileN ⟨"__init__", "NotATown.__init__", defArgs s_NotATown___init__, defBody s_NotATown___init__, defScope s_NotATown___init__, cl, c⟩ (He.ma K (He.ga K "NotATown") "__init__") (He.ga K "NotATown") fd := T.c.defx 10 (d := x_NotATown___init__) rfl
theorem X_NotALog___init__ (T : Tx P w K mg base) : ∃ (cl : List (Str × Addr)) (c : Addr) (fd : FuncData), SuF K fileN ⟨"__init__", "NotALog.__init__", defArgs s_NotALog___init__, defBody s_NotALog___init__, defScope s_NotALog___init__, cl, c⟩ (He.ma K (He.ga K "NotALog") "__init__") (He.ga K "NotALog") fd := T.c.defx 11 (d := x_NotALog___init__) rfl
theorem X_InvalidStands___init__ (T : Tx P w K mg base) : ∃ (cl : List (Str × Addr)) (c : Addr) (fd : FuncData), SuF K fileN ⟨"__init__", "InvalidStands.__init__", defArgs s_InvalidStands___init__, defBody s_InvalidStands___init__, defScope s_InvalidStands___init__, cl, c⟩ (He.ma K (He.ga K "InvalidStands") "__init__") (He.ga K "InvalidStands") fd := T.c.defx 12 (d := x_InvalidStands___init__) rfl
theorem X_InvalidRoads___init__ (T : Tx P w K mg base) : ∃ (cl : List (Str × Addr)) (c : Addr) (fd : FuncData), SuF K fileN ⟨"__init__", "InvalidRoads.__init__", defArgs s_InvalidRoads___init__, defBody s_InvalidRoads___init__, defScope s_InvalidRoads___init__, cl, c⟩ (He.ma K (He.ga K "InvalidRoads") "__init__") (He.ga K "InvalidRoads") fd := T.c.defx 13 (d := x_InvalidRoads___init__) rfl
theorem X_InvalidFacts___init__ (T : Tx P w K mg base) : ∃ (cl : List (Str × Addr)) (c : Addr) (fd : FuncData), SuF K fileN ⟨"__init__", "InvalidFacts.__init__", defArgs s_InvalidFacts___init__, defBody s_InvalidFacts___init__, defScope s_InvalidFacts___init__, cl, c⟩ (He.ma K (He.ga K "InvalidFacts") "__init__") (He.ga K "InvalidFacts") fd := T.c.defx 14 (d := x_InvalidFacts___init__) rfl
theorem X_InvalidReadings___init__ (T : Tx P w K mg base) : ∃ (cl : List (Str × Addr)) (c : Addr) (fd : FuncData), SuF K fileN ⟨"__init__", "InvalidReadings.__init__", defArgs s_InvalidReadings___init__, defBody s_InvalidReadings___init__, defScope s_InvalidReadings___init__, cl, c⟩ (He.ma K (He.ga K "InvalidReadings") "__init__") (He.ga K "InvalidReadings") fd := T.c.defx 15 (d := x_InvalidReadings___init__) rfl
theorem X_InvalidWishes___init__ (T : Tx P w K mg base) : ∃ (cl : List (Str × Addr)) (c : Addr) (fd : FuncData), SuF K fileN ⟨"__init__", "InvalidWishes.__init__", defArgs s_InvalidWishes___init__, defBody s_InvalidWishes___init__, defScope s_InvalidWishes___init__, cl, c⟩ (He.ma K (He.ga K "InvalidWishes") "__init__") (He.ga K "InvalidWishes") fd := T.c.defx 16 (d := x_InvalidWishes___init__) rfl
theorem X_InvalidChanges___init__ (T : Tx P w K mg base) : ∃ (cl : List (Str × Addr)) (c : Addr) (fd : FuncData), SuF K fileN ⟨"__init__", "InvalidChanges.__init__", defArgs s_InvalidChanges___init__, defBody s_InvalidChanges___init__, defScope s_InvalidChanges___init__, cl, c⟩ (He.ma K (He.ga K "InvalidChanges") "__init__") (He.ga K "InvalidChanges") fd := T.c.defx 17 (d := x_InvalidChanges___init__) rfl
theorem X_UnknownName___init__ (T : Tx P w K mg base) : ∃ (cl : List (Str × Addr)) (c : Addr) (fd : FuncData), SuF K fileN ⟨"__init__", "UnknownName.__init__", defArgs s_UnknownName___init__, defBody s_UnknownName___init__, defScope s_UnknownName___init__, cl, c⟩ (He.ma K (He.ga K "UnknownName") "__init__") (He.ga K "UnknownName") fd := T.c.defx 18 (d := x_UnknownName___init__) rfl
theorem X_InUse___init__ (T : Tx P w K mg base) : ∃ (cl : List (Str × Addr)) (c : Addr) (fd : FuncData), SuF K fileN ⟨"__init__", "InUse.__init__", defArgs s_InUse___init__, defBody s_InUse___init__, defScope s_InUse___init__, cl, c⟩ (He.ma K (He.ga K "InUse") "__init__") (He.ga K "InUse") fd := T.c.defx 19 (d := x_InUse___init__) rfl
theorem X_TooMany___init__ (T : Tx P w K mg base) : ∃ (cl : List (Str × Addr)) (c : Addr) (fd : FuncData), SuF K fileN ⟨"__init__", "TooMany.__init__", defArgs s_TooMany___init__, defBody s_TooMany___init__, defScope s_TooMany___init__, cl, c⟩ (He.ma K (He.ga K "TooMany") "__init__") (He.ga K "TooMany") fd := T.c.defx 20 (d := x_TooMany___init__) rfl
theorem X_Contradicts___init__ (T : Tx P w K mg base) : ∃ (cl : List (Str × Addr)) (c : Addr) (fd : FuncData), SuF K fileN ⟨"__init__", "Contradicts.__init__", defArgs s_Contradicts___init__, defBody s_Contradicts___init__, defScope s_Contradicts___init__, cl, c⟩ (He.ma K (He.ga K "Contradicts") "__init__") (He.ga K "Contradicts") fd := T.c.defx 21 (d := x_Contradicts___init__) rfl
theorem X_Broken___init__ (T : Tx P w K mg base) : ∃ (cl : List (Str × Addr)) (c : Addr) (fd : FuncData), SuF K fileN ⟨"__init__", "Broken.__init__", defArgs s_Broken___init__, defBody s_Broken___init__, defScope s_Broken___init__, cl, c⟩ (He.ma K (He.ga K "Broken") "__init__") (He.ga K "Broken") fd := T.c.defx 22 (d := x_Broken___init__) rfl
theorem xoK_InvalidText (T : Tx P w K mg base) : XOkK P w K mg base (He.ga K "InvalidText") (He.ma K (He.ga K "InvalidText") "__init__") "ValueError.__new__" [.type "ValueError", .type "Exception", .type "BaseException", .type "object"] ["self", "given"] (spXf (He.ga K "InvalidText") ["given"]) ["given"] idG :=
  xok1K_of eba_VE (X_InvalidText___init__ T) (oexGB_ok (xg_InvalidText T)) (suGB_ok (xs_InvalidText T) (b_super T)) (mt_InvalidText___init__ T) (of_decide_eq_true (xt_InvalidText_given T)) (NdefX.nscope_by (by decide +kernel)) rfl T.pf T.ps rfl rfl rfl rfl (fun _ _ _ _ _ _ _ => rfl) (fun _ _ _ _ _ _ _ => rfl) (by decide) (by decide) rfl rfl (fun _ => rfl) (fun _ _ _ _ => rfl) (fun _ _ _ _ => rfl) (fun _ _ _ _ => rfl)
theorem xo_InvalidText (T : Tx P w K mg base) : XOkG P w K mg base (He.ga K "InvalidText") (He.ma K (He.ga K "InvalidText") "__init__") "ValueError.__new__" [.type "ValueError", .type "Exception", .type "BaseException", .type "object"] ["self", "given"] (spXf (He.ga K "InvalidText") ["given"]) :=
  xok1_of eba_VE (X_InvalidText___init__ T) (oexGB_ok (xg_InvalidText T)) (suGB_ok (xs_InvalidText T) (b_super T)) (mt_InvalidText___init__ T) (of_decide_eq_true (xt_InvalidText_given T)) (NdefX.nscope_by (by decide +kernel)) rfl T.pf T.ps rfl rfl rfl rfl (fun _ _ _ _ _ _ _ => rfl) (by decide) (by decide) rfl rfl (fun _ => rfl) (fun _ _ _ _ => rfl) (fun _ _ _ _ => rfl) (fun _ _ _ _ => rfl)
theorem xoK_InvalidSlots (T : Tx P w K mg base) : XOkK P w K mg base (He.ga K "InvalidSlots") (He.ma K (He.ga K "InvalidSlots") "__init__") "ValueError.__new__" [.type "ValueError", .type "Exception", .type "BaseException", .type "object"] ["self", "given"] (spXf (He.ga K "InvalidSlots") ["given"]) ["given"] idG :=
  xok1K_of eba_VE (X_InvalidSlots___init__ T) (oexGB_ok (xg_InvalidSlots T)) (suGB_ok (xs_InvalidSlots T) (b_super T)) (mt_InvalidSlots___init__ T) (of_decide_eq_true (xt_InvalidSlots_given T)) (NdefX.nscope_by (by decide +kernel)) rfl T.pf T.ps rfl rfl rfl rfl (fun _ _ _ _ _ _ _ => rfl) (fun _ _ _ _ _ _ _ => rfl) (by decide) (by decide) rfl rfl (fun _ => rfl) (fun _ _ _ _ => rfl) (fun _ _ _ _ => rfl) (fun _ _ _ _ => rfl)
theorem xoK_InvalidName (T : Tx P w K mg base) : XOkK P w K mg base (He.ga K "InvalidName") (He.ma K (He.ga K "InvalidName") "__init__") "ValueError.__new__" [.type "ValueError", .type "Exception", .type "BaseException", .type "object"] ["self", "given"] (spXf (He.ga K "InvalidName") ["given"]) ["given"] idG :=
  xok1K_of eba_VE (X_InvalidName___init__ T) (oexGB_ok (xg_InvalidName T)) (suGB_ok (xs_InvalidName T) (b_super T)) (mt_InvalidName___init__ T) (of_decide_eq_true (xt_InvalidName_given T)) (NdefX.nscope_by (by decide +kernel)) rfl T.pf T.ps rfl rfl rfl rfl (fun _ _ _ _ _ _ _ => rfl) (fun _ _ _ _ _ _ _ => rfl) (by decide) (by decide) rfl rfl (fun _ => rfl) (fun _ _ _ _ => rfl) (fun _ _ _ _ => rfl) (fun _ _ _ _ => rfl)
theorem xoK_InvalidAsk (T : Tx P w K mg base) : XOkK P w K mg base (He.ga K "InvalidAsk") (He.ma K (He.ga K "InvalidAsk") "__init__") "ValueError.__new__" [.type "ValueError", .type "Exception", .type "BaseException", .type "object"] ["self", "given"] (spXf (He.ga K "InvalidAsk") ["given"]) ["given"] idG :=
  xok1K_of eba_VE (X_InvalidAsk___init__ T) (oexGB_ok (xg_InvalidAsk T)) (suGB_ok (xs_InvalidAsk T) (b_super T)) (mt_InvalidAsk___init__ T) (of_decide_eq_true (xt_InvalidAsk_given T)) (NdefX.nscope_by (by decide +kernel)) rfl T.pf T.ps rfl rfl rfl rfl (fun _ _ _ _ _ _ _ => rfl) (fun _ _ _ _ _ _ _ => rfl) (by decide) (by decide) rfl rfl (fun _ => rfl) (fun _ _ _ _ => rfl) (fun _ _ _ _ => rfl) (fun _ _ _ _ => rfl)
theorem xoK_InvalidFact (T : Tx P w K mg base) : XOkK P w K mg base (He.ga K "InvalidFact") (He.ma K (He.ga K "InvalidFact") "__init__") "ValueError.__new__" [.type "ValueError", .type "Exception", .type "BaseException", .type "object"] ["self", "given"] (spXf (He.ga K "InvalidFact") ["given"]) ["given"] idG :=
  xok1K_of eba_VE (X_InvalidFact___init__ T) (oexGB_ok (xg_InvalidFact T)) (suGB_ok (xs_InvalidFact T) (b_super T)) (mt_InvalidFact___init__ T) (of_decide_eq_true (xt_InvalidFact_given T)) (NdefX.nscope_by (by decide +kernel)) rfl T.pf T.ps rfl rfl rfl rfl (fun _ _ _ _ _ _ _ => rfl) (fun _ _ _ _ _ _ _ => rfl) (by decide) (by decide) rfl rfl (fun _ => rfl) (fun _ _ _ _ => rfl) (fun _ _ _ _ => rfl) (fun _ _ _ _ => rfl)
theorem xoK_InvalidRecord (T : Tx P w K mg base) : XOkK P w K mg base (He.ga K "InvalidRecord") (He.ma K (He.ga K "InvalidRecord") "__init__") "ValueError.__new__" [.type "ValueError", .type "Exception", .type "BaseException", .type "object"] ["self", "given"] (spXf (He.ga K "InvalidRecord") ["given"]) ["given"] idG :=
  xok1K_of eba_VE (X_InvalidRecord___init__ T) (oexGB_ok (xg_InvalidRecord T)) (suGB_ok (xs_InvalidRecord T) (b_super T)) (mt_InvalidRecord___init__ T) (of_decide_eq_true (xt_InvalidRecord_given T)) (NdefX.nscope_by (by decide +kernel)) rfl T.pf T.ps rfl rfl rfl rfl (fun _ _ _ _ _ _ _ => rfl) (fun _ _ _ _ _ _ _ => rfl) (by decide) (by decide) rfl rfl (fun _ => rfl) (fun _ _ _ _ => rfl) (fun _ _ _ _ => rfl) (fun _ _ _ _ => rfl)
theorem xoK_InvalidWord (T : Tx P w K mg base) : XOkK P w K mg base (He.ga K "InvalidWord") (He.ma K (He.ga K "InvalidWord") "__init__") "ValueError.__new__" [.type "ValueError", .type "Exception", .type "BaseException", .type "object"] ["self", "given"] (spXf (He.ga K "InvalidWord") ["given"]) ["given"] idG :=
  xok1K_of eba_VE (X_InvalidWord___init__ T) (oexGB_ok (xg_InvalidWord T)) (suGB_ok (xs_InvalidWord T) (b_super T)) (mt_InvalidWord___init__ T) (of_decide_eq_true (xt_InvalidWord_given T)) (NdefX.nscope_by (by decide +kernel)) rfl T.pf T.ps rfl rfl rfl rfl (fun _ _ _ _ _ _ _ => rfl) (fun _ _ _ _ _ _ _ => rfl) (by decide) (by decide) rfl rfl (fun _ => rfl) (fun _ _ _ _ => rfl) (fun _ _ _ _ => rfl) (fun _ _ _ _ => rfl)
theorem xoK_InvalidWish (T : Tx P w K mg base) : XOkK P w K mg base (He.ga K "InvalidWish") (He.ma K (He.ga K "InvalidWish") "__init__") "ValueError.__new__" [.type "ValueError", .type "Exception", .type "BaseException", .type "object"] ["self", "given"] (spXf (He.ga K "InvalidWish") ["given"]) ["given"] idG :=
  xok1K_of eba_VE (X_InvalidWish___init__ T) (oexGB_ok (xg_InvalidWish T)) (suGB_ok (xs_InvalidWish T) (b_super T)) (mt_InvalidWish___init__ T) (of_decide_eq_true (xt_InvalidWish_given T)) (NdefX.nscope_by (by decide +kernel)) rfl T.pf T.ps rfl rfl rfl rfl (fun _ _ _ _ _ _ _ => rfl) (fun _ _ _ _ _ _ _ => rfl) (by decide) (by decide) rfl rfl (fun _ => rfl) (fun _ _ _ _ => rfl) (fun _ _ _ _ => rfl) (fun _ _ _ _ => rfl)
theorem xoK_InvalidClaim (T : Tx P w K mg base) : XOkK P w K mg base (He.ga K "InvalidClaim") (He.ma K (He.ga K "InvalidClaim") "__init__") "ValueError.__new__" [.type "ValueError", .type "Exception", .type "BaseException", .type "object"] ["self", "given"] (spXf (He.ga K "InvalidClaim") ["given"]) ["given"] idG :=
  xok1K_of eba_VE (X_InvalidClaim___init__ T) (oexGB_ok (xg_InvalidClaim T)) (suGB_ok (xs_InvalidClaim T) (b_super T)) (mt_InvalidClaim___init__ T) (of_decide_eq_true (xt_InvalidClaim_given T)) (NdefX.nscope_by (by decide +kernel)) rfl T.pf T.ps rfl rfl rfl rfl (fun _ _ _ _ _ _ _ => rfl) (fun _ _ _ _ _ _ _ => rfl) (by decide) (by decide) rfl rfl (fun _ => rfl) (fun _ _ _ _ => rfl) (fun _ _ _ _ => rfl) (fun _ _ _ _ => rfl)
theorem xoK_InvalidPlace (T : Tx P w K mg base) : XOkK P w K mg base (He.ga K "InvalidPlace") (He.ma K (He.ga K "InvalidPlace") "__init__") "ValueError.__new__" [.type "ValueError", .type "Exception", .type "BaseException", .type "object"] ["self", "given"] (spXf (He.ga K "InvalidPlace") ["given"]) ["given"] idG :=
  xok1K_of eba_VE (X_InvalidPlace___init__ T) (oexGB_ok (xg_InvalidPlace T)) (suGB_ok (xs_InvalidPlace T) (b_super T)) (mt_InvalidPlace___init__ T) (of_decide_eq_true (xt_InvalidPlace_given T)) (NdefX.nscope_by (by decide +kernel)) rfl T.pf T.ps rfl rfl rfl rfl (fun _ _ _ _ _ _ _ => rfl) (fun _ _ _ _ _ _ _ => rfl) (by decide) (by decide) rfl rfl (fun _ => rfl) (fun _ _ _ _ => rfl) (fun _ _ _ _ => rfl) (fun _ _ _ _ => rfl)
theorem xoK_NotATown (T : Tx P w K mg base) : XOkK P w K mg base (He.ga K "NotATown") (He.ma K (He.ga K "NotATown") "__init__") "ValueError.__new__" [.type "ValueError", .type "Exception", .type "BaseException", .type "object"] ["self", "given"] (spXf (He.ga K "NotATown") ["given"]) ["given"] idG :=
  xok1K_of eba_VE (X_NotATown___init__ T) (oexGB_ok (xg_NotATown T)) (suGB_ok (xs_NotATown T) (b_super T)) (mt_NotATown___init__ T) (of_decide_eq_true (xt_NotATown_given T)) (NdefX.nscope_by (by decide +kernel)) rfl T.pf T.ps rfl rfl rfl rfl (fun _ _ _ _ _ _ _ => rfl) (fun _ _ _ _ _ _ _ => rfl) (by decide) (by decide) rfl rfl (fun _ => rfl) (fun _ _ _ _ => rfl) (fun _ _ _ _ => rfl) (fun _ _ _ _ => rfl)
theorem xoK_NotALog (T : Tx P w K mg base) : XOkK P w K mg base (He.ga K "NotALog") (He.ma K (He.ga K "NotALog") "__init__") "ValueError.__new__" [.type "ValueError", .type "Exception", .type "BaseException", .type "object"] ["self", "given"] (spXf (He.ga K "NotALog") ["given"]) ["given"] idG :=
  xok1K_of eba_VE (X_NotALog___init__ T) (oexGB_ok (xg_NotALog T)) (suGB_ok (xs_NotALog T) (b_super T)) (mt_NotALog___init__ T) (of_decide_eq_true (xt_NotALog_given T)) (NdefX.nscope_by (by decide +kernel)) rfl T.pf T.ps rfl rfl rfl rfl (fun _ _ _ _ _ _ _ => rfl) (fun _ _ _ _ _ _ _ => rfl) (by decide) (by decide) rfl rfl (fun _ => rfl) (fun _ _ _ _ => rfl) (fun _ _ _ _ => rfl) (fun _ _ _ _ => rfl)
theorem xoK_InvalidStands (T : Tx P w K mg base) : XOkK P w K mg base (He.ga K "InvalidStands") (He.ma K (He.ga K "InvalidStands") "__init__") "ValueError.__new__" [.type "ValueError", .type "Exception", .type "BaseException", .type "object"] ["self", "index"] (spXf (He.ga K "InvalidStands") ["index"]) ["index"] idG :=
  xok1K_of eba_VE (X_InvalidStands___init__ T) (oexGB_ok (xg_InvalidStands T)) (suGB_ok (xs_InvalidStands T) (b_super T)) (mt_InvalidStands___init__ T) (of_decide_eq_true (xt_InvalidStands_index T)) (NdefX.nscope_by (by decide +kernel)) rfl T.pf T.ps rfl rfl rfl rfl (fun _ _ _ _ _ _ _ => rfl) (fun _ _ _ _ _ _ _ => rfl) (by decide) (by decide) rfl rfl (fun _ => rfl) (fun _ _ _ _ => rfl) (fun _ _ _ _ => rfl) (fun _ _ _ _ => rfl)
theorem xoK_InvalidRoads (T : Tx P w K mg base) : XOkK P w K mg base (He.ga K "InvalidRoads") (He.ma K (He.ga K "InvalidRoads") "__init__") "ValueError.__new__" [.type "ValueError", .type "Exception", .type "BaseException", .type "object"] ["self", "index"] (spXf (He.ga K "InvalidRoads") ["index"]) ["index"] idG :=
  xok1K_of eba_VE (X_InvalidRoads___init__ T) (oexGB_ok (xg_InvalidRoads T)) (suGB_ok (xs_InvalidRoads T) (b_super T)) (mt_InvalidRoads___init__ T) (of_decide_eq_true (xt_InvalidRoads_index T)) (NdefX.nscope_by (by decide +kernel)) rfl T.pf T.ps rfl rfl rfl rfl (fun _ _ _ _ _ _ _ => rfl) (fun _ _ _ _ _ _ _ => rfl) (by decide) (by decide) rfl rfl (fun _ => rfl) (fun _ _ _ _ => rfl) (fun _ _ _ _ => rfl) (fun _ _ _ _ => rfl)
theorem xoK_InvalidFacts (T : Tx P w K mg base) : XOkK P w K mg base (He.ga K "InvalidFacts") (He.ma K (He.ga K "InvalidFacts") "__init__") "ValueError.__new__" [.type "ValueError", .type "Exception", .type "BaseException", .type "object"] ["self", "index"] (spXf (He.ga K "InvalidFacts") ["index"]) ["index"] idG :=
  xok1K_of eba_VE (X_InvalidFacts___init__ T) (oexGB_ok (xg_InvalidFacts T)) (suGB_ok (xs_InvalidFacts T) (b_super T)) (mt_InvalidFacts___init__ T) (of_decide_eq_true (xt_InvalidFacts_index T)) (NdefX.nscope_by (by decide +kernel)) rfl T.pf T.ps rfl rfl rfl rfl (fun _ _ _ _ _ _ _ => rfl) (fun _ _ _ _ _ _ _ => rfl) (by decide) (by decide) rfl rfl (fun _ => rfl) (fun _ _ _ _ => rfl) (fun _ _ _ _ => rfl) (fun _ _ _ _ => rfl)
theorem xoK_InvalidReadings (T : Tx P w K mg base) : XOkK P w K mg base (He.ga K "InvalidReadings") (He.ma K (He.ga K "InvalidReadings") "__init__") "ValueError.__new__" [.type "ValueError", .type "Exception", .type "BaseException", .type "object"] ["self", "index"] (spXf (He.ga K "InvalidReadings") ["index"]) ["index"] idG :=
  xok1K_of eba_VE (X_InvalidReadings___init__ T) (oexGB_ok (xg_InvalidReadings T)) (suGB_ok (xs_InvalidReadings T) (b_super T)) (mt_InvalidReadings___init__ T) (of_decide_eq_true (xt_InvalidReadings_index T)) (NdefX.nscope_by (by decide +kernel)) rfl T.pf T.ps rfl rfl rfl rfl (fun _ _ _ _ _ _ _ => rfl) (fun _ _ _ _ _ _ _ => rfl) (by decide) (by decide) rfl rfl (fun _ => rfl) (fun _ _ _ _ => rfl) (fun _ _ _ _ => rfl) (fun _ _ _ _ => rfl)
theorem xoK_InvalidWishes (T : Tx P w K mg base) : XOkK P w K mg base (He.ga K "InvalidWishes") (He.ma K (He.ga K "InvalidWishes") "__init__") "ValueError.__new__" [.type "ValueError", .type "Exception", .type "BaseException", .type "object"] ["self", "index"] (spXf (He.ga K "InvalidWishes") ["index"]) ["index"] idG :=
  xok1K_of eba_VE (X_InvalidWishes___init__ T) (oexGB_ok (xg_InvalidWishes T)) (suGB_ok (xs_InvalidWishes T) (b_super T)) (mt_InvalidWishes___init__ T) (of_decide_eq_true (xt_InvalidWishes_index T)) (NdefX.nscope_by (by decide +kernel)) rfl T.pf T.ps rfl rfl rfl rfl (fun _ _ _ _ _ _ _ => rfl) (fun _ _ _ _ _ _ _ => rfl) (by decide) (by decide) rfl rfl (fun _ => rfl) (fun _ _ _ _ => rfl) (fun _ _ _ _ => rfl) (fun _ _ _ _ => rfl)
theorem xoK_InvalidChanges (T : Tx P w K mg base) : XOkK P w K mg base (He.ga K "InvalidChanges") (He.ma K (He.ga K "InvalidChanges") "__init__") "ValueError.__new__" [.type "ValueError", .type "Exception", .type "BaseException", .type "object"] ["self", "index"] (spXf (He.ga K "InvalidChanges") ["index"]) ["index"] idG :=
  xok1K_of eba_VE (X_InvalidChanges___init__ T) (oexGB_ok (xg_InvalidChanges T)) (suGB_ok (xs_InvalidChanges T) (b_super T)) (mt_InvalidChanges___init__ T) (of_decide_eq_true (xt_InvalidChanges_index T)) (NdefX.nscope_by (by decide +kernel)) rfl T.pf T.ps rfl rfl rfl rfl (fun _ _ _ _ _ _ _ => rfl) (fun _ _ _ _ _ _ _ => rfl) (by decide) (by decide) rfl rfl (fun _ => rfl) (fun _ _ _ _ => rfl) (fun _ _ _ _ => rfl) (fun _ _ _ _ => rfl)
theorem xoK_UnknownName (T : Tx P w K mg base) : XOkK P w K mg base (He.ga K "UnknownName") (He.ma K (He.ga K "UnknownName") "__init__") "LookupError.__new__" [.type "LookupError", .type "Exception", .type "BaseException", .type "object"] ["self", "given"] (spXf (He.ga K "UnknownName") ["given"]) ["given"] idG :=
  xok1K_of eba_LE (X_UnknownName___init__ T) (oexGB_ok (xg_UnknownName T)) (suGB_ok (xs_UnknownName T) (b_super T)) (mt_UnknownName___init__ T) (of_decide_eq_true (xt_UnknownName_given T)) (NdefX.nscope_by (by decide +kernel)) rfl T.pf T.ps rfl rfl rfl rfl (fun _ _ _ _ _ _ _ => rfl) (fun _ _ _ _ _ _ _ => rfl) (by decide) (by decide) rfl rfl (fun _ => rfl) (fun _ _ _ _ => rfl) (fun _ _ _ _ => rfl) (fun _ _ _ _ => rfl)
theorem xo_UnknownName (T : Tx P w K mg base) : XOkG P w K mg base (He.ga K "UnknownName") (He.ma K (He.ga K "UnknownName") "__init__") "LookupError.__new__" [.type "LookupError", .type "Exception", .type "BaseException", .type "object"] ["self", "given"] (spXf (He.ga K "UnknownName") ["given"]) :=
  xok1_of eba_LE (X_UnknownName___init__ T) (oexGB_ok (xg_UnknownName T)) (suGB_ok (xs_UnknownName T) (b_super T)) (mt_UnknownName___init__ T) (of_decide_eq_true (xt_UnknownName_given T)) (NdefX.nscope_by (by decide +kernel)) rfl T.pf T.ps rfl rfl rfl rfl (fun _ _ _ _ _ _ _ => rfl) (by decide) (by decide) rfl rfl (fun _ => rfl) (fun _ _ _ _ => rfl) (fun _ _ _ _ => rfl) (fun _ _ _ _ => rfl)
theorem xoK_InUse (T : Tx P w K mg base) : XOkK P w K mg base (He.ga K "InUse") (He.ma K (He.ga K "InUse") "__init__") "LookupError.__new__" [.type "LookupError", .type "Exception", .type "BaseException", .type "object"] ["self", "index"] (spXf (He.ga K "InUse") ["index"]) ["index"] idG :=
  xok1K_of eba_LE (X_InUse___init__ T) (oexGB_ok (xg_InUse T)) (suGB_ok (xs_InUse T) (b_super T)) (mt_InUse___init__ T) (of_decide_eq_true (xt_InUse_index T)) (NdefX.nscope_by (by decide +kernel)) rfl T.pf T.ps rfl rfl rfl rfl (fun _ _ _ _ _ _ _ => rfl) (fun _ _ _ _ _ _ _ => rfl) (by decide) (by decide) rfl rfl (fun _ => rfl) (fun _ _ _ _ => rfl) (fun _ _ _ _ => rfl) (fun _ _ _ _ => rfl)
theorem xoK_TooMany (T : Tx P w K mg base) : XOkK P w K mg base (He.ga K "TooMany") (He.ma K (He.ga K "TooMany") "__init__") "ArithmeticError.__new__" [.type "ArithmeticError", .type "Exception", .type "BaseException", .type "object"] ["self", "most"] (spXf (He.ga K "TooMany") ["most"]) ["most"] idG :=
  xok1K_of eba_AE (X_TooMany___init__ T) (oexGB_ok (xg_TooMany T)) (suGB_ok (xs_TooMany T) (b_super T)) (mt_TooMany___init__ T) (of_decide_eq_true (xt_TooMany_most T)) (NdefX.nscope_by (by decide +kernel)) rfl T.pf T.ps rfl rfl rfl rfl (fun _ _ _ _ _ _ _ => rfl) (fun _ _ _ _ _ _ _ => rfl) (by decide) (by decide) rfl rfl (fun _ => rfl) (fun _ _ _ _ => rfl) (fun _ _ _ _ => rfl) (fun _ _ _ _ => rfl)
theorem xoK_Contradicts (T : Tx P w K mg base) : XOkK P w K mg base (He.ga K "Contradicts") (He.ma K (He.ga K "Contradicts") "__init__") "ArithmeticError.__new__" [.type "ArithmeticError", .type "Exception", .type "BaseException", .type "object"] ["self", "given"] (spXf (He.ga K "Contradicts") ["given"]) ["given"] idG :=
  xok1K_of eba_AE (X_Contradicts___init__ T) (oexGB_ok (xg_Contradicts T)) (suGB_ok (xs_Contradicts T) (b_super T)) (mt_Contradicts___init__ T) (of_decide_eq_true (xt_Contradicts_given T)) (NdefX.nscope_by (by decide +kernel)) rfl T.pf T.ps rfl rfl rfl rfl (fun _ _ _ _ _ _ _ => rfl) (fun _ _ _ _ _ _ _ => rfl) (by decide) (by decide) rfl rfl (fun _ => rfl) (fun _ _ _ _ => rfl) (fun _ _ _ _ => rfl) (fun _ _ _ _ => rfl)
theorem xoK_Broken (T : Tx P w K mg base) : XOkK P w K mg base (He.ga K "Broken") (He.ma K (He.ga K "Broken") "__init__") "ArithmeticError.__new__" [.type "ArithmeticError", .type "Exception", .type "BaseException", .type "object"] ["self", "index", "shown"] (spXf (He.ga K "Broken") ["index", "shown"]) ["shown", "index"] swG :=
  xok2K_of eba_AE (X_Broken___init__ T) (oexGB_ok (xg_Broken T)) (suGB_ok (xs_Broken T) (b_super T)) (mt_Broken___init__ T) (of_decide_eq_true (xt_Broken_index T)) (of_decide_eq_true (xt_Broken_shown T)) (NdefX.nscope_by (by decide +kernel)) rfl T.pf T.ps rfl rfl rfl rfl (fun _ _ _ _ _ _ _ _ => rfl) (fun _ _ _ _ _ _ _ _ => rfl) (by decide) (by decide) rfl rfl (by decide) (by decide) rfl (fun _ => rfl) (fun _ _ _ _ => rfl) (fun _ _ _ _ => rfl) (fun _ _ _ _ => rfl) (fun _ _ _ _ => rfl)
theorem xo_Broken (T : Tx P w K mg base) : XOkG P w K mg base (He.ga K "Broken") (He.ma K (He.ga K "Broken") "__init__") "ArithmeticError.__new__" [.type "ArithmeticError", .type "Exception", .type "BaseException", .type "object"] ["self", "index", "shown"] (spXf (He.ga K "Broken") ["index", "shown"]) :=
  xok2_of eba_AE (X_Broken___init__ T) (oexGB_ok (xg_Broken T)) (suGB_ok (xs_Broken T) (b_super T)) (mt_Broken___init__ T) (of_decide_eq_true (xt_Broken_index T)) (of_decide_eq_true (xt_Broken_shown T)) (NdefX.nscope_by (by decide +kernel)) rfl T.pf T.ps rfl rfl rfl rfl (fun _ _ _ _ _ _ _ _ => rfl) (by decide) (by decide) rfl rfl (by decide) (by decide) rfl (fun _ => rfl) (fun _ _ _ _ => rfl) (fun _ _ _ _ => rfl) (fun _ _ _ _ => rfl) (fun _ _ _ _ => rfl)
end
theorem sc__law_bases : FnScope ["_law_e", "_law_found"] ["_law_e"] (defScope s__law_bases) := ⟨rfl, rfl, rfl, by decide +kernel, rfl, by decide +kernel, by decide +kernel⟩
theorem ok__law_bases {P : Program} {w : World} {K : Frag} {mg : Str → Option Value} {base : Heap} (T : Tx P w K mg base) : DOk P w K mg base 1 "_law_bases" ["_law_e"] (AM.aSp K F__law_bases) :=
  dok_of (FD__law_bases T) (g__law_bases T) sc__law_bases (fun _ _ _ _ _ _ us hl => match us, hl with | [_], _ => rfl) (fun vs H Q E h => AM.aSp_len h) (fun cdv A outer s H vs Q E hr h => ⟨AM.aS K E m__law_bases, (AM.dss_cons (AM.ds_set (i := 1) sc__law_bases.nd rfl (by first | exact Or.inl rfl | exact Or.inr rfl) (AM.de_lst (AM.da_cons (AM.de_callB (AM.ca_isV rfl (AM.isOkB_ok (isx_all T))) (by rfl) (b_isinstance T) (by decide +kernel) (AM.da_cons (AM.dv 0) (AM.da_cons (AM.de_cls (by rfl) (g_NotRight T)) AM.da_nil))) (AM.da_cons (AM.de_callB (AM.ca_isV rfl (AM.isOkB_ok (isx_all T))) (by rfl) (b_isinstance T) (by decide +kernel) (AM.da_cons (AM.dv 0) (AM.da_cons (AM.de_cls (by rfl) (g_NotThere T)) AM.da_nil))) (AM.da_cons (AM.de_callB (AM.ca_isV rfl (AM.isOkB_ok (isx_all T))) (by rfl) (b_isinstance T) (by decide +kernel) (AM.da_cons (AM.dv 0) (AM.da_cons (AM.de_cls (by rfl) (g_CannotBe T)) AM.da_nil))) AM.da_nil))))) (AM.dss_cons (AM.ds_set (i := 1) sc__law_bases.nd rfl (by first | exact Or.inl rfl | exact Or.inr rfl) (AM.de_op (AM.oa_add rfl) (AM.dv 1) (AM.de_lst (AM.da_cons (AM.de_callB (AM.ca_isV rfl (AM.isOkB_ok (isx_all T))) (by rfl) (b_isinstance T) (by decide +kernel) (AM.da_cons (AM.dv 0) (AM.da_cons (AM.de_ty (by rfl) (b_ValueError T) (by decide +kernel)) AM.da_nil))) (AM.da_cons (AM.de_callB (AM.ca_isV rfl (AM.isOkB_ok (isx_all T))) (by rfl) (b_isinstance T) (by decide +kernel) (AM.da_cons (AM.dv 0) (AM.da_cons (AM.de_ty (by rfl) (b_LookupError T) (by decide +kernel)) AM.da_nil))) (AM.da_cons (AM.de_callB (AM.ca_isV rfl (AM.isOkB_ok (isx_all T))) (by rfl) (b_isinstance T) (by decide +kernel) (AM.da_cons (AM.dv 0) (AM.da_cons (AM.de_ty (by rfl) (b_ArithmeticError T) (by decide +kernel)) AM.da_nil))) AM.da_nil)))))) (AM.dss_one (AM.ds_ret (AM.de_op (AM.oa_add rfl) (AM.dv 1) (AM.de_lst (AM.da_cons (AM.de_callB (AM.ca_isV rfl (AM.isOkB_ok (isx_all T))) (by rfl) (b_isinstance T) (by decide +kernel) (AM.da_cons (AM.dv 0) (AM.da_cons (AM.de_ty (by rfl) (b_KeyError T) (by decide +kernel)) AM.da_nil))) (AM.da_cons (AM.de_callB (AM.ca_isV rfl (AM.isOkB_ok (isx_all T))) (by rfl) (b_isinstance T) (by decide +kernel) (AM.da_cons (AM.dv 0) (AM.da_cons (AM.de_ty (by rfl) (b_IndexError T) (by decide +kernel)) AM.da_nil))) (AM.da_cons (AM.de_callB (AM.ca_isV rfl (AM.isOkB_ok (isx_all T))) (by rfl) (b_isinstance T) (by decide +kernel) (AM.da_cons (AM.dv 0) (AM.da_cons (AM.de_ty (by rfl) (b_ZeroDivisionError T) (by decide +kernel)) AM.da_nil))) AM.da_nil))))))))), AM.aSp_start (N := ["_law_e", "_law_found"]) h⟩)
theorem sc__law_due : FnScope ["_law_k", "_law_head", "_law_middle", "_law_end"] ["_law_k"] (defScope s__law_due) := ⟨rfl, rfl, rfl, by decide +kernel, rfl, by decide +kernel, by decide +kernel⟩
theorem ok__law_due {P : Program} {w : World} {K : Frag} {mg : Str → Option Value} {base : Heap} (T : Tx P w K mg base) : DOk P w K mg base 1 "_law_due" ["_law_k"] (AM.aSp K F__law_due) :=
  dok_of (FD__law_due T) (g__law_due T) sc__law_due (fun _ _ _ _ _ _ us hl => match us, hl with | [_], _ => rfl) (fun vs H Q E h => AM.aSp_len h) (fun cdv A outer s H vs Q E hr h => ⟨AM.aS K E m__law_due, (AM.dss_cons (AM.ds_par (i := 1) (j := 2) (by rfl) sc__law_due.nd rfl rfl (by decide) rfl rfl (AM.da_cons (AM.de_cmp AM.oa_lt (AM.dv 0) AM.de_int (nomark _)) (AM.da_cons (AM.de_chain AM.oa_lt AM.oa_lt AM.de_int (AM.dv 0) AM.de_int) AM.da_nil)) (by rfl)) (AM.dss_cons (AM.ds_set (i := 3) sc__law_due.nd rfl (by first | exact Or.inl rfl | exact Or.inr rfl) (AM.de_and (AM.de_not (AM.dv 1)) (AM.de_one (AM.de_not (AM.dv 2))))) (AM.dss_one (AM.ds_ret (AM.de_op (AM.oa_add rfl) (AM.de_op AM.oa_mul (AM.de_lst (AM.da_cons (AM.dv 1) (AM.da_cons (AM.dv 2) (AM.da_cons (AM.dv 3) AM.da_nil)))) AM.de_int) (AM.de_op AM.oa_mul (AM.de_lst (AM.da_cons AM.de_bl AM.da_nil)) AM.de_int)))))), AM.aSp_start (N := ["_law_k", "_law_head", "_law_middle", "_law_end"]) h⟩)
theorem sc__law_given : FnScope ["_law_thing", "_law_found", "_law_named"] ["_law_thing"] (defScope s__law_given) := ⟨rfl, rfl, rfl, by decide +kernel, rfl, by decide +kernel, by decide +kernel⟩
theorem ok__law_given {P : Program} {w : World} {K : Frag} {mg : Str → Option Value} {base : Heap} (T : Tx P w K mg base) : DOk P w K mg base 3 "_law_given" ["_law_thing"] (AM.aSp K F__law_given) :=
  dok_of (FD__law_given T) (g__law_given T) sc__law_given (fun _ _ _ _ _ _ us hl => match us, hl with | [_], _ => rfl) (fun vs H Q E h => AM.aSp_len h) (fun cdv A outer s H vs Q E hr h => ⟨AM.aS K E m__law_given, (AM.dss_cons (AM.ds_set (i := 1) sc__law_given.nd rfl (by first | exact Or.inl rfl | exact Or.inr rfl) (AM.de_lst (AM.da_cons (AM.de_xmk eba_VE rfl (xoK_InvalidText T) (hr.mono (by decide)) (by rfl) (g_InvalidText T) (AM.da_cons (AM.dv 0) AM.da_nil)) (AM.da_cons (AM.de_xmk eba_VE rfl (xoK_InvalidSlots T) (hr.mono (by decide)) (by rfl) (g_InvalidSlots T) (AM.da_cons (AM.dv 0) AM.da_nil)) (AM.da_cons (AM.de_xmk eba_VE rfl (xoK_InvalidName T) (hr.mono (by decide)) (by rfl) (g_InvalidName T) (AM.da_cons (AM.dv 0) AM.da_nil)) (AM.da_cons (AM.de_xmk eba_VE rfl (xoK_InvalidAsk T) (hr.mono (by decide)) (by rfl) (g_InvalidAsk T) (AM.da_cons (AM.dv 0) AM.da_nil)) AM.da_nil)))))) (AM.dss_cons (AM.ds_set (i := 1) sc__law_given.nd rfl (by first | exact Or.inl rfl | exact Or.inr rfl) (AM.de_op (AM.oa_add rfl) (AM.dv 1) (AM.de_lst (AM.da_cons (AM.de_xmk eba_VE rfl (xoK_InvalidFact T) (hr.mono (by decide)) (by rfl) (g_InvalidFact T) (AM.da_cons (AM.dv 0) AM.da_nil)) (AM.da_cons (AM.de_xmk eba_VE rfl (xoK_InvalidRecord T) (hr.mono (by decide)) (by rfl) (g_InvalidRecord T) (AM.da_cons (AM.dv 0) AM.da_nil)) (AM.da_cons (AM.de_xmk eba_VE rfl (xoK_InvalidWord T) (hr.mono (by decide)) (by rfl) (g_InvalidWord T) (AM.da_cons (AM.dv 0) AM.da_nil)) (AM.da_cons (AM.de_xmk eba_VE rfl (xoK_InvalidWish T) (hr.mono (by decide)) (by rfl) (g_InvalidWish T) (AM.da_cons (AM.dv 0) AM.da_nil)) AM.da_nil))))))) (AM.dss_cons (AM.ds_set (i := 1) sc__law_given.nd rfl (by first | exact Or.inl rfl | exact Or.inr rfl) (AM.de_op (AM.oa_add rfl) (AM.dv 1) (AM.de_lst (AM.da_cons (AM.de_xmk eba_VE rfl (xoK_InvalidClaim T) (hr.mono (by decide)) (by rfl) (g_InvalidClaim T) (AM.da_cons (AM.dv 0) AM.da_nil)) (AM.da_cons (AM.de_xmk eba_VE rfl (xoK_InvalidPlace T) (hr.mono (by decide)) (by rfl) (g_InvalidPlace T) (AM.da_cons (AM.dv 0) AM.da_nil)) (AM.da_cons (AM.de_xmk eba_VE rfl (xoK_NotATown T) (hr.mono (by decide)) (by rfl) (g_NotATown T) (AM.da_cons (AM.dv 0) AM.da_nil)) (AM.da_cons (AM.de_xmk eba_VE rfl (xoK_NotALog T) (hr.mono (by decide)) (by rfl) (g_NotALog T) (AM.da_cons (AM.dv 0) AM.da_nil)) AM.da_nil))))))) (AM.dss_cons (AM.ds_set (i := 1) sc__law_given.nd rfl (by first | exact Or.inl rfl | exact Or.inr rfl) (AM.de_op (AM.oa_add rfl) (AM.dv 1) (AM.de_lst (AM.da_cons (AM.de_xmk eba_VE rfl (xoK_InvalidStands T) (hr.mono (by decide)) (by rfl) (g_InvalidStands T) (AM.da_cons (AM.dv 0) AM.da_nil)) (AM.da_cons (AM.de_xmk eba_VE rfl (xoK_InvalidRoads T) (hr.mono (by decide)) (by rfl) (g_InvalidRoads T) (AM.da_cons (AM.dv 0) AM.da_nil)) (AM.da_cons (AM.de_xmk eba_VE rfl (xoK_InvalidFacts T) (hr.mono (by decide)) (by rfl) (g_InvalidFacts T) (AM.da_cons (AM.dv 0) AM.da_nil)) (AM.da_cons (AM.de_xmk eba_VE rfl (xoK_InvalidReadings T) (hr.mono (by decide)) (by rfl) (g_InvalidReadings T) (AM.da_cons (AM.dv 0) AM.da_nil)) AM.da_nil))))))) (AM.dss_cons (AM.ds_set (i := 1) sc__law_given.nd rfl (by first | exact Or.inl rfl | exact Or.inr rfl) (AM.de_op (AM.oa_add rfl) (AM.dv 1) (AM.de_lst (AM.da_cons (AM.de_xmk eba_VE rfl (xoK_InvalidWishes T) (hr.mono (by decide)) (by rfl) (g_InvalidWishes T) (AM.da_cons (AM.dv 0) AM.da_nil)) (AM.da_cons (AM.de_xmk eba_VE rfl (xoK_InvalidChanges T) (hr.mono (by decide)) (by rfl) (g_InvalidChanges T) (AM.da_cons (AM.dv 0) AM.da_nil)) (AM.da_cons (AM.de_xmk eba_LE rfl (xoK_UnknownName T) (hr.mono (by decide)) (by rfl) (g_UnknownName T) (AM.da_cons (AM.dv 0) AM.da_nil)) (AM.da_cons (AM.de_xmk eba_LE rfl (xoK_InUse T) (hr.mono (by decide)) (by rfl) (g_InUse T) (AM.da_cons (AM.dv 0) AM.da_nil)) AM.da_nil))))))) (AM.dss_cons (AM.ds_set (i := 1) sc__law_given.nd rfl (by first | exact Or.inl rfl | exact Or.inr rfl) (AM.de_op (AM.oa_add rfl) (AM.dv 1) (AM.de_lst (AM.da_cons (AM.de_xmk0 eba_AE rfl (AM.bareB_ok (xb_Impossible T)).1 (AM.bareB_ok (xb_Impossible T)).2.1 (by rfl) (g_Impossible T)) (AM.da_cons (AM.de_xmk0 eba_AE rfl (AM.bareB_ok (xb_OtherTown T)).1 (AM.bareB_ok (xb_OtherTown T)).2.1 (by rfl) (g_OtherTown T)) (AM.da_cons (AM.de_xmk eba_AE rfl (xoK_TooMany T) (hr.mono (by decide)) (by rfl) (g_TooMany T) (AM.da_cons (AM.dv 0) AM.da_nil)) (AM.da_cons (AM.de_xmk eba_AE rfl (xoK_Contradicts T) (hr.mono (by decide)) (by rfl) (g_Contradicts T) (AM.da_cons (AM.dv 0) AM.da_nil)) (AM.da_cons (AM.de_xmk0 eba_AE rfl (AM.bareB_ok (xb_NothingToUndo T)).1 (AM.bareB_ok (xb_NothingToUndo T)).2.1 (by rfl) (g_NothingToUndo T)) AM.da_nil)))))))) (AM.dss_cons (AM.ds_set (i := 1) sc__law_given.nd rfl (by first | exact Or.inl rfl | exact Or.inr rfl) (AM.de_op (AM.oa_add rfl) (AM.dv 1) (AM.de_lst (AM.da_cons (AM.de_xmk eba_AE rfl (xoK_Broken T) (hr.mono (by decide)) (by rfl) (g_Broken T) (AM.da_cons (AM.dv 0) (AM.da_cons AM.de_int AM.da_nil))) AM.da_nil)))) (AM.dss_cons (AM.ds_set (i := 2) sc__law_given.nd rfl (by first | exact Or.inl rfl | exact Or.inr rfl) (AM.de_lst (AM.da_cons (AM.de_xmkK eba_VE rfl (xoK_InvalidText T) (hr.mono (by decide)) (by rfl) (g_InvalidText T) AM.rds_id (AM.dk_cons (AM.dv 0) AM.dk_nil)) (AM.da_cons (AM.de_xmkK eba_VE rfl (xoK_InvalidSlots T) (hr.mono (by decide)) (by rfl) (g_InvalidSlots T) AM.rds_id (AM.dk_cons (AM.dv 0) AM.dk_nil)) (AM.da_cons (AM.de_xmkK eba_VE rfl (xoK_InvalidName T) (hr.mono (by decide)) (by rfl) (g_InvalidName T) AM.rds_id (AM.dk_cons (AM.dv 0) AM.dk_nil)) AM.da_nil))))) (AM.dss_cons (AM.ds_set (i := 2) sc__law_given.nd rfl (by first | exact Or.inl rfl | exact Or.inr rfl) (AM.de_op (AM.oa_add rfl) (AM.dv 2) (AM.de_lst (AM.da_cons (AM.de_xmkK eba_VE rfl (xoK_InvalidAsk T) (hr.mono (by decide)) (by rfl) (g_InvalidAsk T) AM.rds_id (AM.dk_cons (AM.dv 0) AM.dk_nil)) (AM.da_cons (AM.de_xmkK eba_VE rfl (xoK_InvalidFact T) (hr.mono (by decide)) (by rfl) (g_InvalidFact T) AM.rds_id (AM.dk_cons (AM.dv 0) AM.dk_nil)) (AM.da_cons (AM.de_xmkK eba_VE rfl (xoK_InvalidRecord T) (hr.mono (by decide)) (by rfl) (g_InvalidRecord T) AM.rds_id (AM.dk_cons (AM.dv 0) AM.dk_nil)) AM.da_nil)))))) (AM.dss_cons (AM.ds_set (i := 2) sc__law_given.nd rfl (by first | exact Or.inl rfl | exact Or.inr rfl) (AM.de_op (AM.oa_add rfl) (AM.dv 2) (AM.de_lst (AM.da_cons (AM.de_xmkK eba_VE rfl (xoK_InvalidWord T) (hr.mono (by decide)) (by rfl) (g_InvalidWord T) AM.rds_id (AM.dk_cons (AM.dv 0) AM.dk_nil)) (AM.da_cons (AM.de_xmkK eba_VE rfl (xoK_InvalidWish T) (hr.mono (by decide)) (by rfl) (g_InvalidWish T) AM.rds_id (AM.dk_cons (AM.dv 0) AM.dk_nil)) (AM.da_cons (AM.de_xmkK eba_VE rfl (xoK_InvalidClaim T) (hr.mono (by decide)) (by rfl) (g_InvalidClaim T) AM.rds_id (AM.dk_cons (AM.dv 0) AM.dk_nil)) AM.da_nil)))))) (AM.dss_cons (AM.ds_set (i := 2) sc__law_given.nd rfl (by first | exact Or.inl rfl | exact Or.inr rfl) (AM.de_op (AM.oa_add rfl) (AM.dv 2) (AM.de_lst (AM.da_cons (AM.de_xmkK eba_VE rfl (xoK_InvalidPlace T) (hr.mono (by decide)) (by rfl) (g_InvalidPlace T) AM.rds_id (AM.dk_cons (AM.dv 0) AM.dk_nil)) (AM.da_cons (AM.de_xmkK eba_VE rfl (xoK_NotATown T) (hr.mono (by decide)) (by rfl) (g_NotATown T) AM.rds_id (AM.dk_cons (AM.dv 0) AM.dk_nil)) (AM.da_cons (AM.de_xmkK eba_VE rfl (xoK_NotALog T) (hr.mono (by decide)) (by rfl) (g_NotALog T) AM.rds_id (AM.dk_cons (AM.dv 0) AM.dk_nil)) AM.da_nil)))))) (AM.dss_cons (AM.ds_set (i := 2) sc__law_given.nd rfl (by first | exact Or.inl rfl | exact Or.inr rfl) (AM.de_op (AM.oa_add rfl) (AM.dv 2) (AM.de_lst (AM.da_cons (AM.de_xmkK eba_VE rfl (xoK_InvalidStands T) (hr.mono (by decide)) (by rfl) (g_InvalidStands T) AM.rds_id (AM.dk_cons (AM.dv 0) AM.dk_nil)) (AM.da_cons (AM.de_xmkK eba_VE rfl (xoK_InvalidRoads T) (hr.mono (by decide)) (by rfl) (g_InvalidRoads T) AM.rds_id (AM.dk_cons (AM.dv 0) AM.dk_nil)) (AM.da_cons (AM.de_xmkK eba_VE rfl (xoK_InvalidFacts T) (hr.mono (by decide)) (by rfl) (g_InvalidFacts T) AM.rds_id (AM.dk_cons (AM.dv 0) AM.dk_nil)) AM.da_nil)))))) (AM.dss_cons (AM.ds_set (i := 2) sc__law_given.nd rfl (by first | exact Or.inl rfl | exact Or.inr rfl) (AM.de_op (AM.oa_add rfl) (AM.dv 2) (AM.de_lst (AM.da_cons (AM.de_xmkK eba_VE rfl (xoK_InvalidReadings T) (hr.mono (by decide)) (by rfl) (g_InvalidReadings T) AM.rds_id (AM.dk_cons (AM.dv 0) AM.dk_nil)) (AM.da_cons (AM.de_xmkK eba_VE rfl (xoK_InvalidWishes T) (hr.mono (by decide)) (by rfl) (g_InvalidWishes T) AM.rds_id (AM.dk_cons (AM.dv 0) AM.dk_nil)) (AM.da_cons (AM.de_xmkK eba_VE rfl (xoK_InvalidChanges T) (hr.mono (by decide)) (by rfl) (g_InvalidChanges T) AM.rds_id (AM.dk_cons (AM.dv 0) AM.dk_nil)) AM.da_nil)))))) (AM.dss_cons (AM.ds_set (i := 2) sc__law_given.nd rfl (by first | exact Or.inl rfl | exact Or.inr rfl) (AM.de_op (AM.oa_add rfl) (AM.dv 2) (AM.de_lst (AM.da_cons (AM.de_xmkK eba_LE rfl (xoK_UnknownName T) (hr.mono (by decide)) (by rfl) (g_UnknownName T) AM.rds_id (AM.dk_cons (AM.dv 0) AM.dk_nil)) (AM.da_cons (AM.de_xmkK eba_LE rfl (xoK_InUse T) (hr.mono (by decide)) (by rfl) (g_InUse T) AM.rds_id (AM.dk_cons (AM.dv 0) AM.dk_nil)) (AM.da_cons (AM.de_xmk0 eba_AE rfl (AM.bareB_ok (xb_Impossible T)).1 (AM.bareB_ok (xb_Impossible T)).2.1 (by rfl) (g_Impossible T)) (AM.da_cons (AM.de_xmk0 eba_AE rfl (AM.bareB_ok (xb_OtherTown T)).1 (AM.bareB_ok (xb_OtherTown T)).2.1 (by rfl) (g_OtherTown T)) AM.da_nil))))))) (AM.dss_cons (AM.ds_set (i := 2) sc__law_given.nd rfl (by first | exact Or.inl rfl | exact Or.inr rfl) (AM.de_op (AM.oa_add rfl) (AM.dv 2) (AM.de_lst (AM.da_cons (AM.de_xmkK eba_AE rfl (xoK_TooMany T) (hr.mono (by decide)) (by rfl) (g_TooMany T) AM.rds_id (AM.dk_cons (AM.dv 0) AM.dk_nil)) (AM.da_cons (AM.de_xmkK eba_AE rfl (xoK_Contradicts T) (hr.mono (by decide)) (by rfl) (g_Contradicts T) AM.rds_id (AM.dk_cons (AM.dv 0) AM.dk_nil)) (AM.da_cons (AM.de_xmk0 eba_AE rfl (AM.bareB_ok (xb_NothingToUndo T)).1 (AM.bareB_ok (xb_NothingToUndo T)).2.1 (by rfl) (g_NothingToUndo T)) AM.da_nil)))))) (AM.dss_cons (AM.ds_set (i := 2) sc__law_given.nd rfl (by first | exact Or.inl rfl | exact Or.inr rfl) (AM.de_op (AM.oa_add rfl) (AM.dv 2) (AM.de_lst (AM.da_cons (AM.de_xmkK eba_AE rfl (xoK_Broken T) (hr.mono (by decide)) (by rfl) (g_Broken T) AM.rds_sw (AM.dk_cons AM.de_int (AM.dk_cons (AM.dv 0) AM.dk_nil))) AM.da_nil)))) (AM.dss_one (AM.ds_ret (AM.de_lst (AM.da_cons (AM.dv 1) (AM.da_cons (AM.dv 2) AM.da_nil))))))))))))))))))))), AM.aSp_start (N := ["_law_thing", "_law_found", "_law_named"]) h⟩)
theorem sc__law_kept_right : FnScope ["_law_found", "_law_thing", "_law_some", "_law_k", "_law_last"] ["_law_found", "_law_thing"] (defScope s__law_kept_right) := ⟨rfl, rfl, rfl, by decide +kernel, rfl, by decide +kernel, by decide +kernel⟩
theorem ok__law_kept_right {P : Program} {w : World} {K : Frag} {mg : Str → Option Value} {base : Heap} (T : Tx P w K mg base) : GOk P w K mg base 1 "_law_kept_right" ["_law_found", "_law_thing"] (AM.aSp K F__law_kept_right) :=
  gok_of (FD__law_kept_right T) (g__law_kept_right T) sc__law_kept_right (fun _ _ _ _ _ _ us hl => match us, hl with | [_, _], _ => rfl) (fun vs H Q E h => AM.aSp_len h) (fun cdv A outer s H vs Q E hG hr h => ⟨AM.aS K E m__law_kept_right, (AM.dss_cons (AM.ds_setLc (mu := false) (E0 := E0) (i := 2) (own := [("_law_k", 3)]) (by rfl) sc__law_kept_right.nd rfl rfl (sw_true rfl rfl rfl (by decide +kernel)) (AM.di_val rfl (AM.de_lst (AM.da_cons AM.de_int (AM.da_cons AM.de_int (AM.da_cons AM.de_int (AM.da_cons AM.de_int (AM.da_cons AM.de_int (AM.da_cons AM.de_int (AM.da_cons AM.de_int (AM.da_cons AM.de_int (AM.da_cons AM.de_int (AM.da_cons AM.de_int (AM.da_cons AM.de_int (AM.da_cons AM.de_int (AM.da_cons AM.de_int (AM.da_cons AM.de_int AM.da_nil)))))))))))))))) (blkOk_by (own := [("_law_k", 3)]) (N := ["_law_found", "_law_thing", "_law_some", "_law_k", "_law_last"]) (sc := defScope s__law_kept_right) (by decide +kernel)) (fun _ _ _ _ _ => (AM.dg_name (i := 3) sc__law_kept_right.nd rfl (by first | exact Or.inl rfl | exact Or.inr rfl))) (fun _ _ _ _ _ => AM.dts_nil) (fun _ _ _ _ _ => (AM.de_xvf (ns := excF_given) rfl (AM.xfOkB_ok (xfa_given T)) (AM.de_ix rfl (AM.dv 0) (AM.dv 3))))) (AM.dss_cons (AM.ds_set (i := 2) sc__law_kept_right.nd rfl (by first | exact Or.inl rfl | exact Or.inr rfl) (AM.de_op (AM.oa_add rfl) (AM.dv 2) (AM.de_lc (mu := false) (E0 := E0) (own := [("_law_k", 3)]) (by rfl) sc__law_kept_right.nd (AM.di_val rfl (AM.de_lst (AM.da_cons AM.de_int (AM.da_cons AM.de_int (AM.da_cons AM.de_int (AM.da_cons AM.de_int (AM.da_cons AM.de_int (AM.da_cons AM.de_int (AM.da_cons AM.de_int AM.da_nil))))))))) (blkOk_by (own := [("_law_k", 3)]) (N := ["_law_found", "_law_thing", "_law_some", "_law_k", "_law_last"]) (sc := defScope s__law_kept_right) (by decide +kernel)) (fun _ _ _ _ _ => (AM.dg_name (i := 3) sc__law_kept_right.nd rfl (by first | exact Or.inl rfl | exact Or.inr rfl))) (fun _ _ _ _ _ => AM.dts_nil) (fun _ _ _ _ _ => (AM.de_xvf (ns := excF_index) rfl (AM.xfOkB_ok (xfa_index T)) (AM.de_ix rfl (AM.dv 0) (AM.dv 3))))))) (AM.dss_cons (AM.ds_set (i := 2) sc__law_kept_right.nd rfl (by first | exact Or.inl rfl | exact Or.inr rfl) (AM.de_op (AM.oa_add rfl) (AM.dv 2) (AM.de_lc (mu := false) (E0 := E0) (own := [("_law_k", 3)]) (by rfl) sc__law_kept_right.nd (AM.di_val rfl (AM.de_lst (AM.da_cons AM.de_int AM.da_nil))) (blkOk_by (own := [("_law_k", 3)]) (N := ["_law_found", "_law_thing", "_law_some", "_law_k", "_law_last"]) (sc := defScope s__law_kept_right) (by decide +kernel)) (fun _ _ _ _ _ => (AM.dg_name (i := 3) sc__law_kept_right.nd rfl (by first | exact Or.inl rfl | exact Or.inr rfl))) (fun _ _ _ _ _ => AM.dts_nil) (fun _ _ _ _ _ => (AM.de_xvf (ns := excF_most) rfl (AM.xfOkB_ok (xfa_most T)) (AM.de_ix rfl (AM.dv 0) (AM.dv 3))))))) (AM.dss_cons (AM.ds_set (i := 4) sc__law_kept_right.nd rfl (by first | exact Or.inl rfl | exact Or.inr rfl) (AM.de_ix rfl (AM.dv 0) AM.de_int)) (AM.dss_one (AM.ds_ret (AM.de_and (AM.de_cmp (AM.oa_eq rfl hr.units) (AM.de_callB (AM.ca_repr5 rfl hG hr.units) (by rfl) (b_repr T) (by decide +kernel) (AM.da_cons (AM.dv 2) AM.da_nil)) (AM.de_callB (AM.ca_repr5 rfl hG hr.units) (by rfl) (b_repr T) (by decide +kernel) (AM.da_cons (AM.de_op AM.oa_mul (AM.de_lst (AM.da_cons (AM.dv 1) AM.da_nil)) (AM.de_callB (AM.ca_len rfl) (by rfl) (b_len T) (by decide +kernel) (AM.da_cons (AM.dv 2) AM.da_nil))) AM.da_nil)) (nomark _)) (AM.de_one (AM.de_cmp (AM.oa_eq rfl hr.units) (AM.de_callB (AM.ca_repr5 rfl hG hr.units) (by rfl) (b_repr T) (by decide +kernel) (AM.da_cons (AM.de_lst (AM.da_cons (AM.de_xvf (ns := excF_index) rfl (AM.xfOkB_ok (xfa_index T)) (AM.dv 4)) (AM.da_cons (AM.de_xvf (ns := excF_shown) rfl (AM.xfOkB_ok (xfa_shown T)) (AM.dv 4)) AM.da_nil))) AM.da_nil)) (AM.de_callB (AM.ca_repr5 rfl hG hr.units) (by rfl) (b_repr T) (by decide +kernel) (AM.da_cons (AM.de_lst (AM.da_cons (AM.dv 1) (AM.da_cons AM.de_int AM.da_nil))) AM.da_nil)) (nomark _)))))))))), AM.aSp_start (N := ["_law_found", "_law_thing", "_law_some", "_law_k", "_law_last"]) h⟩)
theorem sc__law_raised_right : FnScope ["_law_thing", "_law_seen", "_law_e"] ["_law_thing"] (defScope s__law_raised_right) := ⟨rfl, rfl, rfl, by decide +kernel, rfl, by decide +kernel, by decide +kernel⟩
theorem ok__law_raised_right {P : Program} {w : World} {K : Frag} {mg : Str → Option Value} {base : Heap} (T : Tx P w K mg base) : GOk P w K mg base 3 "_law_raised_right" ["_law_thing"] (AM.aSp K F__law_raised_right) :=
  gok_of (FD__law_raised_right T) (g__law_raised_right T) sc__law_raised_right (fun _ _ _ _ _ _ us hl => match us, hl with | [_], _ => rfl) (fun vs H Q E h => AM.aSp_len h) (fun cdv A outer s H vs Q E hG hr h => ⟨AM.aS K E m__law_raised_right, (AM.dss_cons (AM.ds_set (i := 1) sc__law_raised_right.nd rfl (by first | exact Or.inl rfl | exact Or.inr rfl) (AM.de_lstM AM.da_nil)) (AM.dss_cons (AM.ds_tryV rfl (AM.exOkB_ok (exh_all T)) rfl rfl sc__law_raised_right.nd (L2C.takes_of rfl rfl rfl rfl) (fun hd => L2H.passesAt_of rfl hd) (fun W1 pn xe tk own => (AM.dss_oneW (AM.ds_raiseW eba_VE rfl (xo_InvalidText T) rfl tk (hr.mono (by decide)) (by rfl) (g_InvalidText T) (AM.da_consW (AM.deW (fun E2 => (AM.dv 0))) (AM.daW (fun E2 => AM.da_nil)))))) (AM.HdsA.cons (ds := ["NotRight"]) (i := 2) (by decide) (test_name ⟨by rfl, by decide, .inl (g_NotRight T)⟩) ⟨rfl, rfl⟩ (fun a oe C d pn hz hf => letI : AM.Amb := AM.Amb.on AM.amb (some (a, C, d)); (AM.dss_one (AM.ds_expr (AM.de_mut rfl PySem.F.slot_list_append PySem.F.type_list_append AM.ma_append (AM.dv 1) (AM.da_cons (AM.de_callB (AM.ca_repr5 rfl hG hr.units) (by rfl) (b_repr T) (by decide +kernel) (AM.da_cons (AM.de_xf (ns := excF_given) rfl (AM.xfOkB_ok (xfa_given T)) hz hf (AM.dv 2)) AM.da_nil)) AM.da_nil))))) AM.HdsA.nil)) (AM.dss_cons (AM.ds_tryV rfl (AM.exOkB_ok (exh_all T)) rfl rfl sc__law_raised_right.nd (L2C.takes_of rfl rfl rfl rfl) (fun hd => L2H.passesAt_of rfl hd) (fun W1 pn xe tk own => (AM.dss_oneW (AM.ds_raiseW eba_LE rfl (xo_UnknownName T) rfl tk (hr.mono (by decide)) (by rfl) (g_UnknownName T) (AM.da_consW (AM.deW (fun E2 => (AM.dv 0))) (AM.daW (fun E2 => AM.da_nil)))))) (AM.HdsA.cons (ds := ["NotThere"]) (i := 2) (by decide) (test_name ⟨by rfl, by decide, .inl (g_NotThere T)⟩) ⟨rfl, rfl⟩ (fun a oe C d pn hz hf => letI : AM.Amb := AM.Amb.on AM.amb (some (a, C, d)); (AM.dss_one (AM.ds_expr (AM.de_mut rfl PySem.F.slot_list_append PySem.F.type_list_append AM.ma_append (AM.dv 1) (AM.da_cons (AM.de_callB (AM.ca_repr5 rfl hG hr.units) (by rfl) (b_repr T) (by decide +kernel) (AM.da_cons (AM.de_xf (ns := excF_given) rfl (AM.xfOkB_ok (xfa_given T)) hz hf (AM.dv 2)) AM.da_nil)) AM.da_nil))))) AM.HdsA.nil)) (AM.dss_cons (AM.ds_tryV rfl (AM.exOkB_ok (exh_all T)) rfl rfl sc__law_raised_right.nd (L2C.takes_of rfl rfl rfl rfl) (fun hd => L2H.passesAt_of rfl hd) (fun W1 pn xe tk own => (AM.dss_oneW (AM.ds_raiseW eba_AE rfl (xo_Broken T) rfl tk (hr.mono (by decide)) (by rfl) (g_Broken T) (AM.da_consW (AM.deW (fun E2 => (AM.dv 0))) (AM.da_consW (AM.deW (fun E2 => AM.de_int)) (AM.daW (fun E2 => AM.da_nil))))))) (AM.HdsA.cons (ds := ["CannotBe"]) (i := 2) (by decide) (test_name ⟨by rfl, by decide, .inl (g_CannotBe T)⟩) ⟨rfl, rfl⟩ (fun a oe C d pn hz hf => letI : AM.Amb := AM.Amb.on AM.amb (some (a, C, d)); (AM.dss_one (AM.ds_expr (AM.de_mut rfl PySem.F.slot_list_append PySem.F.type_list_append AM.ma_append (AM.dv 1) (AM.da_cons (AM.de_callB (AM.ca_repr5 rfl hG hr.units) (by rfl) (b_repr T) (by decide +kernel) (AM.da_cons (AM.de_xf (ns := excF_index) rfl (AM.xfOkB_ok (xfa_index T)) hz hf (AM.dv 2)) AM.da_nil)) AM.da_nil))))) AM.HdsA.nil)) (AM.dss_one (AM.ds_ret (AM.de_cmp (AM.oa_eq rfl hr.units) (AM.dv 1) (AM.de_op AM.oa_mul (AM.de_lst (AM.da_cons (AM.de_callB (AM.ca_repr5 rfl hG hr.units) (by rfl) (b_repr T) (by decide +kernel) (AM.da_cons (AM.dv 0) AM.da_nil)) AM.da_nil)) AM.de_int) (nomark _)))))))), AM.aSp_start (N := ["_law_thing", "_law_seen", "_law_e"]) h⟩)
theorem sc__law_sorts : FnScope ["_law_e", "_law_found"] ["_law_e"] (defScope s__law_sorts) := ⟨rfl, rfl, rfl, by decide +kernel, rfl, by decide +kernel, by decide +kernel⟩
theorem ok__law_sorts {P : Program} {w : World} {K : Frag} {mg : Str → Option Value} {base : Heap} (T : Tx P w K mg base) : DOk P w K mg base 1 "_law_sorts" ["_law_e"] (AM.aSp K F__law_sorts) :=
  dok_of (FD__law_sorts T) (g__law_sorts T) sc__law_sorts (fun _ _ _ _ _ _ us hl => match us, hl with | [_], _ => rfl) (fun vs H Q E h => AM.aSp_len h) (fun cdv A outer s H vs Q E hr h => ⟨AM.aS K E m__law_sorts, (AM.dss_cons (AM.ds_set (i := 1) sc__law_sorts.nd rfl (by first | exact Or.inl rfl | exact Or.inr rfl) (AM.de_lst (AM.da_cons (AM.de_callB (AM.ca_isV rfl (AM.isOkB_ok (isx_all T))) (by rfl) (b_isinstance T) (by decide +kernel) (AM.da_cons (AM.dv 0) (AM.da_cons (AM.de_cls (by rfl) (g_InvalidText T)) AM.da_nil))) (AM.da_cons (AM.de_callB (AM.ca_isV rfl (AM.isOkB_ok (isx_all T))) (by rfl) (b_isinstance T) (by decide +kernel) (AM.da_cons (AM.dv 0) (AM.da_cons (AM.de_cls (by rfl) (g_InvalidSlots T)) AM.da_nil))) (AM.da_cons (AM.de_callB (AM.ca_isV rfl (AM.isOkB_ok (isx_all T))) (by rfl) (b_isinstance T) (by decide +kernel) (AM.da_cons (AM.dv 0) (AM.da_cons (AM.de_cls (by rfl) (g_InvalidName T)) AM.da_nil))) AM.da_nil))))) (AM.dss_cons (AM.ds_set (i := 1) sc__law_sorts.nd rfl (by first | exact Or.inl rfl | exact Or.inr rfl) (AM.de_op (AM.oa_add rfl) (AM.dv 1) (AM.de_lst (AM.da_cons (AM.de_callB (AM.ca_isV rfl (AM.isOkB_ok (isx_all T))) (by rfl) (b_isinstance T) (by decide +kernel) (AM.da_cons (AM.dv 0) (AM.da_cons (AM.de_cls (by rfl) (g_InvalidAsk T)) AM.da_nil))) (AM.da_cons (AM.de_callB (AM.ca_isV rfl (AM.isOkB_ok (isx_all T))) (by rfl) (b_isinstance T) (by decide +kernel) (AM.da_cons (AM.dv 0) (AM.da_cons (AM.de_cls (by rfl) (g_InvalidFact T)) AM.da_nil))) (AM.da_cons (AM.de_callB (AM.ca_isV rfl (AM.isOkB_ok (isx_all T))) (by rfl) (b_isinstance T) (by decide +kernel) (AM.da_cons (AM.dv 0) (AM.da_cons (AM.de_cls (by rfl) (g_InvalidRecord T)) AM.da_nil))) AM.da_nil)))))) (AM.dss_cons (AM.ds_set (i := 1) sc__law_sorts.nd rfl (by first | exact Or.inl rfl | exact Or.inr rfl) (AM.de_op (AM.oa_add rfl) (AM.dv 1) (AM.de_lst (AM.da_cons (AM.de_callB (AM.ca_isV rfl (AM.isOkB_ok (isx_all T))) (by rfl) (b_isinstance T) (by decide +kernel) (AM.da_cons (AM.dv 0) (AM.da_cons (AM.de_cls (by rfl) (g_InvalidWord T)) AM.da_nil))) (AM.da_cons (AM.de_callB (AM.ca_isV rfl (AM.isOkB_ok (isx_all T))) (by rfl) (b_isinstance T) (by decide +kernel) (AM.da_cons (AM.dv 0) (AM.da_cons (AM.de_cls (by rfl) (g_InvalidWish T)) AM.da_nil))) (AM.da_cons (AM.de_callB (AM.ca_isV rfl (AM.isOkB_ok (isx_all T))) (by rfl) (b_isinstance T) (by decide +kernel) (AM.da_cons (AM.dv 0) (AM.da_cons (AM.de_cls (by rfl) (g_InvalidClaim T)) AM.da_nil))) AM.da_nil)))))) (AM.dss_cons (AM.ds_set (i := 1) sc__law_sorts.nd rfl (by first | exact Or.inl rfl | exact Or.inr rfl) (AM.de_op (AM.oa_add rfl) (AM.dv 1) (AM.de_lst (AM.da_cons (AM.de_callB (AM.ca_isV rfl (AM.isOkB_ok (isx_all T))) (by rfl) (b_isinstance T) (by decide +kernel) (AM.da_cons (AM.dv 0) (AM.da_cons (AM.de_cls (by rfl) (g_InvalidPlace T)) AM.da_nil))) (AM.da_cons (AM.de_callB (AM.ca_isV rfl (AM.isOkB_ok (isx_all T))) (by rfl) (b_isinstance T) (by decide +kernel) (AM.da_cons (AM.dv 0) (AM.da_cons (AM.de_cls (by rfl) (g_NotATown T)) AM.da_nil))) (AM.da_cons (AM.de_callB (AM.ca_isV rfl (AM.isOkB_ok (isx_all T))) (by rfl) (b_isinstance T) (by decide +kernel) (AM.da_cons (AM.dv 0) (AM.da_cons (AM.de_cls (by rfl) (g_NotALog T)) AM.da_nil))) AM.da_nil)))))) (AM.dss_cons (AM.ds_set (i := 1) sc__law_sorts.nd rfl (by first | exact Or.inl rfl | exact Or.inr rfl) (AM.de_op (AM.oa_add rfl) (AM.dv 1) (AM.de_lst (AM.da_cons (AM.de_callB (AM.ca_isV rfl (AM.isOkB_ok (isx_all T))) (by rfl) (b_isinstance T) (by decide +kernel) (AM.da_cons (AM.dv 0) (AM.da_cons (AM.de_cls (by rfl) (g_InvalidStands T)) AM.da_nil))) (AM.da_cons (AM.de_callB (AM.ca_isV rfl (AM.isOkB_ok (isx_all T))) (by rfl) (b_isinstance T) (by decide +kernel) (AM.da_cons (AM.dv 0) (AM.da_cons (AM.de_cls (by rfl) (g_InvalidRoads T)) AM.da_nil))) (AM.da_cons (AM.de_callB (AM.ca_isV rfl (AM.isOkB_ok (isx_all T))) (by rfl) (b_isinstance T) (by decide +kernel) (AM.da_cons (AM.dv 0) (AM.da_cons (AM.de_cls (by rfl) (g_InvalidFacts T)) AM.da_nil))) AM.da_nil)))))) (AM.dss_cons (AM.ds_set (i := 1) sc__law_sorts.nd rfl (by first | exact Or.inl rfl | exact Or.inr rfl) (AM.de_op (AM.oa_add rfl) (AM.dv 1) (AM.de_lst (AM.da_cons (AM.de_callB (AM.ca_isV rfl (AM.isOkB_ok (isx_all T))) (by rfl) (b_isinstance T) (by decide +kernel) (AM.da_cons (AM.dv 0) (AM.da_cons (AM.de_cls (by rfl) (g_InvalidReadings T)) AM.da_nil))) (AM.da_cons (AM.de_callB (AM.ca_isV rfl (AM.isOkB_ok (isx_all T))) (by rfl) (b_isinstance T) (by decide +kernel) (AM.da_cons (AM.dv 0) (AM.da_cons (AM.de_cls (by rfl) (g_InvalidWishes T)) AM.da_nil))) AM.da_nil))))) (AM.dss_cons (AM.ds_set (i := 1) sc__law_sorts.nd rfl (by first | exact Or.inl rfl | exact Or.inr rfl) (AM.de_op (AM.oa_add rfl) (AM.dv 1) (AM.de_lst (AM.da_cons (AM.de_callB (AM.ca_isV rfl (AM.isOkB_ok (isx_all T))) (by rfl) (b_isinstance T) (by decide +kernel) (AM.da_cons (AM.dv 0) (AM.da_cons (AM.de_cls (by rfl) (g_InvalidChanges T)) AM.da_nil))) (AM.da_cons (AM.de_callB (AM.ca_isV rfl (AM.isOkB_ok (isx_all T))) (by rfl) (b_isinstance T) (by decide +kernel) (AM.da_cons (AM.dv 0) (AM.da_cons (AM.de_cls (by rfl) (g_UnknownName T)) AM.da_nil))) (AM.da_cons (AM.de_callB (AM.ca_isV rfl (AM.isOkB_ok (isx_all T))) (by rfl) (b_isinstance T) (by decide +kernel) (AM.da_cons (AM.dv 0) (AM.da_cons (AM.de_cls (by rfl) (g_InUse T)) AM.da_nil))) AM.da_nil)))))) (AM.dss_cons (AM.ds_set (i := 1) sc__law_sorts.nd rfl (by first | exact Or.inl rfl | exact Or.inr rfl) (AM.de_op (AM.oa_add rfl) (AM.dv 1) (AM.de_lst (AM.da_cons (AM.de_callB (AM.ca_isV rfl (AM.isOkB_ok (isx_all T))) (by rfl) (b_isinstance T) (by decide +kernel) (AM.da_cons (AM.dv 0) (AM.da_cons (AM.de_cls (by rfl) (g_Impossible T)) AM.da_nil))) (AM.da_cons (AM.de_callB (AM.ca_isV rfl (AM.isOkB_ok (isx_all T))) (by rfl) (b_isinstance T) (by decide +kernel) (AM.da_cons (AM.dv 0) (AM.da_cons (AM.de_cls (by rfl) (g_OtherTown T)) AM.da_nil))) (AM.da_cons (AM.de_callB (AM.ca_isV rfl (AM.isOkB_ok (isx_all T))) (by rfl) (b_isinstance T) (by decide +kernel) (AM.da_cons (AM.dv 0) (AM.da_cons (AM.de_cls (by rfl) (g_TooMany T)) AM.da_nil))) AM.da_nil)))))) (AM.dss_cons (AM.ds_set (i := 1) sc__law_sorts.nd rfl (by first | exact Or.inl rfl | exact Or.inr rfl) (AM.de_op (AM.oa_add rfl) (AM.dv 1) (AM.de_lst (AM.da_cons (AM.de_callB (AM.ca_isV rfl (AM.isOkB_ok (isx_all T))) (by rfl) (b_isinstance T) (by decide +kernel) (AM.da_cons (AM.dv 0) (AM.da_cons (AM.de_cls (by rfl) (g_Contradicts T)) AM.da_nil))) (AM.da_cons (AM.de_callB (AM.ca_isV rfl (AM.isOkB_ok (isx_all T))) (by rfl) (b_isinstance T) (by decide +kernel) (AM.da_cons (AM.dv 0) (AM.da_cons (AM.de_cls (by rfl) (g_NothingToUndo T)) AM.da_nil))) (AM.da_cons (AM.de_callB (AM.ca_isV rfl (AM.isOkB_ok (isx_all T))) (by rfl) (b_isinstance T) (by decide +kernel) (AM.da_cons (AM.dv 0) (AM.da_cons (AM.de_cls (by rfl) (g_Broken T)) AM.da_nil))) AM.da_nil)))))) (AM.dss_one (AM.ds_ret (AM.dv 1)))))))))))), AM.aSp_start (N := ["_law_e", "_law_found"]) h⟩)
theorem sc__law_right : FnScope ["_law_thing", "_law_found", "_law_k", "_law_due_here", "_law_at"] ["_law_thing"] (defScope s__law_right) := ⟨rfl, rfl, rfl, by decide +kernel, rfl, by decide +kernel, by decide +kernel⟩
theorem ok__law_right {P : Program} {w : World} {K : Frag} {mg : Str → Option Value} {base : Heap} (T : Tx P w K mg base) : GOk P w K mg base 4 "_law_right" ["_law_thing"] (AM.aSp K F__law_right) :=
  gok_of (FD__law_right T) (g__law_right T) sc__law_right (fun _ _ _ _ _ _ us hl => match us, hl with | [_], _ => rfl) (fun vs H Q E h => AM.aSp_len h) (fun cdv A outer s H vs Q E hG hr h => ⟨AM.aS K E m__law_right, (AM.dss_cons (AM.ds_for ownE rfl (AM.di_val rfl (AM.de_callD (ok__law_given T) (hr.mono (by decide)) (by rfl) passE (AM.da_cons (AM.dv 0) AM.da_nil))) (AM.dg_name (i := 1) sc__law_right.nd rfl (by first | exact Or.inl rfl | exact Or.inr rfl)) (AM.dss_cons (AM.ds_for ownE rfl (AM.di_range1 (by rfl) (b_range T) (AM.da_cons (AM.de_callB (AM.ca_len rfl) (by rfl) (b_len T) (by decide +kernel) (AM.da_cons (AM.dv 1) AM.da_nil)) AM.da_nil)) (AM.dg_name (i := 2) sc__law_right.nd rfl (by first | exact Or.inl rfl | exact Or.inr rfl)) (AM.dss_cons (AM.ds_setLc (mu := false) (E0 := E0) (i := 3) (own := [("_law_at", 4)]) (by rfl) sc__law_right.nd rfl rfl (sw_true rfl rfl rfl (by decide +kernel)) (AM.di_range1 (by rfl) (b_range T) (AM.da_cons (AM.de_callB (AM.ca_len rfl) (by rfl) (b_len T) (by decide +kernel) (AM.da_cons (AM.dv 1) AM.da_nil)) AM.da_nil)) (blkOk_by (own := [("_law_at", 4)]) (N := ["_law_thing", "_law_found", "_law_k", "_law_due_here", "_law_at"]) (sc := defScope s__law_right) (by decide +kernel)) (fun _ _ _ _ _ => (AM.dg_name (i := 4) sc__law_right.nd rfl (by first | exact Or.inl rfl | exact Or.inr rfl))) (fun _ _ _ _ _ => AM.dts_nil) (fun _ _ _ _ _ => (AM.de_cmp (AM.oa_eq rfl hr.units) (AM.dv 4) (AM.dv 2) (nomark _)))) (AM.dss_one (AM.ds_if (PW.pt (AM.dw_or (AM.dt_cmp (AM.oa_ne rfl hr.units) (AM.de_callD (ok__law_sorts T) (hr.mono (by decide)) (by rfl) passE (AM.da_cons (AM.de_ix rfl (AM.dv 1) (AM.dv 2)) AM.da_nil)) (AM.dv 3) (nomark _)) (AM.dw_or1 (AM.dt_cmp (AM.oa_ne rfl hr.units) (AM.de_callD (ok__law_bases T) (hr.mono (by decide)) (by rfl) passE (AM.da_cons (AM.de_ix rfl (AM.dv 1) (AM.dv 2)) AM.da_nil)) (AM.de_callD (ok__law_due T) (hr.mono (by decide)) (by rfl) passE (AM.da_cons (AM.dv 2) AM.da_nil)) (nomark _))))) (AM.dss_one (AM.ds_ret AM.de_bl)) AM.dss_nil)))) (AM.dss_one (AM.ds_if (AM.dt_not (AM.dt_val (AM.de_callG (ok__law_kept_right T) hG (hr.mono (by decide)) (by rfl) passE (AM.da_cons (AM.dv 1) (AM.da_cons (AM.dv 0) AM.da_nil))))) (AM.dss_one (AM.ds_ret AM.de_bl)) AM.dss_nil)))) (AM.dss_one (AM.ds_ret (AM.de_callG (ok__law_raised_right T) hG (hr.mono (by decide)) (by rfl) passE (AM.da_cons (AM.dv 0) AM.da_nil))))), AM.aSp_start (N := ["_law_thing", "_law_found", "_law_k", "_law_due_here", "_law_at"]) h⟩)
theorem sc_law : FnScope ["_law_cells", "_law_limits_here", "_law_things", "_law_cell", "_law_thing"] ["_law_cells"] (defScope s_law) := ⟨rfl, rfl, rfl, by decide +kernel, rfl, by decide +kernel, by decide +kernel⟩
theorem ok_law {P : Program} {w : World} {K : Frag} {mg : Str → Option Value} {base : Heap} (T : Tx P w K mg base) : GLawT P w K mg tf 5 "law" ["_law_cells"] (AM.aSp K F_law) :=
  gokLT_of (FD_law T) sc_law (fun _ _ _ _ _ _ us hl => match us, hl with | [_], _ => rfl) (fun vs H Q E h => AM.aSp_len h) (fun base B cdv A outer s H vs Q E hG hcd hr h => by
    replace T := T.at B
    exact ⟨AM.aS K E m_law, (AM.dss_cons (AM.ds_set (i := 1) sc_law.nd rfl (by first | exact Or.inl rfl | exact Or.inr rfl) (AM.de_lst (AM.da_cons (AM.de_gint (by rfl) (c_MOST_SLOTS T)) (AM.da_cons (AM.de_gint (by rfl) (c_MOST_STANDS T)) (AM.da_cons (AM.de_gint (by rfl) (c_MOST_SIZE T)) (AM.da_cons (AM.de_gint (by rfl) (c_MOST_ROADS T)) (AM.da_cons (AM.de_gint (by rfl) (c_MOST_TIME T)) (AM.da_cons (AM.de_gint (by rfl) (c_MOST_FACTS T)) (AM.da_cons (AM.de_gint (by rfl) (c_MOST_NUMBER T)) AM.da_nil))))))))) (AM.dss_cons (AM.ds_set (i := 1) sc_law.nd rfl (by first | exact Or.inl rfl | exact Or.inr rfl) (AM.de_op (AM.oa_add rfl) (AM.dv 1) (AM.de_lst (AM.da_cons (AM.de_gint (by rfl) (c_MOST_READINGS T)) (AM.da_cons (AM.de_gint (by rfl) (c_MOST_CHANGES T)) AM.da_nil))))) (AM.dss_cons (AM.ds_if (AM.dt_cmp (AM.oa_ne rfl hr.units) (AM.dv 1) (AM.de_lst (AM.da_cons AM.de_int (AM.da_cons AM.de_int (AM.da_cons AM.de_int (AM.da_cons AM.de_int (AM.da_cons AM.de_int (AM.da_cons AM.de_int (AM.da_cons AM.de_int (AM.da_cons AM.de_int (AM.da_cons AM.de_int AM.da_nil)))))))))) (nomark _)) (AM.dss_one (AM.ds_ret AM.de_bl)) AM.dss_nil) (AM.dss_cons (AM.ds_set (i := 2) sc_law.nd rfl (by first | exact Or.inl rfl | exact Or.inr rfl) (AM.de_op (AM.oa_add rfl) (AM.de_lst (AM.da_cons AM.de_non (AM.da_cons AM.de_str (AM.da_cons (AM.de_tup (AM.da_cons AM.de_int (AM.da_cons AM.de_str AM.da_nil))) (AM.da_cons AM.de_bl (AM.da_cons (AM.de_un AM.ua_neg AM.de_int) AM.da_nil)))))) (AM.de_lc (mu := false) (E0 := E0) (own := [("_law_cell", 3)]) (by rfl) sc_law.nd (AM.di_val rfl (AM.de_slice rfl (AM.dv 0) AM.do_none (AM.do_some AM.de_int))) (blkOk_by (own := [("_law_cell", 3)]) (N := ["_law_cells", "_law_limits_here", "_law_things", "_law_cell", "_law_thing"]) (sc := defScope s_law) (by decide +kernel)) (fun _ _ _ _ _ => (AM.dg_name (i := 3) sc_law.nd rfl (by first | exact Or.inl rfl | exact Or.inr rfl))) (fun _ _ _ _ _ => AM.dts_nil) (fun _ _ _ _ _ => (AM.de_op AM.oa_mod (AM.de_callTy AM.ca_int (by rfl) (b_int T) (by decide +kernel) (AM.da_cons (AM.dv 3) AM.da_nil)) (AM.de_op AM.oa_pow AM.de_int AM.de_int)))))) (AM.dss_one (AM.ds_ret (AM.de_cmp (AM.oa_eq rfl hr.units) (AM.de_lc (mu := false) (E0 := E0) (own := [("_law_thing", 4)]) (by rfl) sc_law.nd (AM.di_val rfl (AM.dv 2)) (blkOk_by (own := [("_law_thing", 4)]) (N := ["_law_cells", "_law_limits_here", "_law_things", "_law_cell", "_law_thing"]) (sc := defScope s_law) (by decide +kernel)) (fun _ _ _ _ _ => (AM.dg_name (i := 4) sc_law.nd rfl (by first | exact Or.inl rfl | exact Or.inr rfl))) (fun _ _ _ _ _ => (pts_one (AM.dt_not (AM.dt_val (AM.de_callG (ok__law_right T) hG (hr.mono (by decide)) (by rfl) passL (AM.da_cons (AM.dv 4) AM.da_nil)))))) (fun _ _ _ _ _ => (AM.dv 4))) (AM.de_lst AM.da_nil) (nomark _)))))))), AM.aSp_start (N := ["_law_cells", "_law_limits_here", "_law_things", "_law_cell", "_law_thing"]) h⟩)
end Bk
set_option Elab.async false
set_option linter.all false
set_option maxRecDepth 100000
set_option maxHeartbeats 0
namespace Bk
open PySem PySem.Spec PyProof.Rows L2
open PySem.W (Frag)
theorem sp_true {K : Frag} (H : Hp) (a : Addr) (ns : List Int) (hl : ns.length ≤ 63) (hO : Only H) (hT : ∀ p ∈ tf, H (He.cT K p).2 = none) (hS : SqL K H a (ns.map V.int)) : AM.aSp K F_law [.ref a] (tabH (tf.map fun p => (He.cT K p).2) H) (fun v _ => v = .bl true) fun _ _ _ => False :=
  AM.sp_start H a ns hO hT hS (law_true ns hl)
end Bk
open PySem PySem.W PySem.Calls PyProof.Rows
theorem PySem.Challenge.cw_bikestands_k01_limits_and_errors_holds : PySem.Challenge.rw_bikestands_k01_limits_and_errors.Holds := by
  w_on; o_law
  refine HandSHeadRun.head_any (r := OpenLaw.row PySem.Challenge.rw_bikestands_k01_limits_and_errors) (q := view (OpenLaw.row PySem.Challenge.rw_bikestands_k01_limits_and_errors).prog [47]) (H := Bk.hk) (ob := Bk.ob) (M := 20000) (loose := Bk.loose) (d := HandSHeadRun.topDef (OpenLaw.row PySem.Challenge.rw_bikestands_k01_limits_and_errors).prog 47) (kwd := []) Bk.ob_eq
    (by kernel_rfl) (fun s => by kernel_rfl) Bk.run (by kernel_rfl) (by kernel_rfl) (by kernel_rfl) (by rfl) (by first | assumption | decide +kernel) (by decide +kernel) ⟨rfl, rfl, rfl, rfl, rfl, by decide +kernel⟩ ?hw ?hc
  case hw => w_witness2
  case hc =>
    refine Bk.walk_ofGT (l := PySem.Challenge.rw_bikestands_k01_limits_and_errors) (n := 63) (k := 5) (x := "_law_cells") (tf := Bk.tf) rfl (by decide) (by kernel_rfl) ⟨rfl, by decide, by decide⟩ ?F
    intro w mg fa h Y G hn TB
    obtain ⟨K, KX, c⟩ := Y
    have en : (HandSHeadRun.topDef (OpenLaw.row PySem.Challenge.rw_bikestands_k01_limits_and_errors).prog 47).name = ("law" : PySem.Str) := by kernel_rfl
    rw [en] at hn
    have T : Bk.Tx (PySem.Challenge.rw_bikestands_k01_limits_and_errors).prog w K mg h := ⟨c.e, ⟨h, KX, G⟩, by decide +kernel, by decide +kernel, TB K KX c.hd c.empty⟩
    have e := hn.symm.trans (Bk.g_law T)
    cases e
    obtain ⟨fd, hb, hF⟩ := (Bk.ok_law (P := (PySem.Challenge.rw_bikestands_k01_limits_and_errors).prog) (w := w) T).ok
    exact ⟨K, fd, AM.aSp K Bk.F_law, KX, c.hd, c.out, c.empty, fun s u => hb s [u] rfl, fun H a ns hl _ hO hS hT => Bk.sp_true H a ns hl hO hT hS, hF⟩
