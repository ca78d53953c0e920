import PyProof.Rows.All
import Wide.All
import OpenK.AllK
import Wide.FinOn
import HandS.ForMost
import HandS.ForExc
import HandS.IsInst
import HandS.HeadEnd
import KE.KStateDown
import Lean
import HandS.HeadNt
import HandS.HeadHook2
import HandS.Defaults
import HandS.Property
import HandS.ClsMeth
import HandS.Head0
import HandS.Head1
import HandS.Head2
import HandS.Star
import HandS.FStr
import HandS.CallLocal
import HandS.Deep
import KE.GoesEnum
import HandS.Walk
import HandS.Style
import KE.IntTextLaws
import KE.KIntText
import KE.KCallOwn
import HandS.SlotsOwn
import PyProof.InstNe
import HandS.TupAny
import PyProof.StrLawsRepr
import PyProof.ReprLen
import PySem.Challenge.RW_bikestands_k04_whole_towns_read_back
set_option Elab.async false
set_option linter.all false
set_option maxRecDepth 100000
set_option maxHeartbeats 4000000
/-! ## defs that are called where no repr is under way -/
namespace Bk
open PySem PySem.Spec PyProof.Rows L2

/-- as the layer's promise of a def, where the guards are known to be none -/
structure FnG (P : Program) (w : World) (K : PySem.W.Frag) (mg : Str → Option Value) (base : Heap)
    (CX : CXT) (k : Nat) (f : Addr) (fd : FuncData) (ps : List Str) (sp : Sp) : Prop where
  len : ∀ vs H Q E, sp vs H Q E → vs.length = ps.length
  run : ∀ (A : Around) (outer : List Env) (s : Shared) (H : Hp) (args : Args) (us : List Value) (vs : List V)
    (Q : VK) (E : XK), A.guards = some [] → Room k A → Env0 P w K mg base A outer s H →
    BindsTo s fd args (ps.zip us) → Vals vs us → sp vs H Q E →
    codeAny (model P w) A (.call (.ref f) args) (CR CX outer P w H s Q E) s

theorem FnOk.toG {P : Program} {w : World} {K : PySem.W.Frag} {mg : Str → Option Value} {base : Heap} {CX : CXT}
    {k : Nat} {f : Addr} {fd : FuncData} {ps : List Str} {sp : Sp} (F : FnOk P w K mg base CX k f fd ps sp) :
    FnG P w K mg base CX k f fd ps sp :=
  ⟨F.len, fun A outer s H args us vs Q E _ => F.run A outer s H args us vs Q E⟩

theorem fnG_of {CX : CXT} {P : Program} {w : World} {K : PySem.W.Frag} {mg : Str → Option Value} {base : Heap} {k : Nat}
    {f : Addr} {name qual : Str} {params : Arguments} {body : List Stmt} {scope : Scope}
    {dV kV doc pm cdv ct oc : Value} {an od : Option Addr} {osl : Array (Option Value)} {N ps : List Str} {sp : Sp}
    (lk : K.lookup f = some ⟨oc, od, .func (PySem.W.fnOf name qual params body scope dV kV doc pm an cdv ct), osl⟩)
    (hcd : PySem.W.codeIn K cdv qual = true) (S : FnScope N ps scope)
    (len : ∀ vs H Q E, sp vs H Q E → vs.length = ps.length)
    (hbody : ∀ (A : Around) (outer : List Env) (s : Shared) (H : Hp) (vs : List V) (Q : VK) (E : XK), A.guards = some [] →
      Room k (A.deeper (envOfC qual scope s.heap.objs.size f cdv)) → sp vs H Q E →
      ∃ t, PSs (cxOf CX P w K mg base N qual scope f cdv A outer s H E) body t ∧
        t { nx := fun _ H' => Q .non H', rt := Q } (start N vs) H) :
    FnG P w K mg base CX (k + 1) f (PySem.W.fnOf name qual params body scope dV kV doc pm an cdv ct) ps sp := by
  refine ⟨len, fun A outer s H args us vs Q E hG hr e0 hb r hsp => ?_⟩
  have hl := len vs H Q E hsp
  have old : ∀ b o, base.get? b = some o → s.heap.get? b = some o := fun b o e => (e0.bs b o e).1
  have KX : K.In s.heap := e0.mod.kin.keeps old
  have lim : s.heap.NoLimit := e0.mod.nolimit.keeps old
  have hkind : ∀ y ∈ ps.zip us, scope.names.lookup y.1 = some .local ∨
      (scope.names.lookup y.1 = some .cell ∧ ((cellsFrom (s.heap.objs.size + 1) scope.names []).lookup y.1).isSome = true) := by
    rintro ⟨n, v⟩ hy
    exact (S.par n (List.of_mem_zip hy).1).elim Or.inl fun q => Or.inr ⟨q, PySem.W.cellsFrom_some _ _ _ (Or.inl q)⟩
  refine codeAny_call_function hr.depth (KX _ _ lk) rfl S.co S.gen rfl (PySem.W.codeRec_of KX hcd) (hb _ _ _ _ ?_)
  refine wpAny_newFunctionEnv_cells S.kind hkind ?_
  intro env he s1 x
  subst he
  refine ⟨lim.keeps x.toInCall.keep, codeAny_func ?_⟩
  obtain ⟨t, ht, hq⟩ := hbody A outer s H vs Q E hG (hr.deeper _) hsp
  have J0 : Inv (cxOf CX P w K mg base N qual scope f cdv A outer s H E) [] (start N vs) H s1 := inv_start S hr.hd e0 hl r x
  refine wpAny_mono (ht.run [] s1 (start N vs) H _ J0 hq) ?_ (fun e s' hs => hs)
  intro fl s' hs
  cases fl with
  | ret u =>
    obtain ⟨v, σ', H', J, rv, q⟩ := hs
    exact ⟨v, H', J.os, J.bare, J.base, J.hok, rv, q⟩
  | next =>
    obtain ⟨σ', H', J, q⟩ := hs
    exact ⟨V.non, H', J.os, J.bare, J.base, J.hok, rfl, q⟩
  | brk =>
    obtain ⟨_, _, _, q⟩ := hs
    exact q.elim
  | cont =>
    obtain ⟨_, _, _, q⟩ := hs
    exact q.elim

section
variable {X : Cx} {CX : CXT} {k : Nat} {f : Addr} {fd : FuncData} {ps : List Str} {sp : Sp} {ds : List Value} {dvs : List V} {E : XK}
theorem run_fnG {pins : List (Addr × Obj)} {σ : L2.St} {H : Hp} {s : Shared} {Q : VK} {us : List Value} {vs : List V}
    (F : FnG X.prog X.w X.K X.mg X.base CX k f fd ps sp) (hG : X.A.guards = some []) (hr : Room k X.A)
    (hb : Binds X.K fd ps ds) (hd : Vals dvs ds) (hx : Passes CX X E) (I : Inv X pins σ H s) (r : Vals vs us)
    (h : sp (vs ++ dvs) H Q E) : wpAny (model X.prog X.w) X.A (call (.ref f) us) (EP X pins σ Q) X.xe s := by
  have r2 : Vals (vs ++ dvs) (us ++ ds) := r.append hd
  have hl : (us ++ ds).length = ps.length := r2.length ▸ F.len _ _ _ _ h
  have go := F.run X.A X.stack s H ⟨us, []⟩ (us ++ ds) (vs ++ dvs) Q E hG hr I.env0 (hb s us I.kIn hl) r2 h
  refine wpAny_call (codeAny_mono go ?_)
  intro rr s' hq
  match rr, hq with
  | .error e, hq => exact hx pins σ H s e s' I hq
  | .ok (.ret u), hq => exact I.after hq
  | .ok .next, hq => exact hq.elim
  | .ok .brk, hq => exact hq.elim
  | .ok .cont, hq => exact hq.elim
theorem pe_callG {x : Str} {p pos : Pos} {e : Expr} {es : List Expr} {t : TA}
    (F : FnG X.prog X.w X.K X.mg X.base CX k f fd ps sp) (hG : X.A.guards = some []) (hr : Room k X.A) (hg : Gl X x)
    (hm : X.mg x = some (.ref f)) (hk : PySem.W.keepIn X.K (.ref f) = true) (hb : Binds X.K fd ps ds)
    (hd : Vals dvs ds) (hx : Passes CX X E) (ha : PA X (e :: es) t) (hdb : (x == ("__debug__" : Str)) = false := by decide)
    (he : starEach (e :: es) X.env = (false, eval e X.env) :: starEach es X.env := by rfl)
    (hpl : (backTo pos (starEach es X.env)).any (·.1) = false := by rfl) :
    PE X (.Call (.Name x p) (e :: es) [] pos) (tCall sp dvs E t) := by
  refine ⟨fun pins s σ H Q I h => wpAny_Call_Name_kw (ld_glob I hg hm ?_ hdb)⟩
  refine PySem.W.callWith_K (h₀ := X.base) I.ok.mod.kin hk (thn (ha.run pos pins s σ H _ I h) ?_) he hpl
  rintro us s1 ⟨vs, H1, I1, r, q⟩
  exact ⟨I1.kIn, run_fnG F hG hr hb hd hx I1 r q⟩
end

/-! ## repr of data -/
section
variable {X : Cx}
def rRepr (K : PySem.W.Frag) : List V → Hp → VK → Prop := fun xs H Q =>
  ∃ v d, xs = [v] ∧ Dp K H v d ∧ isDisplay d = true ∧ d.showable = true ∧ d.depth ≤ 60 ∧ d.shown.length ≤ sizeLine ∧ Q (.str d.shown) H
mutual
theorem dp_noDict {K : PySem.W.Frag} {H : Hp} : ∀ (d : PyData) (v : V), Dp K H v d → d.hasDict = false
  | .none, _, _ => rfl
  | .bool _, _, _ => rfl
  | .int _, _, _ => rfl
  | .str _, _, _ => rfl
  | .list ds, _, h => by
    cases h with
    | lst _ h2 => exact dp_noDictAll ds _ h2
  | .tuple ds, _, h => by
    cases h with
    | tup _ h2 => exact dp_noDictAll ds _ h2
  | .dict _, _, h => nomatch h
theorem dp_noDictAll {K : PySem.W.Frag} {H : Hp} : ∀ (ds : List PyData) (vs : List V), DpAll K H vs ds → PyData.hasDictAll ds = false
  | [], _, _ => rfl
  | d :: ds, _, h => by
    cases h with
    | cons h1 h2 =>
      show (d.hasDict || PyData.hasDictAll ds) = false
      rw [dp_noDict d _ h1, dp_noDictAll ds _ h2]
      rfl
end
theorem call_repr (hG : X.A.guards = some []) (hu : X.A.units + 64 < cLine) : CallR X (.builtin "repr") (rRepr X.K) := by
  intro pins s σ H xs us Q I r h
  obtain ⟨v, d, rfl, hd, hds, hs, hdp, hsz, q⟩ := h
  obtain ⟨u, rfl, ru⟩ := r.one
  obtain ⟨as, rd⟩ := Dp.reads I d v u hd ru
  obtain ⟨a, rfl⟩ := isRef_of_reads rd hds
  refine repr_of_reads' rd hs (PyData.noDict_hsm (dp_noDict d v hd)) hG (by omega) (fun _ _ e => e) ?_ hsz
  intro h' t tk hk
  exact ⟨.str d.shown, H, I.kept (t' := tk) hk, ⟨t, rfl⟩, q⟩
end
end Bk
set_option Elab.async false
set_option linter.all false
set_option maxRecDepth 100000
set_option maxHeartbeats 4000000
/-! ## the head's facts: one test of the written part, and the defs -/
namespace Bk
open PySem PySem.Spec PyProof.Rows L2
open PySem.W (Frag)
def obsB (ex : Frag → Bool) (fn : List He5.DefA) (K : Frag) : He.AlD := (ex K && fn.all fun d => d.ok K, fn.map fun d => He5.fnA K (d.at_ K))
def SaysB (ex : Frag → Bool) (fn : List He5.DefA) (K : Frag) : Prop := obsB ex fn K = He5.valA fn
def obsBG (n : Nat) (ex : Frag → Bool) (fn : List He5.DefA) (g : Addr → Option Obj) : He.AlD := obsB ex fn (He.frG g (He5.asA g n))
def hookB (n : Nat) (ex : Frag → Bool) (fn : List He5.DefA) : PySem.W.Hook where
  α := He.AlD
  obs s := obsBG n ex fn s.heap.get?
  val _ := He5.valA fn
  says _ h := ∃ K : Frag, K.In h ∧ SaysB ex fn K
  of _ _ e := ⟨_, He.frG_in, e⟩
  keeps _ _ _ z k := let ⟨K, hK, c⟩ := z; ⟨K, Frag.In.keeps hK k, c⟩
theorem obsBG_eq {n : Nat} {ex : Frag → Bool} {fn : List He5.DefA} {g : Addr → Option Obj} {s : Shared}
    (h : ∀ a, g a = s.heap.get? a) : obsBG n ex fn g = (hookB n ex fn).obs s := by
  obtain rfl : g = s.heap.get? := funext h
  rfl
theorem SaysB.ex {ex : Frag → Bool} {fn : List He5.DefA} {K : Frag} (c : SaysB ex fn K) : ex K = true :=
  (He.ba (congrArg (fun z : He.AlD => z.1) c)).1
theorem SaysB.def_ {ex : Frag → Bool} {fn : List He5.DefA} {K : Frag} (c : SaysB ex fn K) (i : Nat) {d : He5.DefA} (h : fn[i]? = some d := by rfl) :
    ∃ fd, FunD K d.name d.qual d.params d.body d.scope (d.dvs K) (d.kws K) (d.at_ K) fd := by
  have c2 := (He.ba (congrArg (fun z : He.AlD => z.1) c)).2
  have e : (fn.map fun d => He5.fnA K (d.at_ K))[i]? = (fn.map He5.DefA.val)[i]? := congrArg (fun z : He.AlD => z.2[i]?) c
  rw [List.getElem?_map, List.getElem?_map, h] at e
  exact He5.DefA.funD (Option.some.inj e) (List.all_eq_true.mp c2 d (List.mem_of_getElem? h))
end Bk
set_option Elab.async false
set_option linter.all false
set_option maxRecDepth 100000
set_option maxHeartbeats 4000000
namespace Bk
open PySem PySem.Spec PyProof.Rows L2
open PySem.W (Frag)
/-! ## a def of the module, by its name -/
structure DOk (P : Program) (w : World) (K : Frag) (mg : Str → Option Value) (base : Heap) (k : Nat) (x : Str) (ps : List Str) (sp : Sp) : Prop where
  ok : ∃ fd, FnOk P w K mg base (L2.CX P w) k (He.ga K x) fd ps sp ∧ Binds K fd ps [] ∧ ∃ oc od osl, K.lookup (He.ga K x) = some ⟨oc, od, .func fd, osl⟩
  g : mg x = some (.ref (He.ga K x))
  kp : PySem.W.keepIn K (.ref (He.ga K x)) = true
section
variable {P : Program} {w : World} {K : Frag} {mg : Str → Option Value} {base : Heap}
/-- from the def's text and its body -/
theorem dok_of {x : Str} {st : Stmt} {N ps : List Str} {k : Nat} {sp : Sp} {kws : List (Str × V)}
    (F : ∃ fd, FunD K x x (defArgs st) (defBody st) (defScope st) [] kws (He.ga K x) fd) (g : mg x = some (.ref (He.ga K x))) (S : FnScope N ps (defScope st))
    (hb : ∀ (kV doc pm : Value) (an : Option Addr) (cdv ct : Value) (us : List Value), us.length = ps.length →
      bindArgs (PySem.W.fnOf x x (defArgs st) (defBody st) (defScope st) .none kV doc pm an cdv ct) ⟨us, []⟩ = pure (ps.zip us))
    (len : ∀ vs H Q E, sp vs H Q E → vs.length = ps.length)
    (hbody : ∀ (cdv : Value) (A : Around) (outer : List Env) (s : Shared) (H : Hp) (vs : List V) (Q : VK) (E : XK),
      Room k (A.deeper (envOfC x (defScope st) s.heap.objs.size (He.ga K x) cdv)) → sp vs H Q E →
      ∃ t, PSs (cxOf (L2.CX P w) P w K mg base N x (defScope st) (He.ga K x) cdv A outer s H E) (defBody st) t ∧
        t { nx := fun _ H' => Q .non H', rt := Q } (start N vs) H) :
    DOk P w K mg base (k + 1) x ps sp := by
  obtain ⟨fd, F⟩ := F
  obtain ⟨oc, od, dV, kV, doc, pm, an, cdv, ct, osl, _, lk, _⟩ := id F.ex
  exact ⟨⟨fd, F.ok S len hbody, F.bindsN hb, _, _, _, lk⟩, g, F.kp⟩
end
section
variable {X : Cx} {k : Nat} {x : Str} {ps : List Str} {sp : Sp} {E : XK} {p pos : Pos} {e : Expr} {es : List Expr} {t : TA}
theorem pe_callD (D : DOk X.prog X.w X.K X.mg X.base k x ps sp) (hr : Room k X.A) (hg : Gl X x) (hx : Passes (L2.CX X.prog X.w) X E)
    (ha : PA X (e :: es) t) (hdb : (x == ("__debug__" : Str)) = false := by decide)
    (he : starEach (e :: es) X.env = (false, eval e X.env) :: starEach es X.env := by rfl)
    (hpl : (backTo pos (starEach es X.env)).any (·.1) = false := by rfl) :
    PE X (.Call (.Name x p) (e :: es) [] pos) (tCall sp [] E t) := by
  obtain ⟨⟨fd, F, b, _⟩, g, kp⟩ := D
  exact pe_call F hr hg g kp b .nil hx ha hdb he hpl
end
section
variable {P : Program} {w : World} {K : Frag} {mg : Str → Option Value} {base : Heap} {N : List Str} {qual : Str} {scope : Scope} {f : Addr} {cd : Value} {A : Around} {outer : List Env} {s : Shared} {H : Hp} {E : XK}
/-- what a callee lets out leaves this def, too -/
theorem passE : Passes (L2.CX P w) (cxOf (L2.CX P w) P w K mg base N qual scope f cd A outer s H E) E :=
  passes_call (X := cxOf (L2.CX P w) P w K mg base N qual scope f cd A outer s H E) (takes_of rfl rfl rfl rfl) (fun _ _ _ _ h => h)
theorem ownE : PassesOwn (model P w) (A.deeper (envOfC qual scope s.heap.objs.size f cd)) (envOfC qual scope s.heap.objs.size f cd) (cxOf (L2.CX P w) P w K mg base N qual scope f cd A outer s H E).xe :=
  passes_of (X := cxOf (L2.CX P w) P w K mg base N qual scope f cd A outer s H E) rfl
end

/-! ## data -/
theorem Same.tup {K : Frag} {H H' : Hp} {a : Addr} {xs : List V} (e : Same H H') (h : SqT K H a xs) : SqT K H' a xs := by
  rcases h with (h | ⟨o, h⟩) | h
  · exact .inl (.inl (e _ _ h))
  · exact .inl (.inr ⟨o, e _ _ h⟩)
  · exact .inr h
mutual
theorem dpS {K : Frag} {H H' : Hp} (e : Same H H') : ∀ {d : PyData} {v : V}, Dp K H v d → Dp K H' v d
  | .none, _, h => by cases h; exact .non
  | .bool _, _, h => by cases h; exact .bl _
  | .int _, _, h => by cases h; exact .int _
  | .str _, _, h => by cases h; exact .str _
  | .list ds, _, h => by
    cases h with
    | lst h1 h2 => exact .lst (e.seq h1) (dpsS e h2)
  | .tuple ds, _, h => by
    cases h with
    | tup h1 h2 => exact .tup (Same.tup e h1) (dpsS e h2)
  | .dict _, _, h => nomatch h
theorem dpsS {K : Frag} {H H' : Hp} (e : Same H H') : ∀ {ds : List PyData} {vs : List V}, DpAll K H vs ds → DpAll K H' vs ds
  | [], _, h => by cases h; exact .nil
  | d :: ds, _, h => by
    cases h with
    | cons h1 h2 => exact .cons (dpS e h1) (dpsS e h2)
end
theorem same_new {H : Hp} {p : Addr} {o : HO} (h : H p = none) : Same H (upd H p o) := fun a u e => by
  rw [upd_ne (ne_of_none e h)]
  exact e
theorem same_set {H H' : Hp} {p : Addr} {o : HO} (e : Same H H') (h : H p = none) : Same H (upd H' p o) := fun a u ha => by
  rw [upd_ne (ne_of_none ha h)]
  exact e a u ha
def kindD : PyData → String
  | .none => "NoneType" | .bool _ => "bool" | .int _ => "int" | .str _ => "str" | .list _ => "list" | .tuple _ => "tuple" | .dict _ => "dict"
theorem tyD {K : Frag} {H : Hp} {v : V} {d : PyData} (h : Dp K H v d) : TyX K H v (.type (kindD d)) := by
  cases h with
  | non => exact .base .non
  | bl b => exact .base (.bl b)
  | int i => exact .base (.int i)
  | str x => exact .base (.str x)
  | lst h _ =>
    rcases h with (h | ⟨o, h⟩) | ⟨o, its, n, h, hc, _⟩
    · exact .base (.lst h)
    · exact .base (.frz h)
    · exact .kList h hc
  | tup h _ =>
    rcases h with (h | ⟨o, h⟩) | ⟨o, its, n, h, hc, _⟩
    · exact .base (.tup h)
    · exact .fTuple h
    · exact .kTuple h hc
def isTupD : PyData → Bool | .tuple _ => true | _ => false
def isStrD : PyData → Bool | .str _ => true | _ => false
def isIntD : PyData → Bool | .int _ => true | .bool _ => true | _ => false
def isBlD : PyData → Bool | .bool _ => true | _ => false
def isLstD : PyData → Bool | .list _ => true | _ => false
section
variable {X : Cx}
def rIsK (K : Frag) (T : String) (f : PyData → Bool) : List V → Hp → VK → Prop := fun xs H Q => ∃ v d, xs = [v, .ty T] ∧ Dp K H v d ∧ Q (.bl (f d)) H
theorem isK_of {T : String} {f : PyData → Bool} (h : ∀ d : PyData, kindD d ≠ "dict" → kitB (kindD d) T = some (f d)) : CallR X (.builtin "isinstance") (rIsK X.K T f) := by
  intro pins s σ H xs us Q I r z
  obtain ⟨v, d, rfl, hd, q⟩ := z
  refine call_isi pins s σ H _ us Q I r ⟨v, .ty T, _, _, f d, rfl, .ty T, tyD hd, kit_ty (h d ?_), q⟩
  cases hd <;> simp [kindD]
theorem call_isTup : CallR X (.builtin "isinstance") (rIsK X.K "tuple" isTupD) := isK_of fun d hd => by cases d <;> first | rfl | decide +kernel | exact absurd rfl hd
theorem call_isStr : CallR X (.builtin "isinstance") (rIsK X.K "str" isStrD) := isK_of fun d hd => by cases d <;> first | rfl | decide +kernel | exact absurd rfl hd
theorem call_isInt : CallR X (.builtin "isinstance") (rIsK X.K "int" isIntD) := isK_of fun d hd => by cases d <;> first | rfl | decide +kernel | exact absurd rfl hd
theorem call_isBl : CallR X (.builtin "isinstance") (rIsK X.K "bool" isBlD) := isK_of fun d hd => by cases d <;> first | rfl | decide +kernel | exact absurd rfl hd
theorem call_isLst : CallR X (.builtin "isinstance") (rIsK X.K "list" isLstD) := isK_of fun d hd => by cases d <;> first | rfl | decide +kernel | exact absurd rfl hd
end
end Bk
set_option Elab.async false
set_option linter.all false
set_option maxRecDepth 100000
set_option maxHeartbeats 4000000
namespace Bk
open PySem PySem.Spec PyProof.Rows L2
open PySem.W (Frag)
/-! ## enumerate(tuple) -/
open AutoSeq1 (wpAny_loadPart') in
theorem meets_enumT {v : Value} {o : Obj} {Hh : Heap → Prop} (B : Begins v o Hh) : Meets (Builtin.«enumerate.__new__» ⟨[.type "enumerate", v], []⟩) (fun _ R s => Hh s.heap ∧
      R (.ok (.ret (.ref (s.heap.push o).objs.size)))
        { s with heap := (s.heap.push o).push { cls := .type "enumerate", data := .fields #[.none, .bool false, .ref s.heap.objs.size, rawInt 0, .none, .none] } }) := by
  refine .of_wp fun prog w A R s h => ?_
  obtain ⟨hp, g, d, tk, os⟩ := s
  obtain ⟨hl, h⟩ := h
  have hsub := sub_enumerate
  have q1 : ∀ {A' : Around} {E' : Value → Shared → Prop} {Q' : Value → Shared → Prop}, Q' (.ref hp.objs.size) ⟨hp.push o, g, d, tk, os⟩ → wpAny (model prog w) A' (pyIter v) Q' E' ⟨hp, g, d, tk, os⟩ :=
    fun {A' E' Q'} z => B.iter prog w A' E' ⟨hp, g, d, tk, os⟩ Q' hl z
  wp_walk using q1
  refine wpAny_stack_any fun st => wpAny_pure ?_
  split
  · rename_i c _ _ _ _ _
    cases (c == Value.type "enumerate") <;> (wp_walk using q1; exact ⟨_, rfl, h⟩)
  · wp_walk using q1
    exact ⟨_, rfl, h⟩
section
variable {prog : Program} {w : World} {A : Around} {E : Value → Shared → Prop} {s : Shared}
theorem enumT_begins {v : Value} {o : Obj} {Hh : Heap → Prop} {Q : Value → Shared → Prop} (B : Begins v o Hh) (h1 : Hh s.heap)
    (h : ∀ h', IsEnum h' (s.heap.objs.size + 1) s.heap.objs.size 0 .none → h'.get? s.heap.objs.size = some o → h'.objs.size = s.heap.objs.size + 2 →
      (∀ b o, s.heap.get? b = some o → h'.get? b = some o) → Q (.ref (s.heap.objs.size + 1)) { s with heap := h' }) :
    wpAny (model prog w) A (call (.type "enumerate") [v]) Q E s := by
  refine callType_new F.called_enumerate (by decide) (F.typeCall_enumerate_1 _) (F.newCall_enumerate_1 _) (fun obj => F.args_object_init_2 obj _) F.entry_enumerate_new (meets_enumT B) ⟨h1, ?_⟩
  have hz : (s.heap.push o).objs.size = s.heap.objs.size + 1 := Heap.size_push ..
  have he := Heap.get?_push_size (s.heap.push o) (o := { cls := .type "enumerate", data := .fields #[.none, .bool false, .ref s.heap.objs.size, rawInt 0, .none, .none] }) rfl
  rw [hz] at he
  show _ ∧ _
  rw [hz]
  exact ⟨⟨_, he, rfl⟩, h _ he (Heap.get?_push_of_some _ (Heap.get?_push_size _ B.free)) (by rw [Heap.size_push, hz]) fun b o x => Heap.get?_push_of_some _ (Heap.get?_push_of_some _ x)⟩
end
/-- the tuple at a, each item in a new pair -/
def IteT (K : Frag) (a : Addr) : It :=
  ⟨fun i H => ∃ (xs : List V) (x : V), SqT K H a xs ∧ xs[i]? = some x,
   fun i H v H' => ∃ T x, v = .ref T ∧ H T = none ∧ H' = upd H T (.tup [.int (i : Nat), x]) ∧ ∀ xs, SqT K H a xs → xs[i]? = some x,
   fun i H => ∃ xs : List V, SqT K H a xs ∧ xs.length ≤ i⟩
theorem turn_enumT {P : Program} {w : World} {K : Frag} {elts : List Expr} {kk : Nat} {tpos : Pos} (a e it : Addr) (hai : a ≠ it) (hae : a ≠ e) :
    Turn P w K (.Tuple elts kk tpos) (IteT K a) [e, it] e (fun i h => (∃ old, IsEnum h e it ((i : Nat) : Int) old) ∧ h.IsTupleIter it a i ∧ e ≠ it) where
  mem := by simp
  obj i h st b hb := by
    obtain ⟨⟨old, he⟩, ⟨o, ho, hc, hd⟩, _⟩ := st
    rcases (by simpa using hb : b = e ∨ b = it) with z | z
    · subst z
      exact ⟨_, he, fun v q => nomatch q⟩
    · subst z
      exact ⟨o, ho, fun v q => by rw [hd] at q; cases q⟩
  keep i h h' st k := ⟨⟨st.1.choose, k e (by simp) _ st.1.choose_spec⟩, st.2.1.at fun o q => k it (by simp) o q, st.2.2⟩
  item := by
    intro X hP hw hK hc i pins s σ H E I hf st hg
    subst hP hw hK
    obtain ⟨⟨old, he⟩, hit, hne⟩ := st
    obtain ⟨xs, x, hq, hx⟩ := hg
    obtain ⟨its, rv, p, hz⟩ := I.tuple hq
    obtain ⟨u, hu, ru⟩ := rv.get hx
    have hel : e < s.heap.objs.size := Heap.lt_size he
    have hil : it < s.heap.objs.size := by obtain ⟨_, q, _⟩ := hit; exact Heap.lt_size q
    have D := Draws.tuple (prog := X.prog) (w := X.w) (A := X.A.in1) (show X.A.in1.handled = none from I.ok.hd hc) it a hai its.toArray
    have hlt : i < its.toArray.size := by
      have := (List.getElem?_eq_some_iff.mp hu).1
      simpa using this
    refine wpAny_pyNext_enum_itemD D he ⟨hit, p⟩ hlt hne (by simp [hne, Ne.symm hae]) ?_
    intro y h' tk hy ho hst' hT hsz hk
    have ey : y = u := by
      have hy' : its.toArray[i]? = some y := hy
      rw [List.getElem?_toArray, hu] at hy'
      exact (Option.some.inj hy').symm
    subst ey
    refine ⟨_, rfl, wpAny_letOwnedTupleGo_enum (s := { s with heap := h', toks := tk + 1 }) ho ?_⟩
    intro h'' he' sb
    have hT2 : h''.get? s.heap.objs.size = some { cls := .type "tuple", data := .seq #[.int i tk, y] } := (sb.2 _ (Nat.ne_of_gt hel)).trans hT
    have new : ObjOk X.prog X.w (upd H s.heap.objs.size (.tup [.int (i : Nat), x])) h'' s.heap.objs.size (.tup [.int (i : Nat), x]) :=
      ⟨by show 2 ≤ sizeLine; decide, [.int i tk, y], .cons ⟨_, rfl⟩ (.cons ru .nil), ⟨_, hT2, rfl, _, rfl⟩⟩
    have I1 : Inv X pins σ (upd H s.heap.objs.size (.tup [.int (i : Nat), x])) { s with heap := h'', toks := tk + 1 } := by
      refine I.turnedNew (ch := [e, it]) (fun b ob hb q => ?_) hf (Nat.le_refl _) new
      have hbe : b ≠ e := fun z => hb (by simp [z])
      have hbi : b ≠ it := fun z => hb (by simp [z])
      exact (sb.2 b hbe).trans (hk b ob hbe hbi q)
    refine ⟨.ref s.heap.objs.size, _, I1, rfl, ⟨_, x, rfl, I.hok.fresh (Nat.le_refl _), rfl, fun ys hy => by rw [I.tuple_inj hy hq]; exact hx⟩, ⟨⟨y, ?_⟩, hst'.1.at fun o q => (sb.2 it (Ne.symm hne)).trans q, hne⟩, fun b hb => ?_⟩
    · rw [show ((i + 1 : Nat) : Int) = (i : Int) + 1 by omega]
      exact he'
    · have hb' : b < s.heap.objs.size := by
        rcases (by simpa using hb : b = e ∨ b = it) with z | z <;> (subst z; assumption)
      rw [upd_ne (Nat.ne_of_lt hb')]
      exact (hf b hb).1
  done := by
    intro X hP hw hK hc i pins s σ H E I hf st hg
    subst hP hw hK
    obtain ⟨⟨old, he⟩, hit, hne⟩ := st
    obtain ⟨xs, hq, hx⟩ := hg
    obtain ⟨its, rv, p, hz⟩ := I.tuple hq
    obtain ⟨f0, f1, f2, f3, f4, f5⟩ := hf it (by simp)
    have hl := rv.length
    have hend : its.toArray[i]? = none := by
      rw [List.getElem?_toArray]
      exact List.getElem?_eq_none (by omega)
    have D : Draws X.prog X.w X.A.in1 it [it, a] 0 (fun _ _ => False) (fun _ h => h.IsTupleIter it a i ∧ h.IsTuple a its.toArray) :=
      { live := fun _ _ st => let ⟨o, ho, _⟩ := st.1; ⟨o, ho⟩
        frame := fun _ _ _ st hk => ⟨st.1.at fun o e => hk it (by simp) o e, st.2.at fun o e => hk a (by simp) o e⟩
        item := fun j s Q E hj => absurd hj (Nat.not_lt_zero _)
        done := fun s Q E st hE => wpAny_nextOf_tuple_end (show X.A.in1.handled = none from I.ok.hd hc) st.1 st.2 hend hE }
    exact wpAny_pyNext_enum_endD D he ⟨hit, p⟩ fun h' eb => ⟨rfl, I.turned (t' := s.toks) (fun b o hb q => eb b o hb q) f0 f1 f3 f4 f5⟩
  self A i s Q E st h := wpAny_pyIter_enum st.1.choose_spec h

def iEnumT (K : Frag) (ta : TA) : TI := fun σ H R => ta σ H fun vs H1 => ∃ a xs, vs = [.ref a] ∧ SqT K H1 a xs ∧ R (IteT K a) H1
theorem pi_enumT {X : Cx} {e : Expr} {ta : TA} {p pos tpos : Pos} {elts : List Expr} {kk : Nat} (hg : Gl X "enumerate") (hm : X.mg "enumerate" = none) (ha : PA X [e] ta)
    (hs : starEach [e] X.env = [(false, eval e X.env)] := by rfl) : PI X (.Tuple elts kk tpos) (.Call (.Name "enumerate" p) [e] [] pos) (iEnumT X.K ta) := by
  refine ⟨fun pins s σ H R I h => Call_ (ld_blt I hg hm boot_enumerate (PyProof.Rows.callWith_type1 (thn (ha.run pos pins s σ H _ I h) ?_) hs rfl))⟩
  rintro us s1 ⟨vs, H1, I1, r1, a, xs, ex, hq, q⟩
  subst ex
  cases r1 with
  | cons r rr =>
    cases rr
    cases r
    obtain ⟨its, rv, p', hz⟩ := I1.tuple hq
    have hal : a < s1.heap.objs.size := by obtain ⟨_, q, _⟩ := p'; exact Heap.lt_size q
    refine enumT_begins (begins_tuple a its.toArray) p' ?_
    intro h' he hit hsz hk
    refine wpAny_pyIter_enum he ?_
    have I2 : Inv X pins σ H1 { s1 with heap := h' } := I1.kept (t' := s1.toks) hk
    refine ⟨s1.heap.objs.size + 1, [s1.heap.objs.size + 1, s1.heap.objs.size], _, _, H1, rfl, I2,
      turn_enumT a (s1.heap.objs.size + 1) s1.heap.objs.size (Nat.ne_of_lt hal) (Nat.ne_of_lt (Nat.lt_succ_of_lt hal)), ⟨⟨.none, he⟩, ⟨_, hit, rfl, rfl⟩, Nat.succ_ne_self _⟩, fun b hb => ?_, q⟩
    have hle : s1.heap.objs.size ≤ b := by
      rcases (by simpa using hb : b = s1.heap.objs.size + 1 ∨ b = s1.heap.objs.size) with z | z
      · rw [z]
        exact Nat.le_add_right _ _
      · rw [z]
        exact Nat.le_refl _
    exact I1.fpOk hle (I1.hok.fresh hle)
end Bk
set_option Elab.async false
set_option linter.all false
set_option maxRecDepth 100000
set_option maxHeartbeats 4000000
namespace Bk
open PySem PySem.Spec PyProof.Rows L2
open PySem.W (Frag)
theorem walk_enumT {K : Frag} {a : Addr} {xs : List V} : Walk (IteT K a) xs.length (fun H => SqT K H a xs) (YPair (fun i => some (.int (i : Nat))) (fun i => xs[i]?)) := by
  refine ⟨fun i _ hi q => ⟨xs, xs[i], q, by simp [hi]⟩, fun _ q => ⟨xs, q, Nat.le_refl _⟩, ?_⟩
  rintro i H v H' _ q ⟨T, x, h1, h2, h3, h4⟩
  exact ⟨T, .int (i : Nat), x, h1, h2, h3, rfl, h4 xs q⟩
/-! ## data without lists: a list that changes leaves it -/
mutual
def noL : PyData → Bool
  | .none | .bool _ | .int _ | .str _ => true
  | .tuple ds => noLs ds
  | _ => false
def noLs : List PyData → Bool
  | [] => true
  | d :: ds => noL d && noLs ds
end
theorem noLs_all {ds : List PyData} (h : noLs ds = true) : ∀ d ∈ ds, noL d = true := by
  induction ds with
  | nil => intro d hd; cases hd
  | cons d ds ih =>
    have h' : (noL d && noLs ds) = true := h
    rw [Bool.and_eq_true] at h'
    intro e he
    rcases List.mem_cons.mp he with z | z
    · rw [z]; exact h'.1
    · exact ih h'.2 e z
theorem noLs_of {ds : List PyData} (h : ∀ d ∈ ds, noL d = true) : noLs ds = true := by
  induction ds with
  | nil => rfl
  | cons d ds ih =>
    show (noL d && noLs ds) = true
    rw [h d List.mem_cons_self, ih fun e he => h e (List.mem_cons_of_mem _ he)]
    rfl
mutual
theorem dpU {K : Frag} {H : Hp} {D : Addr} {xs : List V} {o : HO} (hD : H D = some (.lst xs)) : ∀ {d : PyData} {v : V}, noL d = true → Dp K H v d → Dp K (upd H D o) v d
  | .none, _, _, h => by cases h; exact .non
  | .bool _, _, _, h => by cases h; exact .bl _
  | .int _, _, _, h => by cases h; exact .int _
  | .str _, _, _, h => by cases h; exact .str _
  | .list ds, _, n, _ => by cases n
  | .tuple ds, _, n, h => by
    cases h with
    | tup h1 h2 =>
      refine .tup ?_ (dpsU hD n h2)
      rcases h1 with (h | ⟨o', h⟩) | h
      · exact .inl (.inl (by rw [upd_ne (fun z => by rw [z, hD] at h; cases h)]; exact h))
      · exact .inl (.inr ⟨o', by rw [upd_ne (fun z => by rw [z, hD] at h; cases h)]; exact h⟩)
      · exact .inr h
  | .dict _, _, n, _ => by cases n
theorem dpsU {K : Frag} {H : Hp} {D : Addr} {xs : List V} {o : HO} (hD : H D = some (.lst xs)) : ∀ {ds : List PyData} {vs : List V}, noLs ds = true → DpAll K H vs ds → DpAll K (upd H D o) vs ds
  | [], _, _, h => by cases h; exact .nil
  | d :: ds, _, n, h => by
    have n' : (noL d && noLs ds) = true := n
    rw [Bool.and_eq_true] at n'
    cases h with
    | cons h1 h2 => exact .cons (dpU hD n'.1 h1) (dpsU hD n'.2 h2)
end
theorem dpsApp {K : Frag} {H : Hp} : ∀ {vs : List V} {ds : List PyData} {ws : List V} {es : List PyData}, DpAll K H vs ds → DpAll K H ws es → DpAll K H (vs ++ ws) (ds ++ es)
  | [], _, _, _, h, k => by cases h; exact k
  | _ :: _, _, _, _, h, k => by
    cases h with
    | cons h1 h2 => exact .cons h1 (dpsApp h2 k)
theorem dpsLen {K : Frag} {H : Hp} : ∀ {vs : List V} {ds : List PyData}, DpAll K H vs ds → vs.length = ds.length
  | [], _, h => by cases h; rfl
  | _ :: _, _, h => by
    cases h with
    | cons h1 h2 => rw [List.length_cons, List.length_cons, dpsLen h2]
theorem dpsGet {K : Frag} {H : Hp} : ∀ {vs : List V} {ds : List PyData} {i : Nat} {v : V}, DpAll K H vs ds → vs[i]? = some v → ∃ d, ds[i]? = some d ∧ Dp K H v d
  | [], _, _, _, _, e => by cases e
  | _ :: _, _, 0, _, h, e => by
    cases h with
    | cons h1 h2 => cases e; exact ⟨_, rfl, h1⟩
  | _ :: _, _, i + 1, _, h, e => by
    cases h with
    | cons h1 h2 => exact dpsGet (i := i) h2 (by simpa using e)
theorem dpsGetD {K : Frag} {H : Hp} : ∀ {vs : List V} {ds : List PyData} {i : Nat} {d : PyData}, DpAll K H vs ds → ds[i]? = some d → ∃ v, vs[i]? = some v ∧ Dp K H v d
  | _, [], _, _, _, e => by cases e
  | _, _ :: _, 0, _, h, e => by
    cases h with
    | cons h1 h2 => cases e; exact ⟨_, rfl, h1⟩
  | _, _ :: _, i + 1, _, h, e => by
    cases h with
    | cons h1 h2 => exact dpsGetD (i := i) h2 (by simpa using e)
theorem dpsInts {K : Frag} {H : Hp} : ∀ (ns : List Int), DpAll K H (ns.map V.int) (ns.map PyData.int)
  | [] => .nil
  | n :: ns => .cons (.int n) (dpsInts ns)
theorem dpsStrs {K : Frag} {H : Hp} : ∀ (ns : List Str), DpAll K H (ns.map V.str) (ns.map PyData.str)
  | [] => .nil
  | n :: ns => .cons (.str n) (dpsStrs ns)
theorem strs_of_dps {K : Frag} {H : Hp} : ∀ {vs : List V} {xs : List Str}, DpAll K H vs (xs.map PyData.str) → vs = xs.map V.str
  | _, [], h => by cases h; rfl
  | _, x :: xs, h => by
    cases h with
    | cons h1 h2 => cases h1; rw [strs_of_dps h2]; rfl
theorem bls_of_dps {K : Frag} {H : Hp} : ∀ {vs : List V} {xs : List Bool}, DpAll K H vs (xs.map PyData.bool) → vs = xs.map V.bl
  | _, [], h => by cases h; rfl
  | _, x :: xs, h => by
    cases h with
    | cons h1 h2 => cases h1; rw [bls_of_dps h2]; rfl
theorem ints_of_dps {K : Frag} {H : Hp} : ∀ {vs : List V} {xs : List Int}, DpAll K H vs (xs.map PyData.int) → vs = xs.map V.int
  | _, [], h => by cases h; rfl
  | _, x :: xs, h => by
    cases h with
    | cons h1 h2 => cases h1; rw [ints_of_dps h2]; rfl
theorem fm_succ {α : Type} (e : Nat → Option α) (i : Nat) : (List.range (i + 1)).filterMap e = (List.range i).filterMap e ++ (e i).toList := by
  rw [List.range_succ, List.filterMap_append]
  congr 1
/-- a comprehension whose items are data without lists: e tells the i-th one, none where it is left out -/
theorem lc_data {K : Frag} {J : It} {n : Nat} {G : Hp → Prop} {Y : Nat → Hp → V → Hp → Prop} (w : Walk J n G Y) {g : TG} {tt : TT} {te : TE} {vs : List Nat} {σ : L2.St} {H1 : Hp} {D : Addr} {Qd : Hp → Prop}
    (e : Nat → Option PyData) (hD : H1 D = none) (hG : ∀ H, Same H1 H → G H) (hn : n < sizeLine) (he : ∀ i d, i < n → e i = some d → noL d = true)
    (hs : ∀ i x H H', i < n → Same H1 H → Y i H x H' → ∀ (R : V → Hp → Prop) (S : Hp → Prop), (∀ y H4 d, Same H H4 → e i = some d → Dp K H4 y d → R y H4) → (∀ H3, Same H H3 → e i = none → S H3) →
      g x (wipe σ vs) H' fun σ2 H2 => wipe σ2 vs = wipe σ vs ∧ tt σ2 H2 fun b H3 => if b = true then te σ2 H3 R else S H3)
    (hd : ∀ H ys, Same H1 H → H D = some (.lst ys) → DpAll K H ys ((List.range n).filterMap e) → Qd H) :
    ∃ W : Nat → Nat → Hp → Prop, (∃ m, W 0 m (upd H1 D (.lst []))) ∧ ∀ i m H, W i m H →
      (J.stop i H ∧ Qd H) ∨ (J.go i H ∧ ∃ Nx : Hp → Prop, (∀ H', Nx H' → ∃ m', m' < m ∧ W (i + 1) m' H') ∧ ∀ x H', J.yld i H x H' → g x (wipe σ vs) H' fun σ2 H2 => wipe σ2 vs = wipe σ vs ∧ tt σ2 H2 fun b H3 =>
        if b = true then te σ2 H3 fun y H4 => ∃ acc, H4 D = some (.lst acc) ∧ acc.length < sizeLine ∧ Nx (upd H4 D (.lst (acc ++ [y]))) else Nx H3) := by
  refine lc_it w (fun i H => i ≤ n → Same H1 H ∧ ∃ ys, H D = some (.lst ys) ∧ ys.length ≤ i ∧ DpAll K H ys ((List.range i).filterMap e)) ?_ ?_ ?_ ?_
  · exact fun _ => ⟨same_new hD, [], upd_same, Nat.le_refl _, .nil⟩
  · exact fun i H hi p => hG H (p hi).1
  · intro i x H H' hi p y
    obtain ⟨s1, ys, hy, hl, hp⟩ := p (Nat.le_of_lt hi)
    refine hs i x H H' hi s1 y _ _ ?_ ?_
    · intro z H4 d s4 ed hz
      have h4 : H4 D = some (.lst ys) := s4 _ _ hy
      refine ⟨ys, h4, by omega, fun hi1 => ⟨fun a u ha => ?_, _, upd_same, by rw [List.length_append]; simp; omega, ?_⟩⟩
      · rw [upd_ne (ne_of_none ha hD)]
        exact s4 _ _ (s1 _ _ ha)
      · rw [fm_succ, ed]
        refine dpsApp (dpsU h4 ?_ (dpsS s4 hp)) (.cons (dpU h4 (he i d hi ed) hz) .nil)
        refine noLs_of fun d' hd' => ?_
        obtain ⟨j, hj, ej⟩ := List.mem_filterMap.mp hd'
        exact he j d' (Nat.lt_trans (List.mem_range.mp hj) hi) ej
    · intro H3 s3 en hi1
      refine ⟨fun a u ha => s3 _ _ (s1 _ _ ha), ys, s3 _ _ hy, by omega, ?_⟩
      rw [fm_succ, en]
      simpa using dpsS s3 hp
  · intro H p
    obtain ⟨s1, ys, hy, _, hp⟩ := p (Nat.le_refl _)
    exact hd H ys s1 hy hp
/-- .. without an if -/
theorem lc_map {K : Frag} {J : It} {n : Nat} {G : Hp → Prop} {Y : Nat → Hp → V → Hp → Prop} (w : Walk J n G Y) {g : TG} {te : TE} {vs : List Nat} {σ : L2.St} {H1 : Hp} {D : Addr} {Qd : Hp → Prop}
    (e : Nat → Option PyData) (hD : H1 D = none) (hG : ∀ H, Same H1 H → G H) (hn : n < sizeLine) (he : ∀ i d, i < n → e i = some d → noL d = true)
    (hs : ∀ i x H H', i < n → Same H1 H → Y i H x H' → ∀ (R : V → Hp → Prop), (∀ y H4 d, Same H H4 → e i = some d → Dp K H4 y d → R y H4) →
      g x (wipe σ vs) H' fun σ2 H2 => wipe σ2 vs = wipe σ vs ∧ te σ2 H2 R)
    (mG : ∀ (x : V) (σ : L2.St) (H : Hp) (P P' : L2.St → Hp → Prop), (∀ b H, P b H → P' b H) → g x σ H P → g x σ H P')
    (hd : ∀ H ys, Same H1 H → H D = some (.lst ys) → DpAll K H ys ((List.range n).filterMap e) → Qd H) :
    ∃ W : Nat → Nat → Hp → Prop, (∃ m, W 0 m (upd H1 D (.lst []))) ∧ ∀ i m H, W i m H →
      (J.stop i H ∧ Qd H) ∨ (J.go i H ∧ ∃ Nx : Hp → Prop, (∀ H', Nx H' → ∃ m', m' < m ∧ W (i + 1) m' H') ∧ ∀ x H', J.yld i H x H' → g x (wipe σ vs) H' fun σ2 H2 => wipe σ2 vs = wipe σ vs ∧ tYes σ2 H2 fun b H3 =>
        if b = true then te σ2 H3 fun y H4 => ∃ acc, H4 D = some (.lst acc) ∧ acc.length < sizeLine ∧ Nx (upd H4 D (.lst (acc ++ [y]))) else Nx H3) := by
  refine lc_data w e hD hG hn he ?_ hd
  intro i x H H' hi s1 y R S kR kS
  refine mG _ _ _ _ _ ?_ (hs i x H H' hi s1 y R kR)
  rintro σ2 H2 ⟨e1, e2⟩
  refine ⟨e1, ?_⟩
  show if true = true then te σ2 H2 R else S H2
  rw [if_pos rfl]
  exact e2
theorem mg_name {i : Nat} : ∀ (x : V) (σ : L2.St) (H : Hp) (P P' : L2.St → Hp → Prop), (∀ b H, P b H → P' b H) → gName i x σ H P → gName i x σ H P' := fun _ _ _ _ _ h k => h _ _ k
theorem mg_tup2 {K : Frag} {i j : Nat} : ∀ (x : V) (σ : L2.St) (H : Hp) (P P' : L2.St → Hp → Prop), (∀ b H, P b H → P' b H) →
    gTup K 2 (gCons (gName i) (gCons (gName j) gNil)) x σ H P → gTup K 2 (gCons (gName i) (gCons (gName j) gNil)) x σ H P' := by
  rintro x σ H P P' h ⟨a, xs, rfl, hq, hl, v, r, rfl, v2, r2, rfl, e, p⟩
  exact ⟨a, _, rfl, hq, hl, v, _, rfl, v2, r2, rfl, e, h _ _ p⟩
theorem mg_tup3 {K : Frag} {i j l : Nat} : ∀ (x : V) (σ : L2.St) (H : Hp) (P P' : L2.St → Hp → Prop), (∀ b H, P b H → P' b H) →
    gTup K 3 (gCons (gName i) (gCons (gName j) (gCons (gName l) gNil))) x σ H P → gTup K 3 (gCons (gName i) (gCons (gName j) (gCons (gName l) gNil))) x σ H P' := by
  rintro x σ H P P' h ⟨a, xs, rfl, hq, hl, v, r, rfl, v2, r2, rfl, v3, r3, rfl, e, p⟩
  exact ⟨a, _, rfl, hq, hl, v, _, rfl, v2, _, rfl, v3, r3, rfl, e, h _ _ p⟩
end Bk
set_option Elab.async false
set_option linter.all false
set_option maxRecDepth 100000
set_option maxHeartbeats 4000000
namespace Bk
open PySem PySem.Spec PyProof.Rows L2
open PySem.W (Frag)
/-! ## methods, and defs that need the guards -/
structure MOk (P : Program) (w : World) (K : Frag) (mg : Str → Option Value) (base : Heap) (k : Nat) (f : Addr) (ps : List Str) (sp : Sp) : Prop where
  ok : ∃ fd, FnOk P w K mg base (L2.CX P w) k f fd ps sp ∧ Binds K fd ps [] ∧ ∃ oc od osl, K.lookup f = some ⟨oc, od, .func fd, osl⟩
  kp : PySem.W.keepIn K (.ref f) = true
structure GOk (P : Program) (w : World) (K : Frag) (mg : Str → Option Value) (base : Heap) (k : Nat) (x : Str) (ps : List Str) (sp : Sp) : Prop where
  ok : ∃ fd, FnG P w K mg base (L2.CX P w) k (He.ga K x) fd ps sp ∧ Binds K fd ps []
  g : mg x = some (.ref (He.ga K x))
  kp : PySem.W.keepIn K (.ref (He.ga K x)) = true
section
variable {P : Program} {w : World} {K : Frag} {mg : Str → Option Value} {base : Heap}
theorem mok_of {x q : Str} {st : Stmt} {N ps : List Str} {k : Nat} {sp : Sp} {kws : List (Str × V)} {f : Addr}
    (F : ∃ fd, FunD K x q (defArgs st) (defBody st) (defScope st) [] kws f fd) (S : FnScope N ps (defScope st))
    (hb : ∀ (kV doc pm : Value) (an : Option Addr) (cdv ct : Value) (us : List Value), us.length = ps.length →
      bindArgs (PySem.W.fnOf x q (defArgs st) (defBody st) (defScope st) .none kV doc pm an cdv ct) ⟨us, []⟩ = pure (ps.zip us))
    (len : ∀ vs H Q E, sp vs H Q E → vs.length = ps.length)
    (hbody : ∀ (cdv : Value) (A : Around) (outer : List Env) (s : Shared) (H : Hp) (vs : List V) (Q : VK) (E : XK),
      Room k (A.deeper (envOfC q (defScope st) s.heap.objs.size f cdv)) → sp vs H Q E →
      ∃ t, PSs (cxOf (L2.CX P w) P w K mg base N q (defScope st) f cdv A outer s H E) (defBody st) t ∧
        t { nx := fun _ H' => Q .non H', rt := Q } (start N vs) H) :
    MOk P w K mg base (k + 1) f ps sp := by
  obtain ⟨fd, F⟩ := F
  obtain ⟨oc, od, dV, kV, doc, pm, an, cdv, ct, osl, _, lk, _⟩ := id F.ex
  exact ⟨⟨fd, F.ok S len hbody, F.bindsN hb, _, _, _, lk⟩, F.kp⟩
/-- a method with defaults, all its arguments given -/
theorem mokD_of {x q : Str} {st : Stmt} {N ps : List Str} {k : Nat} {sp : Sp} {kws : List (Str × V)} {f : Addr} {dvs : List V} (hd : dvs ≠ [])
    (F : ∃ fd, FunD K x q (defArgs st) (defBody st) (defScope st) dvs kws f fd) (S : FnScope N ps (defScope st))
    (hb : ∀ (T : Addr) (kV doc pm : Value) (an : Option Addr) (cdv ct : Value) (us its : List Value), us.length = ps.length → its.length = dvs.length →
      ∃ k, bindArgs (PySem.W.fnOf x q (defArgs st) (defBody st) (defScope st) (.ref T) kV doc pm an cdv ct) ⟨us, []⟩ = seqItems? (.ref T) >>= k ∧ k (some its.toArray) = pure (ps.zip us))
    (len : ∀ vs H Q E, sp vs H Q E → vs.length = ps.length)
    (hbody : ∀ (cdv : Value) (A : Around) (outer : List Env) (s : Shared) (H : Hp) (vs : List V) (Q : VK) (E : XK),
      Room k (A.deeper (envOfC q (defScope st) s.heap.objs.size f cdv)) → sp vs H Q E →
      ∃ t, PSs (cxOf (L2.CX P w) P w K mg base N q (defScope st) f cdv A outer s H E) (defBody st) t ∧
        t { nx := fun _ H' => Q .non H', rt := Q } (start N vs) H) :
    MOk P w K mg base (k + 1) f ps sp := by
  obtain ⟨fd, F⟩ := F
  obtain ⟨oc, od, dV, kV, doc, pm, an, cdv, ct, osl, _, lk, _⟩ := id F.ex
  obtain ⟨ds, rd, b⟩ := F.binds1 (ps := ps) ps.length dvs.length hd (by omega) (fun T kV doc pm an cdv ct us its h1 h2 => by
    obtain ⟨k, e1, e2⟩ := hb T kV doc pm an cdv ct us its h1 h2
    exact ⟨k, e1, by rw [e2, ← h2, List.drop_length, List.append_nil]⟩)
  rw [List.drop_length] at rd
  cases rd
  exact ⟨⟨fd, F.ok S len hbody, b, _, _, _, lk⟩, F.kp⟩
theorem gok_of {x : Str} {st : Stmt} {N ps : List Str} {k : Nat} {sp : Sp} {kws : List (Str × V)}
    (F : ∃ fd, FunD K x x (defArgs st) (defBody st) (defScope st) [] kws (He.ga K x) fd) (g : mg x = some (.ref (He.ga K x))) (S : FnScope N ps (defScope st))
    (hb : ∀ (kV doc pm : Value) (an : Option Addr) (cdv ct : Value) (us : List Value), us.length = ps.length →
      bindArgs (PySem.W.fnOf x x (defArgs st) (defBody st) (defScope st) .none kV doc pm an cdv ct) ⟨us, []⟩ = pure (ps.zip us))
    (len : ∀ vs H Q E, sp vs H Q E → vs.length = ps.length)
    (hbody : ∀ (cdv : Value) (A : Around) (outer : List Env) (s : Shared) (H : Hp) (vs : List V) (Q : VK) (E : XK), A.guards = some [] →
      Room k (A.deeper (envOfC x (defScope st) s.heap.objs.size (He.ga K x) cdv)) → sp vs H Q E →
      ∃ t, PSs (cxOf (L2.CX P w) P w K mg base N x (defScope st) (He.ga K x) cdv A outer s H E) (defBody st) t ∧
        t { nx := fun _ H' => Q .non H', rt := Q } (start N vs) H) :
    GOk P w K mg base (k + 1) x ps sp := by
  obtain ⟨fd, F⟩ := F
  obtain ⟨oc, od, dV, kV, doc, pm, an, cdv, ct, osl, rfl, lk, hcd, _, _⟩ := id F.ex
  exact ⟨⟨_, fnG_of lk hcd S len fun A outer s H vs Q E hG hr hsp => hbody cdv A outer s H vs Q E hG hr hsp, F.bindsN hb⟩, g, F.kp⟩
end
section
variable {X : Cx} {k : Nat} {x : Str} {ps : List Str} {sp : Sp} {E : XK} {p pos : Pos} {e : Expr} {es : List Expr} {t : TA}
theorem pe_callGD (D : GOk X.prog X.w X.K X.mg X.base k x ps sp) (hG : X.A.guards = some []) (hr : Room k X.A) (hg : Gl X x) (hx : Passes (L2.CX X.prog X.w) X E)
    (ha : PA X (e :: es) t) (hdb : (x == ("__debug__" : Str)) = false := by decide)
    (he : starEach (e :: es) X.env = (false, eval e X.env) :: starEach es X.env := by rfl)
    (hpl : (backTo pos (starEach es X.env)).any (·.1) = false := by rfl) :
    PE X (.Call (.Name x p) (e :: es) [] pos) (tCall sp [] E t) := by
  obtain ⟨⟨fd, F, b⟩, g, kp⟩ := D
  exact pe_callG F hG hr hg g kp b .nil hx ha hdb he hpl
end
theorem _root_.L2.Room.units65 {k : Nat} {A : Around} (r : Room k A) : A.units + 65 < cLine := by have := r.un; omega
theorem iteB {b : Bool} {A B : Prop} (h1 : b = true → A) (h2 : b = false → B) : if b = true then A else B := by
  cases b
  · exact iteF (h2 rfl)
  · exact iteT (h1 rfl)
theorem fm_map {α β : Type} (f : α → β) : ∀ (xs : List α), (List.range xs.length).filterMap (fun i => xs[i]?.map f) = xs.map f := by
  intro xs
  induction xs with
  | nil => rfl
  | cons a xs ih =>
    rw [List.length_cons, List.range_succ_eq_map, List.filterMap_cons]
    simp only [List.getElem?_cons_zero, Option.map_some, List.filterMap_map, List.map_cons]
    congr 1
theorem fm_filter {α β : Type} (p : α → Bool) (f : α → β) : ∀ (xs : List α), (List.range xs.length).filterMap (fun i => xs[i]?.bind fun a => if p a then some (f a) else none) = (xs.filter p).map f := by
  intro xs
  induction xs with
  | nil => rfl
  | cons a xs ih =>
    rw [List.length_cons, List.range_succ_eq_map, List.filterMap_cons]
    simp only [List.getElem?_cons_zero, Option.bind_some, List.filterMap_map, List.filter_cons]
    have e : ((List.range xs.length).filterMap ((fun i => (a :: xs)[i]?.bind fun a => if p a then some (f a) else none) ∘ Nat.succ)) = (xs.filter p).map f := by
      rw [← ih]; rfl
    cases h : p a
    · simpa using e
    · simpa using e
/-! ## the program's words about data -/
def isInteger : PyData → Bool | .int _ => true | _ => false
def isBetween (lo hi : Int) : PyData → Bool | .int i => decide (lo ≤ i) && decide (i ≤ hi) | _ => false
def letter (c : Nat) : Bool := decide (97 ≤ c) && decide (c ≤ 122)
def nameOk (x : Str) : Bool := decide (0 < x.length) && decide (x.length < 9) && x.cps.toList.all letter
def isName : PyData → Bool | .str x => nameOk x | _ => false
def isStand : PyData → Bool | .tuple [a, b] => isName a && isBetween 1 40 b | _ => false
theorem letters_mem (c : Nat) : decide (c ∈ ("abcdefghijklmnopqrstuvwxyz" : Str).cps.toList) = letter c := by
  have e : ("abcdefghijklmnopqrstuvwxyz" : Str).cps.toList = List.range' 97 26 := by decide +kernel
  rw [e, letter]
  rw [Bool.eq_iff_iff]
  simp only [decide_eq_true_eq, Bool.and_eq_true, List.mem_range']
  constructor
  · rintro ⟨i, hi, rfl⟩
    omega
  · intro h
    exact ⟨c - 97, by omega, by omega⟩
end Bk
set_option Elab.async false
set_option linter.all false
set_option maxRecDepth 100000
set_option maxHeartbeats 4000000
namespace Bk
open PySem PySem.Spec PyProof.Rows L2 PySem.NumText
open PySem.W (Frag)
def digit (c : Nat) : Bool := decide (48 ≤ c) && decide (c ≤ 57)
/-- number_of -/
def numberOf (x : Str) : Option Int :=
  if x = "" then none else if 4 < x.length then none else if x.cps.toList.all digit = false then none
  else if x.cps.toList.head? = some 48 ∧ x ≠ "0" then none else some ((digitsVal x.cps.toList : Nat) : Int)
def optI : Option Int → V | none => .non | some n => .int n
def optD : Option Int → PyData | none => .none | some n => .int n
theorem digits_mem (c : Nat) : decide (c ∈ ("0123456789" : Str).cps.toList) = digit c := by
  have e : ("0123456789" : Str).cps.toList = List.range' 48 10 := by decide +kernel
  rw [e, digit, Bool.eq_iff_iff]
  simp only [decide_eq_true_eq, Bool.and_eq_true, List.mem_range']
  constructor
  · rintro ⟨i, hi, rfl⟩
    omega
  · intro h
    exact ⟨c - 48, by omega, by omega⟩
def isAmong (ns : List Str) : PyData → Bool | .str x => decide (x ∈ ns) | _ => false
def isRoad (ns : List Str) : PyData → Bool | .tuple [a, b, c] => isAmong ns a && isAmong ns b && isBetween 1 3 c | _ => false
theorem inV_strs (x : Str) (ns : List Str) : inV (.str x) (ns.map V.str) = decide (x ∈ ns) := by
  unfold inV
  rw [List.any_map, Bool.eq_iff_iff, List.any_eq_true]
  simp only [decide_eq_true_eq]
  constructor
  · rintro ⟨y, hy, e⟩
    have e' : (y == x) = true := e
    rw [eq_of_beq e'] at hy
    exact hy
  · intro h
    exact ⟨x, h, beq_self_eq_true x⟩
theorem flat_strs (ns : List Str) : (ns.map V.str).all flatV = true := by
  rw [List.all_map, List.all_eq_true]
  intro x _
  rfl
/-! ## stands and roads as data -/
def encS (s : Str × Int) : PyData := .tuple [.str s.1, .int s.2]
def encSs (l : List (Str × Int)) : PyData := .tuple (l.map encS)
def encR (r : Str × Str × Int) : PyData := .tuple [.str r.1, .str r.2.1, .int r.2.2]
def encRs (l : List (Str × Str × Int)) : PyData := .tuple (l.map encR)
structure StOk (l : List (Str × Int)) : Prop where
  ne : l ≠ []
  few : l.length ≤ 5
  each : ∀ s ∈ l, nameOk s.1 = true ∧ 1 ≤ s.2 ∧ s.2 ≤ 40
  nd : (l.map (·.1)).Nodup
structure RdOk (ns : List Str) (l : List (Str × Str × Int)) : Prop where
  few : l.length ≤ 12
  each : ∀ r ∈ l, r.1 ∈ ns ∧ r.2.1 ∈ ns ∧ 1 ≤ r.2.2 ∧ r.2.2 ≤ 3
  nd : (l.map fun r => (r.1, r.2.1)).Nodup
theorem nameOk_len {x : Str} (h : nameOk x = true) : 0 < x.length ∧ x.length ≤ 8 := by
  unfold nameOk at h
  simp only [Bool.and_eq_true, decide_eq_true_eq] at h
  omega
theorem isStand_enc {s : Str × Int} (h : nameOk s.1 = true ∧ 1 ≤ s.2 ∧ s.2 ≤ 40) : isStand (encS s) = true := by
  show (nameOk s.1 && (decide (1 ≤ s.2) && decide (s.2 ≤ 40))) = true
  rw [h.1, decide_eq_true h.2.1, decide_eq_true h.2.2]
  rfl
theorem isRoad_enc {ns : List Str} {r : Str × Str × Int} (h : r.1 ∈ ns ∧ r.2.1 ∈ ns ∧ 1 ≤ r.2.2 ∧ r.2.2 ≤ 3) : isRoad ns (encR r) = true := by
  show (decide (r.1 ∈ ns) && decide (r.2.1 ∈ ns) && (decide (1 ≤ r.2.2) && decide (r.2.2 ≤ 3))) = true
  rw [decide_eq_true h.1, decide_eq_true h.2.1, decide_eq_true h.2.2.1, decide_eq_true h.2.2.2]
  rfl
/-! ## taking data apart -/
theorem dp_tup {K : Frag} {H : Hp} {v : V} {ds : List PyData} (h : Dp K H v (.tuple ds)) : ∃ a xs, v = .ref a ∧ SqT K H a xs ∧ DpAll K H xs ds := by
  cases h with
  | tup h1 h2 => exact ⟨_, _, rfl, h1, h2⟩
theorem dp_str {K : Frag} {H : Hp} {v : V} {x : Str} (h : Dp K H v (.str x)) : v = .str x := by cases h; rfl
theorem dp_int {K : Frag} {H : Hp} {v : V} {x : Int} (h : Dp K H v (.int x)) : v = .int x := by cases h; rfl
theorem dps2 {K : Frag} {H : Hp} {xs : List V} {a b : PyData} (h : DpAll K H xs [a, b]) : ∃ u v, xs = [u, v] ∧ Dp K H u a ∧ Dp K H v b := by
  cases h with
  | cons h1 h => cases h with
    | cons h2 h => cases h; exact ⟨_, _, rfl, h1, h2⟩
theorem dps3 {K : Frag} {H : Hp} {xs : List V} {a b c : PyData} (h : DpAll K H xs [a, b, c]) : ∃ u v w, xs = [u, v, w] ∧ Dp K H u a ∧ Dp K H v b ∧ Dp K H w c := by
  cases h with
  | cons h1 h => cases h with
    | cons h2 h => cases h with
      | cons h3 h => cases h; exact ⟨_, _, _, rfl, h1, h2, h3⟩
/-- the i-th stand of encoded stands -/
theorem stand_at {K : Frag} {H : Hp} {xs : List V} {l : List (Str × Int)} {i : Nat} {x : V} (h : DpAll K H xs (l.map encS)) (hx : xs[i]? = some x) :
    ∃ s b, l[i]? = some s ∧ x = .ref b ∧ SqT K H b [.str s.1, .int s.2] := by
  obtain ⟨d, hd, hp⟩ := dpsGet h hx
  rw [List.getElem?_map] at hd
  cases e : l[i]? with
  | none => rw [e] at hd; cases hd
  | some s =>
    rw [e] at hd
    cases hd
    obtain ⟨b, ys, rfl, h1, h2⟩ := dp_tup hp
    obtain ⟨u, v, rfl, h3, h4⟩ := dps2 h2
    rw [dp_str h3, dp_int h4] at h1
    exact ⟨s, b, rfl, rfl, h1⟩
theorem road_at {K : Frag} {H : Hp} {xs : List V} {l : List (Str × Str × Int)} {i : Nat} {x : V} (h : DpAll K H xs (l.map encR)) (hx : xs[i]? = some x) :
    ∃ s b, l[i]? = some s ∧ x = .ref b ∧ SqT K H b [.str s.1, .str s.2.1, .int s.2.2] := by
  obtain ⟨d, hd, hp⟩ := dpsGet h hx
  rw [List.getElem?_map] at hd
  cases e : l[i]? with
  | none => rw [e] at hd; cases hd
  | some s =>
    rw [e] at hd
    cases hd
    obtain ⟨b, ys, rfl, h1, h2⟩ := dp_tup hp
    obtain ⟨u, v, w, rfl, h3, h4, h5⟩ := dps3 h2
    rw [dp_str h3, dp_str h4, dp_int h5] at h1
    exact ⟨s, b, rfl, rfl, h1⟩
theorem take_more {α : Type} {l : List α} {i : Nat} {x : α} (h : l[i]? = some x) : l.take (i + 1) = l.take i ++ [x] := by
  rw [List.take_add_one, h]
  rfl
end Bk
set_option Elab.async false
set_option linter.all false
set_option maxRecDepth 100000
set_option maxHeartbeats 4000000
namespace Bk
open PySem PySem.Spec PyProof.Rows L2
open PySem.W (Frag)
/-! ## tests of the written part: properties, classmethods -/
def propB (C f : Str) (K : Frag) : Bool :=
  He.eqO (PySem.W.findIn K (.ref (He.ga K C)) f) (some (some (.ref (He.ma K (He.ga K C) f)))) &&
  (He.eqO (PySem.W.specialIn K (.ref (He.ma K (He.ga K C) f)) "__get__") (some (some (.builtin "property.__get__"))) &&
  (decide (PySem.W.takesIn K (.ref (He.ma K (He.ga K C) f)) = some true) &&
  (match PySem.W.recIn K (He.ma K (He.ga K C) f) "property" with | some (.ref _ :: _) => true | _ => false)))
theorem propB_ok {C f : Str} {K : Frag} (h : propB C f K = true) : PropOf K (He.ga K C) f (He.ma K (He.ga K C) f) (He5.wf K (He.ga K C) "property" f) := by
  unfold propB at h
  obtain ⟨h1, h⟩ := He.ba h
  obtain ⟨h2, h⟩ := He.ba h
  obtain ⟨h3, h4⟩ := He.ba h
  refine ⟨He.eqO_ok h1, He.eqO_ok h2, of_decide_eq_true h3, ?_⟩
  unfold He5.wf
  split at h4
  · rename_i f r e
    exact ⟨r, by rw [e]⟩
  · cases h4
def cmB (C m : Str) (K : Frag) : Bool := He5.wrapB K (He.ga K C) "classmethod" "classmethod.__get__" m && PySem.W.fnIn K (He5.wf K (He.ga K C) "classmethod" m)
theorem cmB_ok {C m : Str} {K : Frag} (h : cmB C m K = true) : ClX.CMet K (He.ga K C) (.type "type") m (He.ma K (He.ga K C) m) (He5.wf K (He.ga K C) "classmethod" m) := by
  obtain ⟨h1, h2⟩ := He.ba h
  obtain ⟨h3, h4⟩ := He5.wrapB_ok h1
  exact ⟨h3, h4, h2⟩
def crB (C : Str) (K : Frag) : Bool := PySem.W.readsIn K (He.ga K C) (.type "type") && He.eqO (PySem.W.specialIn K (.ref (He.ga K C)) "__getattribute__") (some (some (.builtin "type.__getattribute__")))
theorem crB_ok {C : Str} {K : Frag} (h : crB C K = true) : ClX.CRead K (He.ga K C) (.type "type") := by
  obtain ⟨h1, h2⟩ := He.ba h
  exact ⟨h1, He.eqO_ok h2⟩
/-- an instance's own type is its class -/
def insB (C : Str) (K : Frag) : Bool :=
  He.eqO (PySem.W.findIn K (.ref (He.ga K C)) "__class__") (some (some (.builtin "object.__class__"))) &&
  (He.eqO (PySem.W.specialIn K (.builtin "object.__class__") "__get__") (some (some (.builtin "getset_descriptor.__get__"))) &&
  (decide (PySem.W.takesIn K (.builtin "object.__class__") = some true) && decide (PySem.W.mroIn K (He.ga K C) (.type "object") = some true)))
theorem insB_ok {C : Str} {K : Frag} (h : insB C K = true) (cl : Cls K (He.ga K C)) {H : Hp} {a dx : Addr} {fs : List (Str × V)} (e : H a = some (.ins (He.ga K C) dx fs)) : TyOf K H (.ref a) (.ref (He.ga K C)) := by
  obtain ⟨h1, h⟩ := He.ba h
  obtain ⟨h2, h⟩ := He.ba h
  obtain ⟨h3, h4⟩ := He.ba h
  exact .ins e cl (He.eqO_ok h1) (He.eqO_ok h2) (of_decide_eq_true h3) (of_decide_eq_true h4)
/-- isinstance of an instance of C by the class D -/
def isaB (C D : Str) (b : Bool) (K : Frag) : Bool := decide (PySem.W.kitOne K (.ref (He.ga K C)) (.ref (He.ga K D)) = some b)
/-! ## a property of an own class, read; its getter by MOk -/
section
variable {X : Cx} {k : Nat} {C : Str} {f : Str} {ps : List Str} {sp : Sp} {E : XK} {pos : Pos} {e : Expr} {ta : TE}
theorem pe_propM (he : PE X e ta) (c : Cls X.K (He.ga X.K C)) (hp : PropOf X.K (He.ga X.K C) f (He.ma X.K (He.ga X.K C) f) (He5.wf X.K (He.ga X.K C) "property" f))
    (F : MOk X.prog X.w X.K X.mg X.base k (He5.wf X.K (He.ga X.K C) "property" f) ps sp) (hr : Room (k + 1) X.A)
    (hab : attributeBase e f X.env (eval e X.env) = eval e X.env := by rfl) : PE X (.Attribute e f pos) (tProp (He.ga X.K C) sp [] E0 ta) := by
  obtain ⟨⟨fd, F, b, _⟩, kp⟩ := F
  exact pe_prop he c hp F hr b .nil passL hab
end
/-! ## towns -/
structure TownD where
  slots : Int
  stands : List (Str × Int)
  roads : List (Str × Str × Int)
def TownD.names (t : TownD) : List Str := t.stands.map (·.1)
structure TownD.Ok (t : TownD) : Prop where
  s1 : 1 ≤ t.slots
  s2 : t.slots ≤ 8
  st : StOk t.stands
  rd : RdOk t.names t.roads
def encN (l : List Str) : PyData := .tuple (l.map .str)
def tfl (s st rd nm : V) : List (Str × V) := putF "_names" nm (putF "_roads" rd (putF "_stands" st (putF "_slots" s [])))
theorem tfl_slots {s st rd nm : V} : (tfl s st rd nm).lookup ("_slots" : Str) = some s := by
  unfold tfl
  rw [lookup_putF, if_neg (by decide +kernel), lookup_putF, if_neg (by decide +kernel), lookup_putF, if_neg (by decide +kernel), lookup_putF, if_pos rfl]
theorem tfl_stands {s st rd nm : V} : (tfl s st rd nm).lookup ("_stands" : Str) = some st := by
  unfold tfl
  rw [lookup_putF, if_neg (by decide +kernel), lookup_putF, if_neg (by decide +kernel), lookup_putF, if_pos rfl]
theorem tfl_roads {s st rd nm : V} : (tfl s st rd nm).lookup ("_roads" : Str) = some rd := by
  unfold tfl
  rw [lookup_putF, if_neg (by decide +kernel), lookup_putF, if_pos rfl]
theorem tfl_names {s st rd nm : V} : (tfl s st rd nm).lookup ("_names" : Str) = some nm := by
  unfold tfl
  rw [lookup_putF, if_pos rfl]
structure TownAt (K : Frag) (H : Hp) (p : Addr) (t : TownD) : Prop where
  ob : ∃ dx vs vr vn, H p = some (.ins (He.ga K "Town") dx (tfl (.int t.slots) vs vr vn)) ∧ Dp K H vs (encSs t.stands) ∧ Dp K H vr (encRs t.roads) ∧ Dp K H vn (encN t.names)
theorem TownAt.same {K : Frag} {H H' : Hp} {p : Addr} {t : TownD} (h : TownAt K H p t) (e : Same H H') : TownAt K H' p t := by
  obtain ⟨dx, vs, vr, vn, h1, h2, h3, h4⟩ := h.ob
  exact ⟨dx, vs, vr, vn, e _ _ h1, dpS e h2, dpS e h3, dpS e h4⟩
end Bk
set_option Elab.async false
set_option linter.all false
set_option maxRecDepth 100000
set_option maxHeartbeats 4000000
namespace Bk
open PySem PySem.Spec PyProof.Rows L2
open PySem.W (Frag)
/-! ## data that may be compared and shown -/
theorem canAll {ds : List PyData} (h : ∀ d ∈ ds, d.canLay0 = true) : PyData.canLayAll0 ds = true := by
  induction ds with
  | nil => rfl
  | cons d ds ih =>
    show (d.canLay0 && PyData.canLayAll0 ds) = true
    rw [h d List.mem_cons_self, ih fun e he => h e (List.mem_cons_of_mem _ he)]
    rfl
theorem depAll {ds : List PyData} {n : Nat} (h : ∀ d ∈ ds, d.depth ≤ n) : PyData.depthAll ds ≤ n := by
  induction ds with
  | nil => exact Nat.zero_le _
  | cons d ds ih =>
    show max d.depth (PyData.depthAll ds) ≤ n
    exact Nat.max_le.mpr ⟨h d List.mem_cons_self, ih fun e he => h e (List.mem_cons_of_mem _ he)⟩
/-- deep at most n, and may be laid -/
def Sh (n : Nat) (d : PyData) : Prop := d.canLay0 = true ∧ d.depth ≤ n
theorem Sh.shaped {n : Nat} {d : PyData} (h : Sh n d) (hn : n ≤ 64 := by decide) : SeqAt.shaped d = true := by
  unfold SeqAt.shaped
  rw [h.1, decide_eq_true (Nat.le_trans h.2 hn)]
  rfl
theorem Sh.list {n : Nat} {ds : List PyData} (h : ∀ d ∈ ds, Sh n d) : Sh (n + 1) (.list ds) :=
  ⟨canAll fun d hd => (h d hd).1, Nat.succ_le_succ (depAll fun d hd => (h d hd).2)⟩
theorem Sh.tup {n : Nat} {ds : List PyData} (h : ∀ d ∈ ds, Sh n d) : Sh (n + 1) (.tuple ds) :=
  ⟨canAll fun d hd => (h d hd).1, Nat.succ_le_succ (depAll fun d hd => (h d hd).2)⟩
theorem Sh.int {n : Nat} {i : Int} : Sh n (.int i) := ⟨rfl, Nat.zero_le _⟩
theorem Sh.non {n : Nat} : Sh n .none := ⟨rfl, Nat.zero_le _⟩
theorem Sh.bl {n : Nat} {b : Bool} : Sh n (.bool b) := ⟨rfl, Nat.zero_le _⟩
theorem Sh.str {n : Nat} {x : Str} (h : PyData.strOk x = true) : Sh n (.str x) := ⟨h, Nat.zero_le _⟩
theorem name_ok {x : Str} (h : nameOk x = true) : PyData.strOk x = true := by
  have h1 : ∀ c ∈ x.cps.toList, letter c = true := by
    unfold nameOk at h
    rw [Bool.and_eq_true] at h
    exact List.all_eq_true.mp h.2
  show (x.cps.all fun c => decide (c < 0x110000)) = true
  rw [← Array.all_toList, List.all_eq_true]
  intro c hc
  have := h1 c hc
  unfold letter at this
  simp only [Bool.and_eq_true, decide_eq_true_eq] at this ⊢
  omega
def encP (p : Str × Str) : PyData := .tuple [.str p.1, .str p.2]
def encPr (r : Str × Str × Int) : PyData := encP (r.1, r.2.1)
theorem eqv_pair {p q : Str × Str} : PyData.eqv (encP p) (encP q) = decide (p = q) := by
  show (p.1 == q.1 && (p.2 == q.2 && true)) = decide (p = q)
  rw [Bool.eq_iff_iff]
  simp only [Bool.and_true, Bool.and_eq_true, beq_iff_eq, decide_eq_true_eq]
  exact ⟨fun h => Prod.ext h.1 h.2, fun h => by rw [h]; exact ⟨rfl, rfl⟩⟩
theorem sh_pair {p : Str × Str} (h1 : PyData.strOk p.1 = true) (h2 : PyData.strOk p.2 = true) : Sh 1 (encP p) := Sh.tup fun d hd => by
  rcases List.mem_cons.mp hd with z | z
  · rw [z]; exact Sh.str h1
  · rcases List.mem_cons.mp z with z | z
    · rw [z]; exact Sh.str h2
    · cases z
end Bk
set_option Elab.async false
set_option linter.all false
set_option maxRecDepth 100000
set_option maxHeartbeats 4000000
namespace Bk
open PySem PySem.Spec PyProof.Rows L2
open PySem.W (Frag)
/-! ## the text of a town -/
abbrev num (z : Int) : Str := Str.ofString (toString z)
theorem num_small : ∀ n : Fin 41, (num ((n.val : Nat) : Int)).length ≤ 2 ∧ numberOf (num ((n.val : Nat) : Int)) = some ((n.val : Nat) : Int) ∧ ((num ((n.val : Nat) : Int)).cps.toList.all digit) = true := by decide +kernel
theorem num_le {z : Int} (h0 : 0 ≤ z) (h1 : z ≤ 40) : (num z).length ≤ 2 ∧ numberOf (num z) = some z ∧ (num z).cps.toList.all digit = true := by
  have e : ((z.toNat : Nat) : Int) = z := by omega
  have := num_small ⟨z.toNat, by omega⟩
  rw [← e]
  exact this
theorem log2_small {z : Int} (h0 : 0 ≤ z) (h1 : z ≤ 9999) : z.natAbs.log2 < 1920 := by
  have h : z.natAbs < 2 ^ 14 := by omega
  by_cases hz : z.natAbs = 0
  · rw [hz]; decide
  · have := (Nat.log2_lt hz).mpr h
    omega
theorem empty_app (x : Str) : Str.empty ++ x = x := by
  apply Str.ext'
  show #[] ++ x.cps = x.cps
  simp
def slotsLine (s : Int) : Str := "slots " ++ num s
def standLine (s : Str × Int) : Str := "stand " ++ s.1 ++ " " ++ num s.2
def roadLine (r : Str × Str × Int) : Str := "road " ++ r.1 ++ " " ++ r.2.1 ++ " " ++ num r.2.2
def linesOf (t : TownD) : List Str := [slotsLine t.slots] ++ t.stands.map standLine ++ t.roads.map roadLine
theorem len_app (x y : Str) : (x ++ y).length = x.length + y.length := Str.length_append x y
def tJoin (ts : List TE) : TE := fun σ H Q => tJs ts Str.empty σ H fun out H1 => Q (.str out) H1
theorem pe_joinN {X : Cx} {v1 v2 : Expr} {rest : List Expr} {ts : List TE} {pos : Pos} (h : PJ X (v1 :: v2 :: rest) ts) : PE X (.JoinedStr (v1 :: v2 :: rest) pos) (tJoin ts) := pe_joined h
end Bk
set_option Elab.async false
set_option linter.all false
set_option maxRecDepth 100000
set_option maxHeartbeats 4000000
namespace Bk
open PySem PySem.Spec PyProof.Rows L2
open PySem.W (Frag)
/-! ## a def run where the caller stands deeper in the machine -/
section
variable {X : Cx} {CX : CXT} {k : Nat} {f C : Addr} {fd : FuncData} {ps : List Str} {sp : Sp} {E : XK} {pins : List (Addr × Obj)} {σ : L2.St} {H : Hp} {s : Shared} {Q : VK}
theorem run_fnAt {A' : Around} {us : List Value} {vs : List V} (F : FnOk X.prog X.w X.K X.mg X.base CX k f fd ps sp) (hr : Room k A') (e0 : Env0 X.prog X.w X.K X.mg X.base A' X.stack s H) (hb : Binds X.K fd ps [])
    (hx : Passes CX X E) (I : Inv X pins σ H s) (r : Vals vs us) (h : sp vs H Q E) : wpAny (model X.prog X.w) A' (call (.ref f) us) (EP X pins σ Q) X.xe s := by
  have hl : us.length = ps.length := r.length ▸ F.len _ _ _ _ h
  have bt := hb s us I.kIn (by rw [List.append_nil]; exact hl)
  rw [List.append_nil] at bt
  refine wpAny_call (codeAny_mono (F.run A' X.stack s H ⟨us, []⟩ us vs Q E hr e0 bt r h) ?_)
  intro rr s' hq
  match rr, hq with
  | .error e, hq => exact hx pins σ H s e s' I hq
  | .ok (.ret u), hq => exact I.after hq
  | .ok .next, hq => exact hq.elim
  | .ok .brk, hq => exact hq.elim
  | .ok .cont, hq => exact hq.elim
/-! ## str(x) by an own __str__ -/
def rStrOwn (C : Addr) (sp : Sp) (E : XK) : List V → Hp → VK → Prop := fun xs H Q => ∃ a dx fs, xs = [V.ref a] ∧ H a = some (.ins C dx fs) ∧ sp [.ref a] H (fun z H' => ∃ y, z = .str y ∧ Q z H') E
theorem call_strOwn (hm : Meth X.K C "__str__" f) (F : MOk X.prog X.w X.K X.mg X.base k f ps sp) (hr : Room (k + 2) X.A) (hx : Passes (L2.CX X.prog X.w) X E) : CallR X (.type "str") (rStrOwn C sp E) := by
  intro pins s σ H xs us Q I r h
  obtain ⟨a, dx, fs, rfl, ha, q⟩ := h
  obtain ⟨u, rfl, ru⟩ := r.one
  cases (show u = Value.ref a from ru)
  obtain ⟨⟨fd, F, b, _⟩, _⟩ := F
  obtain ⟨mA, O, _⟩ := ins_get I.hok ha
  obtain ⟨od, J, _⟩ := O.look
  have hr2 : Room k X.A.in1.in1 := (show Room (k + 1) X.A.in1 from Room.in1 hr).in1
  refine PySem.W.kso_call hr2.units0 I.kIn J hm.at_ hm.fn ?_
  refine wpAny_mono (run_fnAt (us := [.ref a]) (vs := [.ref a]) F hr2 I.env0.in1.in1 b hx I (.cons rfl .nil) q) ?_ (fun _ _ x => x)
  rintro w s' ⟨z, H', I', rz, y, rfl, qz⟩
  obtain ⟨t, rfl⟩ := rz
  exact ⟨.str y, H', I', ⟨t, rfl⟩, qz⟩
/-! ## x == y, x != y by an own __eq__ -/
def rEqOwn (K : Frag) (C : Addr) (sp : Sp) (E : XK) : R2 := fun x y H Q => ∃ a dx fs t, x = V.ref a ∧ H a = some (.ins C dx fs) ∧ TyX K H y t ∧ PySem.W.notFirst K C t = true ∧ sp [x, y] H (fun z H' => ∃ c, z = .bl c ∧ Q (.bl c) H') E
def rNeOwn (K : Frag) (C : Addr) (sp : Sp) (E : XK) : R2 := fun x y H Q => ∃ a dx fs t, x = V.ref a ∧ H a = some (.ins C dx fs) ∧ TyX K H y t ∧ PySem.W.notFirst K C t = true ∧ sp [x, y] H (fun z H' => ∃ c, z = .bl c ∧ Q (.bl (!c)) H') E
theorem op_eqOwn (hm : Meth X.K C "__eq__" f) (F : MOk X.prog X.w X.K X.mg X.base k f ps sp) (hr : Room k X.A) (hx : Passes (L2.CX X.prog X.w) X E) : OpR X (compareOp .Eq) (rEqOwn X.K C sp E) := by
  intro pins s σ H x y v u Q I rx ry h
  obtain ⟨a, dx, fs, t, rfl, ha, ty, hn, q⟩ := h
  cases (show v = Value.ref a from rx)
  obtain ⟨⟨fd, F, b, _⟩, _⟩ := F
  obtain ⟨mA, O, _⟩ := ins_get I.hok ha
  obtain ⟨od, J, _⟩ := O.look
  obtain ⟨P, Z, p, _⟩ := kit_of I ry ty
  obtain ⟨m, hF⟩ := I.fr
  show wpAny _ _ (richCompare .Eq _ _) _ _ _
  refine PySem.W.cmp_K (op := .Eq) hr.units0 hF I.ok.mod.kin J (Z.ty _ _ I.kIn p) hn hm.at_ hm.fn ?_
  refine wpAny_mono (run_fnAt (us := [.ref a, u]) (vs := [.ref a, y]) F hr I.env0 b hx I (.cons rfl (.cons ry .nil)) q) ?_ (fun _ _ x => x)
  rintro w s' ⟨z, H', I', rz, c, rfl, qz⟩
  cases (show w = Value.bool c from rz)
  exact ⟨.bl c, H', I', rfl, qz⟩
end
section
open PySem.W
variable {prog : Program} {w : World} {A : Around} {E : Value → Shared → Prop} {s : Shared} {K : Frag} {x C L f : Addr} {h₀ : Heap} {m : Str → Option Value} {ox : Obj} {od : Option Obj} {name : Str} {b tb : Value}
theorem ifBound_B {M : Model} {args : List Value} {id : String} {Q : Option Value → Shared → Prop} (X : K.In s.heap) (I : InstAt s.heap x ox C od) (hs : findIn K (.ref C) name = some (some (.builtin id)))
    (S : ∀ self, bindSpecial (.builtin id) self = pure (.builtin id, [self]))
    (h : wpAny M A (call (.builtin id) (.ref x :: args)) (fun v => Q (some v)) E s) : wpAny M A (callSpecialIfBound? (.ref x) name args) Q E s := by
  simp only [callSpecialIfBound?, bindSpecialIfBound?]
  refine wpAny_holding (wpAny_bind (wpAny_bind (wpAny_bind (I.type.here ((looks_findIn X hs).here ?_)))))
  refine wpAny_bind (wpAny_askSetting (wpAny_ite ?_))
  have fin : wpAny M A (call (.builtin id) ([.ref x] ++ args) >>= fun v => pure (some v)) Q E s :=
    wpAny_bind (wpAny_mono h (fun v s' h' => wpAny_pure h') fun _ _ h' => h')
  split
  · exact wpAny_bind (wpAny_of_eq (S _) (wpAny_pure fin))
  · exact wpAny_tryCatch (wpAny_bind (wpAny_of_eq (S _) (wpAny_pure fin)))
theorem ne_entry {Q : Fin → Shared → Prop} (hu : A.units < cLine) (X : K.In s.heap) (I : InstAt s.heap x ox C od) (hs : findIn K (.ref C) "__eq__" = some (some (.ref f))) (hf : isFn K (.ref f) = true)
    (h : wpAny (model prog w) A (call (.ref f) [.ref x, b]) (fun v s' => ∃ c, v = .bool c ∧ Q (.done (.ret (.bool (!c)))) s') E s) :
    wpAny (model prog w) A (Builtin.«object.__ne__» ⟨[.ref x, b], []⟩) Q E s := by
  unfold Builtin.«object.__ne__»
  repeat (first
    | with_reducible refine wpAny_cRoomFor hu ?_
    | (refine wpAny_bind (m := callSpecialIfBound? (.ref x) (Str.ofString "__eq__") [b]) (ifBound_K X I hs hf (wpAny_mono h (fun r s' hr => by
          obtain ⟨c, rfl, hq⟩ := hr
          repeat (first | exact hq | exact wpAny_pure hq | exact wpAny_truthy_bool hq | (refine wpAny_bind (m := truthy (.bool _)) (wpAny_truthy_bool ?_)) | wp_step)) fun _ _ e => e)))
    | wp_step)
theorem ne_K {Q : Value → Shared → Prop} (hu : A.units + 1 < cLine) (X : K.In s.heap) (I : InstAt s.heap x ox C od) (hb : Looks (model prog w) s.heap (typeOf b) tb) (hn : notFirst K C tb = true)
    (hne : findIn K (.ref C) "__ne__" = some (some (.builtin "object.__ne__"))) (hs : findIn K (.ref C) "__eq__" = some (some (.ref f))) (hf : isFn K (.ref f) = true) (hmo : mroIn K C (.type "object") = some true)
    (h : wpAny (model prog w) A.in1 (call (.ref f) [.ref x, b]) (fun v s' => ∃ c, v = .bool c ∧ Q (.bool (!c)) s') E s) : wpAny (model prog w) A (richCompare .NotEq (.ref x) b) Q E s := by
  have sub : Looks (model prog w) s.heap (isInstance (.ref x) (.type "object")) true := I.type.andThen (looks_mroIn X hmo)
  have one : wpAny (model prog w) A (tryCompare (.ref x) "__ne__" b) (fun r s' => ∃ v, r = some v ∧ Q v s') E s := by
    unfold tryCompare
    refine wpAny_bind (ifBound_B X I hne F.cmp_object.ne.bind ?_)
    refine wpAny_call (codeAny_call_builtin F.cmp_object.ne.plain F.cmpEntry_ne (check_slot F.cmpKind_ne F.cmpSplit_ne sub (F.cmpArgs_ne _ _) ?_))
    refine ne_entry (A := A.in1) hu X I hs hf (wpAny_mono h (fun v s' hv => ?_) fun _ _ e => e)
    obtain ⟨c, rfl, hq⟩ := hv
    exact ⟨c, rfl, wpAny_pure ⟨_, rfl, hq⟩⟩
  unfold richCompare
  simp only [oneThing_ref]
  refine wpAny_holding (wpAny_bind (wpAny_cRoomFor (Nat.lt_of_succ_lt hu) ?_))
  refine wpAny_bind (I.type.here (wpAny_bind (hb.here ?_)))
  split
  · rename_i q
    have e : subIn K tb (.ref C) = some false := by
      rcases Bool.or_eq_true_iff.mp hn with e | e
      · rw [beq_iff_eq.mp e] at q; simp at q
      · exact beq_iff_eq.mp e
    refine wpAny_bind ((looks_subIn X e).here ?_)
    simp only [Bool.false_eq_true, if_false]
    refine wpAny_bind (wpAny_mono one (fun r s' z => ?_) fun _ _ e => e)
    obtain ⟨v, rfl, hq⟩ := z
    exact wpAny_pure hq
  · refine wpAny_bind (wpAny_pure ?_)
    simp only [Bool.false_eq_true, if_false]
    refine wpAny_bind (wpAny_mono one (fun r s' z => ?_) fun _ _ e => e)
    obtain ⟨v, rfl, hq⟩ := z
    exact wpAny_pure hq
end
section
variable {X : Cx} {k : Nat} {f C : Addr} {ps : List Str} {sp : Sp} {E : XK}
theorem op_neOwn (hm : Meth X.K C "__eq__" f) (hne : PySem.W.findIn X.K (.ref C) "__ne__" = some (some (.builtin "object.__ne__"))) (hmo : PySem.W.mroIn X.K C (.type "object") = some true)
    (F : MOk X.prog X.w X.K X.mg X.base k f ps sp) (hr : Room (k + 1) X.A) (hx : Passes (L2.CX X.prog X.w) X E) : OpR X (compareOp .NotEq) (rNeOwn X.K C sp E) := by
  intro pins s σ H x y v u Q I rx ry h
  obtain ⟨a, dx, fs, t, rfl, ha, ty, hn, q⟩ := h
  cases (show v = Value.ref a from rx)
  obtain ⟨⟨fd, F, b, _⟩, _⟩ := F
  obtain ⟨mA, O, _⟩ := ins_get I.hok ha
  obtain ⟨od, J, _⟩ := O.look
  obtain ⟨P, Z, p, _⟩ := kit_of I ry ty
  show wpAny _ _ (richCompare .NotEq _ _) _ _ _
  refine ne_K (by have := hr.un; omega) I.kIn J (Z.ty _ _ I.kIn p) hn hne hm.at_ hm.fn hmo ?_
  refine wpAny_mono (run_fnAt (us := [.ref a, u]) (vs := [.ref a, y]) F hr.in1 I.env0.in1 b hx I (.cons rfl (.cons ry .nil)) q) ?_ (fun _ _ x => x)
  rintro w s' ⟨z, H', I', rz, c, rfl, qz⟩
  cases (show w = Value.bool c from rz)
  exact ⟨c, rfl, .bl (!c), H', I', rfl, qz⟩
end
end Bk
set_option Elab.async false
set_option linter.all false
set_option maxRecDepth 100000
set_option maxHeartbeats 4000000
namespace Bk
open PySem PySem.Spec PyProof.Rows L2
open PySem.W (Frag)
section
variable {X : Cx} {k i : Nat} {f C g p : Addr} {x m : Str} {ps : List Str} {sp : Sp} {E : XK} {pp pos apos kpos : Pos} {e o : Expr} {es : List Expr} {t : TA} {ta te : TE}
/-- C(e, ..), C the module's name of a class -/
theorem pe_makeM (M : Mk X.K C f) (F : MOk X.prog X.w X.K X.mg X.base k f ps sp) (hr : Room (k + 1) X.A) (hg : Gl X x) (hm : X.mg x = some (.ref C)) (hx : Passes (L2.CX X.prog X.w) X E)
    (ha : PA X (e :: es) t) (hdb : (x == ("__debug__" : Str)) = false := by decide) (he : starEach (e :: es) X.env = (false, eval e X.env) :: starEach es X.env := by rfl)
    (hpl : (backTo pos (starEach es X.env)).any (·.1) = false := by rfl) : PE X (.Call (.Name x pp) (e :: es) [] pos) (tMake C sp [] E t) := by
  obtain ⟨⟨fd, F, b, _⟩, _⟩ := F
  exact pe_make M F hr hg hm b .nil hx ha hdb he hpl
/-- c(e, ..), c a local name that holds the class -/
def tMakeL (i : Nat) (C : Addr) (sp : Sp) (E : XK) (t : TA) : TE := fun σ H Q => σ[i]? = some (some (.ref C)) ∧ tMake C sp [] E t σ H Q
theorem pe_makeL (M : Mk X.K C f) (F : MOk X.prog X.w X.K X.mg X.base k f ps sp) (hr : Room (k + 1) X.A) (hN : X.N[i]? = some x) (hv : Vis X.env.scope x) (hx : Passes (L2.CX X.prog X.w) X E)
    (ha : PA X (e :: es) t) (hdb : (x == ("__debug__" : Str)) = false := by decide) (hcd : (x == ("__classdict__" : Str)) = false := by decide)
    (he : starEach (e :: es) X.env = (false, eval e X.env) :: starEach es X.env := by rfl)
    (hpl : (backTo pos (starEach es X.env)).any (·.1) = false := by rfl) : PE X (.Call (.Name x pp) (e :: es) [] pos) (tMakeL i C sp E t) := by
  obtain ⟨⟨fd, F, b, _⟩, _⟩ := F
  refine ⟨fun pins s σ H Q I h => ?_⟩
  obtain ⟨hs, ht⟩ := h
  refine wpAny_Call_Name_kw (thn ((pe_var (pos := pp) hN hv hdb hcd).run pins s σ H (fun v H1 => v = .ref C ∧ H1 = H) I ⟨.ref C, hs, rfl, rfl⟩) ?_)
  rintro u s1 ⟨v, H1, I1, r1, rfl, rfl⟩
  cases r1
  refine PySem.W.callWith_K (h₀ := X.base) I.ok.mod.kin M.kp (thn (ha.run pos pins s1 σ _ _ I1 ht) ?_) he hpl
  rintro us s2 ⟨vs, H2, I2, r, q⟩
  exact ⟨I2.kIn, run_make M F hr b .nil hx I2 r q⟩
/-- C.m(e, ..), m a classmethod -/
theorem pe_cmM (he : PE X o ta) (r : ClX.CRead X.K C (.type "type")) (c : ClX.CMet X.K C (.type "type") m p g) (F : MOk X.prog X.w X.K X.mg X.base k g ps sp) (hr : Room k X.A) (hx : Passes (L2.CX X.prog X.w) X E) (ha : PA X (e :: es) t) {pl : Sem Bool}
    (hst : starEach (e :: es) X.env = (false, eval e X.env) :: starEach es X.env := by rfl) (hpl : (backTo pos (starEach es X.env)).any (·.1) = false := by rfl)
    (ht : eval (.Call (.Attribute o m apos) (e :: es) [] pos) X.env = (do
      let ov ← eval o X.env
      standAt apos.atName
      let (f, first) ← holding [ov] (getMethod ov m pl)
      callWith pos f first (backTo pos (starEach (e :: es) X.env)) (backToKw pos (keywordEach [] X.env))) := by rfl) :
    PE X (.Call (.Attribute o m apos) (e :: es) [] pos) (ClX.tCMeth C sp E ta t) := by
  obtain ⟨⟨fd, F, b, _⟩, _⟩ := F
  have F' := (FnOk.raw (dvs := []) F b .nil).imp (sp' := sp) (fun vs H Q E h => by rw [List.append_nil]; exact h)
  exact ClX.pe_cmeth he r c F' hr hx ha hst hpl ht
/-- C.m(k=e) -/
def tCMethK (C : Addr) (sp : Sp) (E : XK) (ta te : TE) : TE := fun σ H Q => ta σ H fun x H1 => x = .ref C ∧ te σ H1 fun v H2 => sp [.ref C, v] H2 Q E
theorem pe_cmK {kn : Str} {params : Arguments} {body : List Stmt} {scope : Scope} {nx nq c0 : Str} {kws : List (Str × V)} (he : PE X o ta) (r : ClX.CRead X.K C (.type "type")) (c : ClX.CMet X.K C (.type "type") m p g)
    (F : MOk X.prog X.w X.K X.mg X.base k g [c0, kn] sp) (FD : ∃ fd, FunD X.K nx nq params body scope [] kws g fd)
    (hbk : ∀ (kV doc pm : Value) (an : Option Addr) (cdv ct : Value) (u v : Value), bindArgs (PySem.W.fnOf nx nq params body scope .none kV doc pm an cdv ct) ⟨[u], [(kn, v)]⟩ = pure [(c0, u), (kn, v)])
    (hr : Room k X.A) (hx : Passes (L2.CX X.prog X.w) X E) (ha : PE X e te) {pl : Sem Bool}
    (ht : eval (.Call (.Attribute o m apos) [] [⟨some kn, e, kpos⟩] pos) X.env = (do
      let ov ← eval o X.env
      standAt apos.atName
      let (f, first) ← holding [ov] (getMethod ov m pl)
      callWith pos f first (backTo pos (starEach [] X.env)) (backToKw pos (keywordEach [⟨some kn, e, kpos⟩] X.env))) := by rfl) :
    PE X (.Call (.Attribute o m apos) [] [⟨some kn, e, kpos⟩] pos) (tCMethK C sp E ta te) := by
  obtain ⟨⟨fd, F, b, oc, od, osl, lk⟩, _⟩ := F
  obtain ⟨fd2, FD⟩ := FD
  obtain ⟨oc2, od2, dV, kV, doc, pm, an, cdv, ct, osl2, e2, lk2, _, hD, _⟩ := FD.ex
  have edV : dV = .none := by
    rcases hD with ⟨_, z⟩ | ⟨z, _⟩
    · exact z
    · exact absurd rfl z
  subst edV
  have efd : fd = fd2 := by
    rw [lk] at lk2
    cases lk2
    rfl
  subst efd
  refine ⟨fun pins s σ H Q I h => ?_⟩
  refine PySem.W.methodCall_KW (pl := pl) (thn (he.run pins s σ H _ I h) ?_) ht
  rintro u s1 ⟨x, H1, I1, rx, ex, q⟩
  subst ex
  obtain rfl : u = Value.ref C := rx
  refine ClX.getmethcm_ok I1 r c fun s2 I2 => ?_
  have hk := pk_cons (X := X) (nm := some kn) (kpos := kpos) ha pk_nil
  refine PySem.W.callWith_of (P := PySem.W.MethP X.K s1.heap.objs.size g (.ref C)) (first := []) rfl (PySem.W.keeps_M c.fi) ?_
  refine evalArgs_kw2_nil (by rfl) (thn (hk.run pos _ s2 σ H1 (fun vs H2 => sp (.ref C :: vs) H2 Q E) I2 q) ?_)
  rintro ws s3 ⟨vs, H2, I3, rv, q2⟩
  refine ⟨⟨ClX.pin_at I3, I3.kIn⟩, ?_⟩
  have hl := F.len _ _ _ _ q2
  obtain ⟨v, rfl⟩ : ∃ v, vs = [v] := by
    match vs, hl with
    | [v], _ => exact ⟨v, rfl⟩
  obtain ⟨u, rfl, ru⟩ := rv.one
  have bt : BindsTo s3 fd ⟨[.ref C, ], [(kn, u)]⟩ ([c0, kn].zip [.ref C, u]) := by
    rw [e2]
    exact .of_eq (hbk kV doc pm an cdv ct (.ref C) u)
  have z : wpAny (model X.prog X.w) X.A (call (.ref s1.heap.objs.size) [] [(kn, u)]) (EP X ((s1.heap.objs.size, PySem.W.methodObj (.ref g) (.ref C)) :: pins) σ Q) X.xe s3 := by
    refine wpAny_call (PySem.W.method_call (ClX.pin_at I3) (codeAny_mono (F.run X.A X.stack s3 H2 ⟨[.ref C], [(kn, u)]⟩ [.ref C, u] [.ref C, v] Q E hr I3.env0 bt (.cons rfl (.cons ru .nil)) q2) ?_))
    intro rr s' hq
    match rr, hq with
    | .error e, hq => exact hx _ σ _ s3 e s' I3 hq
    | .ok (.ret u), hq => exact I3.after hq
    | .ok .next, hq => exact hq.elim
    | .ok .brk, hq => exact hq.elim
    | .ok .cont, hq => exact hq.elim
  exact thn z fun _ _ y => ClX.unpinE y
end
end Bk
set_option Elab.async false
set_option linter.all false
set_option maxRecDepth 100000
set_option maxHeartbeats 4000000
namespace Bk
open PySem PySem.Spec PyProof.Rows L2
open PySem.W (Frag)
/-- what stands there is no tuple -/
def NoTup (H : Hp) (D : Addr) : Prop := (∀ xs, H D ≠ some (.tup xs)) ∧ ∀ o xs, H D ≠ some (.frz o (.tup xs))
theorem noTup_ins {H : Hp} {D C dx : Addr} {fs : List (Str × V)} (h : H D = some (.ins C dx fs)) : NoTup H D := ⟨fun _ z => (by rw [h] at z; cases z), fun _ _ z => (by rw [h] at z; cases z)⟩
theorem noTup_lst {H : Hp} {D : Addr} {xs : List V} (h : H D = some (.lst xs)) : NoTup H D := ⟨fun _ z => (by rw [h] at z; cases z), fun _ _ z => (by rw [h] at z; cases z)⟩
theorem sqtV {K : Frag} {H : Hp} {D a : Addr} {o : HO} {xs : List V} (hD : NoTup H D) (h : SqT K H a xs) : SqT K (upd H D o) a xs := by
  rcases h with (h | ⟨o', h⟩) | h
  · exact .inl (.inl (by rw [upd_ne (fun z => hD.1 _ (by rw [← z]; exact h))]; exact h))
  · exact .inl (.inr ⟨o', by rw [upd_ne (fun z => hD.2 _ _ (by rw [← z]; exact h))]; exact h⟩)
  · exact .inr h
mutual
theorem dpV {K : Frag} {H : Hp} {D : Addr} {o : HO} (hD : NoTup H D) : ∀ {d : PyData} {v : V}, noL d = true → Dp K H v d → Dp K (upd H D o) v d
  | .none, _, _, h => by cases h; exact .non
  | .bool _, _, _, h => by cases h; exact .bl _
  | .int _, _, _, h => by cases h; exact .int _
  | .str _, _, _, h => by cases h; exact .str _
  | .list ds, _, n, _ => by cases n
  | .tuple ds, _, n, h => by
    cases h with
    | tup h1 h2 => exact .tup (sqtV hD h1) (dpsV hD n h2)
  | .dict _, _, n, _ => by cases n
theorem dpsV {K : Frag} {H : Hp} {D : Addr} {o : HO} (hD : NoTup H D) : ∀ {ds : List PyData} {vs : List V}, noLs ds = true → DpAll K H vs ds → DpAll K (upd H D o) vs ds
  | [], _, _, h => by cases h; exact .nil
  | d :: ds, _, n, h => by
    have n' : (noL d && noLs ds) = true := n
    rw [Bool.and_eq_true] at n'
    cases h with
    | cons h1 h2 => exact .cons (dpV hD n'.1 h1) (dpsV hD n'.2 h2)
end
theorem noL_S (l : List (Str × Int)) : noL (encSs l) = true := noLs_of fun d hd => by
  obtain ⟨s, _, rfl⟩ := List.mem_map.mp hd
  rfl
theorem noL_R (l : List (Str × Str × Int)) : noL (encRs l) = true := noLs_of fun d hd => by
  obtain ⟨s, _, rfl⟩ := List.mem_map.mp hd
  rfl
theorem noL_N (l : List Str) : noL (encN l) = true := noLs_of fun d hd => by
  obtain ⟨s, _, rfl⟩ := List.mem_map.mp hd
  rfl
/-- all but what stands at p is as it was -/
def But (p : Addr) (H H' : Hp) : Prop := ∀ b o, H b = some o → b ≠ p → H' b = some o
theorem tfl_putN (s st rd nm nm' : V) : putF "_names" nm (putF "_roads" rd (putF "_stands" st (putF "_slots" s []))) = tfl s st rd nm := rfl
end Bk
set_option Elab.async false
set_option linter.all false
set_option maxRecDepth 100000
set_option maxHeartbeats 4000000
namespace Bk
open PySem PySem.Spec PyProof.Rows L2 PySem.NumText
open PySem.W (Frag)
def townText (t : TownD) : Str := Txt.join "\n" (linesOf t)
/-! ## parts of a text -/
theorem join_part {y : Str} : ∀ {parts : List Str} {p : Str}, p ∈ parts → p.length ≤ (Str.join y parts).length
  | [q], p, h => by
    rw [List.mem_singleton.mp h]
    exact Nat.le_refl _
  | a :: b :: r, p, h => by
    have e : Str.join y (a :: b :: r) = a ++ y ++ Str.join y (b :: r) := rfl
    rw [e, len_app, len_app]
    rcases List.mem_cons.mp h with z | z
    · rw [z]; omega
    · have := join_part (y := y) z
      omega
theorem join_many {y : Str} (hy : 1 ≤ y.length) : ∀ {parts : List Str}, parts.length ≤ (Str.join y parts).length + 1
  | [] => Nat.zero_le _
  | [q] => Nat.succ_le_succ (Nat.zero_le _)
  | a :: b :: r => by
    have e : Str.join y (a :: b :: r) = a ++ y ++ Str.join y (b :: r) := rfl
    rw [e, len_app, len_app]
    have := join_many hy (parts := b :: r)
    simp only [List.length_cons] at this ⊢
    omega
theorem split_part {x y p : Str} (h : p ∈ Txt.split x y) : p.length ≤ x.length := by
  have := join_part (y := y) h
  rw [StrLaws.join_split] at this
  exact this
theorem split_many {x y : Str} (hy : 1 ≤ y.length) : (Txt.split x y).length ≤ x.length + 1 := by
  have := join_many hy (parts := Txt.split x y)
  rw [StrLaws.join_split] at this
  exact this
/-! ## what the lines of a text tell -/
def midW (ws : List Str) : List Str := (ws.drop 1).dropLast
def rowD (ws : List Str) (n : Option Int) : PyData := .tuple ((midW ws).map .str ++ [optD n])
structure Told where
  slots : Option Int
  stands : List PyData
  roads : List PyData
def toldStep (s : Told) (line : Str) : Told :=
  let ws := Txt.split line " "
  let n := numberOf (ws.getLastD "")
  if ws.headD "" = "slots" then { s with slots := n }
  else if ws.headD "" = "stand" then { s with stands := s.stands ++ [rowD ws n] }
  else if ws.headD "" = "road" then { s with roads := s.roads ++ [rowD ws n] } else s
def told (x : Str) : Told := (Txt.split x "\n").foldl toldStep ⟨none, [], []⟩
theorem spl_ne (S : List Nat) : ∀ (k : Nat) (acc l : List Nat), TL.spl S k acc l ≠ []
  | k, acc, [] => by rw [TL.spl_nil]; exact List.cons_ne_nil _ _
  | 0, acc, c :: r => by
    unfold TL.spl
    split
    · exact List.cons_ne_nil _ _
    · exact spl_ne S 0 _ r
  | k + 1, acc, _ :: r => by
    unfold TL.spl
    exact spl_ne S k acc r
theorem split_ne (x y : Str) (hy : TL.tl y ≠ []) (hk : y.cps.all (· < 256) = true) : Txt.split x y ≠ [] := by
  intro h
  have e := TL.split_spl x y hy (TL.kind_ok hk)
  rw [h] at e
  exact spl_ne _ _ _ _ e.symm
theorem split_sp (x : Str) : Txt.split x " " ≠ [] := split_ne x " " (by decide +kernel) (by decide +kernel)
theorem split_nl (x : Str) : Txt.split x "\n" ≠ [] := split_ne x "\n" (by decide +kernel) (by decide +kernel)
/-! ## the text of a town is told -/
theorem sp_free {x : Str} (h : x.cps.toList.all letter = true) : 32 ∉ TL.tl x := fun hm => by
  have := List.all_eq_true.mp h 32 hm
  revert this
  decide
theorem nl_free {x : Str} (h : x.cps.toList.all letter = true) : 10 ∉ TL.tl x := fun hm => by
  have := List.all_eq_true.mp h 10 hm
  revert this
  decide
theorem sp_freeD {x : Str} (h : x.cps.toList.all digit = true) : 32 ∉ TL.tl x := fun hm => by
  have := List.all_eq_true.mp h 32 hm
  revert this
  decide
theorem nl_freeD {x : Str} (h : x.cps.toList.all digit = true) : 10 ∉ TL.tl x := fun hm => by
  have := List.all_eq_true.mp h 10 hm
  revert this
  decide
theorem name_all {x : Str} (h : nameOk x = true) : x.cps.toList.all letter = true := by
  unfold nameOk at h
  rw [Bool.and_eq_true] at h
  exact h.2
theorem tl_slots : TL.tl "slots " = TL.tl "slots" ++ TL.tl " " := by decide +kernel
theorem tl_stand : TL.tl "stand " = TL.tl "stand" ++ TL.tl " " := by decide +kernel
theorem tl_road : TL.tl "road " = TL.tl "road" ++ TL.tl " " := by decide +kernel
theorem w_slots (s : Int) : slotsLine s = Txt.join " " ["slots", num s] := by
  refine TL.ext_tl ?_
  rw [TL.join_eq, TL.tl_join]
  show TL.tl ("slots " ++ num s) = TL.tl "slots" ++ (TL.tl " " ++ TL.tl (num s))
  rw [TL.tl_append, tl_slots, List.append_assoc]
theorem w_stand (s : Str × Int) : standLine s = Txt.join " " ["stand", s.1, num s.2] := by
  refine TL.ext_tl ?_
  rw [TL.join_eq, TL.tl_join]
  show TL.tl ("stand " ++ s.1 ++ " " ++ num s.2) = TL.tl "stand" ++ (TL.tl " " ++ (TL.tl s.1 ++ (TL.tl " " ++ TL.tl (num s.2))))
  rw [TL.tl_append, TL.tl_append, TL.tl_append, tl_stand]
  simp only [List.append_assoc]
theorem w_road (s : Str × Str × Int) : roadLine s = Txt.join " " ["road", s.1, s.2.1, num s.2.2] := by
  refine TL.ext_tl ?_
  rw [TL.join_eq, TL.tl_join]
  show TL.tl ("road " ++ s.1 ++ " " ++ s.2.1 ++ " " ++ num s.2.2) = TL.tl "road" ++ (TL.tl " " ++ (TL.tl s.1 ++ (TL.tl " " ++ (TL.tl s.2.1 ++ (TL.tl " " ++ TL.tl (num s.2.2))))))
  rw [TL.tl_append, TL.tl_append, TL.tl_append, TL.tl_append, TL.tl_append, tl_road]
  simp only [List.append_assoc]
theorem tl_sp : TL.tl (" " : Str) = [32] := by decide +kernel
theorem tl_nl : TL.tl ("\n" : Str) = [10] := by decide +kernel
theorem split_words {ws : List Str} (hne : ws ≠ []) (h : ∀ w ∈ ws, 32 ∉ TL.tl w) : Txt.split (Txt.join " " ws) " " = ws := TL.split_join tl_sp (by decide +kernel) hne h
theorem split_lines {ws : List Str} (hne : ws ≠ []) (h : ∀ w ∈ ws, 10 ∉ TL.tl w) : Txt.split (Txt.join "\n" ws) "\n" = ws := TL.split_join tl_nl (by decide +kernel) hne h
theorem s_slots {s : Int} (h0 : 0 ≤ s) (h1 : s ≤ 40) : Txt.split (slotsLine s) " " = (["slots", num s] : List Str) := by
  rw [w_slots]
  refine split_words (by simp) fun w hw => ?_
  simp only [List.mem_cons, List.not_mem_nil, or_false] at hw
  rcases hw with rfl | rfl
  · decide +kernel
  · exact sp_freeD (num_le h0 h1).2.2
theorem s_stand {s : Str × Int} (hn : nameOk s.1 = true) (h0 : 0 ≤ s.2) (h1 : s.2 ≤ 40) : Txt.split (standLine s) " " = (["stand", s.1, num s.2] : List Str) := by
  rw [w_stand]
  refine split_words (by simp) fun w hw => ?_
  simp only [List.mem_cons, List.not_mem_nil, or_false] at hw
  rcases hw with rfl | rfl | rfl
  · decide +kernel
  · exact sp_free (name_all hn)
  · exact sp_freeD (num_le h0 h1).2.2
theorem s_road {s : Str × Str × Int} (hn : nameOk s.1 = true) (hm : nameOk s.2.1 = true) (h0 : 0 ≤ s.2.2) (h1 : s.2.2 ≤ 40) : Txt.split (roadLine s) " " = (["road", s.1, s.2.1, num s.2.2] : List Str) := by
  rw [w_road]
  refine split_words (by simp) fun w hw => ?_
  simp only [List.mem_cons, List.not_mem_nil, or_false] at hw
  rcases hw with rfl | rfl | rfl | rfl
  · decide +kernel
  · exact sp_free (name_all hn)
  · exact sp_free (name_all hm)
  · exact sp_freeD (num_le h0 h1).2.2
theorem step_slots {st : Told} {s : Int} (h0 : 0 ≤ s) (h1 : s ≤ 40) : toldStep st (slotsLine s) = { st with slots := some s } := by
  unfold toldStep
  rw [s_slots h0 h1]
  simp only [List.getLastD_cons, List.headD_cons, if_true, List.getLastD_nil]
  rw [show numberOf (num s) = some s from (num_le h0 h1).2.1]
theorem stand_ne : (("stand" : String) : Str) ≠ "slots" := by decide +kernel
theorem road_ne : (("road" : String) : Str) ≠ "slots" := by decide +kernel
theorem road_ne2 : (("road" : String) : Str) ≠ "stand" := by decide +kernel
theorem step_stand {st : Told} {s : Str × Int} (hn : nameOk s.1 = true) (h0 : 0 ≤ s.2) (h1 : s.2 ≤ 40) : toldStep st (standLine s) = { st with stands := st.stands ++ [encS s] } := by
  unfold toldStep
  rw [s_stand hn h0 h1]
  simp only [List.getLastD_cons, List.headD_cons, if_true, List.getLastD_nil, if_neg stand_ne]
  rw [show numberOf (num s.2) = some s.2 from (num_le h0 h1).2.1]
  rfl
theorem step_road {st : Told} {s : Str × Str × Int} (hn : nameOk s.1 = true) (hm : nameOk s.2.1 = true) (h0 : 0 ≤ s.2.2) (h1 : s.2.2 ≤ 40) : toldStep st (roadLine s) = { st with roads := st.roads ++ [encR s] } := by
  unfold toldStep
  rw [s_road hn hm h0 h1]
  simp only [List.getLastD_cons, List.headD_cons, if_true, List.getLastD_nil, if_neg road_ne, if_neg road_ne2]
  rw [show numberOf (num s.2.2) = some s.2.2 from (num_le h0 h1).2.1]
  rfl
theorem fold_stands : ∀ (l : List (Str × Int)) (st : Told), (∀ s ∈ l, nameOk s.1 = true ∧ 1 ≤ s.2 ∧ s.2 ≤ 40) → (l.map standLine).foldl toldStep st = { st with stands := st.stands ++ l.map encS }
  | [], st, _ => by simp
  | s :: l, st, h => by
    have := h s List.mem_cons_self
    rw [List.map_cons, List.foldl_cons, step_stand this.1 (by omega) this.2.2, fold_stands l _ fun u hu => h u (List.mem_cons_of_mem _ hu)]
    simp
theorem fold_roads : ∀ (l : List (Str × Str × Int)) (st : Told), (∀ s ∈ l, nameOk s.1 = true ∧ nameOk s.2.1 = true ∧ 1 ≤ s.2.2 ∧ s.2.2 ≤ 3) → (l.map roadLine).foldl toldStep st = { st with roads := st.roads ++ l.map encR }
  | [], st, _ => by simp
  | s :: l, st, h => by
    have := h s List.mem_cons_self
    rw [List.map_cons, List.foldl_cons, step_road this.1 this.2.1 (by omega) (by omega), fold_roads l _ fun u hu => h u (List.mem_cons_of_mem _ hu)]
    simp
theorem TownD.Ok.nm {t : TownD} (ok : t.Ok) : ∀ x ∈ t.names, nameOk x = true := fun x hx => by
  obtain ⟨u, hu, rfl⟩ := List.mem_map.mp hx
  exact (ok.st.each u hu).1
theorem TownD.Ok.rds {t : TownD} (ok : t.Ok) : ∀ s ∈ t.roads, nameOk s.1 = true ∧ nameOk s.2.1 = true ∧ 1 ≤ s.2.2 ∧ s.2.2 ≤ 3 := fun s hs =>
  have h := ok.rd.each s hs
  ⟨ok.nm _ h.1, ok.nm _ h.2.1, h.2.2⟩
theorem nl_line {ws : List Str} (h : ∀ w ∈ ws, 10 ∉ TL.tl w) : 10 ∉ TL.tl (Txt.join " " ws) := by
  rw [TL.join_eq]
  induction ws with
  | nil => decide +kernel
  | cons a r ih =>
    cases r with
    | nil => exact h a List.mem_cons_self
    | cons b r =>
      have e : Str.join " " (a :: b :: r) = a ++ " " ++ Str.join " " (b :: r) := rfl
      rw [e, TL.tl_append, TL.tl_append, List.mem_append, List.mem_append]
      rintro ((z | z) | z)
      · exact h a List.mem_cons_self z
      · revert z; decide +kernel
      · exact ih (fun w hw => h w (List.mem_cons_of_mem _ hw)) z
theorem lines_nl {t : TownD} (ok : t.Ok) : ∀ w ∈ linesOf t, 10 ∉ TL.tl w := by
  intro w hw
  have z1 := ok.s1
  have z2 := ok.s2
  unfold linesOf at hw
  rw [List.mem_append, List.mem_append] at hw
  rcases hw with (hw | hw) | hw
  · rw [List.mem_singleton.mp hw, w_slots]
    refine nl_line fun w hw => ?_
    simp only [List.mem_cons, List.not_mem_nil, or_false] at hw
    rcases hw with rfl | rfl
    · decide +kernel
    · exact nl_freeD (num_le (by omega) (by omega)).2.2
  · obtain ⟨s, hs, rfl⟩ := List.mem_map.mp hw
    have := ok.st.each s hs
    rw [w_stand]
    refine nl_line fun w hw => ?_
    simp only [List.mem_cons, List.not_mem_nil, or_false] at hw
    rcases hw with rfl | rfl | rfl
    · decide +kernel
    · exact nl_free (name_all this.1)
    · exact nl_freeD (num_le (by omega) this.2.2).2.2
  · obtain ⟨s, hs, rfl⟩ := List.mem_map.mp hw
    have := ok.rds s hs
    rw [w_road]
    refine nl_line fun w hw => ?_
    simp only [List.mem_cons, List.not_mem_nil, or_false] at hw
    rcases hw with rfl | rfl | rfl | rfl
    · decide +kernel
    · exact nl_free (name_all this.1)
    · exact nl_free (name_all this.2.1)
    · exact nl_freeD (num_le (by omega) (by omega)).2.2
theorem lines_ne (t : TownD) : linesOf t ≠ [] := by
  unfold linesOf
  simp
theorem split_town {t : TownD} (ok : t.Ok) : Txt.split (townText t) "\n" = linesOf t := split_lines (lines_ne t) (lines_nl ok)
theorem told_town {t : TownD} (ok : t.Ok) : told (townText t) = ⟨some t.slots, t.stands.map encS, t.roads.map encR⟩ := by
  have z1 := ok.s1
  have z2 := ok.s2
  unfold told
  rw [split_town ok]
  unfold linesOf
  rw [List.foldl_append, List.foldl_append, List.foldl_cons, List.foldl_nil, step_slots (by omega) (by omega), fold_stands _ _ ok.st.each, fold_roads _ _ ok.rds]
  simp
/-! ## how long it is -/
theorem line_len {t : TownD} (ok : t.Ok) : ∀ w ∈ linesOf t, w.length ≤ 40 := by
  intro w hw
  have z1 := ok.s1
  have z2 := ok.s2
  have e1 : (("slots " : String) : Str).length = 6 := by decide +kernel
  have e2 : (("stand " : String) : Str).length = 6 := by decide +kernel
  have e3 : (("road " : String) : Str).length = 5 := by decide +kernel
  have e4 : ((" " : String) : Str).length = 1 := by decide +kernel
  unfold linesOf at hw
  rw [List.mem_append, List.mem_append] at hw
  rcases hw with (hw | hw) | hw
  · rw [List.mem_singleton.mp hw]
    unfold slotsLine
    have := (num_le (z := t.slots) (by omega) (by omega)).1
    rw [len_app]
    omega
  · obtain ⟨s, hs, rfl⟩ := List.mem_map.mp hw
    have h := ok.st.each s hs
    have n1 := nameOk_len h.1
    have := (num_le (z := s.2) (by omega) h.2.2).1
    unfold standLine
    rw [len_app, len_app, len_app]
    omega
  · obtain ⟨s, hs, rfl⟩ := List.mem_map.mp hw
    have h := ok.rds s hs
    have n1 := nameOk_len h.1
    have n2 := nameOk_len h.2.1
    have := (num_le (z := s.2.2) (by omega) (by omega)).1
    unfold roadLine
    rw [len_app, len_app, len_app, len_app, len_app]
    omega
theorem lines_few {t : TownD} (ok : t.Ok) : (linesOf t).length ≤ 18 := by
  have := ok.st.few
  have := ok.rd.few
  unfold linesOf
  simp only [List.length_append, List.length_map, List.length_cons, List.length_nil]
  omega
theorem sum_le {l : List Str} {n : Nat} (h : ∀ w ∈ l, w.length ≤ n) : (l.map (·.length)).sum ≤ l.length * n := by
  induction l with
  | nil => simp
  | cons a r ih =>
    have h1 := h a List.mem_cons_self
    have h2 := ih fun w hw => h w (List.mem_cons_of_mem _ hw)
    simp only [List.map_cons, List.sum_cons, List.length_cons, Nat.succ_mul]
    omega
theorem join_len (y : Str) : ∀ (l : List Str), (Str.join y l).length ≤ (l.map (·.length)).sum + l.length * y.length
  | [] => Nat.zero_le _
  | [a] => by simp [Str.join]
  | a :: b :: r => by
    have e : Str.join y (a :: b :: r) = a ++ y ++ Str.join y (b :: r) := rfl
    have := join_len y (b :: r)
    rw [e, len_app, len_app]
    simp only [List.map_cons, List.sum_cons, List.length_cons, Nat.succ_mul] at this ⊢
    omega
theorem text_len {t : TownD} (ok : t.Ok) : (townText t).length ≤ 1000 := by
  unfold townText
  rw [TL.join_eq]
  have h1 := join_len "\n" (linesOf t)
  have h2 := sum_le (line_len ok)
  have h3 := lines_few ok
  have e : (("\n" : String) : Str).length = 1 := by decide +kernel
  rw [e] at h1
  have : (linesOf t).length * 40 ≤ 18 * 40 := Nat.mul_le_mul_right _ h3
  omega
end Bk
set_option Elab.async false
set_option linter.all false
set_option maxRecDepth 100000
set_option maxHeartbeats 4000000
namespace Bk
open PySem PySem.Spec PyProof.Rows L2 PySem.NumText
open PySem.W (Frag)
theorem atI_lastD {ws : List Str} (h : ws ≠ []) : atI (ws.map V.str) (-1) = some (V.str (ws.getLastD "")) := by
  have e : ws = ws.dropLast ++ [ws.getLastD ""] := by
    rw [List.getLastD_eq_getLast?, List.getLast?_eq_some_getLast h]
    exact (List.dropLast_concat_getLast h).symm
  have e2 : ws.map V.str = ws.dropLast.map V.str ++ [V.str (ws.getLastD "")] := by
    conv => lhs; rw [e]
    rw [List.map_append]
    rfl
  rw [e2]
  exact atI_last _ _
theorem atI_head {ws : List Str} (h : ws ≠ []) : atI (ws.map V.str) 0 = some (V.str (ws.headD "")) := by
  cases ws with
  | nil => exact absurd rfl h
  | cons a r => exact atI_nat (j := 0) rfl
theorem cut_mid (ws : List Str) (h : ws ≠ []) : cutV (ws.map V.str) (some 1) (some (-1)) = (midW ws).map V.str := by
  cases ws with
  | nil => exact absurd rfl h
  | cons a r =>
    unfold cutV midW
    have e1 : HT.sIx ((a :: r).map V.str).length 0 (some 1) = 1 := by
      have := HT.sIx_nat ((a :: r).map V.str).length 0 1
      rw [show ((1 : Nat) : Int) = (1 : Int) from rfl] at this
      rw [this, List.length_map, List.length_cons]
      omega
    have e2 : HT.sIx ((a :: r).map V.str).length ((a :: r).map V.str).length (some (-1)) = r.length := by
      unfold HT.sIx
      dsimp only
      rw [if_pos (by decide), List.length_map, List.length_cons]
      omega
    rw [e1, e2, ← List.map_drop, ← List.map_take]
    show ((r.take (r.length - 1)).map V.str) = r.dropLast.map V.str
    rw [List.dropLast_eq_take]
theorem mid_len (ws : List Str) : (midW ws).length ≤ ws.length := by
  unfold midW
  rw [List.length_dropLast, List.length_drop]
  omega
theorem noL_row (ws : List Str) (n : Option Int) : noL (rowD ws n) = true := noLs_of fun d hd => by
  rcases List.mem_append.mp hd with h | h
  · obtain ⟨x, _, rfl⟩ := List.mem_map.mp h
    rfl
  · rw [List.mem_singleton.mp h]
    cases n <;> rfl
theorem dp_opt {K : Frag} {H : Hp} (n : Option Int) : Dp K H (optI n) (optD n) := by
  cases n
  · exact .non
  · exact .int _
theorem fold_more {α β : Type} (f : β → α → β) (b : β) {l : List α} {i : Nat} {x : α} (h : l[i]? = some x) : (l.take (i + 1)).foldl f b = f ((l.take i).foldl f b) x := by
  rw [take_more h, List.foldl_append]
  rfl
theorem step_rows {s : Told} {line : Str} (h1 : noLs s.stands = true) (h2 : noLs s.roads = true) : noLs (toldStep s line).stands = true ∧ noLs (toldStep s line).roads = true ∧
    (toldStep s line).stands.length ≤ s.stands.length + 1 ∧ (toldStep s line).roads.length ≤ s.roads.length + 1 := by
  unfold toldStep
  dsimp only
  split
  · exact ⟨h1, h2, Nat.le_succ _, Nat.le_succ _⟩
  · split
    · refine ⟨noLs_of fun d hd => ?_, h2, by simp, Nat.le_succ _⟩
      rcases List.mem_append.mp hd with h | h
      · exact noLs_all h1 d h
      · rw [List.mem_singleton.mp h]; exact noL_row _ _
    · split
      · refine ⟨h1, noLs_of fun d hd => ?_, Nat.le_succ _, by simp⟩
        rcases List.mem_append.mp hd with h | h
        · exact noLs_all h2 d h
        · rw [List.mem_singleton.mp h]; exact noL_row _ _
      · exact ⟨h1, h2, Nat.le_succ _, Nat.le_succ _⟩
end Bk
set_option Elab.async false
set_option linter.all false
set_option maxRecDepth 100000
set_option maxHeartbeats 4000000
namespace Bk
open PySem PySem.Spec PyProof.Rows L2 PySem.NumText
open PySem.W (Frag)
/-! ## what a law draws from -/
def SrcAt (H : Hp) (p : Addr) : Prop := ∃ a x n : Int, H p = some (.lst [.int a, .int x, .int n])
theorem SrcAt.noTup {H : Hp} {p : Addr} (h : SrcAt H p) : NoTup H p := let ⟨_, _, _, e⟩ := h; noTup_lst e
theorem But.refl (p : Addr) (H : Hp) : But p H H := fun _ _ h _ => h
theorem But.trans {p : Addr} {H H1 H2 : Hp} (a : But p H H1) (b : But p H1 H2) : But p H H2 := fun c o h hc => b c o (a c o h hc) hc
theorem same_but {p : Addr} {H H' : Hp} (s : Same H H') : But p H H' := fun b o h _ => s b o h
theorem but_upd (p : Addr) (H : Hp) (o : HO) : But p H (upd H p o) := fun b u h hb => by rw [upd_ne hb]; exact h
theorem but_new {p q : Addr} {H : Hp} {o : HO} (h : H q = none) : But p H (upd H q o) := same_but (same_new h)
/-- data without lists stands, if what changed is no tuple -/
theorem sqtB {K : Frag} {p : Addr} {H H' : Hp} (nt : NoTup H p) (b : But p H H') {a : Addr} {xs : List V} (h : SqT K H a xs) : SqT K H' a xs := by
  rcases h with (h | ⟨o', h⟩) | h
  · exact .inl (.inl (b _ _ h fun z => nt.1 _ (by rw [← z]; exact h)))
  · exact .inl (.inr ⟨o', b _ _ h fun z => nt.2 _ _ (by rw [← z]; exact h)⟩)
  · exact .inr h
mutual
theorem dpB {K : Frag} {p : Addr} {H H' : Hp} (nt : NoTup H p) (b : But p H H') : ∀ {d : PyData} {v : V}, noL d = true → Dp K H v d → Dp K H' v d
  | .none, _, _, h => by cases h; exact .non
  | .bool _, _, _, h => by cases h; exact .bl _
  | .int _, _, _, h => by cases h; exact .int _
  | .str _, _, _, h => by cases h; exact .str _
  | .list ds, _, n, _ => by cases n
  | .tuple ds, _, n, h => by
    cases h with
    | tup h1 h2 => exact .tup (sqtB nt b h1) (dpsB nt b n h2)
  | .dict _, _, n, _ => by cases n
theorem dpsB {K : Frag} {p : Addr} {H H' : Hp} (nt : NoTup H p) (b : But p H H') : ∀ {ds : List PyData} {vs : List V}, noLs ds = true → DpAll K H vs ds → DpAll K H' vs ds
  | [], _, _, h => by cases h; exact .nil
  | d :: ds, _, n, h => by
    have n' : (noL d && noLs ds) = true := n
    rw [Bool.and_eq_true] at n'
    cases h with
    | cons h1 h2 => exact .cons (dpB nt b n'.1 h1) (dpsB nt b n'.2 h2)
end
theorem TownAt.but {K : Frag} {p q : Addr} {H H' : Hp} {t : TownD} (h : TownAt K H q t) (nt : NoTup H p) (b : But p H H') (hn : q ≠ p) : TownAt K H' q t := by
  obtain ⟨dx, vs, vr, vn, h1, h2, h3, h4⟩ := h.ob
  exact ⟨dx, vs, vr, vn, b _ _ h1 hn, dpB nt b (noL_S _) h2, dpB nt b (noL_R _) h3, dpB nt b (noL_N _) h4⟩
end Bk
set_option Elab.async false
set_option linter.all false
set_option maxRecDepth 100000
set_option maxHeartbeats 4000000
namespace Bk
open PySem PySem.Spec PyProof.Rows L2 PySem.NumText
open PySem.W (Frag)
/-! ## rules within a comprehension: the written part is K -/
section
variable {X : Cx} {K : Frag}
theorem op_in_seqK (h : X.K = K) : OpR X (compareOp .In) (rIn K false) := h ▸ op_in_seq
theorem op_notIn_seqK (h : X.K = K) : OpR X (compareOp .NotIn) (rIn K true) := h ▸ op_notIn_seq
theorem ix_listK (h : X.K = K) : IxR X (rIxL K) := h ▸ ix_list
theorem ix_tupK (h : X.K = K) : IxR X (rIxT K) := h ▸ ix_tup
theorem sl_listK (h : X.K = K) : SlR X (rSlL K) := h ▸ sl_list
theorem sl_tupK (h : X.K = K) : SlR X (rSlT K) := h ▸ sl_tup
theorem op_catTK (h : X.K = K) : OpR X (binaryOp .Add) (rCatT K) := h ▸ op_catT
def rLenK (K : Frag) : List V → Hp → VK → Prop := fun xs H Q => ∃ p ys, xs = [.ref p] ∧ (SqL K H p ys ∨ SqT K H p ys) ∧ Q (.int ys.length) H
theorem call_len_seqK (h : X.K = K) : CallR X (.builtin "len") (rLenK K) := h ▸ call_len_seq
end
/-! ## words -/
def one (c : Nat) : Str := ⟨#[c]⟩
def cut1 (x : Str) : Str := cutS x none (some (-1))
theorem tl_one (c : Nat) : TL.tl (one c) = [c] := rfl
theorem tl_cut1 (x : Str) : TL.tl (cut1 x) = (TL.tl x).dropLast := by
  show ((x.cps.toList.drop (HT.sIx x.length 0 none)).take (HT.sIx x.length x.length (some (-1)) - HT.sIx x.length 0 none)) = x.cps.toList.dropLast
  have e1 : HT.sIx x.length 0 none = 0 := rfl
  have e2 : HT.sIx x.length x.length (some (-1)) = x.length - 1 := by
    unfold HT.sIx
    dsimp only
    rw [if_pos (by decide)]
    omega
  rw [e1, e2, List.drop_zero, Nat.sub_zero, List.dropLast_eq_take]
  congr 1
theorem nameOk_of {x : Str} (h1 : 0 < (TL.tl x).length) (h2 : (TL.tl x).length ≤ 8) (h3 : ∀ c ∈ TL.tl x, letter c = true) : nameOk x = true := by
  have e : x.length = (TL.tl x).length := by
    show x.cps.size = x.cps.toList.length
    simp
  unfold nameOk
  rw [Bool.and_eq_true, Bool.and_eq_true, decide_eq_true_eq, decide_eq_true_eq]
  exact ⟨⟨by omega, by omega⟩, List.all_eq_true.mpr h3⟩
theorem nameOk_inv {x : Str} (h : nameOk x = true) : 0 < (TL.tl x).length ∧ (TL.tl x).length ≤ 8 ∧ ∀ c ∈ TL.tl x, letter c = true := by
  have e : x.length = (TL.tl x).length := by
    show x.cps.size = x.cps.toList.length
    simp
  have := nameOk_len h
  exact ⟨by omega, by omega, List.all_eq_true.mp (name_all h)⟩
def signsL : List Nat := List.range' 97 26
theorem signs_eq : ("abcdefghijklmnopqrstuvwxyz" : Str).cps.toList = signsL := by decide +kernel
theorem signs_letter {c : Nat} (h : c ∈ signsL) : letter c = true := by
  unfold signsL at h
  rw [List.mem_range'] at h
  obtain ⟨i, hi, rfl⟩ := h
  unfold letter
  simp only [Bool.and_eq_true, decide_eq_true_eq]
  omega
def tries (x : Str) : List Str := [x] ++ signsL.map fun c => cut1 x ++ one c
theorem tries_ok {x : Str} (h : nameOk x = true) : ∀ y ∈ tries x, nameOk y = true := by
  obtain ⟨h1, h2, h3⟩ := nameOk_inv h
  intro y hy
  rcases List.mem_append.mp hy with z | z
  · rw [List.mem_singleton.mp z]; exact h
  · obtain ⟨c, hc, rfl⟩ := List.mem_map.mp z
    have e : TL.tl (cut1 x ++ one c) = (TL.tl x).dropLast ++ [c] := by rw [TL.tl_append, tl_cut1, tl_one]
    refine nameOk_of ?_ ?_ ?_
    · rw [e]; simp
    · rw [e]; simp; omega
    · rw [e]
      intro d hd
      rcases List.mem_append.mp hd with z | z
      · exact h3 d (List.mem_of_mem_take (by rw [List.dropLast_eq_take] at z; exact z))
      · rw [List.mem_singleton.mp z]; exact signs_letter hc
theorem nodup_signs : signsL.Nodup := by decide
theorem tries_nodup (x : Str) : (signsL.map fun c => cut1 x ++ one c).Nodup := by
  refine List.Pairwise.map _ ?_ nodup_signs
  intro a b hab e
  have := congrArg TL.tl e
  rw [TL.tl_append, TL.tl_append, tl_one, tl_one] at this
  have := List.append_cancel_left this
  exact hab (by simpa using this)
theorem pigeon {α : Type} [DecidableEq α] : ∀ {l m : List α}, l.Nodup → (∀ x ∈ l, x ∈ m) → l.length ≤ m.length
  | [], _, _, _ => Nat.zero_le _
  | a :: l, m, nd, h => by
    have ha := h a List.mem_cons_self
    have h2 : ∀ x ∈ l, x ∈ m.erase a := fun x hx => by
      have hne : x ≠ a := fun z => (List.nodup_cons.mp nd).1 (by rw [← z]; exact hx)
      exact (List.mem_erase_of_ne hne).mpr (h x (List.mem_cons_of_mem _ hx))
    have := pigeon (List.nodup_cons.mp nd).2 h2
    rw [List.length_erase_of_mem ha] at this
    have : 0 < m.length := List.length_pos_of_mem ha
    simp only [List.length_cons]
    omega
theorem tries_free {x : Str} {ts : List Str} (h : ts.length ≤ 20) : (tries x).filter (fun y => !decide (y ∈ ts)) ≠ [] := by
  intro e
  have h1 : ∀ y ∈ signsL.map (fun c => cut1 x ++ one c), y ∈ ts := by
    intro y hy
    by_cases hm : y ∈ ts
    · exact hm
    · have : y ∈ (tries x).filter (fun y => !decide (y ∈ ts)) := List.mem_filter.mpr ⟨List.mem_append_right _ hy, by simp [hm]⟩
      rw [e] at this
      cases this
  have := pigeon (tries_nodup x) h1
  rw [List.length_map] at this
  have e26 : signsL.length = 26 := by decide
  omega
theorem tries_len (x : Str) : (tries x).length = 27 := by
  unfold tries
  rw [List.length_append, List.length_map]
  show 1 + signsL.length = 27
  decide
def keptW : List Str := ["count", "bikes", "left", "came", "rides", "van", "way", "road", "stand", "slots", "from", "to", "is"]
def keptW2 : List Str := ["least", "most", "all", "vans"]
theorem kept_ok : ∀ x ∈ keptW ++ keptW2, nameOk x = true := by
  have : ((keptW ++ keptW2).all fun x => nameOk x) = true := by decide +kernel
  exact List.all_eq_true.mp this
end Bk
namespace Bk
open PySem PySem.Spec PyProof.Rows L2 PySem.NumText
theorem join_ones : ∀ cs : List Nat, TL.joinL [] (cs.map fun c => [c]) = cs
  | [] => rfl
  | [c] => rfl
  | c :: d :: r => by
    show [c] ++ ([] ++ TL.joinL [] ((d :: r).map fun c => [c])) = c :: d :: r
    rw [join_ones (d :: r)]
    rfl
theorem tl_ones (cs : List Nat) : TL.tl (Txt.join "" (cs.map one)) = cs := by
  rw [TL.join_eq, TL.tl_join, List.map_map]
  exact join_ones cs
theorem ones_len (cs : List Nat) : ((cs.map one).map (·.length)).sum = cs.length := by
  induction cs with
  | nil => rfl
  | cons c r ih =>
    rw [List.map_cons, List.map_cons, List.sum_cons, ih, List.length_cons]
    show 1 + r.length = r.length + 1
    omega
end Bk
namespace Bk
open PySem PySem.Spec PyProof.Rows L2 PySem.NumText
theorem tYes_of {σ : L2.St} {H : Hp} {P S : Hp → Prop} (h : P H) : tYes σ H (fun b H3 => if b = true then P H3 else S H3) := by
  show if true = true then P H else S H
  rw [if_pos rfl]
  exact h
end Bk
set_option Elab.async false
set_option linter.all false
set_option maxRecDepth 100000
set_option maxHeartbeats 4000000
namespace Bk
open PySem PySem.Spec PyProof.Rows L2 PySem.NumText
open PySem.W (Frag)
/-! ## plans -/
def encI (q : Nat × Nat) : PyData := .tuple [.int (q.1 : Nat), .int (q.2 : Nat)]
def encL (q : Nat × Nat × Int) : PyData := .tuple [.int (q.1 : Nat), .int (q.2.1 : Nat), .int q.2.2]
structure Plan where
  slots : Int
  stands : List (Str × Int)
  lanes : List (Nat × Nat × Int)
def encPlan (q : Plan) : PyData := .tuple [.int q.slots, encSs q.stands, .tuple (q.lanes.map encL)]
structure PlanOk (hours docks size lanes : Int) (q : Plan) : Prop where
  s1 : 1 ≤ q.slots
  s2 : q.slots ≤ hours
  ne : q.stands ≠ []
  few : (q.stands.length : Int) ≤ docks
  each : ∀ s ∈ q.stands, nameOk s.1 = true ∧ 1 ≤ s.2 ∧ s.2 ≤ size
  nd : (q.stands.map (·.1)).Nodup
  lfew : (q.lanes.length : Int) ≤ lanes
  lin : ∀ r ∈ q.lanes, r.1 < q.stands.length ∧ r.2.1 < q.stands.length ∧ 1 ≤ r.2.2 ∧ r.2.2 ≤ 3
  lnd : (q.lanes.map fun r => (r.1, r.2.1)).Nodup
theorem noL_mS (l : List (Str × Int)) : noLs (l.map encS) = true := noL_S l
theorem noL_mI (l : List (Nat × Nat)) : noLs (l.map encI) = true := noLs_of fun d hd => by
  obtain ⟨s, _, rfl⟩ := List.mem_map.mp hd
  rfl
theorem noL_mL (l : List (Nat × Nat × Int)) : noLs (l.map encL) = true := noLs_of fun d hd => by
  obtain ⟨s, _, rfl⟩ := List.mem_map.mp hd
  rfl
theorem noL_plan (q : Plan) : noL (encPlan q) = true := by
  show (true && (noL (encSs q.stands) && (noLs (q.lanes.map encL) && true))) = true
  rw [noL_S, noL_mL]
  rfl
/-- the lists of a plan that is being made -/
structure PlA (H0 : Hp) (p W R P F : Addr) : Prop where
  pW : p ≠ W
  pR : p ≠ R
  pP : p ≠ P
  pF : p ≠ F
  WR : W ≠ R
  WP : W ≠ P
  WF : W ≠ F
  RP : R ≠ P
  RF : R ≠ F
  PF : P ≠ F
  w0 : H0 W = none
  r0 : H0 R = none
  p0 : H0 P = none
  f0 : H0 F = none
structure PlI (K : Frag) (H0 H : Hp) (p W R P F : Addr) (ns : List Str) (l : List (Str × Int)) (ps : List (Nat × Nat)) (ls : List (Nat × Nat × Int)) : Prop where
  src : SrcAt H p
  but : But p H0 H
  w : H W = some (.lst (ns.map V.str))
  r : ∃ ys, H R = some (.lst ys) ∧ DpAll K H ys (l.map encS)
  pr : ∃ zs, H P = some (.lst zs) ∧ DpAll K H zs (ps.map encI)
  f : ∃ fs, H F = some (.lst fs) ∧ DpAll K H fs (ls.map encL)
section
variable {K : Frag} {H0 H H' : Hp} {p W R P F : Addr} {ns : List Str} {l : List (Str × Int)} {ps : List (Nat × Nat)} {ls : List (Nat × Nat × Int)}
theorem PlI.same (I : PlI K H0 H p W R P F ns l ps ls) (s : Same H H') : PlI K H0 H' p W R P F ns l ps ls := by
  obtain ⟨⟨a, x, n, e⟩, b, w, ⟨ys, r1, r2⟩, ⟨zs, p1, p2⟩, ⟨fs, f1, f2⟩⟩ := I
  exact ⟨⟨a, x, n, s _ _ e⟩, b.trans (same_but s), s _ _ w, ⟨ys, s _ _ r1, dpsS s r2⟩, ⟨zs, s _ _ p1, dpsS s p2⟩, ⟨fs, s _ _ f1, dpsS s f2⟩⟩
theorem PlI.draw (I : PlI K H0 H p W R P F ns l ps ls) (A : PlA H0 p W R P F) (b' : But p H H') (h : SrcAt H' p) : PlI K H0 H' p W R P F ns l ps ls := by
  have nt := I.src.noTup
  obtain ⟨_, b, w, ⟨ys, r1, r2⟩, ⟨zs, p1, p2⟩, ⟨fs, f1, f2⟩⟩ := I
  exact ⟨h, b.trans b', b' _ _ w A.pW.symm, ⟨ys, b' _ _ r1 A.pR.symm, dpsB nt b' (noL_mS _) r2⟩, ⟨zs, b' _ _ p1 A.pP.symm, dpsB nt b' (noL_mI _) p2⟩, ⟨fs, b' _ _ f1 A.pF.symm, dpsB nt b' (noL_mL _) f2⟩⟩
theorem PlI.setW (I : PlI K H0 H p W R P F ns l ps ls) (A : PlA H0 p W R P F) (ns' : List Str) : PlI K H0 (upd H W (.lst (ns'.map V.str))) p W R P F ns' l ps ls := by
  have nt := noTup_lst I.w
  obtain ⟨⟨a, x, n, e⟩, b, w, ⟨ys, r1, r2⟩, ⟨zs, p1, p2⟩, ⟨fs, f1, f2⟩⟩ := I
  refine ⟨⟨a, x, n, by rw [upd_ne A.pW]; exact e⟩, fun c o hc hn => ?_, upd_same, ⟨ys, by rw [upd_ne A.WR.symm]; exact r1, dpsV nt (noL_mS _) r2⟩, ⟨zs, by rw [upd_ne A.WP.symm]; exact p1, dpsV nt (noL_mI _) p2⟩, ⟨fs, by rw [upd_ne A.WF.symm]; exact f1, dpsV nt (noL_mL _) f2⟩⟩
  rw [upd_ne (ne_of_none hc A.w0)]
  exact b c o hc hn
theorem PlI.setR (I : PlI K H0 H p W R P F ns l ps ls) (A : PlA H0 p W R P F) {ys : List V} (hy : H R = some (.lst ys)) (dy : DpAll K H ys (l.map encS)) {v : V} {s : Str × Int} (dv : Dp K H v (encS s)) :
    PlI K H0 (upd H R (.lst (ys ++ [v]))) p W R P F ns (l ++ [s]) ps ls := by
  have nt := noTup_lst hy
  obtain ⟨⟨a, x, n, e⟩, b, w, ⟨_, _, _⟩, ⟨zs, p1, p2⟩, ⟨fs, f1, f2⟩⟩ := I
  refine ⟨⟨a, x, n, by rw [upd_ne A.pR]; exact e⟩, fun c o hc hn => ?_, by rw [upd_ne A.WR]; exact w, ⟨_, upd_same, ?_⟩, ⟨zs, by rw [upd_ne A.RP.symm]; exact p1, dpsV nt (noL_mI _) p2⟩, ⟨fs, by rw [upd_ne A.RF.symm]; exact f1, dpsV nt (noL_mL _) f2⟩⟩
  · rw [upd_ne (ne_of_none hc A.r0)]
    exact b c o hc hn
  · rw [List.map_append]
    exact dpsApp (dpsV nt (noL_mS _) dy) (.cons (dpV nt rfl dv) .nil)
theorem PlI.setP (I : PlI K H0 H p W R P F ns l ps ls) (A : PlA H0 p W R P F) {zs : List V} {ps' : List (Nat × Nat)} (dz : DpAll K H zs (ps'.map encI)) :
    PlI K H0 (upd H P (.lst zs)) p W R P F ns l ps' ls := by
  obtain ⟨⟨a, x, n, e⟩, b, w, ⟨ys, r1, r2⟩, ⟨zs0, p1, p2⟩, ⟨fs, f1, f2⟩⟩ := I
  have nt := noTup_lst p1
  refine ⟨⟨a, x, n, by rw [upd_ne A.pP]; exact e⟩, fun c o hc hn => ?_, by rw [upd_ne A.WP]; exact w, ⟨ys, by rw [upd_ne A.RP]; exact r1, dpsV nt (noL_mS _) r2⟩, ⟨_, upd_same, dpsV nt (noL_mI _) dz⟩, ⟨fs, by rw [upd_ne A.PF.symm]; exact f1, dpsV nt (noL_mL _) f2⟩⟩
  rw [upd_ne (ne_of_none hc A.p0)]
  exact b c o hc hn
theorem PlI.setF (I : PlI K H0 H p W R P F ns l ps ls) (A : PlA H0 p W R P F) {fs : List V} (hf : H F = some (.lst fs)) (df : DpAll K H fs (ls.map encL)) {v : V} {s : Nat × Nat × Int} (dv : Dp K H v (encL s)) :
    PlI K H0 (upd H F (.lst (fs ++ [v]))) p W R P F ns l ps (ls ++ [s]) := by
  have nt := noTup_lst hf
  obtain ⟨⟨a, x, n, e⟩, b, w, ⟨ys, r1, r2⟩, ⟨zs, p1, p2⟩, ⟨_, _, _⟩⟩ := I
  refine ⟨⟨a, x, n, by rw [upd_ne A.pF]; exact e⟩, fun c o hc hn => ?_, by rw [upd_ne A.WF]; exact w, ⟨ys, by rw [upd_ne A.RF]; exact r1, dpsV nt (noL_mS _) r2⟩, ⟨zs, by rw [upd_ne A.PF]; exact p1, dpsV nt (noL_mI _) p2⟩, ⟨_, upd_same, ?_⟩⟩
  · rw [upd_ne (ne_of_none hc A.f0)]
    exact b c o hc hn
  · rw [List.map_append]
    exact dpsApp (dpsV nt (noL_mL _) df) (.cons (dpV nt rfl dv) .nil)
end
theorem dpsErase {K : Frag} {H : Hp} : ∀ {vs : List V} {ds : List PyData} (i : Nat), DpAll K H vs ds → DpAll K H (vs.eraseIdx i) (ds.eraseIdx i)
  | [], _, _, h => by cases h; exact .nil
  | _ :: _, _, 0, h => by
    cases h with
    | cons h1 h2 => exact h2
  | _ :: _, _, i + 1, h => by
    cases h with
    | cons h1 h2 => exact .cons h1 (dpsErase i h2)
theorem lane_at {K : Frag} {H : Hp} {xs : List V} {l : List (Nat × Nat)} {i : Nat} {x : V} (h : DpAll K H xs (l.map encI)) (hx : xs[i]? = some x) :
    ∃ s b, l[i]? = some s ∧ x = .ref b ∧ SqT K H b [.int (s.1 : Nat), .int (s.2 : Nat)] := by
  obtain ⟨d, hd, hp⟩ := dpsGet h hx
  rw [List.getElem?_map] at hd
  cases e : l[i]? with
  | none => rw [e] at hd; cases hd
  | some s =>
    rw [e] at hd
    cases hd
    obtain ⟨b, ys, rfl, h1, h2⟩ := dp_tup hp
    obtain ⟨u, v, rfl, h3, h4⟩ := dps2 h2
    rw [dp_int h3, dp_int h4] at h1
    exact ⟨s, b, rfl, rfl, h1⟩
theorem seqIx {z : Int} {n : Nat} (h0 : 0 ≤ z) (h1 : z < n) : seqIndex? z n = some z.toNat := by
  unfold seqIndex?
  dsimp only
  have e : (if z < 0 then z + (n : Int) else z) = z := if_neg (by omega)
  rw [e, decide_eq_true h0, decide_eq_true h1]
  rfl
end Bk
namespace Bk
open PySem PySem.Spec PyProof.Rows L2 PySem.NumText
open PySem.W (Frag)
theorem fm_below {α : Type} (n : Nat) (f : Nat → α) : ∀ l : List Nat, (∀ j ∈ l, j < n) → l.filterMap (fun j => if j < n then some (f j) else none) = l.map f
  | [], _ => rfl
  | j :: l, h => by
    rw [List.filterMap_cons, if_pos (h j List.mem_cons_self), List.map_cons, fm_below n f l fun k hk => h k (List.mem_cons_of_mem _ hk)]
theorem fm_range {α : Type} (n : Nat) (f : Nat → α) : (List.range n).filterMap (fun j => if j < n then some (f j) else none) = (List.range n).map f :=
  fm_below n f _ fun j hj => List.mem_range.mp hj
theorem dp_int0 {K : Frag} {H : Hp} (i : Nat) : Dp K H (.int (0 + (i : Int))) (.int ((i : Nat) : Int)) := by
  rw [Int.zero_add]
  exact .int _
end Bk
namespace Bk
open PySem PySem.Spec PyProof.Rows L2 PySem.NumText
open PySem.W (Frag)
theorem erase_map {α β : Type} (f : α → β) : ∀ (l : List α) (i : Nat), (l.map f).eraseIdx i = (l.eraseIdx i).map f
  | [], _ => rfl
  | _ :: _, 0 => rfl
  | a :: l, i + 1 => by
    rw [List.map_cons, List.eraseIdx_cons_succ, List.eraseIdx_cons_succ, List.map_cons, erase_map f l i]
def prL (r : Nat × Nat × Int) : Nat × Nat := (r.1, r.2.1)
theorem erase_perm {α : Type} : ∀ {l : List α} {k : Nat} {r : α}, l[k]? = some r → (r :: l.eraseIdx k).Perm l
  | [], _, _, h => by cases h
  | a :: l, 0, r, h => by
    cases h
    exact List.Perm.refl _
  | a :: l, k + 1, r, h => by
    have ih := erase_perm (l := l) (k := k) (r := r) (by simpa using h)
    rw [List.eraseIdx_cons_succ]
    exact (List.Perm.swap a r _).trans (List.Perm.cons a ih)
theorem erase_nodup {xs : List (Nat × Nat)} {ps : List (Nat × Nat)} {k : Nat} {r : Nat × Nat} (h : (xs ++ ps).Nodup) (hk : ps[k]? = some r) : (xs ++ [r] ++ ps.eraseIdx k).Nodup := by
  have pm : (r :: ps.eraseIdx k).Perm ps := erase_perm hk
  have pm2 : (xs ++ [r] ++ ps.eraseIdx k).Perm (xs ++ ps) := by
    rw [List.append_assoc]
    exact List.Perm.append_left xs pm
  exact pm2.nodup_iff.mpr h
theorem mem_erase {α : Type} {ps : List α} {k : Nat} {r : α} (h : r ∈ ps.eraseIdx k) : r ∈ ps := List.mem_of_mem_eraseIdx h
end Bk
set_option Elab.async false
set_option linter.all false
set_option maxRecDepth 100000
set_option maxHeartbeats 4000000
namespace Bk
open PySem PySem.Spec PyProof.Rows L2 PySem.NumText
open PySem.W (Frag)
/-! ## the town of a plan -/
def nameAt (l : List (Str × Int)) (i : Nat) : Str := (l.getD i ("", 0)).1
def named (q : Plan) : List (Str × Str × Int) := q.lanes.map fun r => (nameAt q.stands r.1, nameAt q.stands r.2.1, r.2.2)
def townOf (q : Plan) : TownD := ⟨q.slots, q.stands, named q⟩
theorem nameAt_get {l : List (Str × Int)} {i : Nat} (h : i < l.length) : (l.map (·.1))[i]? = some (nameAt l i) := by
  rw [List.getElem?_map, List.getElem?_eq_getElem h]
  unfold nameAt
  rw [List.getD_eq_getElem?_getD, List.getElem?_eq_getElem h]
  rfl
theorem nameAt_mem {l : List (Str × Int)} {i : Nat} (h : i < l.length) : nameAt l i ∈ l.map (·.1) := List.mem_of_getElem? (nameAt_get h)
theorem nameAt_inj {l : List (Str × Int)} (nd : (l.map (·.1)).Nodup) {i j : Nat} (hi : i < l.length) (hj : j < l.length) (e : nameAt l i = nameAt l j) : i = j :=
  nd_ix nd (nameAt_get hi) (by rw [e]; exact nameAt_get hj)
theorem map_nodup {α β : Type} {f : α → β} : ∀ {l : List α}, l.Nodup → (∀ a ∈ l, ∀ b ∈ l, f a = f b → a = b) → (l.map f).Nodup
  | [], _, _ => List.nodup_nil
  | a :: l, nd, h => by
    rw [List.map_cons, List.nodup_cons]
    refine ⟨fun hm => ?_, map_nodup (List.nodup_cons.mp nd).2 fun x hx y hy => h x (List.mem_cons_of_mem _ hx) y (List.mem_cons_of_mem _ hy)⟩
    obtain ⟨b, hb, e⟩ := List.mem_map.mp hm
    have := h b (List.mem_cons_of_mem _ hb) a List.mem_cons_self e
    rw [this] at hb
    exact (List.nodup_cons.mp nd).1 hb
theorem townOf_ok {hours docks size lanes : Int} {q : Plan} (ok : PlanOk hours docks size lanes q) (h1 : hours ≤ 8) (h2 : docks ≤ 5) (h3 : size ≤ 40) (h4 : lanes ≤ 12) : (townOf q).Ok := by
  have := ok.s2
  have := ok.few
  have := ok.lfew
  refine ⟨ok.s1, by show q.slots ≤ 8; omega, ⟨ok.ne, by show q.stands.length ≤ 5; omega, fun s hs => ?_, ok.nd⟩, ⟨?_, ?_, ?_⟩⟩
  · have := ok.each s hs
    exact ⟨this.1, this.2.1, by omega⟩
  · show (named q).length ≤ 12
    unfold named
    rw [List.length_map]
    omega
  · intro r hr
    obtain ⟨u, hu, rfl⟩ := List.mem_map.mp hr
    have := ok.lin u hu
    exact ⟨nameAt_mem this.1, nameAt_mem this.2.1, this.2.2⟩
  · show ((named q).map fun r => (r.1, r.2.1)).Nodup
    unfold named
    rw [List.map_map]
    have e : (q.lanes.map ((fun r : Str × Str × Int => (r.1, r.2.1)) ∘ fun r : Nat × Nat × Int => (nameAt q.stands r.1, nameAt q.stands r.2.1, r.2.2))) = (q.lanes.map fun r => (r.1, r.2.1)).map fun u => (nameAt q.stands u.1, nameAt q.stands u.2) := by
      rw [List.map_map]
      rfl
    rw [e]
    refine map_nodup ok.lnd fun a ha b hb eab => ?_
    obtain ⟨u, hu, rfl⟩ := List.mem_map.mp ha
    obtain ⟨w, hw, rfl⟩ := List.mem_map.mp hb
    have hu' := ok.lin u hu
    have hw' := ok.lin w hw
    injection eab with e1 e2
    rw [Prod.mk.injEq]
    exact ⟨nameAt_inj ok.nd hu'.1 hw'.1 e1, nameAt_inj ok.nd hu'.2.1 hw'.2.1 e2⟩
theorem ltri_at {K : Frag} {H : Hp} {xs : List V} {l : List (Nat × Nat × Int)} {i : Nat} {x : V} (h : DpAll K H xs (l.map encL)) (hx : xs[i]? = some x) :
    ∃ s b, l[i]? = some s ∧ x = .ref b ∧ SqT K H b [.int (s.1 : Nat), .int (s.2.1 : Nat), .int s.2.2] := by
  obtain ⟨d, hd, hp⟩ := dpsGet h hx
  rw [List.getElem?_map] at hd
  cases e : l[i]? with
  | none => rw [e] at hd; cases hd
  | some s =>
    rw [e] at hd
    cases hd
    obtain ⟨b, ys, rfl, h1, h2⟩ := dp_tup hp
    obtain ⟨u, v, w, rfl, h3, h4, h5⟩ := dps3 h2
    rw [dp_int h3, dp_int h4, dp_int h5] at h1
    exact ⟨s, b, rfl, rfl, h1⟩
/-- the name at a place of encoded stands -/
theorem stand_ix {K : Frag} {H : Hp} {xs : List V} {l : List (Str × Int)} {i : Nat} (h : DpAll K H xs (l.map encS)) (hi : i < l.length) :
    ∃ b z, xs[i]? = some (.ref b) ∧ SqT K H b [.str (nameAt l i), .int z] := by
  have hl : xs.length = l.length := by rw [dpsLen h, List.length_map]
  obtain ⟨s, b, e1, e2, e3⟩ := stand_at (i := i) h (List.getElem?_eq_getElem (by omega))
  have en : s.1 = nameAt l i := by
    have := nameAt_get hi
    rw [List.getElem?_map, e1] at this
    exact Option.some.inj this
  rw [en] at e3
  exact ⟨b, s.2, by rw [List.getElem?_eq_getElem (by omega), e2], e3⟩
theorem dp_plan {K : Frag} {H : Hp} {v : V} {q : Plan} (h : Dp K H v (encPlan q)) : ∃ a a1 a2 xs ls, v = .ref a ∧ SqT K H a [.int q.slots, .ref a1, .ref a2] ∧ SqT K H a1 xs ∧ DpAll K H xs (q.stands.map encS) ∧ SqT K H a2 ls ∧ DpAll K H ls (q.lanes.map encL) := by
  obtain ⟨a, ys, rfl, h1, h2⟩ := dp_tup h
  obtain ⟨u, v, w, rfl, h3, h4, h5⟩ := dps3 h2
  obtain ⟨a1, xs, rfl, h6, h7⟩ := dp_tup h4
  obtain ⟨a2, ls, rfl, h8, h9⟩ := dp_tup h5
  rw [dp_int h3] at h1
  exact ⟨a, a1, a2, xs, ls, rfl, h1, h6, h7, h8, h9⟩
end Bk
set_option Elab.async false
set_option linter.all false
set_option maxRecDepth 100000
set_option maxHeartbeats 4000000
namespace Bk
open PySem PySem.Spec PyProof.Rows L2 PySem.NumText
open PySem.W (Frag)
def neB (C : Str) (K : Frag) : Bool := He.eqO (PySem.W.findIn K (.ref (He.ga K C)) "__ne__") (some (some (.builtin "object.__ne__")))
theorem insB_mro {C : Str} {K : Frag} (h : insB C K = true) : PySem.W.mroIn K (He.ga K C) (.type "object") = some true := by
  obtain ⟨_, h⟩ := He.ba h
  obtain ⟨_, h⟩ := He.ba h
  exact of_decide_eq_true (He.ba h).2
theorem first_self (K : Frag) (C : Addr) : PySem.W.notFirst K C (.ref C) = true := by
  unfold PySem.W.notFirst
  simp
/-! ## the end: the law's own call -/
section
variable {P : Program} {w : World} {K : Frag} {mg mb : Str → Option Value} {CX : CXT} {k : Nat} {fa a : Addr} {fd : FuncData} {x : Str} {sp : Sp} {s₁ : Shared} {vs : List Value} {ns : List Int}
theorem callG_core (KX : K.In s₁.heap) (hns : s₁.heap.Ns mainGlobals mg) (hb : s₁.heap.Ns builtinsNs mb) (hbb : ∀ x : Str, x ≠ "__name__" → mb x = bootBuiltins x) (hlim : s₁.heap.NoLimit) (hg : s₁.gens = #[])
    (ha : s₁.heap.get? a = some { cls := .type "list", data := .seq vs.toArray }) (hr : Room k callerA)
    (F : ∀ base : Heap, K.In base → base.Ns mainGlobals mg → FnG P w K mg base CX k fa fd [x] sp) (hbind : ∀ (s : Shared) (u : Value), BindsTo s fd ⟨[u], []⟩ [(x, u)])
    (hCX : ∀ H e s', CX [] H s₁ (fun _ _ _ => False) e s' → False)
    (H : Hp) (hO : Only H) (hsp : sp [.ref a] H (fun v _ => v = .bl true) fun _ _ _ => False) (hok : HOk P w H s₁.heap) (hA : ∀ b, H b ≠ none → b = a) (hK : H a ≠ none → K.lookup a = none) :
    codeAny (model P w) callerA (.call (.ref fa) ⟨[.ref a], []⟩) (fun r s' => r = .ok (.ret (.bool true)) ∧ OldK s₁.heap s'.heap ∧ s'.os = s₁.os ∧ AllBare s'.gens) s₁ := by
  have atA : ∀ {b : Addr} {u : HO}, H b = some u → b = a := fun {b u} q => hA b fun z => by rw [q] at z; cases z
  have noA : ∀ {b : Addr} {o : Obj} {es : Array DictEntry} {ep : Nat}, s₁.heap.get? b = some o → o.data = .dict es ep → H b = none := by
    intro b o es ep e d
    match q : H b with
    | none => rfl
    | some u =>
      rw [atA q, ha] at e
      cases e
      cases d
  have nsK : ∀ {b : Addr} {m : Str → Option Value}, s₁.heap.Ns b m → (hidT s₁.heap H).Ns b m := by
    rintro b m ⟨o, es, ep, e, d, r⟩
    exact ⟨o, es, ep, hidT_get e (noA e d), d, r⟩
  have hKb : K.In (hidT s₁.heap H) := by
    intro b o e
    refine hidT_get (KX b o e) ?_
    match q : H b with
    | none => rfl
    | some u =>
      have eb := atA q
      rw [eb] at q e
      rw [hK (fun z => by rw [q] at z; cases z)] at e
      cases e
  obtain ⟨mc, l1, l2⟩ := hlim
  have hM : Mod K mg (hidT s₁.heap H) := ⟨hKb, nsK hns, ⟨mb, nsK hb, hbb⟩, ⟨mc, nsK l1, l2⟩⟩
  have none_in : ∀ b : Addr, b ∉ ([] : List Addr) := fun b z => by cases z
  have e0 : Env0 P w K mg (hidT s₁.heap H) callerA [] s₁ H :=
    ⟨rfl, hM, fun b o e => of_hidT e, Nat.le_of_eq (hidT_size _ _), trivial, fun b hb => absurd hb (none_in b), hok, .of_eq hg⟩
  have go := (F _ hKb (nsK hns)).run callerA [] s₁ H ⟨[.ref a], []⟩ [.ref a] [.ref a] _ _ rfl hr e0 (hbind s₁ (.ref a)) (.cons rfl .nil) hsp
  refine codeAny_mono go ?_
  intro r s' h
  match r, h with
  | .error e, h => exact (hCX H e s' h).elim
  | .ok .next, h => exact h.elim
  | .ok .brk, h => exact h.elim
  | .ok .cont, h => exact h.elim
  | .ok (.ret u), h =>
    obtain ⟨v, H', os, bare, un, hok', r', q⟩ := h
    obtain rfl : v = .bl true := q
    obtain rfl : u = Value.bool true := r'
    refine ⟨rfl, OldK.of_keep ?_, os, bare⟩
    intro b o e
    match q : H b with
    | none => exact un.keep b o e q (none_in b) (none_in b)
    | some u =>
      rcases hO b with z | ⟨ob, xs, z⟩
      · rw [q] at z
        cases z
      · obtain ⟨f1, _⟩ := hok b _ z
        obtain ⟨f2, _⟩ := hok' b _ (un.frzs b ob _ z)
        rw [e] at f1
        cases f1
        exact f2
theorem law_callG (KX : K.In s₁.heap) (hns : s₁.heap.Ns mainGlobals mg) (hb : s₁.heap.Ns builtinsNs mb) (hbb : ∀ x : Str, x ≠ "__name__" → mb x = bootBuiltins x) (hlim : s₁.heap.NoLimit) (hg : s₁.gens = #[])
    (ha : s₁.heap.get? a = some { cls := .type "list", data := .seq vs.toArray }) (hi : IntsAre vs ns) (hl : ns.length ≤ sizeLine) (hr : Room k callerA)
    (F : ∀ base : Heap, K.In base → base.Ns mainGlobals mg → FnG P w K mg base CX k fa fd [x] sp) (hbind : ∀ (s : Shared) (u : Value), BindsTo s fd ⟨[u], []⟩ [(x, u)])
    (hsp : ∀ H : Hp, Only H → SqL K H a (ns.map V.int) → sp [.ref a] H (fun v _ => v = .bl true) fun _ _ _ => False)
    (hCX : ∀ H e s', CX [] H s₁ (fun _ _ _ => False) e s' → False) :
    codeAny (model P w) callerA (.call (.ref fa) ⟨[.ref a], []⟩) (fun r s' => r = .ok (.ret (.bool true)) ∧ OldK s₁.heap s'.heap ∧ s'.os = s₁.os ∧ AllBare s'.gens) s₁ := by
  have rv := vals_ints hi
  have lenV := hi.length
  match hk : K.lookup a with
  | some o =>
    have e := KX a o hk
    rw [ha] at e
    cases e
    have only : Only (fun _ => none) := fun _ => .inl rfl
    refine callG_core KX hns hb hbb hlim hg ha hr F hbind hCX (fun _ => none) only (hsp _ only ?_) (fun b u z => nomatch z) (fun b z => absurd rfl z) (fun z => absurd rfl z)
    refine .inr ⟨_, vs.toArray, _, hk, rfl, rfl, rfl, ?_, by simpa using rv⟩
    rw [List.size_toArray, lenV]
    exact hl
  | none =>
    have only : Only (fun b => if b = a then some (.frz { cls := .type "list", data := .seq vs.toArray } (.lst (ns.map V.int))) else none) := by
      intro b
      by_cases hb : b = a
      · exact .inr ⟨_, _, if_pos hb⟩
      · exact .inl (if_neg hb)
    refine callG_core KX hns hb hbb hlim hg ha hr F hbind hCX _ only (hsp _ only (.inl (.inr ⟨{ cls := .type "list", data := .seq vs.toArray }, if_pos rfl⟩))) ?_ ?_ (fun _ => hk)
    · intro b u z
      by_cases hb : b = a
      · have z' := (if_pos hb).symm.trans z
        cases z'
        subst hb
        exact ⟨ha, by rw [List.length_map]; exact hl, vs, _, rv, ha⟩
      · have z' := (if_neg hb).symm.trans z
        cases z'
    · intro b z
      by_cases hb : b = a
      · exact hb
      · exact absurd (if_neg hb) z
end
theorem walk_ofG {l : PySem.W.OpenLaw} {n k : Nat} {q : Program} {loose : List Str} {XP : (Str → Option Value) → Heap → Prop} {YP : World → Heap → Prop} {d : DefRec} {x : Str}
    (hn : l.most = some n) (hn2 : n ≤ sizeLine) (hdf : d.params.defaults = []) (hr : Room k callerA)
    (F : ∀ (w : World) (mg : Str → Option Value) (fa : Addr) (h : Heap), YP w h → h.Ns mainGlobals mg → mg d.name = some (.ref fa) →
      ∃ (K : Frag) (fd : FuncData) (sp : Sp), K.In h ∧ (∀ (s : Shared) (u : Value), BindsTo s fd ⟨[u], []⟩ [(x, u)]) ∧
        (∀ (H : Hp) (a : Addr) (ns : List Int), ns.length ≤ n → Only H → SqL K H a (ns.map V.int) → sp [.ref a] H (fun v _ => v = .bl true) fun _ _ _ => False) ∧
        ∀ base : Heap, K.In base → base.Ns mainGlobals mg → FnG l.prog w K mg base (L2.CX l.prog w) k fa fd [x] sp) :
    PySem.W.WalkO q loose XP YP l.row.toRowW d [] (fun f vs => PySem.call f vs) := by
  refine Att.attach_call hn hdf ?_
  intro w s₀ s₁ mg mb fa o pm cd doc a vs ns G Y ho hd hcd hmg hobj hints hlen hg
  obtain ⟨K, fd, sp, KX, hb, hsp, hF⟩ := F w mg fa _ Y G.T.g hmg
  refine law_callG KX G.T.g G.T.b G.T.builtins G.T.nolimit hg hobj hints (Nat.le_trans hlen hn2) hr hF hb (fun H hO hS => hsp H a ns hlen hO hS) ?_
  intro H e s' h
  obtain ⟨_, _, _, _, _, _, _, _, _, _, _, _, z⟩ := h
  exact z
end Bk
set_option Elab.async false
set_option linter.all false
set_option maxRecDepth 100000
set_option maxHeartbeats 4000000
namespace Bk
open PySem PySem.Spec PyProof.Rows L2 PySem.NumText
open PySem.W (Frag)
/-! ## data that is shown in few signs -/
def lowT (x : Str) : Prop := ∀ c ∈ x.cps.toList, c < 256
theorem low_app {x y : Str} (h : lowT x) (k : lowT y) : lowT (x ++ y) := by
  intro c hc
  have e : (x ++ y).cps.toList = x.cps.toList ++ y.cps.toList := TL.tl_append x y
  rw [e, List.mem_append] at hc
  exact hc.elim (h c) (k c)
theorem low_lit {x : Str} (h : x.cps.toList.all (fun c => decide (c < 256)) = true) : lowT x := fun c hc => of_decide_eq_true (List.all_eq_true.mp h c hc)
theorem low_join {y : Str} (hy : lowT y) : ∀ {ws : List Str}, (∀ w ∈ ws, lowT w) → lowT (Str.join y ws)
  | [], _ => low_lit (x := Str.empty) (by decide +kernel)
  | [a], h => h a List.mem_cons_self
  | a :: b :: r, h => by
    have e : Str.join y (a :: b :: r) = a ++ y ++ Str.join y (b :: r) := rfl
    rw [e]
    exact low_app (low_app (h a List.mem_cons_self) hy) (low_join hy fun w hw => h w (List.mem_cons_of_mem _ hw))
theorem low_name {x : Str} (h : nameOk x = true) : lowT x := fun c hc => by
  have := List.all_eq_true.mp (name_all h) c hc
  unfold letter at this
  simp only [Bool.and_eq_true, decide_eq_true_eq] at this
  omega
theorem low_num {z : Int} (h0 : 0 ≤ z) (h1 : z ≤ 40) : lowT (num z) := fun c hc => by
  have := List.all_eq_true.mp (num_le h0 h1).2.2 c hc
  unfold digit at this
  simp only [Bool.and_eq_true, decide_eq_true_eq] at this
  omega
theorem low_town {t : TownD} (ok : t.Ok) : lowT (townText t) := by
  have z1 := ok.s1
  have z2 := ok.s2
  unfold townText
  rw [TL.join_eq]
  refine low_join (low_lit (by decide +kernel)) fun w hw => ?_
  unfold linesOf at hw
  rw [List.mem_append, List.mem_append] at hw
  rcases hw with (hw | hw) | hw
  · rw [List.mem_singleton.mp hw]
    exact low_app (low_lit (by decide +kernel)) (low_num (by omega) (by omega))
  · obtain ⟨s, hs, rfl⟩ := List.mem_map.mp hw
    have := ok.st.each s hs
    exact low_app (low_app (low_app (low_lit (by decide +kernel)) (low_name this.1)) (low_lit (by decide +kernel))) (low_num (by omega) this.2.2)
  · obtain ⟨s, hs, rfl⟩ := List.mem_map.mp hw
    have := ok.rds s hs
    exact low_app (low_app (low_app (low_app (low_app (low_lit (by decide +kernel)) (low_name this.1)) (low_lit (by decide +kernel))) (low_name this.2.1)) (low_lit (by decide +kernel))) (low_num (by omega) (by omega))
/-- shown in few signs: depth n, weight w -/
structure Few (n w : Nat) (d : PyData) : Prop where
  s : d.showable = true
  l : d.leavesShort 8 = true
  w : d.weight ≤ w
  d : d.depth ≤ n
theorem Few.str {n m : Nat} {x : Str} (h : lowT x) (hl : x.length ≤ m) : Few n m (.str x) := by
  refine ⟨rfl, ?_, hl, Nat.zero_le _⟩
  show (x.cps.toList.all fun c => decide (c < 16 ^ 8)) = true
  rw [List.all_eq_true]
  intro c hc
  have := h c hc
  exact decide_eq_true (by omega)
theorem num_fit : ∀ n : Fin 41, (PyData.int ((n.val : Nat) : Int)).showable = true ∧ (PyData.int ((n.val : Nat) : Int)).leavesShort 8 = true ∧ (PyData.int ((n.val : Nat) : Int)).weight ≤ 6 := by decide +kernel
theorem Few.int {n : Nat} {z : Int} (h0 : 0 ≤ z) (h1 : z ≤ 40) : Few n 6 (.int z) := by
  have h := num_fit ⟨z.toNat, by omega⟩
  have e : ((z.toNat : Nat) : Int) = z := Int.toNat_of_nonneg h0
  simp only [e] at h
  exact ⟨h.1, h.2.1, h.2.2, Nat.zero_le _⟩
theorem Few.more {n m w w' : Nat} {d : PyData} (h : Few n w d) (hn : n ≤ m) (hw : w ≤ w') : Few m w' d := ⟨h.s, h.l, Nat.le_trans h.w hw, Nat.le_trans h.d hn⟩
theorem Few.bl {n : Nat} {b : Bool} : Few n 0 (.bool b) := ⟨rfl, rfl, Nat.le_refl _, Nat.zero_le _⟩
structure Fews (n w : Nat) (ds : List PyData) : Prop where
  s : PyData.showableAll ds = true
  l : PyData.leavesShortAll 8 ds = true
  w : PyData.weightAll ds ≤ w
  d : PyData.depthAll ds ≤ n
theorem Fews.nil {n : Nat} : Fews n 0 [] := ⟨rfl, rfl, Nat.le_refl _, Nat.zero_le _⟩
theorem Fews.cons {n w w' : Nat} {d : PyData} {ds : List PyData} (h : Few n w d) (k : Fews n w' ds) : Fews n (w + 1 + w') (d :: ds) := by
  refine ⟨?_, ?_, ?_, ?_⟩
  · show (d.showable && PyData.showableAll ds) = true
    rw [h.s, k.s]; rfl
  · show (d.leavesShort 8 && PyData.leavesShortAll 8 ds) = true
    rw [h.l, k.l]; rfl
  · show d.weight + 1 + PyData.weightAll ds ≤ _
    have := h.w
    have := k.w
    omega
  · show max d.depth (PyData.depthAll ds) ≤ n
    exact Nat.max_le.mpr ⟨h.d, k.d⟩
theorem Fews.all {n w : Nat} : ∀ {ds : List PyData}, (∀ d ∈ ds, Few n w d) → Fews n (ds.length * (w + 1)) ds
  | [], _ => by rw [List.length_nil, Nat.zero_mul]; exact .nil
  | d :: ds, h => by
    have e : (d :: ds).length * (w + 1) = w + 1 + ds.length * (w + 1) := by rw [List.length_cons, Nat.add_mul, Nat.one_mul, Nat.add_comm]
    rw [e]
    exact .cons (h d List.mem_cons_self) (Fews.all fun x hx => h x (List.mem_cons_of_mem _ hx))
theorem Fews.more {n m w w' : Nat} {ds : List PyData} (h : Fews n w ds) (hn : n ≤ m) (hw : w ≤ w') : Fews m w' ds := ⟨h.s, h.l, Nat.le_trans h.w hw, Nat.le_trans h.d hn⟩
theorem Fews.tup {n w : Nat} {ds : List PyData} (h : Fews n w ds) : Few (n + 1) w (.tuple ds) := ⟨h.s, h.l, h.w, Nat.succ_le_succ h.d⟩
theorem Fews.lst {n w : Nat} {ds : List PyData} (h : Fews n w ds) : Few (n + 1) w (.list ds) := ⟨h.s, h.l, h.w, Nat.succ_le_succ h.d⟩
theorem Few.short {n w : Nat} {d : PyData} (h : Few n w d) (hw : w ≤ 1000000) : d.shown.length ≤ sizeLine := by
  have h1 := PyData.shown_le 8 (by decide) d h.l
  have h2 := h.w
  have : sizeLine = 16777216 := by decide
  omega
theorem few_stand {s : Str × Int} (h : nameOk s.1 = true ∧ 1 ≤ s.2 ∧ s.2 ≤ 40) : Few 1 16 (encS s) :=
  (Fews.cons (.str (low_name h.1) (nameOk_len h.1).2) (.cons (.int (by omega) h.2.2) .nil)).tup
theorem few_road {s : Str × Str × Int} (h : nameOk s.1 = true ∧ nameOk s.2.1 = true ∧ 1 ≤ s.2.2 ∧ s.2.2 ≤ 3) : Few 1 25 (encR s) :=
  (Fews.cons (.str (low_name h.1) (nameOk_len h.1).2) (.cons (.str (low_name h.2.1) (nameOk_len h.2.1).2) (.cons (.int (by omega) (by omega)) .nil))).tup
theorem few_stands {l : List (Str × Int)} (h : ∀ s ∈ l, nameOk s.1 = true ∧ 1 ≤ s.2 ∧ s.2 ≤ 40) (hl : l.length ≤ 5) : Few 2 85 (encSs l) := by
  have h1 : Fews 1 ((l.map encS).length * 17) (l.map encS) := Fews.all fun d hd => by
    obtain ⟨s, hs, rfl⟩ := List.mem_map.mp hd
    exact few_stand (h s hs)
  rw [List.length_map] at h1
  exact (h1.more (Nat.le_refl _) (by omega)).tup
theorem few_roads {l : List (Str × Str × Int)} (h : ∀ s ∈ l, nameOk s.1 = true ∧ nameOk s.2.1 = true ∧ 1 ≤ s.2.2 ∧ s.2.2 ≤ 3) (hl : l.length ≤ 12) : Few 2 312 (encRs l) := by
  have h1 : Fews 1 ((l.map encR).length * 26) (l.map encR) := Fews.all fun d hd => by
    obtain ⟨s, hs, rfl⟩ := List.mem_map.mp hd
    exact few_road (h s hs)
  rw [List.length_map] at h1
  exact (h1.more (Nat.le_refl _) (by omega)).tup
theorem few_names {l : List Str} (h : ∀ x ∈ l, nameOk x = true) (hl : l.length ≤ 5) : Few 2 45 (encN l) := by
  have h1 : Fews 1 ((l.map PyData.str).length * 9) (l.map PyData.str) := Fews.all fun d hd => by
    obtain ⟨s, hs, rfl⟩ := List.mem_map.mp hd
    exact .str (low_name (h s hs)) (nameOk_len (h s hs)).2
  rw [List.length_map] at h1
  exact (h1.more (Nat.le_refl _) (by omega)).tup
def allD (t : TownD) : PyData := .list [.int t.slots, encSs t.stands, encRs t.roads, encN t.names, .str (townText t)]
theorem few_all {t : TownD} (ok : t.Ok) : Few 3 2000 (allD t) := by
  have z1 := ok.s1
  have z2 := ok.s2
  have hn : t.names.length ≤ 5 := by
    unfold TownD.names
    rw [List.length_map]
    exact ok.st.few
  exact ((Fews.cons (.int (by omega) (by omega)) (.cons (few_stands ok.st.each ok.st.few) (.cons (few_roads ok.rds ok.rd.few) (.cons (few_names ok.nm hn) (.cons (.str (low_town ok) (text_len ok)) .nil))))).more (Nat.le_refl _) (by decide)).lst
theorem repr_few {K : Frag} {H : Hp} {v : V} {d : PyData} {Q : VK} {n w : Nat} (h : Dp K H v d) (hd : isDisplay d = true) (f : Few n w d) (hn : n ≤ 60) (hw : w ≤ 1000000) (q : Q (.str d.shown) H) : rRepr K [v] H Q :=
  ⟨v, d, rfl, h, hd, f.s, Nat.le_trans f.d hn, f.short hw, q⟩
end Bk
set_option Elab.async false
set_option linter.all false
set_option maxRecDepth 100000
set_option maxHeartbeats 4000000
namespace Bk
open PySem PySem.Spec PyProof.Rows L2 PySem.NumText
open PySem.W (Frag)
/-! ## the list of what was seen: pairs of a text and its town -/
def PairAt (K : Frag) (H : Hp) (x : V) (t : TownD) : Prop := ∃ b q, x = .ref b ∧ H b = some (.tup [.str (townText t), .ref q]) ∧ TownAt K H q t ∧ t.Ok
structure SeenAt (K : Frag) (H : Hp) (L : Addr) (ts : List TownD) (xs : List V) : Prop where
  at_ : H L = some (.lst xs)
  len : xs.length = ts.length
  each : ∀ (i : Nat) (x : V) (t : TownD), xs[i]? = some x → ts[i]? = some t → PairAt K H x t
theorem PairAt.same {K : Frag} {H H' : Hp} {x : V} {t : TownD} (h : PairAt K H x t) (s : Same H H') : PairAt K H' x t := by
  obtain ⟨b, q, e, h1, h2, h3⟩ := h
  exact ⟨b, q, e, s _ _ h1, h2.same s, h3⟩
theorem SeenAt.same {K : Frag} {H H' : Hp} {L : Addr} {ts : List TownD} {xs : List V} (h : SeenAt K H L ts xs) (s : Same H H') : SeenAt K H' L ts xs :=
  ⟨s _ _ h.at_, h.len, fun i x t e1 e2 => (h.each i x t e1 e2).same s⟩
theorem PairAt.but {K : Frag} {p : Addr} {H H' : Hp} {x : V} {t : TownD} {zs : List V} (h : PairAt K H x t) (hp : H p = some (.lst zs)) (s : But p H H') : PairAt K H' x t := by
  obtain ⟨b, q, e, h1, h2, h3⟩ := h
  refine ⟨b, q, e, s _ _ h1 fun z => ?_, h2.but (noTup_lst hp) s fun z => ?_, h3⟩
  · rw [z, hp] at h1
    cases h1
  · obtain ⟨_, _, _, _, h4, _⟩ := h2.ob
    rw [z, hp] at h4
    cases h4
theorem SeenAt.but {K : Frag} {p : Addr} {H H' : Hp} {L : Addr} {ts : List TownD} {xs zs : List V} (h : SeenAt K H L ts xs) (hp : H p = some (.lst zs)) (hn : L ≠ p) (s : But p H H') : SeenAt K H' L ts xs :=
  ⟨s _ _ h.at_ hn, h.len, fun i x t e1 e2 => (h.each i x t e1 e2).but hp s⟩
theorem SeenAt.more {K : Frag} {H : Hp} {L : Addr} {ts : List TownD} {xs : List V} {x : V} {t : TownD} (h : SeenAt K H L ts xs) (hx : PairAt K H x t) : SeenAt K (upd H L (.lst (xs ++ [x]))) L (ts ++ [t]) (xs ++ [x]) := by
  refine ⟨upd_same, by rw [List.length_append, List.length_append, h.len]; rfl, fun i y u e1 e2 => ?_⟩
  have hl := h.len
  refine PairAt.but ?_ h.at_ (but_upd L H _)
  by_cases hi : i < xs.length
  · rw [List.getElem?_append_left hi] at e1
    rw [List.getElem?_append_left (by omega)] at e2
    exact h.each i y u e1 e2
  · have hi2 : i = xs.length := by
      have : i < (xs ++ [x]).length := by
        rcases Nat.lt_or_ge i (xs ++ [x]).length with z | z
        · exact z
        · rw [List.getElem?_eq_none z] at e1; cases e1
      rw [List.length_append] at this
      show i = _
      have e : [x].length = 1 := rfl
      omega
    rw [hi2, List.getElem?_append_right (Nat.le_refl _), Nat.sub_self] at e1
    rw [hi2, hl, List.getElem?_append_right (Nat.le_refl _), Nat.sub_self] at e2
    cases e1
    cases e2
    exact hx
theorem same_of_two {p L : Addr} {H0 H H' : Hp} (s : Same H0 H) (hp : H0 p = none) (hL : H0 L = none) (k : ∀ b o, H b = some o → b ≠ p → b ≠ L → H' b = some o) : Same H0 H' := fun b o h =>
  k b o (s b o h) (fun z => by rw [z, hp] at h; cases h) (fun z => by rw [z, hL] at h; cases h)
/-- two towns of one text are told alike -/
theorem few_bls {bs : List Bool} (h : bs.length ≤ 10) : Few 1 20 (.list (bs.map .bool)) := by
  have h1 : Fews 0 ((bs.map PyData.bool).length * 1) (bs.map PyData.bool) := Fews.all fun d hd => by
    obtain ⟨s, hs, rfl⟩ := List.mem_map.mp hd
    exact .bl
  rw [List.length_map] at h1
  exact (h1.more (Nat.le_refl _) (by omega)).lst
theorem shown_bls3 : (PyData.list [.bool true, .bool true, .bool false]).shown = "[True, True, False]" := by decide +kernel
end Bk
set_option Elab.async false
set_option linter.all false
namespace Bk
open PySem PySem.Spec PyProof.Rows L2 PySem.NumText
open PySem.W (Frag)
theorem sqlS {K : Frag} {H H' : Hp} {a : Addr} {xs : List V} (s : Same H H') (h : SqL K H a xs) : SqL K H' a xs := by
  rcases h with (h | ⟨o', h⟩) | h
  · exact .inl (.inl (s _ _ h))
  · exact .inl (.inr ⟨o', s _ _ h⟩)
  · exact .inr h
end Bk
set_option Elab.async false
set_option linter.all false
set_option maxRecDepth 100000
set_option maxHeartbeats 4000000
namespace Bk
open PySem PySem.Spec PyProof.Rows L2 PySem.NumText
open PySem.W (Frag)
/-- what is shown of the law's own def -/
structure GLaw (P : Program) (w : World) (K : Frag) (mg : Str → Option Value) (k : Nat) (x : Str) (ps : List Str) (sp : Sp) : Prop where
  ok : ∃ fd, (∀ (s : Shared) (us : List Value), us.length = ps.length → BindsTo s fd ⟨us, []⟩ (ps.zip us)) ∧ ∀ base : Heap, FnG P w K mg base (L2.CX P w) k (He.ga K x) fd ps sp
theorem gokL_of {P : Program} {w : World} {K : Frag} {mg : Str → Option Value} {x : Str} {st : Stmt} {N ps : List Str} {k : Nat} {sp : Sp} {kws : List (Str × V)}
    (F : ∃ fd, FunD K x x (defArgs st) (defBody st) (defScope st) [] kws (He.ga K x) fd) (S : FnScope N ps (defScope st))
    (hb : ∀ (kV doc pm : Value) (an : Option Addr) (cdv ct : Value) (us : List Value), us.length = ps.length →
      bindArgs (PySem.W.fnOf x x (defArgs st) (defBody st) (defScope st) .none kV doc pm an cdv ct) ⟨us, []⟩ = pure (ps.zip us))
    (len : ∀ vs H Q E, sp vs H Q E → vs.length = ps.length)
    (hbody : ∀ (base : Heap) (cdv : Value) (A : Around) (outer : List Env) (s : Shared) (H : Hp) (vs : List V) (Q : VK) (E : XK), A.guards = some [] →
      Room k (A.deeper (envOfC x (defScope st) s.heap.objs.size (He.ga K x) cdv)) → sp vs H Q E →
      ∃ t, PSs (cxOf (L2.CX P w) P w K mg base N x (defScope st) (He.ga K x) cdv A outer s H E) (defBody st) t ∧
        t { nx := fun _ H' => Q .non H', rt := Q } (start N vs) H) :
    GLaw P w K mg (k + 1) x ps sp := by
  obtain ⟨fd, F⟩ := F
  have bd := FunD.bindsA (ps := ps) F hb
  obtain ⟨oc, od, dV, kV, doc, pm, an, cdv, ct, osl, rfl, lk, hcd, _, _⟩ := id F.ex
  exact ⟨_, bd, fun base => fnG_of lk hcd S len fun A outer s H vs Q E hG hr hsp => hbody base cdv A outer s H vs Q E hG hr hsp⟩
end Bk
set_option Elab.async false
set_option linter.all false
set_option maxRecDepth 100000
set_option maxHeartbeats 4000000
namespace Bk
open PySem PySem.Spec PyProof.Rows L2 PySem.NumText
open PySem.W (Frag)
def top (i : Nat) : Stmt := PySem.Challenge.pw_bikestands_k04_whole_towns_read_back.main.body.getD i (.Pass ⟨0, 0, 0, 0⟩)
abbrev s__wall : Stmt := top 0
abbrev s_number_of : Stmt := top 9
abbrev s_is_integer : Stmt := top 18
abbrev s_is_between : Stmt := top 19
abbrev s_is_name : Stmt := top 20
abbrev s_is_stand : Stmt := top 22
abbrev s_check_stands : Stmt := top 23
abbrev s_is_among : Stmt := top 24
abbrev s_is_road : Stmt := top 25
abbrev s_check_roads : Stmt := top 26
abbrev s_told_town : Stmt := top 27
abbrev s_lines_of : Stmt := top 28
abbrev s_Town___init__ : Stmt := inClass (top 29) 0
abbrev s_Town_read : Stmt := inClass (top 29) 1
abbrev s_Town_slots : Stmt := inClass (top 29) 2
abbrev s_Town_stands : Stmt := inClass (top 29) 3
abbrev s_Town_roads : Stmt := inClass (top 29) 4
abbrev s_Town_names : Stmt := inClass (top 29) 5
abbrev s_Town_is_ask : Stmt := inClass (top 29) 6
abbrev s_Town_is_fact : Stmt := inClass (top 29) 7
abbrev s_Town_road_time : Stmt := inClass (top 29) 8
abbrev s_Town___eq__ : Stmt := inClass (top 29) 9
abbrev s_Town___str__ : Stmt := inClass (top 29) 10
abbrev s_Town___repr__ : Stmt := inClass (top 29) 11
abbrev s__law_cell : Stmt := top 31
abbrev s__law_source : Stmt := top 32
abbrev s__law_draw : Stmt := top 33
abbrev s__law_word : Stmt := top 34
abbrev s__law_plan : Stmt := top 35
abbrev s__law_named : Stmt := top 36
abbrev s__law_lines : Stmt := top 37
abbrev s__law_text : Stmt := top 38
abbrev s__law_town : Stmt := top 39
abbrev s__law_right : Stmt := top 40
abbrev s_law : Stmt := top 41
def d__wall : He5.DefA := ⟨fun K => He.ga K "_wall", "_wall", "_wall", defArgs s__wall, defBody s__wall, defScope s__wall, [], []⟩
def d_number_of : He5.DefA := ⟨fun K => He.ga K "number_of", "number_of", "number_of", defArgs s_number_of, defBody s_number_of, defScope s_number_of, [], []⟩
def d_is_integer : He5.DefA := ⟨fun K => He.ga K "is_integer", "is_integer", "is_integer", defArgs s_is_integer, defBody s_is_integer, defScope s_is_integer, [], []⟩
def d_is_between : He5.DefA := ⟨fun K => He.ga K "is_between", "is_between", "is_between", defArgs s_is_between, defBody s_is_between, defScope s_is_between, [], []⟩
def d_is_name : He5.DefA := ⟨fun K => He.ga K "is_name", "is_name", "is_name", defArgs s_is_name, defBody s_is_name, defScope s_is_name, [], []⟩
def d_is_stand : He5.DefA := ⟨fun K => He.ga K "is_stand", "is_stand", "is_stand", defArgs s_is_stand, defBody s_is_stand, defScope s_is_stand, [], []⟩
def d_check_stands : He5.DefA := ⟨fun K => He.ga K "check_stands", "check_stands", "check_stands", defArgs s_check_stands, defBody s_check_stands, defScope s_check_stands, [], []⟩
def d_is_among : He5.DefA := ⟨fun K => He.ga K "is_among", "is_among", "is_among", defArgs s_is_among, defBody s_is_among, defScope s_is_among, [], []⟩
def d_is_road : He5.DefA := ⟨fun K => He.ga K "is_road", "is_road", "is_road", defArgs s_is_road, defBody s_is_road, defScope s_is_road, [], []⟩
def d_check_roads : He5.DefA := ⟨fun K => He.ga K "check_roads", "check_roads", "check_roads", defArgs s_check_roads, defBody s_check_roads, defScope s_check_roads, [], []⟩
def d_told_town : He5.DefA := ⟨fun K => He.ga K "told_town", "told_town", "told_town", defArgs s_told_town, defBody s_told_town, defScope s_told_town, [], []⟩
def d_lines_of : He5.DefA := ⟨fun K => He.ga K "lines_of", "lines_of", "lines_of", defArgs s_lines_of, defBody s_lines_of, defScope s_lines_of, [], []⟩
def d_Town___init__ : He5.DefA := ⟨fun K => He.ma K (He.ga K "Town") "__init__", "__init__", "Town.__init__", defArgs s_Town___init__, defBody s_Town___init__, defScope s_Town___init__, [.adr (He.dflAt ("Town", some "__init__") 0)], []⟩
def d_Town_read : He5.DefA := ⟨fun K => He5.wf K (He.ga K "Town") "classmethod" "read", "read", "Town.read", defArgs s_Town_read, defBody s_Town_read, defScope s_Town_read, [], []⟩
def d_Town_slots : He5.DefA := ⟨fun K => He5.wf K (He.ga K "Town") "property" "slots", "slots", "Town.slots", defArgs s_Town_slots, defBody s_Town_slots, defScope s_Town_slots, [], []⟩
def d_Town_stands : He5.DefA := ⟨fun K => He5.wf K (He.ga K "Town") "property" "stands", "stands", "Town.stands", defArgs s_Town_stands, defBody s_Town_stands, defScope s_Town_stands, [], []⟩
def d_Town_roads : He5.DefA := ⟨fun K => He5.wf K (He.ga K "Town") "property" "roads", "roads", "Town.roads", defArgs s_Town_roads, defBody s_Town_roads, defScope s_Town_roads, [], []⟩
def d_Town_names : He5.DefA := ⟨fun K => He5.wf K (He.ga K "Town") "property" "names", "names", "Town.names", defArgs s_Town_names, defBody s_Town_names, defScope s_Town_names, [], []⟩
def d_Town_is_ask : He5.DefA := ⟨fun K => He.ma K (He.ga K "Town") "is_ask", "is_ask", "Town.is_ask", defArgs s_Town_is_ask, defBody s_Town_is_ask, defScope s_Town_is_ask, [], []⟩
def d_Town_is_fact : He5.DefA := ⟨fun K => He.ma K (He.ga K "Town") "is_fact", "is_fact", "Town.is_fact", defArgs s_Town_is_fact, defBody s_Town_is_fact, defScope s_Town_is_fact, [], []⟩
def d_Town_road_time : He5.DefA := ⟨fun K => He.ma K (He.ga K "Town") "road_time", "road_time", "Town.road_time", defArgs s_Town_road_time, defBody s_Town_road_time, defScope s_Town_road_time, [], []⟩
def d_Town___eq__ : He5.DefA := ⟨fun K => He.ma K (He.ga K "Town") "__eq__", "__eq__", "Town.__eq__", defArgs s_Town___eq__, defBody s_Town___eq__, defScope s_Town___eq__, [], []⟩
def d_Town___str__ : He5.DefA := ⟨fun K => He.ma K (He.ga K "Town") "__str__", "__str__", "Town.__str__", defArgs s_Town___str__, defBody s_Town___str__, defScope s_Town___str__, [], []⟩
def d_Town___repr__ : He5.DefA := ⟨fun K => He.ma K (He.ga K "Town") "__repr__", "__repr__", "Town.__repr__", defArgs s_Town___repr__, defBody s_Town___repr__, defScope s_Town___repr__, [], []⟩
def d__law_cell : He5.DefA := ⟨fun K => He.ga K "_law_cell", "_law_cell", "_law_cell", defArgs s__law_cell, defBody s__law_cell, defScope s__law_cell, [], []⟩
def d__law_source : He5.DefA := ⟨fun K => He.ga K "_law_source", "_law_source", "_law_source", defArgs s__law_source, defBody s__law_source, defScope s__law_source, [], []⟩
def d__law_draw : He5.DefA := ⟨fun K => He.ga K "_law_draw", "_law_draw", "_law_draw", defArgs s__law_draw, defBody s__law_draw, defScope s__law_draw, [], []⟩
def d__law_word : He5.DefA := ⟨fun K => He.ga K "_law_word", "_law_word", "_law_word", defArgs s__law_word, defBody s__law_word, defScope s__law_word, [], []⟩
def d__law_plan : He5.DefA := ⟨fun K => He.ga K "_law_plan", "_law_plan", "_law_plan", defArgs s__law_plan, defBody s__law_plan, defScope s__law_plan, [], []⟩
def d__law_named : He5.DefA := ⟨fun K => He.ga K "_law_named", "_law_named", "_law_named", defArgs s__law_named, defBody s__law_named, defScope s__law_named, [], []⟩
def d__law_lines : He5.DefA := ⟨fun K => He.ga K "_law_lines", "_law_lines", "_law_lines", defArgs s__law_lines, defBody s__law_lines, defScope s__law_lines, [], []⟩
def d__law_text : He5.DefA := ⟨fun K => He.ga K "_law_text", "_law_text", "_law_text", defArgs s__law_text, defBody s__law_text, defScope s__law_text, [], []⟩
def d__law_town : He5.DefA := ⟨fun K => He.ga K "_law_town", "_law_town", "_law_town", defArgs s__law_town, defBody s__law_town, defScope s__law_town, [], []⟩
def d__law_right : He5.DefA := ⟨fun K => He.ga K "_law_right", "_law_right", "_law_right", defArgs s__law_right, defBody s__law_right, defScope s__law_right, [], []⟩
def d_law : He5.DefA := ⟨fun K => He.ga K "law", "law", "law", defArgs s_law, defBody s_law, defScope s_law, [], []⟩
def fn0 : List He5.DefA := [d__wall, d_number_of, d_is_integer, d_is_between, d_is_name, d_is_stand, d_check_stands, d_is_among, d_is_road, d_check_roads, d_told_town, d_lines_of, d_Town___init__, d_Town_read, d_Town_slots, d_Town_stands, d_Town_roads, d_Town_names, d_Town_is_ask, d_Town_is_fact, d_Town_road_time, d_Town___eq__, d_Town___str__, d_Town___repr__, d__law_cell, d__law_source, d__law_draw, d__law_word, d__law_plan, d__law_named]
def fn1 : List He5.DefA := [d__law_lines, d__law_text, d__law_town, d__law_right, d_law]
def fn : List He5.DefA := fn0 ++ fn1
def fa0 : List He.Fa := [.glo "_wall", .glo "number_of", .glo "NotRight", .glo "InvalidText", .glo "InvalidSlots", .glo "InvalidStands", .glo "InvalidRoads", .glo "is_integer", .glo "is_between", .glo "is_name", .glo "is_stand", .glo "check_stands", .glo "is_among", .glo "is_road", .glo "check_roads", .glo "told_town", .glo "lines_of", .glo "Town", .glo "_law_cell", .glo "_law_source", .glo "_law_draw", .glo "_law_word", .glo "_law_plan", .glo "_law_named", .glo "_law_lines", .glo "_law_text", .glo "_law_town", .glo "_law_right", .glo "law", .free "len"]
def fa1 : List He.Fa := [.free "str", .free "int", .free "all", .free "any", .free "sum", .free "max", .free "min", .free "range", .free "enumerate", .free "zip", .free "isinstance", .free "sorted", .free "list", .free "tuple", .free "abs", .free "divmod", .free "repr", .free "bool", .free "dict", .free "set", .free "type", .free "super", .free "object", .free "ValueError", .free "LookupError", .free "ArithmeticError", .free "KeyError", .free "IndexError", .free "ZeroDivisionError", .free "hasattr"]
def fa2 : List He.Fa := [.free "callable", .int "MOST_SLOTS" 8, .int "MOST_STANDS" 5, .int "MOST_SIZE" 40, .int "MOST_ROADS" 12, .int "MOST_TIME" 3, .int "MOST_NUMBER" 9999, .str "DIGITS" "0123456789", .str "LETTERS" "abcdefghijklmnopqrstuvwxyz", .cls "Town", .mkr "Town", .noat "Town" "_slots", .noat "Town" "_stands", .noat "Town" "_roads", .noat "Town" "_names", .meth "Town" "is_ask", .meth "Town" "is_fact", .meth "Town" "road_time", .meth "Town" "__eq__", .meth "Town" "__str__", .meth "Town" "__repr__"]
def fa : List He.Fa := fa0 ++ fa1 ++ fa2
def xx0 : List (Frag → Bool) := [insB "Town", isaB "Town" "Town" true, cmB "Town" "read", propB "Town" "slots", propB "Town" "stands", propB "Town" "roads", propB "Town" "names", crB "Town", neB "Town"]
def xx : List (Frag → Bool) := xx0
def ex (K : Frag) : Bool := (fa.all fun f => f.ok K) && xx.all fun f => f K
def lo0 : List Str := ["_wall", "MOST_SLOTS", "MOST_STANDS", "MOST_SIZE", "MOST_ROADS", "MOST_TIME", "MOST_NUMBER", "DIGITS", "number_of", "NotRight", "InvalidText", "InvalidSlots", "InvalidStands", "InvalidRoads", "LETTERS", "is_integer", "is_between", "is_name", "is_stand", "check_stands", "is_among", "is_road", "check_roads", "told_town", "lines_of", "Town", "_law_cell", "_law_source", "_law_draw", "_law_word"]
def lo1 : List Str := ["_law_plan", "_law_named", "_law_lines", "_law_text", "_law_town", "_law_right"]
def loose : List Str := lo0 ++ lo1
structure Tx (K : Frag) (mg : Str → Option Value) : Prop where
  c : SaysB ex fn K
  h : ∃ h : Heap, K.In h ∧ h.Ns mainGlobals mg
section
variable {K : Frag} {mg : Str → Option Value}
theorem Tx.fct (T : Tx K mg) (i : Nat) {f : He.Fa} (h : fa[i]? = some f := by rfl) : f.ok K = true :=
  List.all_eq_true.mp (show (fa.all fun f => f.ok K) = true from (He.ba T.c.ex).1) f (List.mem_of_getElem? h)
theorem Tx.xt (T : Tx K mg) (i : Nat) {f : Frag → Bool} (h : xx[i]? = some f := by rfl) : f K = true :=
  List.all_eq_true.mp (show (xx.all fun f => f K) = true from (He.ba T.c.ex).2) f (List.mem_of_getElem? h)
theorem g__wall (T : Tx K mg) : mg "_wall" = some (.ref (He.ga K "_wall")) := let ⟨_, X, G⟩ := T.h; He.glo_ok X G (T.fct 0)
theorem g_number_of (T : Tx K mg) : mg "number_of" = some (.ref (He.ga K "number_of")) := let ⟨_, X, G⟩ := T.h; He.glo_ok X G (T.fct 1)
theorem g_NotRight (T : Tx K mg) : mg "NotRight" = some (.ref (He.ga K "NotRight")) := let ⟨_, X, G⟩ := T.h; He.glo_ok X G (T.fct 2)
theorem g_InvalidText (T : Tx K mg) : mg "InvalidText" = some (.ref (He.ga K "InvalidText")) := let ⟨_, X, G⟩ := T.h; He.glo_ok X G (T.fct 3)
theorem g_InvalidSlots (T : Tx K mg) : mg "InvalidSlots" = some (.ref (He.ga K "InvalidSlots")) := let ⟨_, X, G⟩ := T.h; He.glo_ok X G (T.fct 4)
theorem g_InvalidStands (T : Tx K mg) : mg "InvalidStands" = some (.ref (He.ga K "InvalidStands")) := let ⟨_, X, G⟩ := T.h; He.glo_ok X G (T.fct 5)
theorem g_InvalidRoads (T : Tx K mg) : mg "InvalidRoads" = some (.ref (He.ga K "InvalidRoads")) := let ⟨_, X, G⟩ := T.h; He.glo_ok X G (T.fct 6)
theorem g_is_integer (T : Tx K mg) : mg "is_integer" = some (.ref (He.ga K "is_integer")) := let ⟨_, X, G⟩ := T.h; He.glo_ok X G (T.fct 7)
theorem g_is_between (T : Tx K mg) : mg "is_between" = some (.ref (He.ga K "is_between")) := let ⟨_, X, G⟩ := T.h; He.glo_ok X G (T.fct 8)
theorem g_is_name (T : Tx K mg) : mg "is_name" = some (.ref (He.ga K "is_name")) := let ⟨_, X, G⟩ := T.h; He.glo_ok X G (T.fct 9)
theorem g_is_stand (T : Tx K mg) : mg "is_stand" = some (.ref (He.ga K "is_stand")) := let ⟨_, X, G⟩ := T.h; He.glo_ok X G (T.fct 10)
theorem g_check_stands (T : Tx K mg) : mg "check_stands" = some (.ref (He.ga K "check_stands")) := let ⟨_, X, G⟩ := T.h; He.glo_ok X G (T.fct 11)
theorem g_is_among (T : Tx K mg) : mg "is_among" = some (.ref (He.ga K "is_among")) := let ⟨_, X, G⟩ := T.h; He.glo_ok X G (T.fct 12)
theorem g_is_road (T : Tx K mg) : mg "is_road" = some (.ref (He.ga K "is_road")) := let ⟨_, X, G⟩ := T.h; He.glo_ok X G (T.fct 13)
theorem g_check_roads (T : Tx K mg) : mg "check_roads" = some (.ref (He.ga K "check_roads")) := let ⟨_, X, G⟩ := T.h; He.glo_ok X G (T.fct 14)
theorem g_told_town (T : Tx K mg) : mg "told_town" = some (.ref (He.ga K "told_town")) := let ⟨_, X, G⟩ := T.h; He.glo_ok X G (T.fct 15)
theorem g_lines_of (T : Tx K mg) : mg "lines_of" = some (.ref (He.ga K "lines_of")) := let ⟨_, X, G⟩ := T.h; He.glo_ok X G (T.fct 16)
theorem g_Town (T : Tx K mg) : mg "Town" = some (.ref (He.ga K "Town")) := let ⟨_, X, G⟩ := T.h; He.glo_ok X G (T.fct 17)
theorem g__law_cell (T : Tx K mg) : mg "_law_cell" = some (.ref (He.ga K "_law_cell")) := let ⟨_, X, G⟩ := T.h; He.glo_ok X G (T.fct 18)
theorem g__law_source (T : Tx K mg) : mg "_law_source" = some (.ref (He.ga K "_law_source")) := let ⟨_, X, G⟩ := T.h; He.glo_ok X G (T.fct 19)
theorem g__law_draw (T : Tx K mg) : mg "_law_draw" = some (.ref (He.ga K "_law_draw")) := let ⟨_, X, G⟩ := T.h; He.glo_ok X G (T.fct 20)
theorem g__law_word (T : Tx K mg) : mg "_law_word" = some (.ref (He.ga K "_law_word")) := let ⟨_, X, G⟩ := T.h; He.glo_ok X G (T.fct 21)
theorem g__law_plan (T : Tx K mg) : mg "_law_plan" = some (.ref (He.ga K "_law_plan")) := let ⟨_, X, G⟩ := T.h; He.glo_ok X G (T.fct 22)
theorem g__law_named (T : Tx K mg) : mg "_law_named" = some (.ref (He.ga K "_law_named")) := let ⟨_, X, G⟩ := T.h; He.glo_ok X G (T.fct 23)
theorem g__law_lines (T : Tx K mg) : mg "_law_lines" = some (.ref (He.ga K "_law_lines")) := let ⟨_, X, G⟩ := T.h; He.glo_ok X G (T.fct 24)
theorem g__law_text (T : Tx K mg) : mg "_law_text" = some (.ref (He.ga K "_law_text")) := let ⟨_, X, G⟩ := T.h; He.glo_ok X G (T.fct 25)
theorem g__law_town (T : Tx K mg) : mg "_law_town" = some (.ref (He.ga K "_law_town")) := let ⟨_, X, G⟩ := T.h; He.glo_ok X G (T.fct 26)
theorem g__law_right (T : Tx K mg) : mg "_law_right" = some (.ref (He.ga K "_law_right")) := let ⟨_, X, G⟩ := T.h; He.glo_ok X G (T.fct 27)
theorem g_law (T : Tx K mg) : mg "law" = some (.ref (He.ga K "law")) := let ⟨_, X, G⟩ := T.h; He.glo_ok X G (T.fct 28)
theorem b_len (T : Tx K mg) : mg "len" = none := let ⟨_, X, G⟩ := T.h; He.free_ok X G (T.fct 29)
theorem b_str (T : Tx K mg) : mg "str" = none := let ⟨_, X, G⟩ := T.h; He.free_ok X G (T.fct 30)
theorem b_int (T : Tx K mg) : mg "int" = none := let ⟨_, X, G⟩ := T.h; He.free_ok X G (T.fct 31)
theorem b_all (T : Tx K mg) : mg "all" = none := let ⟨_, X, G⟩ := T.h; He.free_ok X G (T.fct 32)
theorem b_any (T : Tx K mg) : mg "any" = none := let ⟨_, X, G⟩ := T.h; He.free_ok X G (T.fct 33)
theorem b_sum (T : Tx K mg) : mg "sum" = none := let ⟨_, X, G⟩ := T.h; He.free_ok X G (T.fct 34)
theorem b_max (T : Tx K mg) : mg "max" = none := let ⟨_, X, G⟩ := T.h; He.free_ok X G (T.fct 35)
theorem b_min (T : Tx K mg) : mg "min" = none := let ⟨_, X, G⟩ := T.h; He.free_ok X G (T.fct 36)
theorem b_range (T : Tx K mg) : mg "range" = none := let ⟨_, X, G⟩ := T.h; He.free_ok X G (T.fct 37)
theorem b_enumerate (T : Tx K mg) : mg "enumerate" = none := let ⟨_, X, G⟩ := T.h; He.free_ok X G (T.fct 38)
theorem b_zip (T : Tx K mg) : mg "zip" = none := let ⟨_, X, G⟩ := T.h; He.free_ok X G (T.fct 39)
theorem b_isinstance (T : Tx K mg) : mg "isinstance" = none := let ⟨_, X, G⟩ := T.h; He.free_ok X G (T.fct 40)
theorem b_sorted (T : Tx K mg) : mg "sorted" = none := let ⟨_, X, G⟩ := T.h; He.free_ok X G (T.fct 41)
theorem b_list (T : Tx K mg) : mg "list" = none := let ⟨_, X, G⟩ := T.h; He.free_ok X G (T.fct 42)
theorem b_tuple (T : Tx K mg) : mg "tuple" = none := let ⟨_, X, G⟩ := T.h; He.free_ok X G (T.fct 43)
theorem b_abs (T : Tx K mg) : mg "abs" = none := let ⟨_, X, G⟩ := T.h; He.free_ok X G (T.fct 44)
theorem b_divmod (T : Tx K mg) : mg "divmod" = none := let ⟨_, X, G⟩ := T.h; He.free_ok X G (T.fct 45)
theorem b_repr (T : Tx K mg) : mg "repr" = none := let ⟨_, X, G⟩ := T.h; He.free_ok X G (T.fct 46)
theorem b_bool (T : Tx K mg) : mg "bool" = none := let ⟨_, X, G⟩ := T.h; He.free_ok X G (T.fct 47)
theorem b_dict (T : Tx K mg) : mg "dict" = none := let ⟨_, X, G⟩ := T.h; He.free_ok X G (T.fct 48)
theorem b_set (T : Tx K mg) : mg "set" = none := let ⟨_, X, G⟩ := T.h; He.free_ok X G (T.fct 49)
theorem b_type (T : Tx K mg) : mg "type" = none := let ⟨_, X, G⟩ := T.h; He.free_ok X G (T.fct 50)
theorem b_super (T : Tx K mg) : mg "super" = none := let ⟨_, X, G⟩ := T.h; He.free_ok X G (T.fct 51)
theorem b_object (T : Tx K mg) : mg "object" = none := let ⟨_, X, G⟩ := T.h; He.free_ok X G (T.fct 52)
theorem b_ValueError (T : Tx K mg) : mg "ValueError" = none := let ⟨_, X, G⟩ := T.h; He.free_ok X G (T.fct 53)
theorem b_LookupError (T : Tx K mg) : mg "LookupError" = none := let ⟨_, X, G⟩ := T.h; He.free_ok X G (T.fct 54)
theorem b_ArithmeticError (T : Tx K mg) : mg "ArithmeticError" = none := let ⟨_, X, G⟩ := T.h; He.free_ok X G (T.fct 55)
theorem b_KeyError (T : Tx K mg) : mg "KeyError" = none := let ⟨_, X, G⟩ := T.h; He.free_ok X G (T.fct 56)
theorem b_IndexError (T : Tx K mg) : mg "IndexError" = none := let ⟨_, X, G⟩ := T.h; He.free_ok X G (T.fct 57)
theorem b_ZeroDivisionError (T : Tx K mg) : mg "ZeroDivisionError" = none := let ⟨_, X, G⟩ := T.h; He.free_ok X G (T.fct 58)
theorem b_hasattr (T : Tx K mg) : mg "hasattr" = none := let ⟨_, X, G⟩ := T.h; He.free_ok X G (T.fct 59)
theorem b_callable (T : Tx K mg) : mg "callable" = none := let ⟨_, X, G⟩ := T.h; He.free_ok X G (T.fct 60)
theorem c_MOST_SLOTS (T : Tx K mg) : ∃ t, mg "MOST_SLOTS" = some (.int 8 t) := let ⟨_, X, G⟩ := T.h; He.int_ok X G (T.fct 61)
theorem c_MOST_STANDS (T : Tx K mg) : ∃ t, mg "MOST_STANDS" = some (.int 5 t) := let ⟨_, X, G⟩ := T.h; He.int_ok X G (T.fct 62)
theorem c_MOST_SIZE (T : Tx K mg) : ∃ t, mg "MOST_SIZE" = some (.int 40 t) := let ⟨_, X, G⟩ := T.h; He.int_ok X G (T.fct 63)
theorem c_MOST_ROADS (T : Tx K mg) : ∃ t, mg "MOST_ROADS" = some (.int 12 t) := let ⟨_, X, G⟩ := T.h; He.int_ok X G (T.fct 64)
theorem c_MOST_TIME (T : Tx K mg) : ∃ t, mg "MOST_TIME" = some (.int 3 t) := let ⟨_, X, G⟩ := T.h; He.int_ok X G (T.fct 65)
theorem c_MOST_NUMBER (T : Tx K mg) : ∃ t, mg "MOST_NUMBER" = some (.int 9999 t) := let ⟨_, X, G⟩ := T.h; He.int_ok X G (T.fct 66)
theorem c_DIGITS (T : Tx K mg) : ∃ t, mg "DIGITS" = some (.str "0123456789" t) := let ⟨_, X, G⟩ := T.h; He.str_ok X G (T.fct 67)
theorem c_LETTERS (T : Tx K mg) : ∃ t, mg "LETTERS" = some (.str "abcdefghijklmnopqrstuvwxyz" t) := let ⟨_, X, G⟩ := T.h; He.str_ok X G (T.fct 68)
theorem cl_Town (T : Tx K mg) : Cls K (He.ga K "Town") := He.cls_ok (T.fct 69)
theorem mk_Town (T : Tx K mg) : Mk K (He.ga K "Town") (He.ma K (He.ga K "Town") "__init__") := He.mkr_ok (T.fct 70)
theorem na_Town__slots (T : Tx K mg) : NoAttr K (He.ga K "Town") "_slots" := He.noat_ok (T.fct 71)
theorem na_Town__stands (T : Tx K mg) : NoAttr K (He.ga K "Town") "_stands" := He.noat_ok (T.fct 72)
theorem na_Town__roads (T : Tx K mg) : NoAttr K (He.ga K "Town") "_roads" := He.noat_ok (T.fct 73)
theorem na_Town__names (T : Tx K mg) : NoAttr K (He.ga K "Town") "_names" := He.noat_ok (T.fct 74)
theorem mt_Town_is_ask (T : Tx K mg) : Meth K (He.ga K "Town") "is_ask" (He.ma K (He.ga K "Town") "is_ask") := He.meth_ok (T.fct 75)
theorem mt_Town_is_fact (T : Tx K mg) : Meth K (He.ga K "Town") "is_fact" (He.ma K (He.ga K "Town") "is_fact") := He.meth_ok (T.fct 76)
theorem mt_Town_road_time (T : Tx K mg) : Meth K (He.ga K "Town") "road_time" (He.ma K (He.ga K "Town") "road_time") := He.meth_ok (T.fct 77)
theorem mt_Town___eq__ (T : Tx K mg) : Meth K (He.ga K "Town") "__eq__" (He.ma K (He.ga K "Town") "__eq__") := He.meth_ok (T.fct 78)
theorem mt_Town___str__ (T : Tx K mg) : Meth K (He.ga K "Town") "__str__" (He.ma K (He.ga K "Town") "__str__") := He.meth_ok (T.fct 79)
theorem mt_Town___repr__ (T : Tx K mg) : Meth K (He.ga K "Town") "__repr__" (He.ma K (He.ga K "Town") "__repr__") := He.meth_ok (T.fct 80)
theorem in_Town (T : Tx K mg) : insB "Town" K = true := T.xt 0
theorem isa_Town_Town (T : Tx K mg) : isaB "Town" "Town" true K = true := T.xt 1
theorem cm_Town_read (T : Tx K mg) : cmB "Town" "read" K = true := T.xt 2
theorem pr_Town_slots (T : Tx K mg) : propB "Town" "slots" K = true := T.xt 3
theorem pr_Town_stands (T : Tx K mg) : propB "Town" "stands" K = true := T.xt 4
theorem pr_Town_roads (T : Tx K mg) : propB "Town" "roads" K = true := T.xt 5
theorem pr_Town_names (T : Tx K mg) : propB "Town" "names" K = true := T.xt 6
theorem cr_Town (T : Tx K mg) : crB "Town" K = true := T.xt 7
theorem ne_Town (T : Tx K mg) : neB "Town" K = true := T.xt 8
theorem F__wall (T : Tx K mg) : ∃ fd, FunD K "_wall" "_wall" (defArgs s__wall) (defBody s__wall) (defScope s__wall) [] [] (He.ga K "_wall") fd := T.c.def_ 0 (d := d__wall) rfl
theorem F_number_of (T : Tx K mg) : ∃ fd, FunD K "number_of" "number_of" (defArgs s_number_of) (defBody s_number_of) (defScope s_number_of) [] [] (He.ga K "number_of") fd := T.c.def_ 1 (d := d_number_of) rfl
theorem F_is_integer (T : Tx K mg) : ∃ fd, FunD K "is_integer" "is_integer" (defArgs s_is_integer) (defBody s_is_integer) (defScope s_is_integer) [] [] (He.ga K "is_integer") fd := T.c.def_ 2 (d := d_is_integer) rfl
theorem F_is_between (T : Tx K mg) : ∃ fd, FunD K "is_between" "is_between" (defArgs s_is_between) (defBody s_is_between) (defScope s_is_between) [] [] (He.ga K "is_between") fd := T.c.def_ 3 (d := d_is_between) rfl
theorem F_is_name (T : Tx K mg) : ∃ fd, FunD K "is_name" "is_name" (defArgs s_is_name) (defBody s_is_name) (defScope s_is_name) [] [] (He.ga K "is_name") fd := T.c.def_ 4 (d := d_is_name) rfl
theorem F_is_stand (T : Tx K mg) : ∃ fd, FunD K "is_stand" "is_stand" (defArgs s_is_stand) (defBody s_is_stand) (defScope s_is_stand) [] [] (He.ga K "is_stand") fd := T.c.def_ 5 (d := d_is_stand) rfl
theorem F_check_stands (T : Tx K mg) : ∃ fd, FunD K "check_stands" "check_stands" (defArgs s_check_stands) (defBody s_check_stands) (defScope s_check_stands) [] [] (He.ga K "check_stands") fd := T.c.def_ 6 (d := d_check_stands) rfl
theorem F_is_among (T : Tx K mg) : ∃ fd, FunD K "is_among" "is_among" (defArgs s_is_among) (defBody s_is_among) (defScope s_is_among) [] [] (He.ga K "is_among") fd := T.c.def_ 7 (d := d_is_among) rfl
theorem F_is_road (T : Tx K mg) : ∃ fd, FunD K "is_road" "is_road" (defArgs s_is_road) (defBody s_is_road) (defScope s_is_road) [] [] (He.ga K "is_road") fd := T.c.def_ 8 (d := d_is_road) rfl
theorem F_check_roads (T : Tx K mg) : ∃ fd, FunD K "check_roads" "check_roads" (defArgs s_check_roads) (defBody s_check_roads) (defScope s_check_roads) [] [] (He.ga K "check_roads") fd := T.c.def_ 9 (d := d_check_roads) rfl
theorem F_told_town (T : Tx K mg) : ∃ fd, FunD K "told_town" "told_town" (defArgs s_told_town) (defBody s_told_town) (defScope s_told_town) [] [] (He.ga K "told_town") fd := T.c.def_ 10 (d := d_told_town) rfl
theorem F_lines_of (T : Tx K mg) : ∃ fd, FunD K "lines_of" "lines_of" (defArgs s_lines_of) (defBody s_lines_of) (defScope s_lines_of) [] [] (He.ga K "lines_of") fd := T.c.def_ 11 (d := d_lines_of) rfl
theorem F_Town___init__ (T : Tx K mg) : ∃ fd, FunD K "__init__" "Town.__init__" (defArgs s_Town___init__) (defBody s_Town___init__) (defScope s_Town___init__) (He5.DefA.dvs K d_Town___init__) [] (He.ma K (He.ga K "Town") "__init__") fd := T.c.def_ 12 (d := d_Town___init__) rfl
theorem F_Town_read (T : Tx K mg) : ∃ fd, FunD K "read" "Town.read" (defArgs s_Town_read) (defBody s_Town_read) (defScope s_Town_read) [] [] (He5.wf K (He.ga K "Town") "classmethod" "read") fd := T.c.def_ 13 (d := d_Town_read) rfl
theorem F_Town_slots (T : Tx K mg) : ∃ fd, FunD K "slots" "Town.slots" (defArgs s_Town_slots) (defBody s_Town_slots) (defScope s_Town_slots) [] [] (He5.wf K (He.ga K "Town") "property" "slots") fd := T.c.def_ 14 (d := d_Town_slots) rfl
theorem F_Town_stands (T : Tx K mg) : ∃ fd, FunD K "stands" "Town.stands" (defArgs s_Town_stands) (defBody s_Town_stands) (defScope s_Town_stands) [] [] (He5.wf K (He.ga K "Town") "property" "stands") fd := T.c.def_ 15 (d := d_Town_stands) rfl
theorem F_Town_roads (T : Tx K mg) : ∃ fd, FunD K "roads" "Town.roads" (defArgs s_Town_roads) (defBody s_Town_roads) (defScope s_Town_roads) [] [] (He5.wf K (He.ga K "Town") "property" "roads") fd := T.c.def_ 16 (d := d_Town_roads) rfl
theorem F_Town_names (T : Tx K mg) : ∃ fd, FunD K "names" "Town.names" (defArgs s_Town_names) (defBody s_Town_names) (defScope s_Town_names) [] [] (He5.wf K (He.ga K "Town") "property" "names") fd := T.c.def_ 17 (d := d_Town_names) rfl
theorem F_Town_is_ask (T : Tx K mg) : ∃ fd, FunD K "is_ask" "Town.is_ask" (defArgs s_Town_is_ask) (defBody s_Town_is_ask) (defScope s_Town_is_ask) [] [] (He.ma K (He.ga K "Town") "is_ask") fd := T.c.def_ 18 (d := d_Town_is_ask) rfl
theorem F_Town_is_fact (T : Tx K mg) : ∃ fd, FunD K "is_fact" "Town.is_fact" (defArgs s_Town_is_fact) (defBody s_Town_is_fact) (defScope s_Town_is_fact) [] [] (He.ma K (He.ga K "Town") "is_fact") fd := T.c.def_ 19 (d := d_Town_is_fact) rfl
theorem F_Town_road_time (T : Tx K mg) : ∃ fd, FunD K "road_time" "Town.road_time" (defArgs s_Town_road_time) (defBody s_Town_road_time) (defScope s_Town_road_time) [] [] (He.ma K (He.ga K "Town") "road_time") fd := T.c.def_ 20 (d := d_Town_road_time) rfl
theorem F_Town___eq__ (T : Tx K mg) : ∃ fd, FunD K "__eq__" "Town.__eq__" (defArgs s_Town___eq__) (defBody s_Town___eq__) (defScope s_Town___eq__) [] [] (He.ma K (He.ga K "Town") "__eq__") fd := T.c.def_ 21 (d := d_Town___eq__) rfl
theorem F_Town___str__ (T : Tx K mg) : ∃ fd, FunD K "__str__" "Town.__str__" (defArgs s_Town___str__) (defBody s_Town___str__) (defScope s_Town___str__) [] [] (He.ma K (He.ga K "Town") "__str__") fd := T.c.def_ 22 (d := d_Town___str__) rfl
theorem F_Town___repr__ (T : Tx K mg) : ∃ fd, FunD K "__repr__" "Town.__repr__" (defArgs s_Town___repr__) (defBody s_Town___repr__) (defScope s_Town___repr__) [] [] (He.ma K (He.ga K "Town") "__repr__") fd := T.c.def_ 23 (d := d_Town___repr__) rfl
theorem F__law_cell (T : Tx K mg) : ∃ fd, FunD K "_law_cell" "_law_cell" (defArgs s__law_cell) (defBody s__law_cell) (defScope s__law_cell) [] [] (He.ga K "_law_cell") fd := T.c.def_ 24 (d := d__law_cell) rfl
theorem F__law_source (T : Tx K mg) : ∃ fd, FunD K "_law_source" "_law_source" (defArgs s__law_source) (defBody s__law_source) (defScope s__law_source) [] [] (He.ga K "_law_source") fd := T.c.def_ 25 (d := d__law_source) rfl
theorem F__law_draw (T : Tx K mg) : ∃ fd, FunD K "_law_draw" "_law_draw" (defArgs s__law_draw) (defBody s__law_draw) (defScope s__law_draw) [] [] (He.ga K "_law_draw") fd := T.c.def_ 26 (d := d__law_draw) rfl
theorem F__law_word (T : Tx K mg) : ∃ fd, FunD K "_law_word" "_law_word" (defArgs s__law_word) (defBody s__law_word) (defScope s__law_word) [] [] (He.ga K "_law_word") fd := T.c.def_ 27 (d := d__law_word) rfl
theorem F__law_plan (T : Tx K mg) : ∃ fd, FunD K "_law_plan" "_law_plan" (defArgs s__law_plan) (defBody s__law_plan) (defScope s__law_plan) [] [] (He.ga K "_law_plan") fd := T.c.def_ 28 (d := d__law_plan) rfl
theorem F__law_named (T : Tx K mg) : ∃ fd, FunD K "_law_named" "_law_named" (defArgs s__law_named) (defBody s__law_named) (defScope s__law_named) [] [] (He.ga K "_law_named") fd := T.c.def_ 29 (d := d__law_named) rfl
theorem F__law_lines (T : Tx K mg) : ∃ fd, FunD K "_law_lines" "_law_lines" (defArgs s__law_lines) (defBody s__law_lines) (defScope s__law_lines) [] [] (He.ga K "_law_lines") fd := T.c.def_ 30 (d := d__law_lines) rfl
theorem F__law_text (T : Tx K mg) : ∃ fd, FunD K "_law_text" "_law_text" (defArgs s__law_text) (defBody s__law_text) (defScope s__law_text) [] [] (He.ga K "_law_text") fd := T.c.def_ 31 (d := d__law_text) rfl
theorem F__law_town (T : Tx K mg) : ∃ fd, FunD K "_law_town" "_law_town" (defArgs s__law_town) (defBody s__law_town) (defScope s__law_town) [] [] (He.ga K "_law_town") fd := T.c.def_ 32 (d := d__law_town) rfl
theorem F__law_right (T : Tx K mg) : ∃ fd, FunD K "_law_right" "_law_right" (defArgs s__law_right) (defBody s__law_right) (defScope s__law_right) [] [] (He.ga K "_law_right") fd := T.c.def_ 33 (d := d__law_right) rfl
theorem F_law (T : Tx K mg) : ∃ fd, FunD K "law" "law" (defArgs s_law) (defBody s_law) (defScope s_law) [] [] (He.ga K "law") fd := T.c.def_ 34 (d := d_law) rfl
end
/-! ### Town_slots -/
theorem sc_Town_slots : FnScope ["self"] ["self"] (defScope s_Town_slots) := ⟨rfl, rfl, rfl, by decide +kernel, rfl, by decide +kernel, by decide +kernel⟩
def sp_Town_slots (K : Frag) : Sp := fun vs H Q _ => ∃ (p : Addr) (t : TownD), vs = [.ref p] ∧ TownAt K H p t ∧ Q (.int t.slots) H
theorem ok_Town_slots {P : Program} {w : World} {K : Frag} {mg : Str → Option Value} {base : Heap} (T : Tx K mg) : MOk P w K mg base 1 (He5.wf K (He.ga K "Town") "property" "slots") ["self"] (sp_Town_slots K) := by
  refine mok_of (x := "slots") (q := "Town.slots") (F_Town_slots T) sc_Town_slots (fun _ _ _ _ _ _ us hl => match us, hl with | [_], _ => rfl) (fun vs H Q E h => ?_) (fun cdv A outer s H vs Q E hr h => ?_)
  · obtain ⟨p, t, rfl, _⟩ := h
    rfl
  · obtain ⟨p, t, rfl, ht, q⟩ := h
    obtain ⟨dx, vs, vr, vn, h1, h2, h3, h4⟩ := ht.ob
    refine ⟨_, (pss_one (ps_ret (pe_fld (pv 0) rfl))), ?_⟩
    exact ⟨_, rfl, p, _, dx, _, _, rfl, h1, cl_Town T, na_Town__slots T, tfl_slots, q⟩

/-! ### Town_stands -/
theorem sc_Town_stands : FnScope ["self"] ["self"] (defScope s_Town_stands) := ⟨rfl, rfl, rfl, by decide +kernel, rfl, by decide +kernel, by decide +kernel⟩
def sp_Town_stands (K : Frag) : Sp := fun vs H Q _ => ∃ (p : Addr) (t : TownD), vs = [.ref p] ∧ TownAt K H p t ∧ ∀ v, Dp K H v (encSs t.stands) → Q v H
theorem ok_Town_stands {P : Program} {w : World} {K : Frag} {mg : Str → Option Value} {base : Heap} (T : Tx K mg) : MOk P w K mg base 1 (He5.wf K (He.ga K "Town") "property" "stands") ["self"] (sp_Town_stands K) := by
  refine mok_of (x := "stands") (q := "Town.stands") (F_Town_stands T) sc_Town_stands (fun _ _ _ _ _ _ us hl => match us, hl with | [_], _ => rfl) (fun vs H Q E h => ?_) (fun cdv A outer s H vs Q E hr h => ?_)
  · obtain ⟨p, t, rfl, _⟩ := h
    rfl
  · obtain ⟨p, t, rfl, ht, q⟩ := h
    obtain ⟨dx, vs, vr, vn, h1, h2, h3, h4⟩ := ht.ob
    refine ⟨_, (pss_one (ps_ret (pe_fld (pv 0) rfl))), ?_⟩
    exact ⟨_, rfl, p, _, dx, _, _, rfl, h1, cl_Town T, na_Town__stands T, tfl_stands, q _ h2⟩

/-! ### Town_roads -/
theorem sc_Town_roads : FnScope ["self"] ["self"] (defScope s_Town_roads) := ⟨rfl, rfl, rfl, by decide +kernel, rfl, by decide +kernel, by decide +kernel⟩
def sp_Town_roads (K : Frag) : Sp := fun vs H Q _ => ∃ (p : Addr) (t : TownD), vs = [.ref p] ∧ TownAt K H p t ∧ ∀ v, Dp K H v (encRs t.roads) → Q v H
theorem ok_Town_roads {P : Program} {w : World} {K : Frag} {mg : Str → Option Value} {base : Heap} (T : Tx K mg) : MOk P w K mg base 1 (He5.wf K (He.ga K "Town") "property" "roads") ["self"] (sp_Town_roads K) := by
  refine mok_of (x := "roads") (q := "Town.roads") (F_Town_roads T) sc_Town_roads (fun _ _ _ _ _ _ us hl => match us, hl with | [_], _ => rfl) (fun vs H Q E h => ?_) (fun cdv A outer s H vs Q E hr h => ?_)
  · obtain ⟨p, t, rfl, _⟩ := h
    rfl
  · obtain ⟨p, t, rfl, ht, q⟩ := h
    obtain ⟨dx, vs, vr, vn, h1, h2, h3, h4⟩ := ht.ob
    refine ⟨_, (pss_one (ps_ret (pe_fld (pv 0) rfl))), ?_⟩
    exact ⟨_, rfl, p, _, dx, _, _, rfl, h1, cl_Town T, na_Town__roads T, tfl_roads, q _ h3⟩

/-! ### Town_names -/
theorem sc_Town_names : FnScope ["self"] ["self"] (defScope s_Town_names) := ⟨rfl, rfl, rfl, by decide +kernel, rfl, by decide +kernel, by decide +kernel⟩
def sp_Town_names (K : Frag) : Sp := fun vs H Q _ => ∃ (p : Addr) (t : TownD), vs = [.ref p] ∧ TownAt K H p t ∧ ∀ v, Dp K H v (encN t.names) → Q v H
theorem ok_Town_names {P : Program} {w : World} {K : Frag} {mg : Str → Option Value} {base : Heap} (T : Tx K mg) : MOk P w K mg base 1 (He5.wf K (He.ga K "Town") "property" "names") ["self"] (sp_Town_names K) := by
  refine mok_of (x := "names") (q := "Town.names") (F_Town_names T) sc_Town_names (fun _ _ _ _ _ _ us hl => match us, hl with | [_], _ => rfl) (fun vs H Q E h => ?_) (fun cdv A outer s H vs Q E hr h => ?_)
  · obtain ⟨p, t, rfl, _⟩ := h
    rfl
  · obtain ⟨p, t, rfl, ht, q⟩ := h
    obtain ⟨dx, vs, vr, vn, h1, h2, h3, h4⟩ := ht.ob
    refine ⟨_, (pss_one (ps_ret (pe_fld (pv 0) rfl))), ?_⟩
    exact ⟨_, rfl, p, _, dx, _, _, rfl, h1, cl_Town T, na_Town__names T, tfl_names, q _ h4⟩

/-! ### number_of -/
theorem sc_number_of : FnScope ["word", "sign"] ["word"] (defScope s_number_of) := ⟨rfl, rfl, rfl, by decide +kernel, rfl, by decide +kernel, by decide +kernel⟩
def sp_number_of (K : Frag) : Sp := fun vs H Q _ => ∃ (x : Str), vs = [.str x] ∧ x.length ≤ 100000 ∧ ∀ H', Same H H' → Q (optI (numberOf x)) H'
theorem ok_number_of {P : Program} {w : World} {K : Frag} {mg : Str → Option Value} {base : Heap} (T : Tx K mg) : DOk P w K mg base 1 "number_of" ["word"] (sp_number_of K) := by
  obtain ⟨t_DIGITS, h_DIGITS⟩ := c_DIGITS T
  obtain ⟨t_MOST_NUMBER, h_MOST_NUMBER⟩ := c_MOST_NUMBER T
  refine dok_of (F_number_of T) (g_number_of T) sc_number_of (fun _ _ _ _ _ _ us hl => match us, hl with | [_], _ => rfl) (fun vs H Q E h => ?_) (fun cdv A outer s H vs Q E hr h => ?_)
  · obtain ⟨x, rfl, _⟩ := h
    rfl
  · obtain ⟨x, rfl, hz, q⟩ := h
    have hx : x.length ≤ sizeLine := Nat.le_trans hz (by decide)
    refine ⟨_, (pss_cons (ps_if (PW.pt (pw_or (pt_cmpR op_eq (pv 0) pe_str (nomark _)) (pw_or (pt_cmpR op_gt (pe_callB call_len_str (by rfl) (b_len T) boot_len (pa_cons (pv 0) pa_nil)) (pe_callB call_len_str (by rfl) (b_len T) boot_len (pa_cons (pe_callTy call_str_int (by rfl) (b_str T) boot_str (pa_cons (pe_glob (v := .int 9999) (by rfl) h_MOST_NUMBER ⟨_, rfl⟩) pa_nil)) pa_nil)) (nomark _)) (pw_or1 (pt_not (pt_val (pe_callB (cr_all rfl) (by rfl) (b_all T) boot_all (pa_cons (pe_lc (own := [("sign", 1)]) (g := (gName 1)) (tt := tYes) (by rfl) sc_number_of.nd (pi_str (pv 0)) (blkOk_by (own := [("sign", 1)]) (N := ["word", "sign"]) (sc := defScope s_number_of) (by decide +kernel)) (fun _ _ _ _ _ => (pg_name (i := 1) sc_number_of.nd rfl (by first | exact Or.inl rfl | exact Or.inr rfl))) (fun _ _ _ _ _ => pts_nil) (fun _ _ _ _ _ => (pe_cmpR op_in_sign (pv 1) (pe_glob (v := .str "0123456789") (by rfl) h_DIGITS ⟨_, rfl⟩) rfl))) pa_nil)))))))) (pss_one (ps_ret pe_non)) pss_nil) (pss_cons (ps_if (PW.pt (pw_and (pt_cmpR op_eq (pe_ix ix_str (pv 0) pe_int (fun _ _ => rfl)) pe_str (nomark _)) (pw_and1 (pt_cmpR op_ne (pv 0) pe_str (nomark _))))) (pss_one (ps_ret pe_non)) pss_nil) (pss_one (ps_ret (pe_callTy call_int_str (by rfl) (b_int T) boot_int (pa_cons (pv 0) pa_nil)))))), ?_⟩
    refine ⟨_, rfl, rfl, _, rfl, ?_⟩
    have e1 : decide (V.str x = V.str "") = decide (x = "") := by simp
    rw [e1]
    by_cases h1 : x = ""
    · rw [decide_eq_true h1]
      refine iteT ?_
      refine iteT ?_
      have e : numberOf x = none := by unfold numberOf; rw [if_pos h1]
      rw [e] at q
      exact q H (Same.refl H)
    rw [decide_eq_false h1]
    refine iteF ?_
    have e9 : toString (9999 : Int) = "9999" := by decide +kernel
    have hl : (("9999" : String) : Str).length = 4 := by decide +kernel
    refine ⟨_, rfl, x, rfl, hx, 9999, rfl, by decide, toString (9999 : Int), rfl, ?_, _, _, rfl, rfl, _, rfl, ?_⟩
    · rw [e9, hl]; decide
    rw [e9, hl]
    by_cases h2 : 4 < x.length
    · rw [decide_eq_true (show ((4 : Nat) : Int) < (x.length : Int) by omega)]
      refine iteT ?_
      refine iteT ?_
      have e : numberOf x = none := by unfold numberOf; rw [if_neg h1, if_pos h2]
      rw [e] at q
      exact q H (Same.refl H)
    rw [decide_eq_false (show ¬ ((4 : Nat) : Int) < (x.length : Int) by omega)]
    refine iteF ?_
    refine ⟨_, rfl, x, rfl, fun D hD => ?_⟩
    refine lc_map (K := K) walk_str (fun i => x.cps.toList[i]?.map fun c => .bool (digit c)) hD (fun _ _ => trivial) ?_ ?_ ?_ mg_name ?_
    · have : x.cps.size = x.length := rfl
      exact Nat.lt_of_lt_of_le (by omega : x.cps.size < 9) (by decide)
    · intro i d _ ed
      cases hc : x.cps.toList[i]? with
      | none => rw [hc] at ed; cases ed
      | some c => rw [hc] at ed; cases ed; rfl
    · rintro i v Hh H' hi s1 ⟨rfl, c, hc, rfl⟩ R kR
      refine ⟨rfl, _, rfl, c, _, rfl, rfl, ?_⟩
      rw [digits_mem]
      refine kR _ _ (.bool (digit c)) (Same.refl _) ?_ (.bl _)
      have hc' : x.cps.toList[i]? = some c := by rw [Array.getElem?_toList]; exact hc
      rw [hc']
      rfl
    · intro Hh ys s1 hy hp
      have en : x.cps.size = x.cps.toList.length := by simp
      rw [en, fm_map (fun c => PyData.bool (digit c)) x.cps.toList] at hp
      have ey : ys = (x.cps.toList.map digit).map V.bl := bls_of_dps (by rw [List.map_map]; exact hp)
      refine ⟨D, x.cps.toList.map digit, rfl, SqL.of (by rw [← ey]; exact hy), _, rfl, ?_⟩
      have ea : ((x.cps.toList.map digit).all id) = x.cps.toList.all digit := by rw [List.all_map]; rfl
      rw [ea]
      cases h3 : x.cps.toList.all digit with
      | false =>
        refine iteT ?_
        have e : numberOf x = none := by unfold numberOf; rw [if_neg h1, if_neg h2, if_pos h3]
        rw [e] at q
        exact q Hh s1
      | true =>
        refine iteF ?_
        have hne : x.cps.toList ≠ [] := fun z => h1 (Str.ext' (Array.toList_inj.mp (by rw [z]; rfl)))
        obtain ⟨c, cs, ec⟩ : ∃ c cs, x.cps.toList = c :: cs := by
          cases hl : x.cps.toList with
          | nil => exact absurd hl hne
          | cons c cs => exact ⟨c, cs, rfl⟩
        refine ⟨_, rfl, x, 0, c, rfl, rfl, hx, ?_, rfl, _, rfl, ?_⟩
        · rw [ec]; exact atI_nat (j := 0) rfl
        have h3' : ¬ (x.cps.toList.all digit = false) := by rw [h3]; exact Bool.noConfusion
        have e2 : decide (V.str ⟨#[c]⟩ = V.str "0") = decide (c = 48) := by
          rw [Bool.eq_iff_iff, decide_eq_true_eq, decide_eq_true_eq]
          constructor
          · intro z
            have z1 : (⟨#[c]⟩ : Str) = "0" := by injection z
            have z2 : (⟨#[c]⟩ : Str).cps.toList = ("0" : Str).cps.toList := by rw [z1]
            have z3 : ("0" : Str).cps.toList = [48] := by decide +kernel
            rw [z3] at z2
            simpa using z2
          · intro z
            rw [z]
            have z3 : (⟨#[48]⟩ : Str) = "0" := by decide +kernel
            rw [z3]
        rw [e2]
        by_cases h4 : c = 48
        · rw [decide_eq_true h4]
          refine iteT ?_
          refine ⟨_, rfl, rfl, _, rfl, ?_⟩
          have e3 : decide (V.str x = V.str "0") = decide (x = "0") := by simp
          rw [e3]
          by_cases h5 : x = "0"
          · rw [decide_eq_true h5]
            refine iteF ?_
            have e : numberOf x = some ((digitsVal x.cps.toList : Nat) : Int) := by unfold numberOf; rw [if_neg h1, if_neg h2, if_neg h3', if_neg (fun z => z.2 h5)]
            rw [e] at q
            refine ⟨_, rfl, x, _, rfl, intText_digits ?_ hne (by omega), by omega, q Hh s1⟩
            intro b hb
            have := List.all_eq_true.mp h3 b hb
            unfold digit at this
            simpa using this
          · rw [decide_eq_false h5]
            refine iteT ?_
            have e : numberOf x = none := by unfold numberOf; rw [if_neg h1, if_neg h2, if_neg h3', if_pos ⟨by rw [ec, h4]; rfl, h5⟩]
            rw [e] at q
            exact q Hh s1
        · rw [decide_eq_false h4]
          refine iteF ?_
          refine iteF ?_
          have e : numberOf x = some ((digitsVal x.cps.toList : Nat) : Int) := by
            unfold numberOf
            rw [if_neg h1, if_neg h2, if_neg h3', if_neg (fun z => h4 (by rw [ec] at z; simpa using z.1))]
          rw [e] at q
          refine ⟨_, rfl, x, _, rfl, intText_digits ?_ hne (by omega), by omega, q Hh s1⟩
          intro b hb
          have := List.all_eq_true.mp h3 b hb
          unfold digit at this
          simpa using this

/-! ### is_integer -/
theorem sc_is_integer : FnScope ["value"] ["value"] (defScope s_is_integer) := ⟨rfl, rfl, rfl, by decide +kernel, rfl, by decide +kernel, by decide +kernel⟩
def sp_is_integer (K : Frag) : Sp := fun vs H Q _ => ∃ (v : V) (d : PyData), vs = [v] ∧ Dp K H v d ∧ Q (.bl (isInteger d)) H
theorem ok_is_integer {P : Program} {w : World} {K : Frag} {mg : Str → Option Value} {base : Heap} (T : Tx K mg) : DOk P w K mg base 1 "is_integer" ["value"] (sp_is_integer K) := by
  refine dok_of (F_is_integer T) (g_is_integer T) sc_is_integer (fun _ _ _ _ _ _ us hl => match us, hl with | [_], _ => rfl) (fun vs H Q E h => ?_) (fun cdv A outer s H vs Q E hr h => ?_)
  · obtain ⟨v, d, rfl, _⟩ := h
    rfl
  · obtain ⟨v, d, rfl, hd, q⟩ := h
    refine ⟨_, (pss_one (ps_ret (pe_and (pe_callB call_isInt (by rfl) (b_isinstance T) boot_isinstance (pa_cons (pv 0) (pa_cons (pe_bltn (v := .ty "int") (by rfl) (b_int T) boot_int rfl) pa_nil))) (pe_one (pe_not (pe_callB call_isBl (by rfl) (b_isinstance T) boot_isinstance (pa_cons (pv 0) (pa_cons (pe_bltn (v := .ty "bool") (by rfl) (b_bool T) boot_bool rfl) pa_nil)))))))), ?_⟩
    refine ⟨_, rfl, v, d, rfl, hd, _, rfl, ?_⟩
    cases d <;> first
      | exact q
      | (refine iteT ⟨_, rfl, v, _, rfl, hd, _, rfl, ?_⟩; exact q)

/-! ### is_between -/
theorem sc_is_between : FnScope ["value", "least", "most"] ["value", "least", "most"] (defScope s_is_between) := ⟨rfl, rfl, rfl, by decide +kernel, rfl, by decide +kernel, by decide +kernel⟩
def sp_is_between (K : Frag) : Sp := fun vs H Q _ => ∃ (v : V) (d : PyData) (lo hi : Int), vs = [v, .int lo, .int hi] ∧ Dp K H v d ∧ Q (.bl (isBetween lo hi d)) H
theorem ok_is_between {P : Program} {w : World} {K : Frag} {mg : Str → Option Value} {base : Heap} (T : Tx K mg) : DOk P w K mg base 2 "is_between" ["value", "least", "most"] (sp_is_between K) := by
  refine dok_of (F_is_between T) (g_is_between T) sc_is_between (fun _ _ _ _ _ _ us hl => match us, hl with | [_, _, _], _ => rfl) (fun vs H Q E h => ?_) (fun cdv A outer s H vs Q E hr h => ?_)
  · obtain ⟨v, d, lo, hi, rfl, _⟩ := h
    rfl
  · obtain ⟨v, d, lo, hi, rfl, hd, q⟩ := h
    refine ⟨_, (pss_one (ps_ret (pe_and (pe_callD (ok_is_integer (K := K) T) (hr.mono (by decide)) (by rfl) passE (pa_cons (pv 0) pa_nil)) (pe_one (pe_chain op_le op_le (pv 1) (pv 0) (pv 2)))))), ?_⟩
    refine ⟨_, rfl, v, d, rfl, hd, _, rfl, ?_⟩
    cases d <;> first
      | exact q
      | skip
    cases hd
    rename_i i
    refine iteT ⟨_, rfl, _, rfl, _, _, rfl, rfl, _, rfl, ?_⟩
    by_cases h1 : lo ≤ i
    · rw [if_pos (decide_eq_true h1)]
      refine ⟨_, rfl, _, _, rfl, rfl, ?_⟩
      have e : isBetween lo hi (.int i) = decide (i ≤ hi) := by simp [isBetween, h1]
      rw [e] at q
      exact q
    · rw [if_neg (by simpa using h1)]
      have e : isBetween lo hi (.int i) = false := by simp [isBetween, h1]
      rw [e] at q
      exact q

/-! ### is_name -/
theorem sc_is_name : FnScope ["value", "sign"] ["value"] (defScope s_is_name) := ⟨rfl, rfl, rfl, by decide +kernel, rfl, by decide +kernel, by decide +kernel⟩
def sp_is_name (K : Frag) : Sp := fun vs H Q _ => ∃ (v : V) (d : PyData), vs = [v] ∧ Dp K H v d ∧ (∀ x, d = .str x → x.length ≤ 100000) ∧ ∀ H', Same H H' → Q (.bl (isName d)) H'
theorem ok_is_name {P : Program} {w : World} {K : Frag} {mg : Str → Option Value} {base : Heap} (T : Tx K mg) : DOk P w K mg base 1 "is_name" ["value"] (sp_is_name K) := by
  obtain ⟨t_LETTERS, h_LETTERS⟩ := c_LETTERS T
  refine dok_of (F_is_name T) (g_is_name T) sc_is_name (fun _ _ _ _ _ _ us hl => match us, hl with | [_], _ => rfl) (fun vs H Q E h => ?_) (fun cdv A outer s H vs Q E hr h => ?_)
  · obtain ⟨v, d, rfl, _⟩ := h
    rfl
  · obtain ⟨v, d, rfl, hd, hz, q⟩ := h
    refine ⟨_, (pss_one (ps_ret (pe_and (pe_callB call_isStr (by rfl) (b_isinstance T) boot_isinstance (pa_cons (pv 0) (pa_cons (pe_bltn (v := .ty "str") (by rfl) (b_str T) boot_str rfl) pa_nil))) (pe_and (pe_chain op_lt op_lt pe_int (pe_callB call_len_str (by rfl) (b_len T) boot_len (pa_cons (pv 0) pa_nil)) pe_int) (pe_one (pe_callB (cr_all rfl) (by rfl) (b_all T) boot_all (pa_cons (pe_lc (own := [("sign", 1)]) (g := (gName 1)) (tt := tYes) (by rfl) sc_is_name.nd (pi_str (pv 0)) (blkOk_by (own := [("sign", 1)]) (N := ["value", "sign"]) (sc := defScope s_is_name) (by decide +kernel)) (fun _ _ _ _ _ => (pg_name (i := 1) sc_is_name.nd rfl (by first | exact Or.inl rfl | exact Or.inr rfl))) (fun _ _ _ _ _ => pts_nil) (fun _ _ _ _ _ => (pe_cmpR op_in_sign (pv 1) (pe_glob (v := .str "abcdefghijklmnopqrstuvwxyz") (by rfl) h_LETTERS ⟨_, rfl⟩) rfl))) pa_nil))))))), ?_⟩
    refine ⟨_, rfl, v, d, rfl, hd, _, rfl, ?_⟩
    cases d <;> first
      | exact q H (Same.refl H)
      | skip
    cases hd
    rename_i x
    have hx : x.length ≤ sizeLine := Nat.le_trans (hz x rfl) (by decide)
    refine iteT ⟨_, rfl, x, rfl, hx, _, _, rfl, rfl, _, rfl, ?_⟩
    have e0 : isName (.str x) = (decide (0 < x.length) && decide (x.length < 9) && x.cps.toList.all letter) := rfl
    refine iteB (fun h1 => ?_) (fun h1 => ?_)
    · have h1' : decide (0 < x.length) = true := by
        have := of_decide_eq_true h1
        exact decide_eq_true (by omega)
      refine ⟨_, _, rfl, rfl, _, rfl, ?_⟩
      refine iteB (fun h2 => ?_) (fun h2 => ?_)
      · have h2' : decide (x.length < 9) = true := by
          have := of_decide_eq_true h2
          exact decide_eq_true (by omega)
        refine ⟨_, rfl, x, rfl, fun D hD => ?_⟩
        refine lc_map (K := K) walk_str (fun i => x.cps.toList[i]?.map fun c => .bool (letter c)) hD (fun _ _ => trivial) ?_ ?_ ?_ mg_name ?_
        · have : x.cps.size = x.length := rfl
          have : x.length < 9 := of_decide_eq_true h2'
          exact Nat.lt_trans (by omega : x.cps.size < 9) (by decide)
        · intro i d _ ed
          cases hc : x.cps.toList[i]? with
          | none => rw [hc] at ed; cases ed
          | some c => rw [hc] at ed; cases ed; rfl
        · rintro i v Hh H' hi s1 ⟨rfl, c, hc, rfl⟩ R kR
          refine ⟨rfl, _, rfl, c, _, rfl, rfl, ?_⟩
          rw [letters_mem]
          refine kR _ _ (.bool (letter c)) (Same.refl _) ?_ (.bl _)
          have hc' : x.cps.toList[i]? = some c := by rw [Array.getElem?_toList]; exact hc
          rw [hc']
          rfl
        · intro Hh ys s1 hy hp
          have en : x.cps.size = x.cps.toList.length := by simp
          rw [en, fm_map (fun c => PyData.bool (letter c)) x.cps.toList] at hp
          have ey : ys = (x.cps.toList.map letter).map V.bl := bls_of_dps (by rw [List.map_map]; exact hp)
          refine ⟨D, x.cps.toList.map letter, rfl, SqL.of (by rw [← ey]; exact hy), ?_⟩
          have ea : ((x.cps.toList.map letter).all id) = isName (.str x) := by
            rw [e0, h1', h2', List.all_map]
            rfl
          rw [ea]
          exact q Hh s1
      · have h2' : decide (x.length < 9) = false := by
          have := of_decide_eq_false h2
          exact decide_eq_false (by omega)
        rw [e0, h1', h2'] at q
        exact q H (Same.refl H)
    · have h1' : decide (0 < x.length) = false := by
        have := of_decide_eq_false h1
        exact decide_eq_false (by omega)
      rw [e0, h1'] at q
      exact ⟨_, rfl, q H (Same.refl H)⟩

/-! ### is_stand -/
theorem sc_is_stand : FnScope ["value"] ["value"] (defScope s_is_stand) := ⟨rfl, rfl, rfl, by decide +kernel, rfl, by decide +kernel, by decide +kernel⟩
def sp_is_stand (K : Frag) : Sp := fun vs H Q _ => ∃ (v : V) (d : PyData), vs = [v] ∧ Dp K H v d ∧ (∀ x r, d = .tuple (.str x :: r) → x.length ≤ 100000) ∧ ∀ H', Same H H' → Q (.bl (isStand d)) H'
theorem ok_is_stand {P : Program} {w : World} {K : Frag} {mg : Str → Option Value} {base : Heap} (T : Tx K mg) : DOk P w K mg base 3 "is_stand" ["value"] (sp_is_stand K) := by
  obtain ⟨t_MOST_SIZE, h_MOST_SIZE⟩ := c_MOST_SIZE T
  refine dok_of (F_is_stand T) (g_is_stand T) sc_is_stand (fun _ _ _ _ _ _ us hl => match us, hl with | [_], _ => rfl) (fun vs H Q E h => ?_) (fun cdv A outer s H vs Q E hr h => ?_)
  · obtain ⟨v, d, rfl, _⟩ := h
    rfl
  · obtain ⟨v, d, rfl, hd, hz, q⟩ := h
    refine ⟨_, (pss_cons (ps_if (PW.pt (pw_or (pt_not (pt_val (pe_callB call_isTup (by rfl) (b_isinstance T) boot_isinstance (pa_cons (pv 0) (pa_cons (pe_bltn (v := .ty "tuple") (by rfl) (b_tuple T) boot_tuple rfl) pa_nil))))) (pw_or1 (pt_cmpR op_ne (pe_callB call_len_seq (by rfl) (b_len T) boot_len (pa_cons (pv 0) pa_nil)) pe_int (nomark _))))) (pss_one (ps_ret pe_bl)) pss_nil) (pss_one (ps_ret (pe_and (pe_callD (ok_is_name (K := K) T) (hr.mono (by decide)) (by rfl) passE (pa_cons (pe_ix ix_tup (pv 0) pe_int (fun _ _ => rfl)) pa_nil)) (pe_one (pe_callD (ok_is_between (K := K) T) (hr.mono (by decide)) (by rfl) passE (pa_cons (pe_ix ix_tup (pv 0) pe_int (fun _ _ => rfl)) (pa_cons pe_int (pa_cons (pe_glob (v := .int 40) (by rfl) h_MOST_SIZE ⟨_, rfl⟩) pa_nil))))))))), ?_⟩
    refine ⟨_, rfl, v, d, rfl, hd, _, rfl, ?_⟩
    cases d <;> first
      | exact q H (Same.refl H)
      | skip
    rename_i ds
    obtain ⟨a, xs, rfl, hs, hp⟩ := dp_tup hd
    refine iteF ⟨_, rfl, a, xs, rfl, Or.inr hs, rfl, _, rfl, ?_⟩
    have hl := dpsLen hp
    by_cases h2 : xs.length = 2
    · rw [h2]
      refine iteF ?_
      obtain ⟨d1, d2, rfl⟩ : ∃ d1 d2, ds = [d1, d2] := by
        match ds, (by omega : ds.length = 2) with
        | [d1, d2], _ => exact ⟨d1, d2, rfl⟩
      obtain ⟨u, v, rfl, h3, h4⟩ := dps2 hp
      refine ⟨_, rfl, a, _, _, _, rfl, rfl, hs, atI_nat (j := 0) rfl, u, d1, rfl, h3, fun x e => hz x [d2] (by rw [e]), fun H' s1 => ⟨_, rfl, ?_⟩⟩
      have e0 : isStand (.tuple [d1, d2]) = (isName d1 && isBetween 1 40 d2) := rfl
      cases h5 : isName d1 with
      | false =>
        refine iteF ?_
        rw [e0, h5] at q
        exact q H' s1
      | true =>
        refine iteT ?_
        refine ⟨_, rfl, a, _, _, _, rfl, rfl, Same.tup s1 hs, atI_nat (j := 1) rfl, v, d2, 1, 40, rfl, dpS s1 h4, ?_⟩
        rw [e0, h5] at q
        exact q H' s1
    · have h2' : ¬ (V.int (xs.length : Int) = V.int 2) := fun z => h2 (by injection z with z; omega)
      rw [decide_eq_false h2']
      refine iteT ?_
      have e0 : isStand (.tuple ds) = false := by
        unfold isStand
        split
        · rename_i e
          injection e with e
          rw [e] at hl
          exact absurd hl h2
        · rfl
      rw [e0] at q
      exact q H (Same.refl H)

/-! ### check_stands -/
theorem sc_check_stands : FnScope ["stands", "names", "index", "stand"] ["stands"] (defScope s_check_stands) := ⟨rfl, rfl, rfl, by decide +kernel, rfl, by decide +kernel, by decide +kernel⟩
def sp_check_stands (K : Frag) : Sp := fun vs H Q _ => ∃ (v : V) (l : List (Str × Int)), vs = [v] ∧ Dp K H v (encSs l) ∧ StOk l ∧ ∀ H', Same H H' → Q .non H'
theorem ok_check_stands {P : Program} {w : World} {K : Frag} {mg : Str → Option Value} {base : Heap} (T : Tx K mg) : DOk P w K mg base 4 "check_stands" ["stands"] (sp_check_stands K) := by
  obtain ⟨t_MOST_STANDS, h_MOST_STANDS⟩ := c_MOST_STANDS T
  refine dok_of (F_check_stands T) (g_check_stands T) sc_check_stands (fun _ _ _ _ _ _ us hl => match us, hl with | [_], _ => rfl) (fun vs H Q E h => ?_) (fun cdv A outer s H vs Q E hr h => ?_)
  · obtain ⟨v, l, rfl, _⟩ := h
    rfl
  · obtain ⟨v, l, rfl, hd, ok, q⟩ := h
    obtain ⟨a, xs, rfl, hs, hp⟩ := dp_tup hd
    have hl : xs.length = l.length := by rw [dpsLen hp, List.length_map]
    refine ⟨_, (pss_cons (ps_if (PW.pt (pw_or (pt_not (pt_val (pe_callB call_isTup (by rfl) (b_isinstance T) boot_isinstance (pa_cons (pv 0) (pa_cons (pe_bltn (v := .ty "tuple") (by rfl) (b_tuple T) boot_tuple rfl) pa_nil))))) (pw_or1 (pt_cmpR op_eq (pe_callB call_len_seq (by rfl) (b_len T) boot_len (pa_cons (pv 0) pa_nil)) pe_int (nomark _))))) (pss_one ps_never) pss_nil) (pss_cons (ps_set (i := 1) sc_check_stands.nd rfl (by first | exact Or.inl rfl | exact Or.inr rfl) (pe_lst pa_nil)) (pss_one (ps_for ownE rfl (pi_enumT (by rfl) (b_enumerate T) (pa_cons (pv 0) pa_nil)) (pg_tup (by rfl) (pgs_cons (pg_name (i := 2) sc_check_stands.nd rfl (by first | exact Or.inl rfl | exact Or.inr rfl)) (pgs_cons (pg_name (i := 3) sc_check_stands.nd rfl (by first | exact Or.inl rfl | exact Or.inr rfl)) pgs_nil))) (pss_cons (ps_if (PW.pt (pw_or (pt_cmpR op_eq (pv 2) (pe_glob (v := .int 5) (by rfl) h_MOST_STANDS ⟨_, rfl⟩) (nomark _)) (pw_or (pt_not (pt_val (pe_callD (ok_is_stand (K := K) T) (hr.mono (by decide)) (by rfl) passE (pa_cons (pv 3) pa_nil)))) (pw_or1 (pt_cmpR op_in_seq (pe_ix ix_tup (pv 3) pe_int (fun _ _ => rfl)) (pv 1) (by rfl)))))) (pss_one ps_never) pss_nil) (pss_one (ps_expr (pe_bm PySem.F.plainAttrs_list PySem.F.slot_list_append PySem.F.type_list_append mt_append (pv 1) (pa_cons (pe_ix ix_tup (pv 3) pe_int (fun _ _ => rfl)) pa_nil))))))))), ?_⟩
    refine ⟨_, rfl, _, _, rfl, hd, _, rfl, ?_⟩
    refine iteF ⟨_, rfl, a, xs, rfl, Or.inr hs, rfl, _, rfl, ?_⟩
    have hne : ¬ (V.int (xs.length : Int) = V.int 0) := fun z => ok.ne (List.eq_nil_of_length_eq_zero (by injection z with z; omega))
    rw [decide_eq_false hne]
    refine iteF ?_
    refine ⟨Nat.zero_le _, fun L hL => ?_⟩
    have sL : Same H (upd H L (.lst [])) := same_new hL
    refine ⟨_, rfl, a, xs, rfl, Same.tup sL hs, ?_⟩
    refine for_it (walk_enumT (K := K) (a := a) (xs := xs)) (fun i σ H' => ∃ o1 o2, σ = [some (.ref a), some (.ref L), o1, o2] ∧ Same H H' ∧ H' L = some (.lst (((l.take i).map (·.1)).map V.str))) ?_ ?_ ?_ ?_
    · exact ⟨none, none, rfl, sL, upd_same⟩
    · rintro i σ H' _ ⟨_, _, _, s1, _⟩
      exact Same.tup s1 hs
    · rintro i x σ H1 H2 hi ⟨o1, o2, rfl, s1, hL1⟩ ⟨T1, x1, y1, rfl, hT, rfl, ei, ex⟩
      cases ei
      have s2 : Same H1 (upd H1 T1 (.tup [.int (i : Nat), y1])) := same_new hT
      have s3 := s1.trans s2
      obtain ⟨sd, b, el, rfl, hb⟩ := stand_at (dpsS s3 hp) ex
      have hsd := ok.each sd (List.mem_of_getElem? el)
      refine ⟨T1, _, rfl, SqT.of upd_same, rfl, _, _, rfl, _, _, rfl, rfl, ?_⟩
      have hi5 : ¬ (V.int ((i : Nat) : Int) = V.int 5) := fun z => by
        injection z with z
        have := (List.getElem?_eq_some_iff.mp el).1
        have := ok.few
        omega
      refine ⟨_, rfl, rfl, _, rfl, ?_⟩
      rw [decide_eq_false hi5]
      refine iteF ?_
      have he : Dp K (upd H1 T1 (.tup [.int (i : Nat), .ref b])) (.ref b) (encS sd) := .tup hb (.cons (.str _) (.cons (.int _) .nil))
      refine ⟨_, rfl, _, encS sd, rfl, he, fun x r e => ?_, fun H3 s4 => ⟨_, rfl, ?_⟩⟩
      · have e' : ([.str sd.1, .int sd.2] : List PyData) = .str x :: r := by injection e
        injection e' with e1 _
        injection e1 with e1
        have := nameOk_len hsd.1
        rw [← e1]
        omega
      rw [isStand_enc hsd]
      refine iteF ?_
      have hb3 := Same.tup s4 hb
      have hL3 : H3 L = some (.lst (((l.take i).map (·.1)).map V.str)) := s4 _ _ (s2 _ _ hL1)
      refine ⟨_, rfl, b, _, _, _, rfl, rfl, hb3, atI_nat (j := 0) rfl, _, rfl, L, _, rfl, Or.inl (SqL.of hL3), rfl, flat_strs _, _, rfl, ?_⟩
      have hnin : inV (.str sd.1) (((l.take i).map (·.1)).map V.str) = false := by
        rw [inV_strs]
        refine decide_eq_false fun hm => ?_
        have e1 : l.take (i + 1) = l.take i ++ [sd] := take_more el
        have nd := ok.nd.sublist (List.Sublist.map (·.1) (List.take_sublist (i + 1) l))
        rw [e1, List.map_append, List.nodup_append] at nd
        exact nd.2.2 _ hm _ (by simp) rfl
      show if inV (.str sd.1) (((l.take i).map (·.1)).map V.str) = true then _ else _
      rw [hnin]
      refine iteF ?_
      refine ⟨_, rfl, Or.inl ⟨rfl, _, SqL.of hL3⟩, _, rfl, b, _, _, _, rfl, rfl, hb3, atI_nat (j := 0) rfl, L, _, _, rfl, rfl, hL3, ?_, ?_⟩
      · rw [List.length_map, List.length_map, List.length_take]
        exact Nat.lt_of_le_of_lt (Nat.le_trans (Nat.min_le_right _ _) ok.few) (by decide)
      · refine ⟨_, _, rfl, same_set (s3.trans s4) hL, ?_⟩
        rw [upd_same, take_more el, List.map_append, List.map_append]
        rfl
    · rintro σ H' ⟨_, _, rfl, s1, _⟩
      exact q H' s1

/-! ### is_among -/
theorem sc_is_among : FnScope ["names", "value"] ["names", "value"] (defScope s_is_among) := ⟨rfl, rfl, rfl, by decide +kernel, rfl, by decide +kernel, by decide +kernel⟩
def sp_is_among (K : Frag) : Sp := fun vs H Q _ => ∃ (n v : V) (ns : List Str) (d : PyData), vs = [n, v] ∧ Dp K H n (.tuple (ns.map .str)) ∧ Dp K H v d ∧ Q (.bl (isAmong ns d)) H
theorem ok_is_among {P : Program} {w : World} {K : Frag} {mg : Str → Option Value} {base : Heap} (T : Tx K mg) : DOk P w K mg base 1 "is_among" ["names", "value"] (sp_is_among K) := by
  refine dok_of (F_is_among T) (g_is_among T) sc_is_among (fun _ _ _ _ _ _ us hl => match us, hl with | [_, _], _ => rfl) (fun vs H Q E h => ?_) (fun cdv A outer s H vs Q E hr h => ?_)
  · obtain ⟨n, v, ns, d, rfl, _⟩ := h
    rfl
  · obtain ⟨n, v, ns, d, rfl, hn, hd, q⟩ := h
    refine ⟨_, (pss_one (ps_ret (pe_and (pe_callB call_isStr (by rfl) (b_isinstance T) boot_isinstance (pa_cons (pv 1) (pa_cons (pe_bltn (v := .ty "str") (by rfl) (b_str T) boot_str rfl) pa_nil))) (pe_one (pe_cmpR op_in_seq (pv 1) (pv 0) (by rfl)))))), ?_⟩
    refine ⟨_, rfl, v, d, rfl, hd, _, rfl, ?_⟩
    cases d <;> first
      | exact q
      | skip
    cases hd
    rename_i x
    obtain ⟨a, xs, rfl, hs, hp⟩ := dp_tup hn
    have ex := strs_of_dps hp
    subst ex
    refine iteT ⟨_, rfl, _, rfl, a, _, rfl, Or.inr hs, rfl, flat_strs ns, ?_⟩
    have e : inV (.str x) (ns.map V.str) = isAmong ns (.str x) := inV_strs x ns
    show Q (.bl (inV (.str x) (ns.map V.str))) H
    rw [e]
    exact q

/-! ### is_road -/
theorem sc_is_road : FnScope ["names", "value"] ["names", "value"] (defScope s_is_road) := ⟨rfl, rfl, rfl, by decide +kernel, rfl, by decide +kernel, by decide +kernel⟩
def sp_is_road (K : Frag) : Sp := fun vs H Q _ => ∃ (n v : V) (ns : List Str) (d : PyData), vs = [n, v] ∧ Dp K H n (.tuple (ns.map .str)) ∧ Dp K H v d ∧ Q (.bl (isRoad ns d)) H
theorem ok_is_road {P : Program} {w : World} {K : Frag} {mg : Str → Option Value} {base : Heap} (T : Tx K mg) : DOk P w K mg base 3 "is_road" ["names", "value"] (sp_is_road K) := by
  obtain ⟨t_MOST_TIME, h_MOST_TIME⟩ := c_MOST_TIME T
  refine dok_of (F_is_road T) (g_is_road T) sc_is_road (fun _ _ _ _ _ _ us hl => match us, hl with | [_, _], _ => rfl) (fun vs H Q E h => ?_) (fun cdv A outer s H vs Q E hr h => ?_)
  · obtain ⟨n, v, ns, d, rfl, _⟩ := h
    rfl
  · obtain ⟨n, v, ns, d, rfl, hn, hd, q⟩ := h
    refine ⟨_, (pss_cons (ps_if (PW.pt (pw_or (pt_not (pt_val (pe_callB call_isTup (by rfl) (b_isinstance T) boot_isinstance (pa_cons (pv 1) (pa_cons (pe_bltn (v := .ty "tuple") (by rfl) (b_tuple T) boot_tuple rfl) pa_nil))))) (pw_or1 (pt_cmpR op_ne (pe_callB call_len_seq (by rfl) (b_len T) boot_len (pa_cons (pv 1) pa_nil)) pe_int (nomark _))))) (pss_one (ps_ret pe_bl)) pss_nil) (pss_one (ps_ret (pe_and (pe_callD (ok_is_among (K := K) T) (hr.mono (by decide)) (by rfl) passE (pa_cons (pv 0) (pa_cons (pe_ix ix_tup (pv 1) pe_int (fun _ _ => rfl)) pa_nil))) (pe_and (pe_callD (ok_is_among (K := K) T) (hr.mono (by decide)) (by rfl) passE (pa_cons (pv 0) (pa_cons (pe_ix ix_tup (pv 1) pe_int (fun _ _ => rfl)) pa_nil))) (pe_one (pe_callD (ok_is_between (K := K) T) (hr.mono (by decide)) (by rfl) passE (pa_cons (pe_ix ix_tup (pv 1) pe_int (fun _ _ => rfl)) (pa_cons pe_int (pa_cons (pe_glob (v := .int 3) (by rfl) h_MOST_TIME ⟨_, rfl⟩) pa_nil)))))))))), ?_⟩
    refine ⟨_, rfl, v, d, rfl, hd, _, rfl, ?_⟩
    cases d <;> first
      | exact q
      | skip
    rename_i ds
    obtain ⟨a, xs, rfl, hs, hp⟩ := dp_tup hd
    refine iteF ⟨_, rfl, a, xs, rfl, Or.inr hs, rfl, _, rfl, ?_⟩
    have hl := dpsLen hp
    by_cases h2 : xs.length = 3
    · rw [h2]
      refine iteF ?_
      obtain ⟨d1, d2, d3, rfl⟩ : ∃ d1 d2 d3, ds = [d1, d2, d3] := by
        match ds, (by omega : ds.length = 3) with
        | [d1, d2, d3], _ => exact ⟨d1, d2, d3, rfl⟩
      obtain ⟨u, v, w, rfl, h3, h4, h5⟩ := dps3 hp
      have e0 : isRoad ns (.tuple [d1, d2, d3]) = (isAmong ns d1 && isAmong ns d2 && isBetween 1 3 d3) := rfl
      refine ⟨_, rfl, _, rfl, a, _, _, _, rfl, rfl, hs, atI_nat (j := 0) rfl, n, u, ns, d1, rfl, hn, h3, _, rfl, ?_⟩
      cases h6 : isAmong ns d1 with
      | false =>
        refine iteF ?_
        rw [e0, h6] at q
        exact q
      | true =>
        refine iteT ?_
        refine ⟨_, rfl, _, rfl, a, _, _, _, rfl, rfl, hs, atI_nat (j := 1) rfl, n, v, ns, d2, rfl, hn, h4, _, rfl, ?_⟩
        cases h7 : isAmong ns d2 with
        | false =>
          refine iteF ?_
          rw [e0, h6, h7] at q
          exact q
        | true =>
          refine iteT ?_
          refine ⟨_, rfl, a, _, _, _, rfl, rfl, hs, atI_nat (j := 2) rfl, w, d3, 1, 3, rfl, h5, ?_⟩
          rw [e0, h6, h7] at q
          exact q
    · have h2' : ¬ (V.int (xs.length : Int) = V.int 3) := fun z => h2 (by injection z with z; omega)
      rw [decide_eq_false h2']
      refine iteT ?_
      have e0 : isRoad ns (.tuple ds) = false := by
        unfold isRoad
        split
        · rename_i e
          injection e with e
          rw [e] at hl
          exact absurd hl h2
        · rfl
      rw [e0] at q
      exact q

/-! ### check_roads -/
theorem sc_check_roads : FnScope ["names", "roads", "pairs", "index", "road"] ["names", "roads"] (defScope s_check_roads) := ⟨rfl, rfl, rfl, by decide +kernel, rfl, by decide +kernel, by decide +kernel⟩
def sp_check_roads (K : Frag) : Sp := fun vs H Q _ => ∃ (n v : V) (ns : List Str) (l : List (Str × Str × Int)), vs = [n, v] ∧ Dp K H n (encN ns) ∧ (∀ x ∈ ns, nameOk x = true) ∧ Dp K H v (encRs l) ∧ RdOk ns l ∧ ∀ H', Same H H' → Q .non H'
theorem ok_check_roads {P : Program} {w : World} {K : Frag} {mg : Str → Option Value} {base : Heap} (T : Tx K mg) : DOk P w K mg base 4 "check_roads" ["names", "roads"] (sp_check_roads K) := by
  obtain ⟨t_MOST_ROADS, h_MOST_ROADS⟩ := c_MOST_ROADS T
  refine dok_of (F_check_roads T) (g_check_roads T) sc_check_roads (fun _ _ _ _ _ _ us hl => match us, hl with | [_, _], _ => rfl) (fun vs H Q E h => ?_) (fun cdv A outer s H vs Q E hr h => ?_)
  · obtain ⟨n, v, ns, l, rfl, _⟩ := h
    rfl
  · obtain ⟨n, v, ns, l, rfl, hn, hnm, hd, ok, q⟩ := h
    obtain ⟨a, xs, rfl, hs, hp⟩ := dp_tup hd
    have hl : xs.length = l.length := by rw [dpsLen hp, List.length_map]
    refine ⟨_, (pss_cons (ps_if (pt_not (pt_val (pe_callB call_isTup (by rfl) (b_isinstance T) boot_isinstance (pa_cons (pv 1) (pa_cons (pe_bltn (v := .ty "tuple") (by rfl) (b_tuple T) boot_tuple rfl) pa_nil))))) (pss_one ps_never) pss_nil) (pss_cons (ps_set (i := 2) sc_check_roads.nd rfl (by first | exact Or.inl rfl | exact Or.inr rfl) (pe_lst pa_nil)) (pss_one (ps_for ownE rfl (pi_enumT (by rfl) (b_enumerate T) (pa_cons (pv 1) pa_nil)) (pg_tup (by rfl) (pgs_cons (pg_name (i := 3) sc_check_roads.nd rfl (by first | exact Or.inl rfl | exact Or.inr rfl)) (pgs_cons (pg_name (i := 4) sc_check_roads.nd rfl (by first | exact Or.inl rfl | exact Or.inr rfl)) pgs_nil))) (pss_cons (ps_if (PW.pt (pw_or (pt_cmpR op_eq (pv 3) (pe_glob (v := .int 12) (by rfl) h_MOST_ROADS ⟨_, rfl⟩) (nomark _)) (pw_or (pt_not (pt_val (pe_callD (ok_is_road (K := K) T) (hr.mono (by decide)) (by rfl) passE (pa_cons (pv 0) (pa_cons (pv 4) pa_nil))))) (pw_or1 (pt_cmpR (op_inD hr.units65) (pe_slice sl_tup (pv 4) po_none (po_some pe_int)) (pv 2) (by rfl)))))) (pss_one ps_never) pss_nil) (pss_one (ps_expr (pe_bm PySem.F.plainAttrs_list PySem.F.slot_list_append PySem.F.type_list_append mt_append (pv 2) (pa_cons (pe_slice sl_tup (pv 4) po_none (po_some pe_int)) pa_nil))))))))), ?_⟩
    refine ⟨_, rfl, _, _, rfl, hd, _, rfl, ?_⟩
    refine iteF ?_
    refine ⟨Nat.zero_le _, fun L hL => ?_⟩
    have sL : Same H (upd H L (.lst [])) := same_new hL
    refine ⟨_, rfl, a, xs, rfl, Same.tup sL hs, ?_⟩
    refine for_it (walk_enumT (K := K) (a := a) (xs := xs)) (fun i σ H' => ∃ o1 o2 ys, σ = [some n, some (.ref a), some (.ref L), o1, o2] ∧ Same H H' ∧ H' L = some (.lst ys) ∧ DpAll K H' ys ((l.take i).map encPr)) ?_ ?_ ?_ ?_
    · exact ⟨none, none, [], rfl, sL, upd_same, .nil⟩
    · rintro i σ H' _ ⟨_, _, _, _, s1, _⟩
      exact Same.tup s1 hs
    · rintro i x σ H1 H2 hi ⟨o1, o2, ys, rfl, s1, hL1, hy1⟩ ⟨T1, x1, y1, rfl, hT, rfl, ei, ex⟩
      cases ei
      have s2 : Same H1 (upd H1 T1 (.tup [.int (i : Nat), y1])) := same_new hT
      have s3 := s1.trans s2
      obtain ⟨sd, b, el, rfl, hb⟩ := road_at (dpsS s3 hp) ex
      have hsd := ok.each sd (List.mem_of_getElem? el)
      refine ⟨T1, _, rfl, SqT.of upd_same, rfl, _, _, rfl, _, _, rfl, rfl, ?_⟩
      have hil := (List.getElem?_eq_some_iff.mp el).1
      have hi5 : ¬ (V.int ((i : Nat) : Int) = V.int 12) := fun z => by
        injection z with z
        have := ok.few
        omega
      refine ⟨_, rfl, rfl, _, rfl, ?_⟩
      rw [decide_eq_false hi5]
      refine iteF ?_
      have he : Dp K (upd H1 T1 (.tup [.int (i : Nat), .ref b])) (.ref b) (encR sd) := .tup hb (.cons (.str _) (.cons (.str _) (.cons (.int _) .nil)))
      refine ⟨_, rfl, _, rfl, _, _, ns, encR sd, rfl, dpS s3 hn, he, _, rfl, ?_⟩
      rw [isRoad_enc hsd]
      refine iteF ?_
      refine ⟨_, rfl, 2, rfl, b, _, rfl, hb, (show ¬ ((0 : Nat) = 0 ∧ (2 : Nat) = 3) by decide), fun p hpn => ?_⟩
      have s4 : Same (upd H1 T1 (.tup [.int (i : Nat), .ref b])) (upd (upd H1 T1 (.tup [.int (i : Nat), .ref b])) p (.tup (cutV [.str sd.1, .str sd.2.1, .int sd.2.2] none (some 2)))) := same_new hpn
      have ec : cutV [.str sd.1, .str sd.2.1, .int sd.2.2] none (some 2) = [.str sd.1, .str sd.2.1] := rfl
      rw [ec] at s4 ⊢
      have dp : Dp K (upd (upd H1 T1 (.tup [.int (i : Nat), .ref b])) p (.tup [.str sd.1, .str sd.2.1])) (.ref p) (encP (sd.1, sd.2.1)) := .tup (SqT.of upd_same) (.cons (.str _) (.cons (.str _) .nil))
      have hLp := s4 _ _ (s2 _ _ hL1)
      have k1 := name_ok (hnm _ hsd.1)
      have k2 := name_ok (hnm _ hsd.2.1)
      refine ⟨_, rfl, encP (sd.1, sd.2.1), (l.take i).map encPr, dp, .lst (SqL.of hLp) (dpsS s4 (dpsS s2 hy1)), (sh_pair k1 k2).shaped, Sh.shaped (n := 2) (Sh.list fun d hd => ?_), _, rfl, ?_⟩
      · obtain ⟨r, hr, rfl⟩ := List.mem_map.mp hd
        have := ok.each r (List.mem_of_mem_take hr)
        exact sh_pair (name_ok (hnm _ this.1)) (name_ok (hnm _ this.2.1))
      have hnin : (((l.take i).map encPr).any fun z => PyData.eqv z (encP (sd.1, sd.2.1))) = false := by
        rw [List.any_map, List.any_eq_false]
        intro r hr
        show ¬ (PyData.eqv (encP (r.1, r.2.1)) (encP (sd.1, sd.2.1)) = true)
        rw [eqv_pair, decide_eq_true_eq]
        intro e
        have e1 : l.take (i + 1) = l.take i ++ [sd] := take_more el
        have nd := ok.nd.sublist (List.Sublist.map (fun r => (r.1, r.2.1)) (List.take_sublist (i + 1) l))
        rw [e1, List.map_append, List.nodup_append] at nd
        exact nd.2.2 (r.1, r.2.1) (List.mem_map.mpr ⟨r, hr, rfl⟩) (sd.1, sd.2.1) (by simp) e
      rw [hnin]
      refine iteF ?_
      have hb4 := Same.tup s4 hb
      refine ⟨_, rfl, Or.inl ⟨rfl, _, SqL.of hLp⟩, _, rfl, 2, rfl, b, _, rfl, hb4, (show ¬ ((0 : Nat) = 0 ∧ (2 : Nat) = 3) by decide), fun p2 hp2 => ?_⟩
      rw [ec]
      have s5 : Same (upd (upd H1 T1 (.tup [.int (i : Nat), .ref b])) p (.tup [.str sd.1, .str sd.2.1])) (upd (upd (upd H1 T1 (.tup [.int (i : Nat), .ref b])) p (.tup [.str sd.1, .str sd.2.1])) p2 (.tup [.str sd.1, .str sd.2.1])) := same_new hp2
      have hLp2 := s5 _ _ hLp
      have hyl : ys.length ≤ 12 := by
        rw [dpsLen hy1, List.length_map, List.length_take]
        have := ok.few
        omega
      refine ⟨L, _, _, rfl, rfl, hLp2, Nat.lt_of_le_of_lt hyl (by decide), ?_⟩
      refine ⟨_, _, _, rfl, same_set ((s3.trans s4).trans s5) hL, upd_same, ?_⟩
      rw [take_more el, List.map_append]
      refine dpsApp (dpsU hLp2 (noLs_of fun d hd => ?_) (dpsS s5 (dpsS s4 (dpsS s2 hy1)))) (.cons (dpU hLp2 rfl (.tup (SqT.of upd_same) (.cons (.str _) (.cons (.str _) .nil)))) .nil)
      obtain ⟨r, hr, rfl⟩ := List.mem_map.mp hd
      rfl
    · rintro σ H' ⟨_, _, _, rfl, s1, _⟩
      exact q H' s1

/-! ### told_town -/
theorem sc_told_town : FnScope ["text", "slots", "stands", "roads", "line", "words", "number"] ["text"] (defScope s_told_town) := ⟨rfl, rfl, rfl, by decide +kernel, rfl, by decide +kernel, by decide +kernel⟩
def toldD (x : Told) : PyData := .tuple [optD x.slots, .tuple x.stands, .tuple x.roads]
def sp_told_town (K : Frag) : Sp := fun vs H Q _ => ∃ (x : Str), vs = [.str x] ∧ x.length ≤ 90000 ∧ ∀ v H', Same H H' → Dp K H' v (toldD (told x)) → Q v H'
theorem ok_told_town {P : Program} {w : World} {K : Frag} {mg : Str → Option Value} {base : Heap} (T : Tx K mg) : DOk P w K mg base 2 "told_town" ["text"] (sp_told_town K) := by
  refine dok_of (F_told_town T) (g_told_town T) sc_told_town (fun _ _ _ _ _ _ us hl => match us, hl with | [_], _ => rfl) (fun vs H Q E h => ?_) (fun cdv A outer s H vs Q E hr h => ?_)
  · obtain ⟨x, rfl, _⟩ := h
    rfl
  · obtain ⟨x, rfl, hz, q⟩ := h
    have e1 : (("\n" : String) : Str).length = 1 := by decide +kernel
    have e2 : ((" " : String) : Str).length = 1 := by decide +kernel
    have big : 100000 ≤ sizeLine := by decide
    have nls : (Txt.split x "\n").length ≤ x.length + 1 := split_many (by rw [e1]; exact Nat.le_refl _)
    refine ⟨_, (pss_cons (ps_par3 (i := 1) (j := 2) (l := 3) (by rfl) sc_told_town.nd rfl rfl rfl (by decide) (by decide) (by decide) rfl rfl rfl (pa_cons pe_non (pa_cons (pe_lst pa_nil) (pa_cons (pe_lst pa_nil) pa_nil))) (by rfl)) (pss_cons (ps_for ownE rfl (pi_list (pe_split (pv 0) pe_str)) (pg_name (i := 4) sc_told_town.nd rfl (by first | exact Or.inl rfl | exact Or.inr rfl)) (pss_cons (ps_set (i := 5) sc_told_town.nd rfl (by first | exact Or.inl rfl | exact Or.inr rfl) (pe_split (pv 4) pe_str)) (pss_cons (ps_set (i := 6) sc_told_town.nd rfl (by first | exact Or.inl rfl | exact Or.inr rfl) (pe_callD (ok_number_of (K := K) T) (hr.mono (by decide)) (by rfl) passE (pa_cons (pe_ix ix_list (pv 5) (pe_un un_neg pe_int) (fun _ _ => rfl)) pa_nil))) (pss_one (ps_if (pt_cmpR op_eq (pe_ix ix_list (pv 5) pe_int (fun _ _ => rfl)) pe_str (nomark _)) (pss_one (ps_set (i := 1) sc_told_town.nd rfl (by first | exact Or.inl rfl | exact Or.inr rfl) (pv 6))) (pss_one (ps_if (pt_cmpR op_eq (pe_ix ix_list (pv 5) pe_int (fun _ _ => rfl)) pe_str (nomark _)) (pss_one (ps_expr (pe_bm PySem.F.plainAttrs_list PySem.F.slot_list_append PySem.F.type_list_append mt_append (pv 2) (pa_cons (pe_tup (StX.pa_star (pe_slice sl_list (pv 5) (po_some pe_int) (po_some (pe_un un_neg pe_int))) (pa_cons (pv 6) pa_nil))) pa_nil)))) (pss_one (ps_if (pt_cmpR op_eq (pe_ix ix_list (pv 5) pe_int (fun _ _ => rfl)) pe_str (nomark _)) (pss_one (ps_expr (pe_bm PySem.F.plainAttrs_list PySem.F.slot_list_append PySem.F.type_list_append mt_append (pv 3) (pa_cons (pe_tup (StX.pa_star (pe_slice sl_list (pv 5) (po_some pe_int) (po_some (pe_un un_neg pe_int))) (pa_cons (pv 6) pa_nil))) pa_nil)))) pss_nil))))))))) (pss_one (ps_ret (pe_tup (pa_cons (pv 1) (pa_cons (pe_callTy call_tuple_of (by rfl) (b_tuple T) boot_tuple (pa_cons (pv 2) pa_nil)) (pa_cons (pe_callTy call_tuple_of (by rfl) (b_tuple T) boot_tuple (pa_cons (pv 3) pa_nil)) pa_nil)))))))), ?_⟩
    refine ⟨Nat.zero_le _, fun L1 hL1 => ⟨Nat.zero_le _, fun L2 hL2 => ⟨_, _, _, rfl, ?_⟩⟩⟩
    refine ⟨_, rfl, ⟨_, rfl⟩, x, _, rfl, rfl, (by decide +kernel), (by omega), fun p hp => ?_⟩
    have n12 : L1 ≠ L2 := fun z => by rw [z, upd_same] at hL2; cases hL2
    have n1p : L1 ≠ p := fun z => by rw [← z, upd_ne n12, upd_same] at hp; cases hp
    have n2p : L2 ≠ p := fun z => by rw [← z, upd_same] at hp; cases hp
    have hL2' : H L2 = none := by rw [upd_ne n12.symm] at hL2; exact hL2
    have hp' : H p = none := by rw [upd_ne n2p.symm, upd_ne n1p.symm] at hp; exact hp
    have s0 : Same H (upd (upd (upd H L1 (.lst [])) L2 (.lst [])) p (.lst ((Txt.split x "\n").map V.str))) := same_set (same_set (same_new hL1) hL2') hp'
    refine ⟨p, rfl, ⟨_, SqL.of upd_same⟩, ?_⟩
    refine for_it (walk_list (K := K) (a := p) (xs := (Txt.split x "\n").map V.str)) (fun i σ H' => i ≤ (Txt.split x "\n").length → ∃ o4 o5 o6 ys rs,
      σ = [some (.str x), some (optI (((Txt.split x "\n").take i).foldl toldStep ⟨none, [], []⟩).slots), some (.ref L1), some (.ref L2), o4, o5, o6] ∧ Same H H' ∧ H' p = some (.lst ((Txt.split x "\n").map V.str)) ∧ H' L1 = some (.lst ys) ∧ H' L2 = some (.lst rs) ∧
      DpAll K H' ys (((Txt.split x "\n").take i).foldl toldStep ⟨none, [], []⟩).stands ∧ DpAll K H' rs (((Txt.split x "\n").take i).foldl toldStep ⟨none, [], []⟩).roads ∧
      noLs (((Txt.split x "\n").take i).foldl toldStep ⟨none, [], []⟩).stands = true ∧ noLs (((Txt.split x "\n").take i).foldl toldStep ⟨none, [], []⟩).roads = true ∧ ys.length ≤ i ∧ rs.length ≤ i) ?_ ?_ ?_ ?_
    · exact fun _ => ⟨none, none, none, [], [], rfl, s0, upd_same, by rw [upd_ne n1p, upd_ne n12, upd_same], by rw [upd_ne n2p, upd_same], .nil, .nil, rfl, rfl, Nat.le_refl _, Nat.le_refl _⟩
    · intro i σ H' hi hP
      obtain ⟨_, _, _, _, _, _, _, h, _⟩ := hP (by rw [List.length_map] at hi; exact hi)
      exact SqL.of h
    · rintro i v σ H0' H1 hi hP ⟨rfl, hx⟩
      rw [List.length_map] at hi
      obtain ⟨o4, o5, o6, ys, rs, rfl, s1, hpp, hy, hr1, dy, dr, ny, nr, ly, lr⟩ := hP (Nat.le_of_lt hi)
      obtain ⟨line, el, rfl⟩ : ∃ line, (Txt.split x "\n")[i]? = some line ∧ v = .str line := by
        rw [List.getElem?_map] at hx
        cases e : (Txt.split x "\n")[i]? with
        | none => rw [e] at hx; cases hx
        | some z => rw [e] at hx; cases hx; exact ⟨z, rfl, rfl⟩
      have fm := fold_more toldStep (⟨none, [], []⟩ : Told) el
      generalize hst : ((Txt.split x "\n").take i).foldl toldStep ⟨none, [], []⟩ = st at *
      have hll : line.length ≤ 90000 := Nat.le_trans (split_part (List.mem_of_getElem? el)) hz
      have hws := split_sp line
      have wls : (Txt.split line " ").length ≤ line.length + 1 := split_many (by rw [e2]; exact Nat.le_refl _)
      generalize hw : Txt.split line " " = ws at *
      refine ⟨_, rfl, ⟨_, rfl⟩, line, _, rfl, rfl, (by decide +kernel), (by omega), fun w hwn => ?_⟩
      rw [hw]
      have s2 : Same H1 (upd H1 w (.lst (ws.map V.str))) := same_new hwn
      have hwl : ws.getLastD "" ∈ ws := by
        rw [List.getLastD_eq_getLast?, List.getLast?_eq_some_getLast hws]
        exact List.getLast_mem hws
      have hnl : (ws.getLastD "").length ≤ 100000 := Nat.le_trans (split_part (x := line) (y := " ") (by rw [hw]; exact hwl)) (by omega)
      refine ⟨_, rfl, _, rfl, w, _, _, _, rfl, rfl, SqL.of upd_same, atI_lastD hws, ws.getLastD "", rfl, hnl, fun H3 s3 => ?_⟩
      have s13 := s2.trans s3
      have s03 := s1.trans s13
      have hw3 : H3 w = some (.lst (ws.map V.str)) := s3 _ _ upd_same
      refine ⟨_, rfl, w, _, _, _, rfl, rfl, SqL.of hw3, atI_head hws, rfl, _, rfl, ?_⟩
      have eq1 : ∀ y : Str, decide (V.str (ws.headD "") = V.str y) = decide (ws.headD "" = y) := fun y => by simp
      rw [eq1]
      have ts : toldStep st line = if ws.headD "" = "slots" then { st with slots := numberOf (ws.getLastD "") } else if ws.headD "" = "stand" then { st with stands := st.stands ++ [rowD ws (numberOf (ws.getLastD ""))] } else if ws.headD "" = "road" then { st with roads := st.roads ++ [rowD ws (numberOf (ws.getLastD ""))] } else st := by
        unfold toldStep
        rw [hw]
      have mk : ∀ (H4 : Hp), Same H3 H4 → ∀ w1, H4 w1 = none → ∀ w2, (upd H4 w1 (.lst ((midW ws).map V.str))) w2 = none →
          Dp K (upd (upd H4 w1 (.lst ((midW ws).map V.str))) w2 (.tup ((midW ws).map V.str ++ [optI (numberOf (ws.getLastD ""))]))) (.ref w2) (rowD ws (numberOf (ws.getLastD ""))) := fun H4 s4 w1 h1 w2 h2 =>
        .tup (SqT.of upd_same) (dpsApp (dpsStrs _) (.cons (dp_opt _) .nil))
      have lenmid : ((midW ws).map V.str ++ [optI (numberOf (ws.getLastD ""))]).length ≤ sizeLine := by
        rw [List.length_append, List.length_map]
        have := mid_len ws
        simp only [List.length_cons, List.length_nil]
        omega
      by_cases c1 : ws.headD "" = "slots"
      · rw [decide_eq_true c1]
        refine iteT ?_
        rw [if_pos c1] at ts
        refine ⟨_, rfl, fun hi1 => ⟨some (.str line), some (.ref w), some (optI (numberOf (ws.getLastD ""))), ys, rs, ?_, s03, s13 _ _ hpp, s13 _ _ hy, s13 _ _ hr1, ?_, ?_, ?_, ?_, by omega, by omega⟩⟩
        · rw [fm, ts]; rfl
        · rw [fm, ts]; exact dpsS s13 dy
        · rw [fm, ts]; exact dpsS s13 dr
        · rw [fm, ts]; exact ny
        · rw [fm, ts]; exact nr
      rw [decide_eq_false c1]
      refine iteF ?_
      rw [if_neg c1] at ts
      refine ⟨_, rfl, w, _, _, _, rfl, rfl, SqL.of hw3, atI_head hws, rfl, _, rfl, ?_⟩
      rw [eq1]
      by_cases c2 : ws.headD "" = "stand"
      · rw [decide_eq_true c2]
        refine iteT ?_
        rw [if_pos c2] at ts
        refine ⟨_, rfl, Or.inl ⟨rfl, _, SqL.of (s13 _ _ hy)⟩, _, rfl, 1, rfl, _, rfl, -1, rfl, w, _, rfl, SqL.of hw3, fun w1 h1 => ?_⟩
        rw [cut_mid ws hws]
        refine ⟨w1, _, rfl, Or.inr (SqL.of upd_same), _, rfl, lenmid, fun w2 h2 => ?_⟩
        have s4 : Same H3 (upd (upd H3 w1 (.lst ((midW ws).map V.str))) w2 (.tup ((midW ws).map V.str ++ [optI (numberOf (ws.getLastD ""))]))) := (same_new h1).trans (same_new h2)
        have s14 := s13.trans s4
        refine ⟨L1, _, _, rfl, rfl, s14 _ _ hy, by omega, fun hi1 => ⟨some (.str line), some (.ref w), some (optI (numberOf (ws.getLastD ""))), ys ++ [.ref w2], rs, ?_, same_set (s1.trans s14) hL1, ?_, upd_same, ?_, ?_, ?_, ?_, ?_, ?_, by omega⟩⟩
        · rw [fm, ts]; rfl
        · rw [upd_ne n1p.symm]; exact s14 _ _ hpp
        · rw [upd_ne n12.symm]; exact s14 _ _ hr1
        · rw [fm, ts]
          exact dpsApp (dpsU (s14 _ _ hy) ny (dpsS s14 dy)) (.cons (dpU (s14 _ _ hy) (noL_row _ _) (mk H3 (Same.refl _) w1 h1 w2 h2)) .nil)
        · rw [fm, ts]
          exact dpsU (s14 _ _ hy) nr (dpsS s14 dr)
        · rw [fm]; exact (step_rows ny nr).1
        · rw [fm]; exact (step_rows ny nr).2.1
        · rw [List.length_append]; simp only [List.length_cons, List.length_nil]; omega
      rw [decide_eq_false c2]
      refine iteF ?_
      rw [if_neg c2] at ts
      refine ⟨_, rfl, w, _, _, _, rfl, rfl, SqL.of hw3, atI_head hws, rfl, _, rfl, ?_⟩
      rw [eq1]
      by_cases c3 : ws.headD "" = "road"
      · rw [decide_eq_true c3]
        refine iteT ?_
        rw [if_pos c3] at ts
        refine ⟨_, rfl, Or.inl ⟨rfl, _, SqL.of (s13 _ _ hr1)⟩, _, rfl, 1, rfl, _, rfl, -1, rfl, w, _, rfl, SqL.of hw3, fun w1 h1 => ?_⟩
        rw [cut_mid ws hws]
        refine ⟨w1, _, rfl, Or.inr (SqL.of upd_same), _, rfl, lenmid, fun w2 h2 => ?_⟩
        have s4 : Same H3 (upd (upd H3 w1 (.lst ((midW ws).map V.str))) w2 (.tup ((midW ws).map V.str ++ [optI (numberOf (ws.getLastD ""))]))) := (same_new h1).trans (same_new h2)
        have s14 := s13.trans s4
        refine ⟨L2, _, _, rfl, rfl, s14 _ _ hr1, by omega, fun hi1 => ⟨some (.str line), some (.ref w), some (optI (numberOf (ws.getLastD ""))), ys, rs ++ [.ref w2], ?_, same_set (s1.trans s14) hL2', ?_, ?_, upd_same, ?_, ?_, ?_, ?_, by omega, ?_⟩⟩
        · rw [fm, ts]; rfl
        · rw [upd_ne n2p.symm]; exact s14 _ _ hpp
        · rw [upd_ne n12]; exact s14 _ _ hy
        · rw [fm, ts]
          exact dpsU (s14 _ _ hr1) ny (dpsS s14 dy)
        · rw [fm, ts]
          exact dpsApp (dpsU (s14 _ _ hr1) nr (dpsS s14 dr)) (.cons (dpU (s14 _ _ hr1) (noL_row _ _) (mk H3 (Same.refl _) w1 h1 w2 h2)) .nil)
        · rw [fm]; exact (step_rows ny nr).1
        · rw [fm]; exact (step_rows ny nr).2.1
        · rw [List.length_append]; simp only [List.length_cons, List.length_nil]; omega
      rw [decide_eq_false c3]
      refine iteF ?_
      rw [if_neg c3] at ts
      refine fun hi1 => ⟨some (.str line), some (.ref w), some (optI (numberOf (ws.getLastD ""))), ys, rs, ?_, s03, s13 _ _ hpp, s13 _ _ hy, s13 _ _ hr1, ?_, ?_, ?_, ?_, by omega, by omega⟩
      · rw [fm, ts]; rfl
      · rw [fm, ts]; exact dpsS s13 dy
      · rw [fm, ts]; exact dpsS s13 dr
      · rw [fm, ts]; exact ny
      · rw [fm, ts]; exact nr
    · intro σ H' hP
      obtain ⟨o4, o5, o6, ys, rs, rfl, s1, hpp, hy, hr1, dy, dr, ny, nr, ly, lr⟩ := hP (by rw [List.length_map]; exact Nat.le_refl _)
      rw [List.length_map, List.take_length] at dy dr
      refine ⟨_, rfl, _, rfl, L1, ys, rfl, Or.inl ⟨SqL.of hy, fun t1 h1 => ?_⟩⟩
      have s2 : Same H' (upd H' t1 (.tup ys)) := same_new h1
      refine ⟨_, rfl, L2, rs, rfl, Or.inl ⟨SqL.of (s2 _ _ hr1), fun t2 h2 => ?_⟩⟩
      have s3 : Same (upd H' t1 (.tup ys)) (upd (upd H' t1 (.tup ys)) t2 (.tup rs)) := same_new h2
      refine ⟨(show 3 ≤ sizeLine by decide), fun t3 h3 => ?_⟩
      have s4 : ∀ o, Same (upd (upd H' t1 (.tup ys)) t2 (.tup rs)) (upd (upd (upd H' t1 (.tup ys)) t2 (.tup rs)) t3 o) := fun o => same_new h3
      refine q _ _ (s1.trans (s2.trans (s3.trans (s4 _)))) (.tup (SqT.of upd_same) (.cons ?_ (.cons ?_ (.cons ?_ .nil))))
      · rw [List.length_map, List.take_length]
        exact dp_opt _
      · exact .tup (SqT.of (s4 _ _ _ (s3 _ _ upd_same))) (dpsS (s2.trans (s3.trans (s4 _))) dy)
      · exact .tup (SqT.of (s4 _ _ _ upd_same)) (dpsS (s2.trans (s3.trans (s4 _))) dr)

/-! ### lines_of -/
theorem sc_lines_of : FnScope ["town", "lines", "name", "size", "origin", "target", "time"] ["town"] (defScope s_lines_of) := ⟨rfl, rfl, rfl, by decide +kernel, rfl, by decide +kernel, by decide +kernel⟩
def sp_lines_of (K : Frag) : Sp := fun vs H Q _ => ∃ (p : Addr) (t : TownD), vs = [.ref p] ∧ TownAt K H p t ∧ t.Ok ∧ ∀ H' L, Same H H' → H L = none → H' L = some (.lst ((linesOf t).map V.str)) → Q (.ref L) H'
theorem ok_lines_of {P : Program} {w : World} {K : Frag} {mg : Str → Option Value} {base : Heap} (T : Tx K mg) : DOk P w K mg base 4 "lines_of" ["town"] (sp_lines_of K) := by
  refine dok_of (F_lines_of T) (g_lines_of T) sc_lines_of (fun _ _ _ _ _ _ us hl => match us, hl with | [_], _ => rfl) (fun vs H Q E h => ?_) (fun cdv A outer s H vs Q E hr h => ?_)
  · obtain ⟨p, t, rfl, _⟩ := h
    rfl
  · obtain ⟨p, t, rfl, ht, ok, q⟩ := h
    obtain ⟨dx, vs, vr, vn, h1, h2, h3, h4⟩ := ht.ob
    have z1 := ok.s1
    have z2 := ok.s2
    have n1 := num_le (z := t.slots) (by omega) (by omega)
    refine ⟨_, (pss_cons (ps_set (i := 1) sc_lines_of.nd rfl (by first | exact Or.inl rfl | exact Or.inr rfl) (pe_lst (pa_cons (pe_joinN (PJ.cons pe_str (PJ.cons (pe_fmt (pe_propM (pv 0) (cl_Town T) (propB_ok (pr_Town_slots T)) (ok_Town_slots T) (hr.mono (by decide)))) PJ.nil))) pa_nil))) (pss_cons (ps_expr (pe_bm PySem.F.plainAttrs_list PySem.F.slot_list_extend PySem.F.type_list_extend mt_extend (pv 1) (pa_cons (pe_lc (own := [("name", 2), ("size", 3)]) (g := (gTup K 2 (gCons (gName 2) (gCons (gName 3) gNil)))) (tt := tYes) (by rfl) sc_lines_of.nd (pi_tup (pe_propM (pv 0) (cl_Town T) (propB_ok (pr_Town_stands T)) (ok_Town_stands T) (hr.mono (by decide)))) (blkOk_by (own := [("name", 2), ("size", 3)]) (N := ["town", "lines", "name", "size", "origin", "target", "time"]) (sc := defScope s_lines_of) (by decide +kernel)) (fun _ _ _ _ _ => (pg_tup (by rfl) (pgs_cons (pg_name (i := 2) sc_lines_of.nd rfl (by first | exact Or.inl rfl | exact Or.inr rfl)) (pgs_cons (pg_name (i := 3) sc_lines_of.nd rfl (by first | exact Or.inl rfl | exact Or.inr rfl)) pgs_nil)))) (fun _ _ _ _ _ => pts_nil) (fun _ _ _ _ _ => (pe_joinN (PJ.cons pe_str (PJ.cons (pe_fmt (pv 2)) (PJ.cons pe_str (PJ.cons (pe_fmt (pv 3)) PJ.nil))))))) pa_nil))) (pss_cons (ps_expr (pe_bm PySem.F.plainAttrs_list PySem.F.slot_list_extend PySem.F.type_list_extend mt_extend (pv 1) (pa_cons (pe_lc (own := [("origin", 4), ("target", 5), ("time", 6)]) (g := (gTup K 3 (gCons (gName 4) (gCons (gName 5) (gCons (gName 6) gNil))))) (tt := tYes) (by rfl) sc_lines_of.nd (pi_tup (pe_propM (pv 0) (cl_Town T) (propB_ok (pr_Town_roads T)) (ok_Town_roads T) (hr.mono (by decide)))) (blkOk_by (own := [("origin", 4), ("target", 5), ("time", 6)]) (N := ["town", "lines", "name", "size", "origin", "target", "time"]) (sc := defScope s_lines_of) (by decide +kernel)) (fun _ _ _ _ _ => (pg_tup (by rfl) (pgs_cons (pg_name (i := 4) sc_lines_of.nd rfl (by first | exact Or.inl rfl | exact Or.inr rfl)) (pgs_cons (pg_name (i := 5) sc_lines_of.nd rfl (by first | exact Or.inl rfl | exact Or.inr rfl)) (pgs_cons (pg_name (i := 6) sc_lines_of.nd rfl (by first | exact Or.inl rfl | exact Or.inr rfl)) pgs_nil))))) (fun _ _ _ _ _ => pts_nil) (fun _ _ _ _ _ => (pe_joinN (PJ.cons pe_str (PJ.cons (pe_fmt (pv 4)) (PJ.cons pe_str (PJ.cons (pe_fmt (pv 5)) (PJ.cons pe_str (PJ.cons (pe_fmt (pv 6)) PJ.nil))))))))) pa_nil))) (pss_one (ps_ret (pv 1)))))), ?_⟩
    refine ⟨_, rfl, (by decide +kernel), _, rfl, p, dx, _, rfl, h1, p, t, rfl, ht, Or.inr ⟨_, rfl, log2_small (by omega) (by omega), _, rfl, ?_, ?_⟩⟩
    · rw [len_app, len_app]
      refine Nat.le_trans (Nat.add_le_add (Nat.le_refl _) n1.1) (by decide +kernel)
    refine ⟨(show 1 ≤ sizeLine by decide), fun L hL => ?_⟩
    have s1 : Same H (upd H L (.lst [.str (Str.empty ++ "slots " ++ num t.slots)])) := same_new hL
    have hL1 : (upd H L (.lst [.str (Str.empty ++ "slots " ++ num t.slots)])) L = some (.lst [.str (slotsLine t.slots)]) := by
      rw [upd_same, empty_app]
      rfl
    -- the stands
    refine ⟨_, rfl, Or.inl ⟨rfl, _, SqL.of hL1⟩, _, rfl, p, dx, _, rfl, s1 _ _ h1, p, t, rfl, ht.same s1, fun v hv => ?_⟩
    obtain ⟨a, xs, rfl, hs, hp⟩ := dp_tup hv
    have hxl : xs.length = t.stands.length := by rw [dpsLen hp, List.length_map]
    refine ⟨a, rfl, ⟨xs, hs⟩, fun D hD => ?_⟩
    refine lc_map (K := K) (g := gTup K 2 (gCons (gName 2) (gCons (gName 3) gNil))) (walk_tup (K := K) (a := a) (xs := xs)) (fun i => t.stands[i]?.map fun s => .str (standLine s)) hD (fun H2 s2 => Same.tup s2 hs) ?_ ?_ ?_ mg_tup2 ?_
    · rw [hxl]; exact Nat.lt_of_le_of_lt ok.st.few (by decide)
    · intro i d _ ed
      cases hc : t.stands[i]? with
      | none => rw [hc] at ed; cases ed
      | some c => rw [hc] at ed; cases ed; rfl
    · rintro i v H2 H3 hi s2 ⟨rfl, hx⟩ R kR
      obtain ⟨sd, b, el, rfl, hb⟩ := stand_at (dpsS s2 hp) hx
      have hsd := ok.st.each sd (List.mem_of_getElem? el)
      have nl := nameOk_len hsd.1
      have nn : (Str.ofString (toString sd.2)).length ≤ 2 := (num_le (z := sd.2) (by omega) (by omega)).1
      have e1 : (("stand " : String) : Str).length = 6 := by decide +kernel
      have e2 : ((" " : String) : Str).length = 1 := by decide +kernel
      have e3 : 100 ≤ sizeLine := by decide
      refine ⟨b, _, rfl, hb, rfl, _, _, rfl, _, _, rfl, rfl, rfl, _, rfl, ?_, _, rfl, Or.inl ⟨_, rfl, by omega, _, rfl, ?_, _, rfl, ?_, _, rfl, Or.inr ⟨_, rfl, log2_small (by omega) (by omega), _, rfl, ?_, ?_⟩⟩⟩
      · rw [empty_app]; omega
      · rw [empty_app, len_app]; omega
      · rw [empty_app, len_app, len_app]; omega
      · rw [empty_app, len_app, len_app, len_app]; omega
      · rw [empty_app]
        refine kR _ _ (.str (standLine sd)) (Same.refl _) ?_ (.str _)
        rw [el]
        rfl
    · intro H2 ys s2 hy hp2
      rw [hxl, fm_map (fun s => PyData.str (standLine s)) t.stands] at hp2
      have ey : ys = (t.stands.map standLine).map V.str := strs_of_dps (by rw [List.map_map]; exact hp2)
      subst ey
      have hL2 := s2 _ _ hL1
      have s02 := s1.trans s2
      refine ⟨L, D, _, _, rfl, rfl, hL2, hy, ?_, ?_⟩
      · rw [List.length_map, List.length_map]
        have := ok.st.few
        show 1 + t.stands.length ≤ sizeLine
        exact Nat.le_trans (show 1 + t.stands.length ≤ 6 by omega) (by decide)
      have s3 : Same H (upd H2 L (.lst ([.str (slotsLine t.slots)] ++ (t.stands.map standLine).map V.str))) := same_set s02 hL
      have hL3 : (upd H2 L (.lst ([.str (slotsLine t.slots)] ++ (t.stands.map standLine).map V.str))) L = some (.lst ([.str (slotsLine t.slots)] ++ (t.stands.map standLine).map V.str)) := upd_same
      refine ⟨_, rfl, Or.inl ⟨rfl, _, SqL.of hL3⟩, _, rfl, p, dx, _, rfl, s3 _ _ h1, p, t, rfl, ht.same s3, fun v hv => ?_⟩
      obtain ⟨a2, xs2, rfl, hs2, hp3⟩ := dp_tup hv
      have hxl2 : xs2.length = t.roads.length := by rw [dpsLen hp3, List.length_map]
      refine ⟨a2, rfl, ⟨xs2, hs2⟩, fun D2 hD2 => ?_⟩
      refine lc_map (K := K) (g := gTup K 3 (gCons (gName 4) (gCons (gName 5) (gCons (gName 6) gNil)))) (walk_tup (K := K) (a := a2) (xs := xs2)) (fun i => t.roads[i]?.map fun s => .str (roadLine s)) hD2 (fun H4 s4 => Same.tup s4 hs2) ?_ ?_ ?_ mg_tup3 ?_
      · rw [hxl2]; exact Nat.lt_of_le_of_lt ok.rd.few (by decide)
      · intro i d _ ed
        cases hc : t.roads[i]? with
        | none => rw [hc] at ed; cases ed
        | some c => rw [hc] at ed; cases ed; rfl
      · rintro i v H4 H5 hi s4 ⟨rfl, hx⟩ R kR
        obtain ⟨sd, b, el, rfl, hb⟩ := road_at (dpsS s4 hp3) hx
        have hsd := ok.rd.each sd (List.mem_of_getElem? el)
        obtain ⟨u1, hu1, eu1⟩ := List.mem_map.mp hsd.1
        obtain ⟨u2, hu2, eu2⟩ := List.mem_map.mp hsd.2.1
        have nl1 := nameOk_len (ok.st.each u1 hu1).1
        have nl2 := nameOk_len (ok.st.each u2 hu2).1
        rw [eu1] at nl1
        rw [eu2] at nl2
        have nn : (Str.ofString (toString sd.2.2)).length ≤ 2 := (num_le (z := sd.2.2) (by omega) (by omega)).1
        have e1 : (("road " : String) : Str).length = 5 := by decide +kernel
        have e2 : ((" " : String) : Str).length = 1 := by decide +kernel
        have e3 : 100 ≤ sizeLine := by decide
        refine ⟨b, _, rfl, hb, rfl, _, _, rfl, _, _, rfl, _, _, rfl, rfl, rfl, _, rfl, ?_, _, rfl, Or.inl ⟨_, rfl, by omega, _, rfl, ?_, _, rfl, ?_, _, rfl, Or.inl ⟨_, rfl, by omega, _, rfl, ?_, _, rfl, ?_, _, rfl, Or.inr ⟨_, rfl, log2_small (by omega) (by omega), _, rfl, ?_, ?_⟩⟩⟩⟩
        · rw [empty_app]; omega
        · rw [empty_app, len_app]; omega
        · rw [empty_app, len_app, len_app]; omega
        · rw [empty_app, len_app, len_app, len_app]; omega
        · rw [empty_app, len_app, len_app, len_app, len_app]; omega
        · rw [empty_app, len_app, len_app, len_app, len_app, len_app]; omega
        · rw [empty_app]
          refine kR _ _ (.str (roadLine sd)) (Same.refl _) ?_ (.str _)
          rw [el]
          rfl
      · intro H4 ys s4 hy hp4
        rw [hxl2, fm_map (fun s => PyData.str (roadLine s)) t.roads] at hp4
        have ey : ys = (t.roads.map roadLine).map V.str := strs_of_dps (by rw [List.map_map]; exact hp4)
        subst ey
        refine ⟨L, D2, _, _, rfl, rfl, s4 _ _ hL3, hy, ?_, ?_⟩
        · rw [List.length_append, List.length_map, List.length_map, List.length_map, List.length_map]
          have := ok.st.few
          have := ok.rd.few
          refine Nat.le_trans (show _ ≤ 18 from ?_) (by decide)
          show 1 + t.stands.length + t.roads.length ≤ 18
          omega
        · refine ⟨_, rfl, q _ L (same_set (s3.trans s4) hL) hL ?_⟩
          rw [upd_same]
          unfold linesOf
          rw [List.map_append, List.map_append]
          rfl

/-! ### Town___init__ -/
theorem sc_Town___init__ : FnScope ["self", "slots", "stands", "roads", "names", "name", "size"] ["self", "slots", "stands", "roads"] (defScope s_Town___init__) := ⟨rfl, rfl, rfl, by decide +kernel, rfl, by decide +kernel, by decide +kernel⟩
def sp_Town___init__ (K : Frag) : Sp := fun vs H Q _ => ∃ (p dx : Addr) (vst vrd : V) (t : TownD), vs = [.ref p, .int t.slots, vst, vrd] ∧ H p = some (.ins (He.ga K "Town") dx []) ∧ Dp K H vst (encSs t.stands) ∧ Dp K H vrd (encRs t.roads) ∧ t.Ok ∧
  ∀ H', But p H H' → TownAt K H' p t → Q .non H'
theorem ok_Town___init__ {P : Program} {w : World} {K : Frag} {mg : Str → Option Value} {base : Heap} (T : Tx K mg) : MOk P w K mg base 5 (He.ma K (He.ga K "Town") "__init__") ["self", "slots", "stands", "roads"] (sp_Town___init__ K) := by
  obtain ⟨t_MOST_SLOTS, h_MOST_SLOTS⟩ := c_MOST_SLOTS T
  refine mokD_of (x := "__init__") (q := "Town.__init__") (fun z => by cases z) (F_Town___init__ T) sc_Town___init__ (fun _ _ _ _ _ _ _ us its hl hl2 => match us, hl, its, hl2 with | [_, _, _, _], _, [_], _ => ⟨_, rfl, rfl⟩) (fun vs H Q E h => ?_) (fun cdv A outer s H vs Q E hr h => ?_)
  · obtain ⟨p, dx, vst, vrd, t, rfl, _⟩ := h
    rfl
  · obtain ⟨p, dx, vst, vrd, t, rfl, hp, hst, hrd, ok, q⟩ := h
    refine ⟨_, (pss_cons (ps_if (pt_not (pt_val (pe_callD (ok_is_between (K := K) T) (hr.mono (by decide)) (by rfl) passE (pa_cons (pv 1) (pa_cons pe_int (pa_cons (pe_glob (v := .int 8) (by rfl) h_MOST_SLOTS ⟨_, rfl⟩) pa_nil)))))) (pss_one ps_never) pss_nil) (pss_cons (ps_expr (pe_callD (ok_check_stands (K := K) T) (hr.mono (by decide)) (by rfl) passE (pa_cons (pv 2) pa_nil))) (pss_cons (ps_set (i := 4) sc_Town___init__.nd rfl (by first | exact Or.inl rfl | exact Or.inr rfl) (pe_callTy call_tuple_of (by rfl) (b_tuple T) boot_tuple (pa_cons (pe_lc (own := [("name", 5), ("size", 6)]) (g := (gTup K 2 (gCons (gName 5) (gCons (gName 6) gNil)))) (tt := tYes) (by rfl) sc_Town___init__.nd (pi_tup (pv 2)) (blkOk_by (own := [("name", 5), ("size", 6)]) (N := ["self", "slots", "stands", "roads", "names", "name", "size"]) (sc := defScope s_Town___init__) (by decide +kernel)) (fun _ _ _ _ _ => (pg_tup (by rfl) (pgs_cons (pg_name (i := 5) sc_Town___init__.nd rfl (by first | exact Or.inl rfl | exact Or.inr rfl)) (pgs_cons (pg_name (i := 6) sc_Town___init__.nd rfl (by first | exact Or.inl rfl | exact Or.inr rfl)) pgs_nil)))) (fun _ _ _ _ _ => pts_nil) (fun _ _ _ _ _ => (pv 5))) pa_nil))) (pss_cons (ps_expr (pe_callD (ok_check_roads (K := K) T) (hr.mono (by decide)) (by rfl) passE (pa_cons (pv 4) (pa_cons (pv 3) pa_nil)))) (pss_cons (ps_fld (pv 0) (pv 1) rfl) (pss_cons (ps_fld (pv 0) (pv 2) rfl) (pss_cons (ps_fld (pv 0) (pv 3) rfl) (pss_one (ps_fld (pv 0) (pv 4) rfl))))))))), ?_⟩
    refine ⟨_, rfl, _, .int t.slots, 1, 8, rfl, .int _, _, rfl, ?_⟩
    have e1 : isBetween 1 8 (.int t.slots) = true := by simp [isBetween, ok.s1, ok.s2]
    rw [e1]
    refine iteF ?_
    refine ⟨_, rfl, vst, t.stands, rfl, hst, ok.st, fun H1 s1 => ?_⟩
    obtain ⟨a, xs, rfl, hs, hps⟩ := dp_tup (dpS s1 hst)
    have hxl : xs.length = t.stands.length := by rw [dpsLen hps, List.length_map]
    refine ⟨_, rfl, a, rfl, ⟨xs, hs⟩, fun D hD => ?_⟩
    refine lc_map (K := K) (g := gTup K 2 (gCons (gName 5) (gCons (gName 6) gNil))) (walk_tup (K := K) (a := a) (xs := xs)) (fun i => t.stands[i]?.map fun s => .str s.1) hD (fun H2 s2 => Same.tup s2 hs) ?_ ?_ ?_ mg_tup2 ?_
    · rw [hxl]; exact Nat.lt_of_le_of_lt ok.st.few (by decide)
    · intro i d _ ed
      cases hc : t.stands[i]? with
      | none => rw [hc] at ed; cases ed
      | some c => rw [hc] at ed; cases ed; rfl
    · rintro i v H2 H3 hi s2 ⟨rfl, hx⟩ R kR
      obtain ⟨sd, b, el, rfl, hb⟩ := stand_at (dpsS s2 hps) hx
      refine ⟨b, _, rfl, hb, rfl, _, _, rfl, _, _, rfl, rfl, rfl, _, rfl, ?_⟩
      refine kR _ _ (.str sd.1) (Same.refl _) ?_ (.str _)
      rw [el]
      rfl
    · intro H2 ys s2 hy hp2
      rw [hxl, fm_map (fun s => PyData.str s.1) t.stands] at hp2
      have ey : ys = t.names.map V.str := strs_of_dps (by unfold TownD.names; rw [List.map_map]; exact hp2)
      subst ey
      refine ⟨D, _, rfl, Or.inl ⟨SqL.of hy, fun l hl => ?_⟩⟩
      have s3 := (s1.trans s2).trans (same_new (o := .tup (t.names.map V.str)) hl)
      have hn : Dp K (upd H2 l (.tup (t.names.map V.str))) (.ref l) (encN t.names) := .tup (SqT.of upd_same) (dpsStrs _)
      refine ⟨_, rfl, _, rfl, .ref l, vrd, t.names, t.roads, rfl, hn, ?_, dpS s3 hrd, ok.rd, fun H4 s4 => ?_⟩
      · intro x hx
        obtain ⟨u, hu, eu⟩ := List.mem_map.mp hx
        rw [← eu]
        exact (ok.st.each u hu).1
      have s5 := s3.trans s4
      have h4 := s5 _ _ hp
      refine ⟨_, rfl, _, rfl, p, _, dx, _, rfl, h4, cl_Town T, na_Town__slots T, (by show 0 < 1000; decide), ?_⟩
      refine ⟨_, rfl, _, rfl, p, _, dx, _, rfl, upd_same, cl_Town T, na_Town__stands T, (by show 1 < 1000; decide), ?_⟩
      refine ⟨_, rfl, _, rfl, p, _, dx, _, rfl, upd_same, cl_Town T, na_Town__roads T, (by show 2 < 1000; decide), ?_⟩
      refine ⟨_, rfl, _, rfl, p, _, dx, _, rfl, upd_same, cl_Town T, na_Town__names T, (by show 3 < 1000; decide), ?_⟩
      have nt := noTup_ins h4
      have n1 : ∀ (C dx : Addr) (fs : List (Str × V)) (H : Hp), NoTup (upd H p (.ins C dx fs)) p := fun C dx fs H => noTup_ins upd_same
      refine q _ (fun b o hb hne => ?_) ⟨dx, _, _, _, upd_same, ?_, ?_, ?_⟩
      · rw [upd_ne hne, upd_ne hne, upd_ne hne, upd_ne hne]
        exact s5 _ _ hb
      · exact dpV (n1 _ _ _ _) (noL_S _) (dpV (n1 _ _ _ _) (noL_S _) (dpV (n1 _ _ _ _) (noL_S _) (dpV nt (noL_S _) (dpS s5 hst))))
      · exact dpV (n1 _ _ _ _) (noL_R _) (dpV (n1 _ _ _ _) (noL_R _) (dpV (n1 _ _ _ _) (noL_R _) (dpV nt (noL_R _) (dpS s5 hrd))))
      · exact dpV (n1 _ _ _ _) (noL_N _) (dpV (n1 _ _ _ _) (noL_N _) (dpV (n1 _ _ _ _) (noL_N _) (dpV nt (noL_N _) (dpS s4 hn))))

/-! ### Town___str__ -/
theorem sc_Town___str__ : FnScope ["self"] ["self"] (defScope s_Town___str__) := ⟨rfl, rfl, rfl, by decide +kernel, rfl, by decide +kernel, by decide +kernel⟩
def sp_Town___str__ (K : Frag) : Sp := fun vs H Q _ => ∃ (p : Addr) (t : TownD), vs = [.ref p] ∧ TownAt K H p t ∧ t.Ok ∧ ∀ H', Same H H' → Q (.str (townText t)) H'
theorem ok_Town___str__ {P : Program} {w : World} {K : Frag} {mg : Str → Option Value} {base : Heap} (T : Tx K mg) : MOk P w K mg base 5 (He.ma K (He.ga K "Town") "__str__") ["self"] (sp_Town___str__ K) := by
  refine mok_of (x := "__str__") (q := "Town.__str__") (F_Town___str__ T) sc_Town___str__ (fun _ _ _ _ _ _ us hl => match us, hl with | [_], _ => rfl) (fun vs H Q E h => ?_) (fun cdv A outer s H vs Q E hr h => ?_)
  · obtain ⟨p, t, rfl, _⟩ := h
    rfl
  · obtain ⟨p, t, rfl, ht, ok, q⟩ := h
    refine ⟨_, (pss_one (ps_ret (pe_join pe_str (pe_callD (ok_lines_of (K := K) T) (hr.mono (by decide)) (by rfl) passE (pa_cons (pv 0) pa_nil))))), ?_⟩
    refine ⟨⟨_, rfl⟩, _, rfl, p, t, rfl, ht, ok, fun H' L s1 hL h1 => ⟨_, L, linesOf t, rfl, rfl, Or.inl (SqL.of h1), ?_, q H' s1⟩⟩
    have h2 := sum_le (line_len ok)
    have h3 := lines_few ok
    have e : (("\n" : String) : Str).length = 1 := by decide +kernel
    rw [e]
    have : (linesOf t).length * 40 ≤ 18 * 40 := Nat.mul_le_mul_right _ h3
    omega

/-! ### Town___eq__ -/
theorem sc_Town___eq__ : FnScope ["self", "other"] ["self", "other"] (defScope s_Town___eq__) := ⟨rfl, rfl, rfl, by decide +kernel, rfl, by decide +kernel, by decide +kernel⟩
def sp_Town___eq__ (K : Frag) : Sp := fun vs H Q _ => ∃ (p p' : Addr) (t t' : TownD), vs = [.ref p, .ref p'] ∧ TownAt K H p t ∧ t.Ok ∧ TownAt K H p' t' ∧ t'.Ok ∧ ∀ H', Same H H' → Q (.bl (decide (townText t = townText t'))) H'
theorem ok_Town___eq__ {P : Program} {w : World} {K : Frag} {mg : Str → Option Value} {base : Heap} (T : Tx K mg) : MOk P w K mg base 8 (He.ma K (He.ga K "Town") "__eq__") ["self", "other"] (sp_Town___eq__ K) := by
  refine mok_of (x := "__eq__") (q := "Town.__eq__") (F_Town___eq__ T) sc_Town___eq__ (fun _ _ _ _ _ _ us hl => match us, hl with | [_, _], _ => rfl) (fun vs H Q E h => ?_) (fun cdv A outer s H vs Q E hr h => ?_)
  · obtain ⟨p, p', t, t', rfl, _⟩ := h
    rfl
  · obtain ⟨p, p', t, t', rfl, ht, ok, ht', ok', q⟩ := h
    obtain ⟨dx, vs, vr, vn, h1, _⟩ := ht.ob
    obtain ⟨dx', vs', vr', vn', h1', _⟩ := ht'.ob
    refine ⟨_, (pss_one (ps_ret (pe_and (pe_callB call_isi (by rfl) (b_isinstance T) boot_isinstance (pa_cons (pv 1) (pa_cons (pe_glob (v := .ref (He.ga K "Town")) (by rfl) (g_Town T) rfl) pa_nil))) (pe_one (pe_cmpR op_eq (pe_callTy (call_strOwn (mt_Town___str__ T) (ok_Town___str__ T) (hr.mono (by decide)) passE) (by rfl) (b_str T) boot_str (pa_cons (pv 0) pa_nil)) (pe_callTy (call_strOwn (mt_Town___str__ T) (ok_Town___str__ T) (hr.mono (by decide)) passE) (by rfl) (b_str T) boot_str (pa_cons (pv 1) pa_nil)) (nomark _)))))), ?_⟩
    refine ⟨_, rfl, _, .ref (He.ga K "Town"), _, _, true, rfl, .own _, .base (insB_ok (in_Town T) (cl_Town T) h1'), of_decide_eq_true (isa_Town_Town T), _, rfl, ?_⟩
    refine iteT ?_
    refine ⟨_, rfl, p, dx, _, rfl, h1, p, t, rfl, ht, ok, fun H1 s1 => ⟨_, rfl, ?_⟩⟩
    refine ⟨_, rfl, p', dx', _, rfl, s1 _ _ h1', p', t', rfl, ht'.same s1, ok', fun H2 s2 => ⟨_, rfl, rfl, ?_⟩⟩
    have e : decide (V.str (townText t) = V.str (townText t')) = decide (townText t = townText t') := by simp
    rw [e]
    exact q H2 (s1.trans s2)

/-! ### Town_read -/
theorem sc_Town_read : FnScope ["cls", "text", "slots", "stands", "roads", "found"] ["cls", "text"] (defScope s_Town_read) := ⟨rfl, rfl, rfl, by decide +kernel, rfl, by decide +kernel, by decide +kernel⟩
def sp_Town_read (K : Frag) : Sp := fun vs H Q _ => ∃ (t : TownD), vs = [.ref (He.ga K "Town"), .str (townText t)] ∧ t.Ok ∧ ∀ p H', Same H H' → H p = none → TownAt K H' p t → Q (.ref p) H'
theorem ok_Town_read {P : Program} {w : World} {K : Frag} {mg : Str → Option Value} {base : Heap} (T : Tx K mg) : MOk P w K mg base 8 (He5.wf K (He.ga K "Town") "classmethod" "read") ["cls", "text"] (sp_Town_read K) := by
  refine mok_of (x := "read") (q := "Town.read") (F_Town_read T) sc_Town_read (fun _ _ _ _ _ _ us hl => match us, hl with | [_, _], _ => rfl) (fun vs H Q E h => ?_) (fun cdv A outer s H vs Q E hr h => ?_)
  · obtain ⟨t, rfl, _⟩ := h
    rfl
  · obtain ⟨t, rfl, ok, q⟩ := h
    have tl := text_len ok
    refine ⟨_, (pss_cons (ps_if (pt_not (pt_val (pe_callB call_isStr (by rfl) (b_isinstance T) boot_isinstance (pa_cons (pv 1) (pa_cons (pe_bltn (v := .ty "str") (by rfl) (b_str T) boot_str rfl) pa_nil))))) (pss_one ps_never) pss_nil) (pss_cons (ps_asg (pe_callD (ok_told_town (K := K) T) (hr.mono (by decide)) (by rfl) passE (pa_cons (pv 1) pa_nil)) (pg_tup (by rfl) (pgs_cons (pg_name (i := 2) sc_Town_read.nd rfl (by first | exact Or.inl rfl | exact Or.inr rfl)) (pgs_cons (pg_name (i := 3) sc_Town_read.nd rfl (by first | exact Or.inl rfl | exact Or.inr rfl)) (pgs_cons (pg_name (i := 4) sc_Town_read.nd rfl (by first | exact Or.inl rfl | exact Or.inr rfl)) pgs_nil))))) (pss_cons (ps_try_thru0 (pss_one (ps_set (i := 5) sc_Town_read.nd rfl (by first | exact Or.inl rfl | exact Or.inr rfl) (pe_makeL (i := 0) (mk_Town T) (ok_Town___init__ T) (hr.mono (by decide)) (by rfl) (by first | exact Or.inl rfl | exact Or.inr rfl) (E := E0) passL (pa_cons (pv 2) (pa_cons (pv 3) (pa_cons (pv 4) pa_nil))))))) (pss_cons (ps_if (pt_cmpR op_ne (pe_callTy (call_strOwn (mt_Town___str__ T) (ok_Town___str__ T) (hr.mono (by decide)) passE) (by rfl) (b_str T) boot_str (pa_cons (pv 5) pa_nil)) (pv 1) (nomark _)) (pss_one ps_never) pss_nil) (pss_one (ps_ret (pv 5))))))), ?_⟩
    refine ⟨_, rfl, _, .str (townText t), rfl, .str _, _, rfl, ?_⟩
    refine iteF ?_
    refine ⟨_, rfl, townText t, rfl, by omega, fun v H1 s1 hv => ?_⟩
    rw [told_town ok] at hv
    obtain ⟨a, xs, rfl, ha, hp⟩ := dp_tup hv
    obtain ⟨u1, u2, u3, rfl, d1, d2, d3⟩ := dps3 hp
    cases dp_int (x := t.slots) d1
    refine ⟨a, _, rfl, ha, rfl, _, _, rfl, _, _, rfl, _, _, rfl, rfl, ?_⟩
    refine ⟨rfl, _, rfl, _, rfl, _, rfl, fun x dx nx ndx nex => ?_⟩
    have s2 : Same H1 (upd (upd H1 dx (.own x)) x (.ins (He.ga K "Town") dx [])) := same_set (same_new ndx) nx
    refine ⟨x, dx, u2, u3, t, rfl, upd_same, dpS s2 d2, dpS s2 d3, ok, fun H2 bt ht => ⟨rfl, ?_⟩⟩
    have s3 : Same H1 H2 := fun b o hb => bt b o (s2 b o hb) (ne_of_none hb nx)
    obtain ⟨dx2, vs, vr, vn, h1, _⟩ := ht.ob
    refine ⟨_, rfl, x, dx2, _, rfl, h1, x, t, rfl, ht, ok, fun H3 s4 => ⟨_, rfl, ?_⟩⟩
    refine ⟨_, rfl, rfl, _, rfl, ?_⟩
    refine iteNS rfl ?_
    refine ⟨_, rfl, q x H3 (s1.trans (s3.trans s4)) (s1.free nx) (ht.same s4)⟩

/-! ### _law_cell -/
theorem sc__law_cell : FnScope ["_law_cells", "_law_k", "_law_made", "_law_part_here"] ["_law_cells", "_law_k"] (defScope s__law_cell) := ⟨rfl, rfl, rfl, by decide +kernel, rfl, by decide +kernel, by decide +kernel⟩
def sp__law_cell (K : Frag) : Sp := fun vs H Q _ => ∃ (a : Addr) (ns : List Int) (k : Int), vs = [.ref a, .int k] ∧ SqL K H a (ns.map V.int) ∧ 0 ≤ k ∧ ∀ z H', Same H H' → Q (.int z) H'
theorem ok__law_cell {P : Program} {w : World} {K : Frag} {mg : Str → Option Value} {base : Heap} (T : Tx K mg) : DOk P w K mg base 1 "_law_cell" ["_law_cells", "_law_k"] (sp__law_cell K) := by
  refine dok_of (F__law_cell T) (g__law_cell T) sc__law_cell (fun _ _ _ _ _ _ us hl => match us, hl with | [_, _], _ => rfl) (fun vs H Q E h => ?_) (fun cdv A outer s H vs Q E hr h => ?_)
  · obtain ⟨a, ns, k, rfl, _⟩ := h
    rfl
  · obtain ⟨a, ns, k, rfl, hs, hk, q⟩ := h
    refine ⟨_, (pss_cons (ps_if (pt_cmpR op_lt (pv 1) (pe_callB call_len_seq (by rfl) (b_len T) boot_len (pa_cons (pv 0) pa_nil)) (nomark _)) (pss_one (ps_ret (pe_ix ix_list (pv 0) (pv 1) (fun _ _ => rfl)))) pss_nil) (pss_cons (ps_set (i := 2) sc__law_cell.nd rfl (by first | exact Or.inl rfl | exact Or.inr rfl) (pe_op op_add pe_int (pe_op op_mul pe_int (pv 1)))) (pss_cons (ps_for ownE rfl (pi_list (pe_slice sl_list (pv 0) po_none (po_some pe_int))) (pg_name (i := 3) sc__law_cell.nd rfl (by first | exact Or.inl rfl | exact Or.inr rfl)) (pss_one (ps_set (i := 2) sc__law_cell.nd rfl (by first | exact Or.inl rfl | exact Or.inr rfl) (pe_op op_mod (pe_callTy call_int1 (by rfl) (b_int T) boot_int (pa_cons (pe_op op_add (pe_op op_add (pe_op op_mul (pv 2) pe_int) (pe_op op_mul (pv 3) pe_int)) (pv 1)) pa_nil)) pe_int)))) (pss_one (ps_ret (pv 2)))))), ?_⟩
    refine ⟨_, rfl, _, rfl, a, _, rfl, Or.inl hs, _, _, rfl, rfl, _, rfl, ?_⟩
    by_cases h1 : k < ((ns.map V.int).length : Int)
    · rw [decide_eq_true h1]
      refine iteT ?_
      rw [List.length_map] at h1
      obtain ⟨y, hn⟩ : ∃ y, (ns.map V.int)[k.toNat]? = some (.int y) := by
        refine ⟨ns[k.toNat]'(by omega), ?_⟩
        rw [List.getElem?_map, List.getElem?_eq_getElem (by omega)]
        rfl
      have ek : k = ((k.toNat : Nat) : Int) := by omega
      have hat : atI (ns.map V.int) k = some (.int y) := by
        conv => lhs; rw [ek]
        exact atI_nat hn
      exact ⟨_, rfl, _, rfl, a, _, _, _, rfl, rfl, hs, hat, q y H (Same.refl H)⟩
    · rw [decide_eq_false h1]
      refine iteF ?_
      refine ⟨_, rfl, _, _, rfl, rfl, .inl ⟨by decide, by decide⟩, _, _, rfl, rfl, ?_⟩
      refine ⟨_, rfl, 5, rfl, a, _, rfl, hs, fun p hp => ?_⟩
      have s1 := same_new (o := .lst (cutV (ns.map V.int) none (some 5))) hp
      obtain ⟨ms, em⟩ : ∃ ms : List Int, cutV (ns.map V.int) none (some 5) = ms.map V.int := by
        unfold cutV
        rw [← List.map_drop, ← List.map_take]
        exact ⟨_, rfl⟩
      rw [em] at s1 ⊢
      refine ⟨p, rfl, ⟨_, SqL.of upd_same⟩, ?_⟩
      refine for_it (walk_list (K := K) (a := p) (xs := ms.map V.int)) (fun i σ H' => ∃ z o3, σ = [some (.ref a), some (.int k), some (.int z), o3] ∧ H' = upd H p (.lst (ms.map V.int))) ?_ ?_ ?_ ?_
      · exact ⟨_, none, rfl, rfl⟩
      · rintro i σ H' _ ⟨_, _, _, rfl⟩
        exact SqL.of upd_same
      · rintro i v σ H0 H1 hi ⟨z, o3, rfl, rfl⟩ ⟨rfl, hx⟩
        obtain ⟨y, rfl⟩ : ∃ y, v = V.int y := by
          rw [List.getElem?_map] at hx
          cases e : ms[i]? with
          | none => rw [e] at hx; cases hx
          | some y => rw [e] at hx; exact ⟨y, (Option.some.inj hx).symm⟩
        refine ⟨_, rfl, _, _, rfl, rfl, .inr ⟨by decide, by decide⟩, _, rfl, _, _, rfl, rfl, .inr ⟨by decide, by decide⟩, _, _, rfl, rfl, _, rfl, _, _, rfl, rfl, .inl ⟨_, rfl, _, _, rfl, rfl, (show (0 : Int) < 2147483563 by decide), ?_⟩⟩
        exact ⟨_, _, rfl, rfl⟩
      · rintro σ H' ⟨z, o3, rfl, rfl⟩
        exact ⟨_, rfl, q z _ s1⟩

/-! ### _law_source -/
theorem sc__law_source : FnScope ["_law_cell_here", "_law_stock"] ["_law_cell_here"] (defScope s__law_source) := ⟨rfl, rfl, rfl, by decide +kernel, rfl, by decide +kernel, by decide +kernel⟩
def sp__law_source (K : Frag) : Sp := fun vs H Q _ => ∃ (z : Int), vs = [.int z] ∧ ∀ p H', H p = none → Same H H' → SrcAt H' p → Q (.ref p) H'
theorem ok__law_source {P : Program} {w : World} {K : Frag} {mg : Str → Option Value} {base : Heap} (T : Tx K mg) : DOk P w K mg base 1 "_law_source" ["_law_cell_here"] (sp__law_source K) := by
  refine dok_of (F__law_source T) (g__law_source T) sc__law_source (fun _ _ _ _ _ _ us hl => match us, hl with | [_], _ => rfl) (fun vs H Q E h => ?_) (fun cdv A outer s H vs Q E hr h => ?_)
  · obtain ⟨z, rfl, _⟩ := h
    rfl
  · obtain ⟨z, rfl, q⟩ := h
    refine ⟨_, (pss_cons (ps_set (i := 1) sc__law_source.nd rfl (by first | exact Or.inl rfl | exact Or.inr rfl) pe_int) (pss_cons (ps_if (PW.pt (pw_or (pt_cmpR op_lt (pv 0) pe_int (nomark _)) (pw_or1 (pt_cmpR op_ge (pv 0) (pe_op op_pow pe_int pe_int) (nomark _))))) (pss_one (ps_set (i := 1) sc__law_source.nd rfl (by first | exact Or.inl rfl | exact Or.inr rfl) (pe_callB call_abs (by rfl) (b_abs T) boot_abs (pa_cons (pv 0) pa_nil)))) pss_nil) (pss_one (ps_ret (pe_lst (pa_cons (pv 1) (pa_cons (pe_op op_mod (pe_callTy call_int1 (by rfl) (b_int T) boot_int (pa_cons (pv 0) pa_nil)) pe_int) (pa_cons pe_int pa_nil)))))))), ?_⟩
    refine ⟨_, rfl, _, _, rfl, rfl, _, rfl, ?_⟩
    by_cases h1 : z < 0
    · rw [decide_eq_true h1]
      refine iteT ?_
      refine iteT ?_
      refine ⟨_, rfl, z, rfl, ?_⟩
      exact ⟨_, rfl, _, rfl, .inl ⟨_, rfl, _, _, rfl, rfl, (show (0 : Int) < 2147483587 by decide), (show 3 ≤ sizeLine by decide), fun p hp => q p _ hp (same_new hp) ⟨_, _, _, upd_same⟩⟩⟩
    · rw [decide_eq_false h1]
      refine iteF ?_
      refine ⟨_, rfl, _, _, rfl, rfl, ⟨by decide, by decide, by decide⟩, _, _, rfl, rfl, _, rfl, ?_⟩
      refine iteB (fun h2 => ?_) (fun h2 => ?_)
      · refine ⟨_, rfl, z, rfl, ?_⟩
        exact ⟨_, rfl, _, rfl, .inl ⟨_, rfl, _, _, rfl, rfl, (show (0 : Int) < 2147483587 by decide), (show 3 ≤ sizeLine by decide), fun p hp => q p _ hp (same_new hp) ⟨_, _, _, upd_same⟩⟩⟩
      · exact ⟨_, rfl, _, rfl, .inl ⟨_, rfl, _, _, rfl, rfl, (show (0 : Int) < 2147483587 by decide), (show 3 ≤ sizeLine by decide), fun p hp => q p _ hp (same_new hp) ⟨_, _, _, upd_same⟩⟩⟩

/-! ### _law_draw -/
theorem sc__law_draw : FnScope ["_law_source_here", "_law_many", "_law_state", "_law_stock", "_law_digit"] ["_law_source_here", "_law_many"] (defScope s__law_draw) := ⟨rfl, rfl, rfl, by decide +kernel, rfl, by decide +kernel, by decide +kernel⟩
def sp__law_draw (K : Frag) : Sp := fun vs H Q _ => ∃ (p : Addr) (m : Int), vs = [.ref p, .int m] ∧ SrcAt H p ∧ 0 < m ∧ m < 1000000 ∧ ∀ d H', 0 ≤ d → d < m → SrcAt H' p → But p H H' → Q (.int d) H'
theorem ok__law_draw {P : Program} {w : World} {K : Frag} {mg : Str → Option Value} {base : Heap} (T : Tx K mg) : DOk P w K mg base 1 "_law_draw" ["_law_source_here", "_law_many"] (sp__law_draw K) := by
  refine dok_of (F__law_draw T) (g__law_draw T) sc__law_draw (fun _ _ _ _ _ _ us hl => match us, hl with | [_, _], _ => rfl) (fun vs H Q E h => ?_) (fun cdv A outer s H vs Q E hr h => ?_)
  · obtain ⟨p, m, rfl, _⟩ := h
    rfl
  · obtain ⟨p, m, rfl, ⟨a, x, n, hp⟩, m0, m1, q⟩ := h
    have b1 := but_upd p H (.lst [.int a, .int x, .int (n + 1)])
    refine ⟨_, (pss_cons (ps_asg (pe_op op_add (pe_ix ix_list (pv 0) pe_int (fun _ _ => rfl)) pe_int) (pg_sub (pv 0) pe_int set_list)) (pss_cons (ps_set (i := 2) sc__law_draw.nd rfl (by first | exact Or.inl rfl | exact Or.inr rfl) (pe_op op_mod (pe_callTy call_int1 (by rfl) (b_int T) boot_int (pa_cons (pe_op op_add (pe_ix ix_list (pv 0) pe_int (fun _ _ => rfl)) (pe_op op_mul pe_int (pe_ix ix_list (pv 0) pe_int (fun _ _ => rfl)))) pa_nil)) pe_int)) (pss_cons (ps_asg (pe_op op_mod (pe_callTy call_int1 (by rfl) (b_int T) boot_int (pa_cons (pe_op op_add (pe_op op_add (pe_op op_mul (pv 2) (pv 2)) (pe_op op_mul pe_int (pv 2))) pe_int) pa_nil)) pe_int) (pg_sub (pv 0) pe_int set_list)) (pss_cons (ps_if (pt_cmpR op_eq (pe_ix ix_list (pv 0) pe_int (fun _ _ => rfl)) pe_int (nomark _)) (pss_one (ps_ret (pe_op op_mod (pe_callTy call_int1 (by rfl) (b_int T) boot_int (pa_cons (pe_op op_fdiv (pe_ix ix_list (pv 0) pe_int (fun _ _ => rfl)) pe_int) pa_nil)) (pv 1)))) pss_nil) (pss_cons (ps_asg (pe_callB call_divmod (by rfl) (b_divmod T) boot_divmod (pa_cons (pe_ix ix_list (pv 0) pe_int (fun _ _ => rfl)) (pa_cons (pv 1) pa_nil))) (pg_tup (by rfl) (pgs_cons (pg_name (i := 3) sc__law_draw.nd rfl (by first | exact Or.inl rfl | exact Or.inr rfl)) (pgs_cons (pg_name (i := 4) sc__law_draw.nd rfl (by first | exact Or.inl rfl | exact Or.inr rfl)) pgs_nil)))) (pss_cons (ps_asg (pv 3) (pg_sub (pv 0) pe_int set_list)) (pss_one (ps_ret (pv 4))))))))), ?_⟩
    refine ⟨_, rfl, p, _, _, _, rfl, rfl, SqL.of hp, atI_nat (j := 2) rfl, _, _, rfl, rfl, _, rfl, p, _, _, 2, rfl, rfl, hp, rfl, ?_⟩
    have h1 : (upd H p (.lst ([.int a, .int x, .int n].set 2 (.int (n + 1))))) p = some (.lst [.int a, .int x, .int (n + 1)]) := upd_same
    refine ⟨_, rfl, p, _, _, _, rfl, rfl, SqL.of h1, atI_nat (j := 1) rfl, _, rfl, p, _, _, _, rfl, rfl, SqL.of h1, atI_nat (j := 2) rfl, _, _, rfl, rfl, .inl ⟨by decide, by decide⟩, _, _, rfl, rfl, .inl ⟨_, rfl, _, _, rfl, rfl, (show (0 : Int) < 2147483587 by decide), ?_⟩⟩
    have e0 := Int.emod_nonneg (x + 611953 * (n + 1)) (show (2147483587 : Int) ≠ 0 by decide)
    have e1 := Int.emod_lt_of_pos (x + 611953 * (n + 1)) (show (0 : Int) < 2147483587 by decide)
    refine ⟨_, rfl, _, rfl, _, _, rfl, rfl, .inl ⟨by omega, by omega⟩, _, rfl, _, _, rfl, rfl, .inl ⟨by decide, by decide⟩, _, _, rfl, rfl, _, _, rfl, rfl, .inl ⟨_, rfl, _, _, rfl, rfl, (show (0 : Int) < 2147483587 by decide), ?_⟩⟩
    refine ⟨_, rfl, p, _, _, 1, rfl, rfl, h1, rfl, ?_⟩
    obtain ⟨y, ey⟩ : ∃ y : Int, y = ((x + 611953 * (n + 1)) % 2147483587 * ((x + 611953 * (n + 1)) % 2147483587) + 3266489 * ((x + 611953 * (n + 1)) % 2147483587) + 374761) % 2147483587 := ⟨_, rfl⟩
    have h2 : ∀ G : Hp, (upd G p (.lst [.int a, .int y, .int (n + 1)])) p = some (.lst [.int a, .int y, .int (n + 1)]) := fun G => upd_same
    rw [ey] at h2
    refine ⟨_, rfl, p, _, _, _, rfl, rfl, SqL.of (h2 _), atI_nat (j := 0) rfl, rfl, _, rfl, ?_⟩
    have b2 : But p H (upd (upd H p (.lst ([.int a, .int x, .int n].set 2 (.int (n + 1))))) p (.lst [.int a, .int y, .int (n + 1)])) := (but_upd p H _).trans (but_upd p _ _)
    rw [ey] at b2
    by_cases h0 : a = 0
    · rw [decide_eq_true (show V.int a = V.int 0 by rw [h0])]
      refine iteT ?_
      refine ⟨_, rfl, p, _, _, _, rfl, rfl, SqL.of (h2 _), atI_nat (j := 1) rfl, _, _, rfl, rfl, ⟨by decide, by decide⟩, .inl ⟨_, rfl, _, rfl, _, _, rfl, rfl, m0, ?_⟩⟩
      exact q _ _ (Int.emod_nonneg _ (by omega)) (Int.emod_lt_of_pos _ m0) ⟨_, _, _, h2 _⟩ b2
    · rw [decide_eq_false (fun z => h0 (by injection z))]
      refine iteF ?_
      refine ⟨_, rfl, p, _, _, _, rfl, rfl, SqL.of (h2 _), atI_nat (j := 0) rfl, _, rfl, _, _, rfl, ⟨m0, by omega⟩, fun w hw => ?_⟩
      have nw : p ≠ w := fun z => by
        rw [← z, upd_same] at hw
        cases hw
      refine ⟨w, _, rfl, SqT.of upd_same, rfl, _, _, rfl, _, _, rfl, rfl, ?_⟩
      refine ⟨_, rfl, _, rfl, p, _, _, 0, rfl, rfl, ((upd_ne nw).trans (h2 _)), rfl, ?_⟩
      refine ⟨_, rfl, q _ _ (Int.emod_nonneg _ (by omega)) (Int.emod_lt_of_pos _ m0) ⟨_, _, _, upd_same⟩ ((b2.trans (but_new hw)).trans (but_upd p _ _))⟩

/-! ### _law_word -/
theorem sc__law_word : FnScope ["_law_source_here", "_law_taken", "_law_signs", "_law_kept_words", "_law_way", "_law_found", "_law_some", "_law_k", "_law_tries", "_law_sign", "_law_word_here"] ["_law_source_here", "_law_taken"] (defScope s__law_word) := ⟨rfl, rfl, rfl, by decide +kernel, rfl, by decide +kernel, by decide +kernel⟩
def sp__law_word (K : Frag) : Sp := fun vs H Q _ => ∃ (p L : Addr) (ts : List Str), vs = [.ref p, .ref L] ∧ SrcAt H p ∧ p ≠ L ∧ H L = some (.lst (ts.map V.str)) ∧ ts.length ≤ 20 ∧ ∀ x H', nameOk x = true → x ∉ ts → SrcAt H' p → But p H H' → Q (.str x) H'
theorem ok__law_word {P : Program} {w : World} {K : Frag} {mg : Str → Option Value} {base : Heap} (T : Tx K mg) : DOk P w K mg base 2 "_law_word" ["_law_source_here", "_law_taken"] (sp__law_word K) := by
  refine dok_of (F__law_word T) (g__law_word T) sc__law_word (fun _ _ _ _ _ _ us hl => match us, hl with | [_, _], _ => rfl) (fun vs H Q E h => ?_) (fun cdv A outer s H vs Q E hr h => ?_)
  · obtain ⟨p, L, ts, rfl, _⟩ := h
    rfl
  · obtain ⟨p, L, ts, rfl, hp, hpL, hL, hts, q⟩ := h
    have hpn : ∀ W, H W = none → p ≠ W := fun W hW z => by
      obtain ⟨_, _, _, e⟩ := hp
      rw [z, hW] at e
      cases e
    refine ⟨_, (pss_cons (ps_set (i := 2) sc__law_word.nd rfl (by first | exact Or.inl rfl | exact Or.inr rfl) pe_str) (pss_cons (ps_set (i := 3) sc__law_word.nd rfl (by first | exact Or.inl rfl | exact Or.inr rfl) (pe_lst (pa_cons pe_str (pa_cons pe_str (pa_cons pe_str (pa_cons pe_str (pa_cons pe_str (pa_cons pe_str (pa_cons pe_str (pa_cons pe_str (pa_cons pe_str (pa_cons pe_str (pa_cons pe_str (pa_cons pe_str (pa_cons pe_str pa_nil))))))))))))))) (pss_cons (ps_set (i := 3) sc__law_word.nd rfl (by first | exact Or.inl rfl | exact Or.inr rfl) (pe_op op_cat (pv 3) (pe_lst (pa_cons pe_str (pa_cons pe_str (pa_cons pe_str (pa_cons pe_str pa_nil))))))) (pss_cons (ps_set (i := 4) sc__law_word.nd rfl (by first | exact Or.inl rfl | exact Or.inr rfl) (pe_callD (ok__law_draw (K := K) T) (hr.mono (by decide)) (by rfl) passE (pa_cons (pv 0) (pa_cons pe_int pa_nil)))) (pss_cons (ps_if (pt_cmpR op_eq (pv 4) pe_int (nomark _)) (pss_one (ps_set (i := 5) sc__law_word.nd rfl (by first | exact Or.inl rfl | exact Or.inr rfl) (pe_ix ix_list (pv 3) (pe_callD (ok__law_draw (K := K) T) (hr.mono (by decide)) (by rfl) passE (pa_cons (pv 0) (pa_cons (pe_callB call_len_seq (by rfl) (b_len T) boot_len (pa_cons (pv 3) pa_nil)) pa_nil))) (fun _ _ => rfl)))) (pss_cons (ps_set (i := 6) sc__law_word.nd rfl (by first | exact Or.inl rfl | exact Or.inr rfl) (pe_ifExp (pt_cmpR op_eq (pv 4) pe_int (nomark _)) pe_str (pv 2))) (pss_one (ps_set (i := 5) sc__law_word.nd rfl (by first | exact Or.inl rfl | exact Or.inr rfl) (pe_join pe_str (pe_lc (own := [("_law_k", 7)]) (g := (gName 7)) (tt := tYes) (by rfl) sc__law_word.nd (pi_range1 (by rfl) (b_range T) (pa_cons (pe_op op_add pe_int (pe_callD (ok__law_draw (K := K) T) (hr.mono (by decide)) (by rfl) passE (pa_cons (pv 0) (pa_cons pe_int pa_nil)))) pa_nil)) (blkOk_by (own := [("_law_k", 7)]) (N := ["_law_source_here", "_law_taken", "_law_signs", "_law_kept_words", "_law_way", "_law_found", "_law_some", "_law_k", "_law_tries", "_law_sign", "_law_word_here"]) (sc := defScope s__law_word) (by decide +kernel)) (fun _ _ _ _ _ => (pg_name (i := 7) sc__law_word.nd rfl (by first | exact Or.inl rfl | exact Or.inr rfl))) (fun _ _ _ _ _ => pts_nil) (fun _ _ _ _ _ => (pe_ix ix_str (pv 6) (pe_callD (ok__law_draw (K := K) T) (hr.mono (by decide)) (by rfl) (E := E0) passL (pa_cons (pv 0) (pa_cons (pe_callB call_len_str (by rfl) (b_len T) boot_len (pa_cons (pv 6) pa_nil)) pa_nil))) (fun _ _ => rfl))))))))) (pss_cons (ps_set (i := 8) sc__law_word.nd rfl (by first | exact Or.inl rfl | exact Or.inr rfl) (pe_op op_cat (pe_lst (pa_cons (pv 5) pa_nil)) (pe_lc (own := [("_law_sign", 9)]) (g := (gName 9)) (tt := tYes) (by rfl) sc__law_word.nd (pi_str (pv 2)) (blkOk_by (own := [("_law_sign", 9)]) (N := ["_law_source_here", "_law_taken", "_law_signs", "_law_kept_words", "_law_way", "_law_found", "_law_some", "_law_k", "_law_tries", "_law_sign", "_law_word_here"]) (sc := defScope s__law_word) (by decide +kernel)) (fun _ _ _ _ _ => (pg_name (i := 9) sc__law_word.nd rfl (by first | exact Or.inl rfl | exact Or.inr rfl))) (fun _ _ _ _ _ => pts_nil) (fun _ _ _ _ _ => (pe_op op_add_str (pe_slice sl_str (pv 5) po_none (po_some (pe_un un_neg pe_int))) (pv 9)))))) (pss_one (ps_ret (pe_ix ix_list (pe_lc (own := [("_law_word_here", 10)]) (g := (gName 10)) (by rfl) sc__law_word.nd (pi_list (pv 8)) (blkOk_by (own := [("_law_word_here", 10)]) (N := ["_law_source_here", "_law_taken", "_law_signs", "_law_kept_words", "_law_way", "_law_found", "_law_some", "_law_k", "_law_tries", "_law_sign", "_law_word_here"]) (sc := defScope s__law_word) (by decide +kernel)) (fun _ _ _ _ _ => (pg_name (i := 10) sc__law_word.nd rfl (by first | exact Or.inl rfl | exact Or.inr rfl))) (fun _ _ _ _ _ => pts_one (pt_cmpR (op_notIn_seqK (K := K) rfl) (pv 10) (pv 1) (by rfl))) (fun _ _ _ _ _ => (pv 10))) pe_int (fun _ _ => rfl)))))))))), ?_⟩
    refine ⟨(show 13 ≤ sizeLine by decide), fun W hW => ?_⟩
    have s1 : Same H (upd H W (.lst (keptW.map V.str))) := same_new hW
    refine ⟨_, rfl, (show 4 ≤ sizeLine by decide), fun W2 hW2 => ?_⟩
    have s2 : Same (upd H W (.lst (keptW.map V.str))) (upd (upd H W (.lst (keptW.map V.str))) W2 (.lst (keptW2.map V.str))) := same_new hW2
    refine ⟨W, W2, keptW.map V.str, keptW2.map V.str, rfl, rfl, s2 _ _ upd_same, upd_same, (show 13 + 4 ≤ sizeLine by decide), fun W3 hW3 => ?_⟩
    have s3 := (s1.trans s2).trans (same_new (o := .lst (keptW.map V.str ++ keptW2.map V.str)) hW3)
    have hW30 := (s1.trans s2).free hW3
    have hk3 : (upd (upd (upd H W (.lst (keptW.map V.str))) W2 (.lst (keptW2.map V.str))) W3 (.lst (keptW.map V.str ++ keptW2.map V.str))) W3 = some (.lst ((keptW ++ keptW2).map V.str)) := by
      rw [upd_same, List.map_append]
    have hp3 : SrcAt (upd (upd (upd H W (.lst (keptW.map V.str))) W2 (.lst (keptW2.map V.str))) W3 (.lst (keptW.map V.str ++ keptW2.map V.str))) p := let ⟨a, x, n, e⟩ := hp; ⟨a, x, n, s3 _ _ e⟩
    refine ⟨_, rfl, p, 4, rfl, hp3, by decide, by decide, fun d H4 d0 d4 hp4 b4 => ?_⟩
    have b04 : But p H H4 := (same_but s3).trans b4
    have hk4 := b4 _ _ hk3 (hpn W3 hW30).symm
    refine ⟨_, rfl, rfl, _, rfl, ?_⟩
    refine iteB (fun _ => ?_) (fun _ => ?_)
    · refine ⟨_, rfl, _, rfl, _, rfl, W3, _, rfl, Or.inl (SqL.of hk4), p, 17, rfl, hp4, by decide, by decide, fun d2 H5 d20 d21 hp5 b5 => ?_⟩
      have hk5 := b5 _ _ hk4 (hpn W3 hW30).symm
      have hd2 : d2.toNat < (keptW ++ keptW2).length := by show d2.toNat < 17; omega
      have hat : atI ((keptW ++ keptW2).map V.str) d2 = some (V.str ((keptW ++ keptW2)[d2.toNat]'hd2)) := by
        have ek : d2 = ((d2.toNat : Nat) : Int) := by omega
        conv => lhs; rw [ek]
        refine atI_nat ?_
        rw [List.getElem?_map, List.getElem?_eq_getElem hd2]
        rfl
      refine ⟨W3, _, d2, _, rfl, rfl, SqL.of hk5, hat, ?_⟩
      have hx := kept_ok _ (List.getElem_mem hd2)
      generalize (keptW ++ keptW2)[d2.toNat]'hd2 = x at hx ⊢
      have b05 := b04.trans b5
      -- the tries
      have hL5 := b05 _ _ hL hpL.symm
      have hxl := nameOk_len hx
      have big : 1000 ≤ sizeLine := by decide
      refine ⟨_, rfl, (show 1 ≤ sizeLine by decide), fun V1 hV1 => ?_⟩
      have t1 := same_new (o := .lst [.str x]) hV1
      refine ⟨_, rfl, _, rfl, fun D hD => ?_⟩
      refine lc_map (K := K) walk_str (fun i => signsL[i]?.map fun c => .str (cut1 x ++ one c)) hD (fun _ _ => trivial) ?_ ?_ ?_ mg_name ?_
      · show ("abcdefghijklmnopqrstuvwxyz" : Str).cps.size < sizeLine
        exact Nat.lt_of_lt_of_le (show ("abcdefghijklmnopqrstuvwxyz" : Str).cps.size < 27 by decide +kernel) (by decide)
      · intro i e _ ed
        cases hc : signsL[i]? with
        | none => rw [hc] at ed; cases ed
        | some c => rw [hc] at ed; cases ed; rfl
      · rintro i v G0 G1 hi s6 ⟨rfl, c, hc, rfl⟩ R kR
        refine ⟨rfl, _, rfl, _, rfl, -1, rfl, x, rfl, by omega, _, rfl, _, _, rfl, rfl, ?_, ?_⟩
        · have := cutS_length x none (some (-1))
          show (cutS x none (some (-1))).length + 1 ≤ sizeLine
          omega
        · refine kR _ _ (.str (cut1 x ++ one c)) (Same.refl _) ?_ (.str _)
          have hc' : signsL[i]? = some c := by rw [← signs_eq, Array.getElem?_toList]; exact hc
          rw [hc']
          rfl
      · intro H6 ys s6 hy hp6
        have en : ("abcdefghijklmnopqrstuvwxyz" : Str).cps.size = signsL.length := by decide +kernel
        rw [en, fm_map (fun c => PyData.str (cut1 x ++ one c)) signsL] at hp6
        have ey : ys = (signsL.map fun c => cut1 x ++ one c).map V.str := strs_of_dps (by rw [List.map_map]; exact hp6)
        subst ey
        refine ⟨V1, D, [.str x], _, rfl, rfl, s6 _ _ upd_same, hy, (by rw [List.length_map, List.length_map]; show 1 + signsL.length ≤ sizeLine; decide), fun V2 hV2 => ?_⟩
        have et : ([V.str x] ++ (signsL.map fun c => cut1 x ++ one c).map V.str) = (tries x).map V.str := by
          unfold tries
          rw [List.map_append]
          rfl
        rw [et]
        have s7 := (t1.trans s6).trans (same_new (o := .lst ((tries x).map V.str)) hV2)
        have hL7 := s7 _ _ hL5
        refine ⟨_, rfl, V2, rfl, ⟨_, SqL.of upd_same⟩, fun D2 hD2 => ?_⟩
        have s8 := same_new (o := .lst ([] : List V)) hD2
        refine lc_data (K := K) (walk_list (K := K) (a := V2) (xs := (tries x).map V.str)) (fun i => (tries x)[i]?.bind fun y => if !decide (y ∈ ts) then some (.str y) else none) hD2 (fun H8 s8 => SqL.of (s8 _ _ upd_same)) ?_ ?_ ?_ ?_
        · rw [List.length_map, tries_len]; decide
        · intro i e _ ed
          cases hc : (tries x)[i]? with
          | none => rw [hc] at ed; cases ed
          | some y =>
            rw [hc] at ed
            simp only [Option.bind_some] at ed
            split at ed
            · cases ed; rfl
            · cases ed
        · rintro i v G0 G1 hi s9 ⟨rfl, hv⟩ R S kR kS
          obtain ⟨y, hy9, rfl⟩ : ∃ y, (tries x)[i]? = some y ∧ v = .str y := by
            rw [List.getElem?_map] at hv
            cases e : (tries x)[i]? with
            | none => rw [e] at hv; cases hv
            | some y => rw [e] at hv; cases hv; exact ⟨y, rfl, rfl⟩
          refine ⟨rfl, _, rfl, _, rfl, L, _, rfl, Or.inl (SqL.of (s9 _ _ hL7)), rfl, flat_strs ts, _, rfl, ?_⟩
          show if (!inV (.str y) (ts.map V.str)) = true then _ else _
          rw [inV_strs]
          by_cases hm : y ∈ ts
          · rw [decide_eq_true hm]
            refine iteF ?_
            refine kS _ (Same.refl _) ?_
            rw [hy9]
            simp [hm]
          · rw [decide_eq_false hm]
            refine iteT ?_
            refine ⟨_, rfl, kR _ _ (.str y) (Same.refl _) ?_ (.str _)⟩
            rw [hy9]
            simp [hm]
        · intro H8 zs s9 hz hp8
          rw [List.length_map, fm_filter (fun y => !decide (y ∈ ts)) PyData.str (tries x)] at hp8
          have ez := strs_of_dps hp8
          subst ez
          obtain ⟨y, r, ey⟩ : ∃ y r, (tries x).filter (fun y => !decide (y ∈ ts)) = y :: r := by
            cases e : (tries x).filter (fun y => !decide (y ∈ ts)) with
            | nil => exact absurd e (tries_free hts)
            | cons y r => exact ⟨y, r, rfl⟩
          have hym : y ∈ (tries x).filter (fun y => !decide (y ∈ ts)) := by rw [ey]; exact List.mem_cons_self
          rw [ey] at hz
          have hyf := List.mem_filter.mp hym
          refine ⟨D2, _, 0, .str y, rfl, rfl, SqL.of hz, atI_nat (j := 0) rfl, ?_⟩
          refine q y H8 (tries_ok hx y hyf.1) (by simpa using hyf.2) ?_ (b05.trans (same_but (s7.trans s9)))
          obtain ⟨a, x', n, e⟩ := hp5
          exact ⟨a, x', n, s9 _ _ (s7 _ _ e)⟩
    · refine ⟨_, rfl, rfl, _, rfl, ?_⟩
      have both : ∀ sm : Str, (0 < sm.length ∧ sm.length ≤ 26 ∧ ∀ c ∈ TL.tl sm, letter c = true) → (0 < sm.length ∧ sm.length ≤ 26 ∧ ∀ c ∈ TL.tl sm, letter c = true) := fun _ h => h
      refine iteB (fun _ => ?_) (fun _ => ?_)
      · have hsm := both "ab" ⟨by decide +kernel, by decide +kernel, by decide +kernel⟩
        generalize (("ab" : String) : Str) = sm at hsm ⊢
        refine ⟨⟨_, rfl⟩, _, rfl, p, 8, rfl, hp4, by decide, by decide, fun d2 H5 d20 d21 hp5' b5' => ?_⟩
        refine ⟨_, _, rfl, rfl, _, rfl, by omega, by omega, fun D hD => ?_⟩
        have hDp : p ≠ D := fun z => by
          obtain ⟨_, _, _, e⟩ := hp5'
          rw [z, hD] at e
          cases e
        refine lc_it (walk_range (lo := 0) (n := (1 + d2).toNat)) (fun i H6 => SrcAt H6 p ∧ But p H5 H6 ∧ ∃ cs : List Nat, H6 D = some (.lst ((cs.map one).map V.str)) ∧ cs.length = i ∧ ∀ c ∈ cs, letter c = true) ?_ (fun _ _ _ _ => trivial) ?_ ?_
        · refine ⟨?_, but_new hD, [], upd_same, rfl, fun c hc => by cases hc⟩
          obtain ⟨a, x', n, e⟩ := hp5'
          exact ⟨a, x', n, (same_new hD) _ _ e⟩
        · rintro i v G0 G1 hi ⟨hpG, bG, cs, hDG, hcl, hcs⟩ ⟨rfl, rfl⟩
          refine ⟨rfl, tYes_of ?_⟩
          refine ⟨_, rfl, _, rfl, _, rfl, sm, rfl, (Nat.le_trans hsm.2.1 (by decide)), p, _, rfl, hpG, by omega, by omega, fun d3 H7 d30 d31 hp7 b7 => ?_⟩
          have hlen : sm.length = (TL.tl sm).length := by
            show sm.cps.size = sm.cps.toList.length
            simp
          have hd3 : d3.toNat < (TL.tl sm).length := by omega
          have hat : atI sm.cps.toList d3 = some ((TL.tl sm)[d3.toNat]'hd3) := by
            have ek : d3 = ((d3.toNat : Nat) : Int) := by omega
            conv => lhs; rw [ek]
            exact atI_nat (List.getElem?_eq_getElem hd3)
          refine ⟨sm, d3, _, rfl, rfl, (Nat.le_trans hsm.2.1 (by decide)), hat, ?_⟩
          have hlt := hsm.2.2 _ (List.getElem_mem hd3)
          have hD7 := b7 _ _ hDG hDp.symm
          refine ⟨_, hD7, ?_, ?_, ?_, cs ++ [(TL.tl sm)[d3.toNat]'hd3], ?_, ?_, ?_⟩
          · rw [List.length_map, List.length_map, hcl]
            exact Nat.lt_of_lt_of_le hi (Nat.le_trans (show (1 + d2).toNat ≤ 8 by omega) (by decide))
          · obtain ⟨a, x', n, e⟩ := hp7
            exact ⟨a, x', n, by rw [upd_ne hDp]; exact e⟩
          · intro b o hb hbp
            rw [upd_ne (ne_of_none hb hD)]
            exact b7 _ _ (bG b o hb hbp) hbp
          · rw [upd_same, List.map_append, List.map_append]
            rfl
          · rw [List.length_append, hcl]
            rfl
          · intro c hc
            rcases List.mem_append.mp hc with z | z
            · exact hcs c z
            · rw [List.mem_singleton.mp z]; exact hlt
        · rintro H6 ⟨hp5, b5, cs, hD6, hcl, hcs⟩
          have hz0 : (("" : String) : Str).length = 0 := by decide +kernel
          refine ⟨_, D, cs.map one, rfl, rfl, Or.inl (SqL.of hD6), ?_, ?_⟩
          · rw [ones_len, hz0, hcl]
            omega
          have hx : nameOk (Txt.join "" (cs.map one)) = true := by
            refine nameOk_of ?_ ?_ ?_
            · rw [tl_ones, hcl]; omega
            · rw [tl_ones, hcl]; omega
            · rw [tl_ones]; exact hcs
          generalize Txt.join "" (cs.map one) = x at hx ⊢
          have b05 := b04.trans (b5'.trans b5)
          -- the tries
          have hL5 := b05 _ _ hL hpL.symm
          have hxl := nameOk_len hx
          have big : 1000 ≤ sizeLine := by decide
          refine ⟨_, rfl, (show 1 ≤ sizeLine by decide), fun V1 hV1 => ?_⟩
          have t1 := same_new (o := .lst [.str x]) hV1
          refine ⟨_, rfl, _, rfl, fun D hD => ?_⟩
          refine lc_map (K := K) walk_str (fun i => signsL[i]?.map fun c => .str (cut1 x ++ one c)) hD (fun _ _ => trivial) ?_ ?_ ?_ mg_name ?_
          · show ("abcdefghijklmnopqrstuvwxyz" : Str).cps.size < sizeLine
            exact Nat.lt_of_lt_of_le (show ("abcdefghijklmnopqrstuvwxyz" : Str).cps.size < 27 by decide +kernel) (by decide)
          · intro i e _ ed
            cases hc : signsL[i]? with
            | none => rw [hc] at ed; cases ed
            | some c => rw [hc] at ed; cases ed; rfl
          · rintro i v G0 G1 hi s6 ⟨rfl, c, hc, rfl⟩ R kR
            refine ⟨rfl, _, rfl, _, rfl, -1, rfl, x, rfl, by omega, _, rfl, _, _, rfl, rfl, ?_, ?_⟩
            · have := cutS_length x none (some (-1))
              show (cutS x none (some (-1))).length + 1 ≤ sizeLine
              omega
            · refine kR _ _ (.str (cut1 x ++ one c)) (Same.refl _) ?_ (.str _)
              have hc' : signsL[i]? = some c := by rw [← signs_eq, Array.getElem?_toList]; exact hc
              rw [hc']
              rfl
          · intro H6 ys s6 hy hp6
            have en : ("abcdefghijklmnopqrstuvwxyz" : Str).cps.size = signsL.length := by decide +kernel
            rw [en, fm_map (fun c => PyData.str (cut1 x ++ one c)) signsL] at hp6
            have ey : ys = (signsL.map fun c => cut1 x ++ one c).map V.str := strs_of_dps (by rw [List.map_map]; exact hp6)
            subst ey
            refine ⟨V1, D, [.str x], _, rfl, rfl, s6 _ _ upd_same, hy, (by rw [List.length_map, List.length_map]; show 1 + signsL.length ≤ sizeLine; decide), fun V2 hV2 => ?_⟩
            have et : ([V.str x] ++ (signsL.map fun c => cut1 x ++ one c).map V.str) = (tries x).map V.str := by
              unfold tries
              rw [List.map_append]
              rfl
            rw [et]
            have s7 := (t1.trans s6).trans (same_new (o := .lst ((tries x).map V.str)) hV2)
            have hL7 := s7 _ _ hL5
            refine ⟨_, rfl, V2, rfl, ⟨_, SqL.of upd_same⟩, fun D2 hD2 => ?_⟩
            have s8 := same_new (o := .lst ([] : List V)) hD2
            refine lc_data (K := K) (walk_list (K := K) (a := V2) (xs := (tries x).map V.str)) (fun i => (tries x)[i]?.bind fun y => if !decide (y ∈ ts) then some (.str y) else none) hD2 (fun H8 s8 => SqL.of (s8 _ _ upd_same)) ?_ ?_ ?_ ?_
            · rw [List.length_map, tries_len]; decide
            · intro i e _ ed
              cases hc : (tries x)[i]? with
              | none => rw [hc] at ed; cases ed
              | some y =>
                rw [hc] at ed
                simp only [Option.bind_some] at ed
                split at ed
                · cases ed; rfl
                · cases ed
            · rintro i v G0 G1 hi s9 ⟨rfl, hv⟩ R S kR kS
              obtain ⟨y, hy9, rfl⟩ : ∃ y, (tries x)[i]? = some y ∧ v = .str y := by
                rw [List.getElem?_map] at hv
                cases e : (tries x)[i]? with
                | none => rw [e] at hv; cases hv
                | some y => rw [e] at hv; cases hv; exact ⟨y, rfl, rfl⟩
              refine ⟨rfl, _, rfl, _, rfl, L, _, rfl, Or.inl (SqL.of (s9 _ _ hL7)), rfl, flat_strs ts, _, rfl, ?_⟩
              show if (!inV (.str y) (ts.map V.str)) = true then _ else _
              rw [inV_strs]
              by_cases hm : y ∈ ts
              · rw [decide_eq_true hm]
                refine iteF ?_
                refine kS _ (Same.refl _) ?_
                rw [hy9]
                simp [hm]
              · rw [decide_eq_false hm]
                refine iteT ?_
                refine ⟨_, rfl, kR _ _ (.str y) (Same.refl _) ?_ (.str _)⟩
                rw [hy9]
                simp [hm]
            · intro H8 zs s9 hz hp8
              rw [List.length_map, fm_filter (fun y => !decide (y ∈ ts)) PyData.str (tries x)] at hp8
              have ez := strs_of_dps hp8
              subst ez
              obtain ⟨y, r, ey⟩ : ∃ y r, (tries x).filter (fun y => !decide (y ∈ ts)) = y :: r := by
                cases e : (tries x).filter (fun y => !decide (y ∈ ts)) with
                | nil => exact absurd e (tries_free hts)
                | cons y r => exact ⟨y, r, rfl⟩
              have hym : y ∈ (tries x).filter (fun y => !decide (y ∈ ts)) := by rw [ey]; exact List.mem_cons_self
              rw [ey] at hz
              have hyf := List.mem_filter.mp hym
              refine ⟨D2, _, 0, .str y, rfl, rfl, SqL.of hz, atI_nat (j := 0) rfl, ?_⟩
              refine q y H8 (tries_ok hx y hyf.1) (by simpa using hyf.2) ?_ (b05.trans (same_but (s7.trans s9)))
              obtain ⟨a, x', n, e⟩ := hp5
              exact ⟨a, x', n, s9 _ _ (s7 _ _ e)⟩
      · refine ⟨_, rfl, ?_⟩
        have hsm := both "abcdefghijklmnopqrstuvwxyz" ⟨by decide +kernel, by decide +kernel, by decide +kernel⟩
        refine ⟨⟨_, rfl⟩, _, rfl, p, 8, rfl, hp4, by decide, by decide, fun d2 H5 d20 d21 hp5' b5' => ?_⟩
        refine ⟨_, _, rfl, rfl, _, rfl, by omega, by omega, fun D hD => ?_⟩
        have hDp : p ≠ D := fun z => by
          obtain ⟨_, _, _, e⟩ := hp5'
          rw [z, hD] at e
          cases e
        refine lc_it (walk_range (lo := 0) (n := (1 + d2).toNat)) (fun i H6 => SrcAt H6 p ∧ But p H5 H6 ∧ ∃ cs : List Nat, H6 D = some (.lst ((cs.map one).map V.str)) ∧ cs.length = i ∧ ∀ c ∈ cs, letter c = true) ?_ (fun _ _ _ _ => trivial) ?_ ?_
        · refine ⟨?_, but_new hD, [], upd_same, rfl, fun c hc => by cases hc⟩
          obtain ⟨a, x', n, e⟩ := hp5'
          exact ⟨a, x', n, (same_new hD) _ _ e⟩
        · rintro i v G0 G1 hi ⟨hpG, bG, cs, hDG, hcl, hcs⟩ ⟨rfl, rfl⟩
          refine ⟨rfl, tYes_of ?_⟩
          refine ⟨_, rfl, _, rfl, _, rfl, ("abcdefghijklmnopqrstuvwxyz" : Str), rfl, (Nat.le_trans hsm.2.1 (by decide)), p, _, rfl, hpG, by omega, by omega, fun d3 H7 d30 d31 hp7 b7 => ?_⟩
          have hlen : ("abcdefghijklmnopqrstuvwxyz" : Str).length = (TL.tl ("abcdefghijklmnopqrstuvwxyz" : Str)).length := by
            show ("abcdefghijklmnopqrstuvwxyz" : Str).cps.size = ("abcdefghijklmnopqrstuvwxyz" : Str).cps.toList.length
            simp
          have hd3 : d3.toNat < (TL.tl ("abcdefghijklmnopqrstuvwxyz" : Str)).length := by omega
          have hat : atI ("abcdefghijklmnopqrstuvwxyz" : Str).cps.toList d3 = some ((TL.tl ("abcdefghijklmnopqrstuvwxyz" : Str))[d3.toNat]'hd3) := by
            have ek : d3 = ((d3.toNat : Nat) : Int) := by omega
            conv => lhs; rw [ek]
            exact atI_nat (List.getElem?_eq_getElem hd3)
          refine ⟨("abcdefghijklmnopqrstuvwxyz" : Str), d3, _, rfl, rfl, (Nat.le_trans hsm.2.1 (by decide)), hat, ?_⟩
          have hlt := hsm.2.2 _ (List.getElem_mem hd3)
          have hD7 := b7 _ _ hDG hDp.symm
          refine ⟨_, hD7, ?_, ?_, ?_, cs ++ [(TL.tl ("abcdefghijklmnopqrstuvwxyz" : Str))[d3.toNat]'hd3], ?_, ?_, ?_⟩
          · rw [List.length_map, List.length_map, hcl]
            exact Nat.lt_of_lt_of_le hi (Nat.le_trans (show (1 + d2).toNat ≤ 8 by omega) (by decide))
          · obtain ⟨a, x', n, e⟩ := hp7
            exact ⟨a, x', n, by rw [upd_ne hDp]; exact e⟩
          · intro b o hb hbp
            rw [upd_ne (ne_of_none hb hD)]
            exact b7 _ _ (bG b o hb hbp) hbp
          · rw [upd_same, List.map_append, List.map_append]
            rfl
          · rw [List.length_append, hcl]
            rfl
          · intro c hc
            rcases List.mem_append.mp hc with z | z
            · exact hcs c z
            · rw [List.mem_singleton.mp z]; exact hlt
        · rintro H6 ⟨hp5, b5, cs, hD6, hcl, hcs⟩
          have hz0 : (("" : String) : Str).length = 0 := by decide +kernel
          refine ⟨_, D, cs.map one, rfl, rfl, Or.inl (SqL.of hD6), ?_, ?_⟩
          · rw [ones_len, hz0, hcl]
            omega
          have hx : nameOk (Txt.join "" (cs.map one)) = true := by
            refine nameOk_of ?_ ?_ ?_
            · rw [tl_ones, hcl]; omega
            · rw [tl_ones, hcl]; omega
            · rw [tl_ones]; exact hcs
          generalize Txt.join "" (cs.map one) = x at hx ⊢
          have b05 := b04.trans (b5'.trans b5)
          -- the tries
          have hL5 := b05 _ _ hL hpL.symm
          have hxl := nameOk_len hx
          have big : 1000 ≤ sizeLine := by decide
          refine ⟨_, rfl, (show 1 ≤ sizeLine by decide), fun V1 hV1 => ?_⟩
          have t1 := same_new (o := .lst [.str x]) hV1
          refine ⟨_, rfl, _, rfl, fun D hD => ?_⟩
          refine lc_map (K := K) walk_str (fun i => signsL[i]?.map fun c => .str (cut1 x ++ one c)) hD (fun _ _ => trivial) ?_ ?_ ?_ mg_name ?_
          · show ("abcdefghijklmnopqrstuvwxyz" : Str).cps.size < sizeLine
            exact Nat.lt_of_lt_of_le (show ("abcdefghijklmnopqrstuvwxyz" : Str).cps.size < 27 by decide +kernel) (by decide)
          · intro i e _ ed
            cases hc : signsL[i]? with
            | none => rw [hc] at ed; cases ed
            | some c => rw [hc] at ed; cases ed; rfl
          · rintro i v G0 G1 hi s6 ⟨rfl, c, hc, rfl⟩ R kR
            refine ⟨rfl, _, rfl, _, rfl, -1, rfl, x, rfl, by omega, _, rfl, _, _, rfl, rfl, ?_, ?_⟩
            · have := cutS_length x none (some (-1))
              show (cutS x none (some (-1))).length + 1 ≤ sizeLine
              omega
            · refine kR _ _ (.str (cut1 x ++ one c)) (Same.refl _) ?_ (.str _)
              have hc' : signsL[i]? = some c := by rw [← signs_eq, Array.getElem?_toList]; exact hc
              rw [hc']
              rfl
          · intro H6 ys s6 hy hp6
            have en : ("abcdefghijklmnopqrstuvwxyz" : Str).cps.size = signsL.length := by decide +kernel
            rw [en, fm_map (fun c => PyData.str (cut1 x ++ one c)) signsL] at hp6
            have ey : ys = (signsL.map fun c => cut1 x ++ one c).map V.str := strs_of_dps (by rw [List.map_map]; exact hp6)
            subst ey
            refine ⟨V1, D, [.str x], _, rfl, rfl, s6 _ _ upd_same, hy, (by rw [List.length_map, List.length_map]; show 1 + signsL.length ≤ sizeLine; decide), fun V2 hV2 => ?_⟩
            have et : ([V.str x] ++ (signsL.map fun c => cut1 x ++ one c).map V.str) = (tries x).map V.str := by
              unfold tries
              rw [List.map_append]
              rfl
            rw [et]
            have s7 := (t1.trans s6).trans (same_new (o := .lst ((tries x).map V.str)) hV2)
            have hL7 := s7 _ _ hL5
            refine ⟨_, rfl, V2, rfl, ⟨_, SqL.of upd_same⟩, fun D2 hD2 => ?_⟩
            have s8 := same_new (o := .lst ([] : List V)) hD2
            refine lc_data (K := K) (walk_list (K := K) (a := V2) (xs := (tries x).map V.str)) (fun i => (tries x)[i]?.bind fun y => if !decide (y ∈ ts) then some (.str y) else none) hD2 (fun H8 s8 => SqL.of (s8 _ _ upd_same)) ?_ ?_ ?_ ?_
            · rw [List.length_map, tries_len]; decide
            · intro i e _ ed
              cases hc : (tries x)[i]? with
              | none => rw [hc] at ed; cases ed
              | some y =>
                rw [hc] at ed
                simp only [Option.bind_some] at ed
                split at ed
                · cases ed; rfl
                · cases ed
            · rintro i v G0 G1 hi s9 ⟨rfl, hv⟩ R S kR kS
              obtain ⟨y, hy9, rfl⟩ : ∃ y, (tries x)[i]? = some y ∧ v = .str y := by
                rw [List.getElem?_map] at hv
                cases e : (tries x)[i]? with
                | none => rw [e] at hv; cases hv
                | some y => rw [e] at hv; cases hv; exact ⟨y, rfl, rfl⟩
              refine ⟨rfl, _, rfl, _, rfl, L, _, rfl, Or.inl (SqL.of (s9 _ _ hL7)), rfl, flat_strs ts, _, rfl, ?_⟩
              show if (!inV (.str y) (ts.map V.str)) = true then _ else _
              rw [inV_strs]
              by_cases hm : y ∈ ts
              · rw [decide_eq_true hm]
                refine iteF ?_
                refine kS _ (Same.refl _) ?_
                rw [hy9]
                simp [hm]
              · rw [decide_eq_false hm]
                refine iteT ?_
                refine ⟨_, rfl, kR _ _ (.str y) (Same.refl _) ?_ (.str _)⟩
                rw [hy9]
                simp [hm]
            · intro H8 zs s9 hz hp8
              rw [List.length_map, fm_filter (fun y => !decide (y ∈ ts)) PyData.str (tries x)] at hp8
              have ez := strs_of_dps hp8
              subst ez
              obtain ⟨y, r, ey⟩ : ∃ y r, (tries x).filter (fun y => !decide (y ∈ ts)) = y :: r := by
                cases e : (tries x).filter (fun y => !decide (y ∈ ts)) with
                | nil => exact absurd e (tries_free hts)
                | cons y r => exact ⟨y, r, rfl⟩
              have hym : y ∈ (tries x).filter (fun y => !decide (y ∈ ts)) := by rw [ey]; exact List.mem_cons_self
              rw [ey] at hz
              have hyf := List.mem_filter.mp hym
              refine ⟨D2, _, 0, .str y, rfl, rfl, SqL.of hz, atI_nat (j := 0) rfl, ?_⟩
              refine q y H8 (tries_ok hx y hyf.1) (by simpa using hyf.2) ?_ (b05.trans (same_but (s7.trans s9)))
              obtain ⟨a, x', n, e⟩ := hp5
              exact ⟨a, x', n, s9 _ _ (s7 _ _ e)⟩

end Bk
set_option Elab.async false
set_option linter.all false
set_option maxRecDepth 100000
set_option maxHeartbeats 4000000
namespace Bk
open PySem PySem.Spec PyProof.Rows L2 PySem.NumText
open PySem.W (Frag)
/-! ### _law_plan -/
theorem sc__law_plan : FnScope ["_law_source_here", "_law_hours", "_law_docks", "_law_size_here", "_law_lanes", "_law_words", "_law_rows", "_law_pairs", "_law_found", "_law_many", "_law_k", "_law_way", "_law_least", "_law_at", "_law_pair"] ["_law_source_here", "_law_hours", "_law_docks", "_law_size_here", "_law_lanes"] (defScope s__law_plan) := ⟨rfl, rfl, rfl, by decide +kernel, rfl, by decide +kernel, by decide +kernel⟩
def sp__law_plan (K : Frag) : Sp := fun vs H Q _ => ∃ (p : Addr) (hours docks size lanes : Int), vs = [.ref p, .int hours, .int docks, .int size, .int lanes] ∧ SrcAt H p ∧ 1 ≤ hours ∧ hours ≤ 1000 ∧ 1 ≤ docks ∧ docks ≤ 5 ∧ 1 ≤ size ∧ size ≤ 40 ∧ 0 ≤ lanes ∧ lanes ≤ 12 ∧
  ∀ pl v H', PlanOk hours docks size lanes pl → Dp K H' v (encPlan pl) → SrcAt H' p → But p H H' → Q v H'
theorem ok__law_plan {P : Program} {w : World} {K : Frag} {mg : Str → Option Value} {base : Heap} (T : Tx K mg) : DOk P w K mg base 3 "_law_plan" ["_law_source_here", "_law_hours", "_law_docks", "_law_size_here", "_law_lanes"] (sp__law_plan K) := by
  refine dok_of (F__law_plan T) (g__law_plan T) sc__law_plan (fun _ _ _ _ _ _ us hl => match us, hl with | [_, _, _, _, _], _ => rfl) (fun vs H Q E h => ?_) (fun cdv A outer s H vs Q E hr h => ?_)
  · obtain ⟨p, hours, docks, size, lanes, rfl, _⟩ := h
    rfl
  · obtain ⟨p, hours, docks, size, lanes, rfl, hp, ho1, ho2, dk1, dk2, sz1, sz2, ln1, ln2, q⟩ := h
    have big : 1000 ≤ sizeLine := by decide
    refine ⟨_, (pss_cons (ps_asg (pe_tup (pa_cons (pe_lst pa_nil) (pa_cons (pe_lst pa_nil) (pa_cons (pe_lst pa_nil) (pa_cons (pe_lst pa_nil) pa_nil))))) (pg_tup (by rfl) (pgs_cons (pg_name (i := 5) sc__law_plan.nd rfl (by first | exact Or.inl rfl | exact Or.inr rfl)) (pgs_cons (pg_name (i := 6) sc__law_plan.nd rfl (by first | exact Or.inl rfl | exact Or.inr rfl)) (pgs_cons (pg_name (i := 7) sc__law_plan.nd rfl (by first | exact Or.inl rfl | exact Or.inr rfl)) (pgs_cons (pg_name (i := 8) sc__law_plan.nd rfl (by first | exact Or.inl rfl | exact Or.inr rfl)) pgs_nil)))))) (pss_cons (ps_set (i := 9) sc__law_plan.nd rfl (by first | exact Or.inl rfl | exact Or.inr rfl) (pe_op op_add pe_int (pe_callD (ok__law_draw (K := K) T) (hr.mono (by decide)) (by rfl) passE (pa_cons (pv 0) (pa_cons (pv 2) pa_nil))))) (pss_cons (ps_for ownE rfl (pi_range1 (by rfl) (b_range T) (pa_cons (pv 9) pa_nil)) (pg_name (i := 10) sc__law_plan.nd rfl (by first | exact Or.inl rfl | exact Or.inr rfl)) (pss_cons (ps_expr (pe_bm PySem.F.plainAttrs_list PySem.F.slot_list_append PySem.F.type_list_append mt_append (pv 5) (pa_cons (pe_callD (ok__law_word (K := K) T) (hr.mono (by decide)) (by rfl) passE (pa_cons (pv 0) (pa_cons (pv 5) pa_nil))) pa_nil))) (pss_cons (ps_set (i := 11) sc__law_plan.nd rfl (by first | exact Or.inl rfl | exact Or.inr rfl) (pe_callD (ok__law_draw (K := K) T) (hr.mono (by decide)) (by rfl) passE (pa_cons (pv 0) (pa_cons pe_int pa_nil)))) (pss_cons (ps_set (i := 12) sc__law_plan.nd rfl (by first | exact Or.inl rfl | exact Or.inr rfl) (pe_callB (call_min2 rfl) (by rfl) (b_min T) boot_min (pa_cons pe_int (pa_cons (pv 3) pa_nil)))) (pss_cons (ps_expr (pe_bm PySem.F.plainAttrs_list PySem.F.slot_list_append PySem.F.type_list_append mt_append (pv 6) (pa_cons (pe_tup (pa_cons (pe_ix ix_list (pv 5) (pv 10) (fun _ _ => rfl)) (pa_cons (pe_ifExp (pt_cmpR op_eq (pv 11) pe_int (nomark _)) (pe_op op_add pe_int (pe_callD (ok__law_draw (K := K) T) (hr.mono (by decide)) (by rfl) passE (pa_cons (pv 0) (pa_cons (pv 12) pa_nil)))) (pe_op op_add pe_int (pe_callD (ok__law_draw (K := K) T) (hr.mono (by decide)) (by rfl) passE (pa_cons (pv 0) (pa_cons (pv 3) pa_nil))))) pa_nil))) pa_nil))) (pss_one (ps_expr (pe_bm PySem.F.plainAttrs_list PySem.F.slot_list_extend PySem.F.type_list_extend mt_extend (pv 7) (pa_cons (pe_lc (own := [("_law_at", 13)]) (g := (gName 13)) (tt := tYes) (by rfl) sc__law_plan.nd (pi_range1 (by rfl) (b_range T) (pa_cons (pv 9) pa_nil)) (blkOk_by (own := [("_law_at", 13)]) (N := ["_law_source_here", "_law_hours", "_law_docks", "_law_size_here", "_law_lanes", "_law_words", "_law_rows", "_law_pairs", "_law_found", "_law_many", "_law_k", "_law_way", "_law_least", "_law_at", "_law_pair"]) (sc := defScope s__law_plan) (by decide +kernel)) (fun _ _ _ _ _ => (pg_name (i := 13) sc__law_plan.nd rfl (by first | exact Or.inl rfl | exact Or.inr rfl))) (fun _ _ _ _ _ => pts_nil) (fun _ _ _ _ _ => (pe_tup (pa_cons (pv 10) (pa_cons (pv 13) pa_nil))))) pa_nil))))))))) (pss_cons (ps_for ownE rfl (pi_range1 (by rfl) (b_range T) (pa_cons (pe_callD (ok__law_draw (K := K) T) (hr.mono (by decide)) (by rfl) passE (pa_cons (pv 0) (pa_cons (pe_op op_add (pe_callB (call_min2 rfl) (by rfl) (b_min T) boot_min (pa_cons (pv 4) (pa_cons (pe_callB call_len_seq (by rfl) (b_len T) boot_len (pa_cons (pv 7) pa_nil)) pa_nil))) pe_int) pa_nil))) pa_nil)) (pg_name (i := 10) sc__law_plan.nd rfl (by first | exact Or.inl rfl | exact Or.inr rfl)) (pss_cons (ps_set (i := 14) sc__law_plan.nd rfl (by first | exact Or.inl rfl | exact Or.inr rfl) (pe_bm PySem.F.plainAttrs_list PySem.F.slot_list_pop PySem.F.type_list_pop mt_popAt (pv 7) (pa_cons (pe_callD (ok__law_draw (K := K) T) (hr.mono (by decide)) (by rfl) passE (pa_cons (pv 0) (pa_cons (pe_callB call_len_seq (by rfl) (b_len T) boot_len (pa_cons (pv 7) pa_nil)) pa_nil))) pa_nil))) (pss_one (ps_expr (pe_bm PySem.F.plainAttrs_list PySem.F.slot_list_append PySem.F.type_list_append mt_append (pv 8) (pa_cons (pe_tup (pa_cons (pe_ix ix_tup (pv 14) pe_int (fun _ _ => rfl)) (pa_cons (pe_ix ix_tup (pv 14) pe_int (fun _ _ => rfl)) (pa_cons (pe_op op_add pe_int (pe_callD (ok__law_draw (K := K) T) (hr.mono (by decide)) (by rfl) passE (pa_cons (pv 0) (pa_cons pe_int pa_nil)))) pa_nil)))) pa_nil)))))) (pss_one (ps_ret (pe_tup (pa_cons (pe_op op_add pe_int (pe_callD (ok__law_draw (K := K) T) (hr.mono (by decide)) (by rfl) passE (pa_cons (pv 0) (pa_cons (pv 1) pa_nil)))) (pa_cons (pe_callTy call_tuple_of (by rfl) (b_tuple T) boot_tuple (pa_cons (pv 6) pa_nil)) (pa_cons (pe_callTy call_tuple_of (by rfl) (b_tuple T) boot_tuple (pa_cons (pv 8) pa_nil)) pa_nil)))))))))), ?_⟩
    refine ⟨Nat.zero_le _, fun W hW => ⟨Nat.zero_le _, fun R hR => ⟨Nat.zero_le _, fun P0 hP => ⟨Nat.zero_le _, fun F hF => ⟨(show 4 ≤ sizeLine by decide), fun t ht => ?_⟩⟩⟩⟩⟩
    have pn : ∀ {G : Hp} {x : Addr}, Same H G → G x = none → p ≠ x := fun {G x} s hx z => by
      obtain ⟨_, _, _, e⟩ := hp
      have := s _ _ e
      rw [z, hx] at this
      cases this
    have sW := same_new (o := .lst ([] : List V)) hW
    have sR := sW.trans (same_new (o := .lst ([] : List V)) hR)
    have sP := sR.trans (same_new (o := .lst ([] : List V)) hP)
    have sF := sP.trans (same_new (o := .lst ([] : List V)) hF)
    have st := sF.trans (same_new (o := .tup [.ref W, .ref R, .ref P0, .ref F]) ht)
    have nWR : W ≠ R := ne_of_none (H := upd H W (.lst [])) upd_same hR
    have nWP : W ≠ P0 := ne_of_none (H := upd (upd H W (.lst [])) R (.lst [])) ((upd_ne nWR).trans upd_same) hP
    have nRP : R ≠ P0 := ne_of_none (H := upd (upd H W (.lst [])) R (.lst [])) upd_same hP
    have nWF : W ≠ F := ne_of_none (H := upd (upd (upd H W (.lst [])) R (.lst [])) P0 (.lst [])) ((upd_ne nWP).trans ((upd_ne nWR).trans upd_same)) hF
    have nRF : R ≠ F := ne_of_none (H := upd (upd (upd H W (.lst [])) R (.lst [])) P0 (.lst [])) ((upd_ne nRP).trans upd_same) hF
    have nPF : P0 ≠ F := ne_of_none (H := upd (upd (upd H W (.lst [])) R (.lst [])) P0 (.lst [])) upd_same hF
    have A0 : PlA H p W R P0 F := ⟨pn (Same.refl H) hW, pn sW hR, pn sR hP, pn sP hF, nWR, nWP, nWF, nRP, nRF, nPF, hW, sW.free hR, sR.free hP, sP.free hF⟩
    refine ⟨t, _, rfl, SqT.of upd_same, rfl, _, _, rfl, _, _, rfl, _, _, rfl, _, _, rfl, rfl, ?_⟩
    have I0 : PlI K H (upd (upd (upd (upd (upd H W (.lst [])) R (.lst [])) P0 (.lst [])) F (.lst [])) t (.tup [.ref W, .ref R, .ref P0, .ref F])) p W R P0 F [] [] [] [] := by
      refine PlI.same (H := upd (upd (upd (upd H W (.lst [])) R (.lst [])) P0 (.lst [])) F (.lst [])) ⟨?_, same_but sF, ?_, ⟨[], ?_, .nil⟩, ⟨[], ?_, .nil⟩, ⟨[], upd_same, .nil⟩⟩ (same_new ht)
      · obtain ⟨a, x, n, e⟩ := hp
        exact ⟨a, x, n, sF _ _ e⟩
      · rw [upd_ne nWF, upd_ne nWP, upd_ne nWR, upd_same]
        rfl
      · rw [upd_ne nRF, upd_ne nRP, upd_same]
      · rw [upd_ne nPF, upd_same]
    -- many
    refine ⟨_, rfl, _, rfl, p, docks, rfl, I0.src, by omega, by omega, fun d H1 d0 d1 hp1 b1 => ⟨_, _, rfl, rfl, ?_⟩⟩
    have I1 := I0.draw A0 b1 hp1
    generalize hG : upd (upd (upd (upd (upd H W (.lst [])) R (.lst [])) P0 (.lst [])) F (.lst [])) t (.tup [.ref W, .ref R, .ref P0, .ref F]) = G0 at *
    obtain ⟨m, rfl⟩ : ∃ m : Nat, d = (m : Int) := ⟨d.toNat, by omega⟩
    obtain ⟨n, en⟩ : ∃ n : Nat, n = m + 1 := ⟨_, rfl⟩
    have hn5 : n ≤ 5 := by omega
    have hn1 : 1 ≤ n := by omega
    refine ⟨_, rfl, 1 + (m : Int), rfl, by omega, by omega, ?_⟩
    have en2 : (1 + (m : Int)).toNat = n := by omega
    rw [en2]
    refine for_it (walk_range (lo := 0) (n := n)) (fun i σ G => ∃ o10 o11 o12 o13 l ps, σ = [some (.ref p), some (.int hours), some (.int docks), some (.int size), some (.int lanes), some (.ref W), some (.ref R), some (.ref P0), some (.ref F), some (.int (1 + (m : Int))), o10, o11, o12, o13, none] ∧
      PlI K H G p W R P0 F (l.map (·.1)) l ps [] ∧ l.length = i ∧ (∀ s ∈ l, nameOk s.1 = true ∧ 1 ≤ s.2 ∧ s.2 ≤ size) ∧ (l.map (·.1)).Nodup ∧ ps.length = i * n ∧ ps.Nodup ∧ ∀ r ∈ ps, r.1 < i ∧ r.2 < n) ?_ (fun _ _ _ _ _ => trivial) ?_ ?_
    · exact ⟨none, none, none, none, [], [], rfl, I1, rfl, fun s hs => (by cases hs), List.nodup_nil, by simp, List.nodup_nil, fun r hr => (by cases hr)⟩
    · rintro i v σ G G' hi ⟨o10, o11, o12, o13, l, ps, rfl, I, hl, hs, hnd, hpl, hpn, hpr⟩ ⟨rfl, rfl⟩
      -- a word
      refine ⟨_, rfl, Or.inl ⟨rfl, _, SqL.of I.w⟩, _, rfl, _, rfl, p, W, _, rfl, I.src, A0.pW, I.w, by rw [List.length_map]; omega, fun x H2 hx hxn hp2 b2 => ?_⟩
      have I2 := I.draw A0 b2 hp2
      refine ⟨W, _, _, rfl, rfl, I2.w, by rw [List.length_map, List.length_map]; omega, ?_⟩
      have e2 : (l.map (·.1)).map V.str ++ [V.str x] = (l.map (·.1) ++ [x]).map V.str := by rw [List.map_append]; rfl
      rw [e2]
      have I3 := I2.setW A0 (l.map (·.1) ++ [x])
      -- the way, the least
      refine ⟨_, rfl, p, 3, rfl, I3.src, by decide, by decide, fun d2 H4 d20 d21 hp4 b4 => ?_⟩
      have I4 := I3.draw A0 b4 hp4
      refine ⟨_, rfl, 3, size, rfl, ?_⟩
      have eat : atI ((l.map (·.1) ++ [x]).map V.str) (0 + (i : Int)) = some (V.str x) := by
        rw [Int.zero_add]
        refine atI_nat ?_
        rw [List.map_append, List.getElem?_append_right (by rw [List.length_map, List.length_map]; omega), List.length_map, List.length_map, hl, Nat.sub_self]
        rfl
      obtain ⟨ys4, hy4, dy4⟩ := I4.r
      have goOn : ∀ (z : Int) (H5 : Hp), 1 ≤ z → z ≤ size → SrcAt H5 p → But p H4 H5 → ∀ tt, H5 tt = none → ∃ ys5, H5 R = some (.lst ys5) ∧ ys5.length ≤ 5 ∧
          PlI K H (upd (upd H5 tt (.tup [.str x, .int z])) R (.lst (ys5 ++ [.ref tt]))) p W R P0 F ((l ++ [(x, z)]).map (·.1)) (l ++ [(x, z)]) ps [] := by
        intro z H5 z1 z2 hp5 b5 tt htt
        have I5 := I4.draw A0 b5 hp5
        have I6 := I5.same (same_new (o := .tup [.str x, .int z]) htt)
        obtain ⟨ys, hy, dy⟩ := I5.r
        refine ⟨ys, hy, ?_, ?_⟩
        · rw [dpsLen dy, List.length_map]; omega
        · have := I6.setR A0 (s := (x, z)) ((same_new htt) _ _ hy) (dpsS (same_new htt) dy) (v := .ref tt) (.tup (SqT.of upd_same) (.cons (.str _) (.cons (.int _) .nil)))
          have em : (l ++ [(x, z)]).map (·.1) = l.map (·.1) ++ [x] := by rw [List.map_append]; rfl
          rw [em]
          exact this
      have tailR : ∀ (z : Int) (H7 : Hp), 1 ≤ z → z ≤ size → PlI K H H7 p W R P0 F ((l ++ [(x, z)]).map (·.1)) (l ++ [(x, z)]) ps [] → ∀ D, H7 D = none → ∀ H8 zs, Same H7 H8 → H8 D = some (.lst zs) → DpAll K H8 zs ((List.range n).map fun j => encI (i, j)) →
          ∃ qs, H8 P0 = some (.lst qs) ∧ qs.length ≤ 25 ∧ zs.length = n ∧ PlI K H (upd H8 P0 (.lst (qs ++ zs))) p W R P0 F ((l ++ [(x, z)]).map (·.1)) (l ++ [(x, z)]) (ps ++ (List.range n).map fun j => (i, j)) [] := by
        intro z H7 z1 z2 I7 D hD H8 zs s8 hz dz
        have I8 := I7.same s8
        obtain ⟨qs, hq, dq⟩ := I8.pr
        refine ⟨qs, hq, ?_, ?_, ?_⟩
        · rw [dpsLen dq, List.length_map, hpl]
          have : i * n ≤ 5 * 5 := Nat.mul_le_mul (by omega) hn5
          omega
        · rw [dpsLen dz, List.length_map, List.length_range]
        · refine I8.setP A0 ?_
          rw [List.map_append, List.map_map]
          exact dpsApp dq dz
      have fin : ∀ (z : Int) (H9 : Hp) (a b c d : Option V), 1 ≤ z → z ≤ size → PlI K H H9 p W R P0 F ((l ++ [(x, z)]).map (·.1)) (l ++ [(x, z)]) (ps ++ (List.range n).map fun j => (i, j)) [] →
          ∃ o10 o11 o12 o13 l ps, ([some (.ref p), some (.int hours), some (.int docks), some (.int size), some (.int lanes), some (.ref W), some (.ref R), some (.ref P0), some (.ref F), some (.int (1 + (m : Int))), a, b, c, d, none] : L2.St) = [some (.ref p), some (.int hours), some (.int docks), some (.int size), some (.int lanes), some (.ref W), some (.ref R), some (.ref P0), some (.ref F), some (.int (1 + (m : Int))), o10, o11, o12, o13, none] ∧
          PlI K H H9 p W R P0 F (l.map (·.1)) l ps [] ∧ l.length = i + 1 ∧ (∀ s ∈ l, nameOk s.1 = true ∧ 1 ≤ s.2 ∧ s.2 ≤ size) ∧ (l.map (·.1)).Nodup ∧ ps.length = (i + 1) * n ∧ ps.Nodup ∧ ∀ r ∈ ps, r.1 < i + 1 ∧ r.2 < n := by
        intro z H9 a b c d z1 z2 I9
        refine ⟨a, b, c, d, l ++ [(x, z)], _, rfl, I9, by rw [List.length_append, hl]; rfl, ?_, ?_, ?_, ?_, ?_⟩
        · intro s hs'
          rcases List.mem_append.mp hs' with h | h
          · exact hs s h
          · rw [List.mem_singleton.mp h]; exact ⟨hx, z1, z2⟩
        · rw [List.map_append, List.nodup_append]
          refine ⟨hnd, by simp, fun u hu w hw e => hxn ?_⟩
          have : w = x := by simpa using hw
          rw [← this, ← e]
          exact hu
        · rw [List.length_append, hpl, List.length_map, List.length_range, Nat.succ_mul]
        · rw [List.nodup_append]
          refine ⟨hpn, ?_, fun u hu w hw e => ?_⟩
          · refine List.Pairwise.map _ (fun a b hab e => hab ?_) List.nodup_range
            injection e
          · obtain ⟨j, _, rfl⟩ := List.mem_map.mp hw
            have := (hpr u hu).1
            rw [e] at this
            exact absurd this (Nat.lt_irrefl _)
        · intro r hr'
          rcases List.mem_append.mp hr' with h | h
          · have := hpr r h
            omega
          · obtain ⟨j, hj, rfl⟩ := List.mem_map.mp h
            have := List.mem_range.mp hj
            exact ⟨Nat.lt_succ_self _, this⟩
      refine ⟨_, rfl, Or.inl ⟨rfl, _, SqL.of hy4⟩, _, rfl, _, rfl, W, _, _, _, rfl, rfl, SqL.of I4.w, eat, ?_⟩
      refine ⟨_, rfl, rfl, _, rfl, ?_⟩
      refine iteB (fun _ => ?_) (fun _ => ?_)
      · refine ⟨_, rfl, _, rfl, p, _, rfl, I4.src, ?_, ?_, fun d3 H5 d30 d31 hp5 b5 => ⟨_, _, rfl, rfl, (show 2 ≤ sizeLine by decide), fun tt htt => ?_⟩⟩
        · split <;> omega
        · split <;> omega
        have z2 : 1 + d3 ≤ size := by
          revert d31
          split <;> intro d31 <;> omega
        obtain ⟨ys5, hy5, ly5, I7⟩ := goOn (1 + d3) H5 (by omega) z2 hp5 b5 tt htt
        refine ⟨R, _, _, rfl, rfl, (same_new htt) _ _ hy5, by omega, ?_⟩
        obtain ⟨qs7, hq7, dq7⟩ := I7.pr
        refine ⟨_, rfl, Or.inl ⟨rfl, _, SqL.of hq7⟩, _, rfl, 1 + (m : Int), rfl, by omega, by omega, fun D hD => ?_⟩
        rw [en2]
        refine lc_map (K := K) (walk_range (lo := 0) (n := n)) (fun j => if j < n then some (encI (i, j)) else none) hD (fun _ _ => trivial) (by omega) ?_ ?_ mg_name ?_
        · intro j e hj ed
          rw [if_pos hj] at ed
          cases ed
          rfl
        · rintro j v G1 G2 hj s9 ⟨rfl, rfl⟩ Rk kR
          refine ⟨rfl, _, rfl, _, rfl, (show 2 ≤ sizeLine by decide), fun u hu => kR _ _ (encI (i, j)) (same_new hu) (if_pos hj) ?_⟩
          exact .tup (SqT.of upd_same) (.cons (dp_int0 i) (.cons (dp_int0 j) .nil))
        · intro H8 zs s8 hz dz
          rw [fm_range n fun j => encI (i, j)] at dz
          obtain ⟨qs, hq, lq, lz, I9⟩ := tailR (1 + d3) _ (by omega) z2 I7 D hD H8 zs s8 hz dz
          refine ⟨P0, D, qs, zs, rfl, rfl, hq, hz, by omega, ?_⟩
          exact fin (1 + d3) _ _ _ _ _ (by omega) z2 I9
      · refine ⟨_, rfl, _, rfl, p, _, rfl, I4.src, by omega, by omega, fun d3 H5 d30 d31 hp5 b5 => ⟨_, _, rfl, rfl, (show 2 ≤ sizeLine by decide), fun tt htt => ?_⟩⟩
        have z2 : 1 + d3 ≤ size := by omega
        obtain ⟨ys5, hy5, ly5, I7⟩ := goOn (1 + d3) H5 (by omega) z2 hp5 b5 tt htt
        refine ⟨R, _, _, rfl, rfl, (same_new htt) _ _ hy5, by omega, ?_⟩
        obtain ⟨qs7, hq7, dq7⟩ := I7.pr
        refine ⟨_, rfl, Or.inl ⟨rfl, _, SqL.of hq7⟩, _, rfl, 1 + (m : Int), rfl, by omega, by omega, fun D hD => ?_⟩
        rw [en2]
        refine lc_map (K := K) (walk_range (lo := 0) (n := n)) (fun j => if j < n then some (encI (i, j)) else none) hD (fun _ _ => trivial) (by omega) ?_ ?_ mg_name ?_
        · intro j e hj ed
          rw [if_pos hj] at ed
          cases ed
          rfl
        · rintro j v G1 G2 hj s9 ⟨rfl, rfl⟩ Rk kR
          refine ⟨rfl, _, rfl, _, rfl, (show 2 ≤ sizeLine by decide), fun u hu => kR _ _ (encI (i, j)) (same_new hu) (if_pos hj) ?_⟩
          exact .tup (SqT.of upd_same) (.cons (dp_int0 i) (.cons (dp_int0 j) .nil))
        · intro H8 zs s8 hz dz
          rw [fm_range n fun j => encI (i, j)] at dz
          obtain ⟨qs, hq, lq, lz, I9⟩ := tailR (1 + d3) _ (by omega) z2 I7 D hD H8 zs s8 hz dz
          refine ⟨P0, D, qs, zs, rfl, rfl, hq, hz, by omega, ?_⟩
          exact fin (1 + d3) _ _ _ _ _ (by omega) z2 I9
    · rintro σ G ⟨o10, o11, o12, o13, l, ps, rfl, I, hl, hs, hnd, hpl, hpn, hpr⟩
      have hlp : (l.map (·.1)).length = n := by rw [List.length_map, hl]
      obtain ⟨zs, hq, dq⟩ := I.pr
      have hzl : zs.length = n * n := by rw [dpsLen dq, List.length_map, hpl]
      have hnn : n * n ≤ 25 := Nat.mul_le_mul hn5 hn5
      have hnn0 : 0 < n * n := Nat.mul_pos hn1 hn1
      refine ⟨_, rfl, _, rfl, _, rfl, P0, zs, rfl, Or.inl (SqL.of hq), lanes, _, rfl, _, _, rfl, rfl, p, _, rfl, I.src, ?_, ?_, fun d2 H2 d20 d21 hp2 b2 => ?_⟩
      · split <;> omega
      · split <;> omega
      have d2l : d2 ≤ lanes := by
        revert d21
        split <;> intro d21 <;> omega
      have d2z : d2 ≤ (n * n : Nat) := by
        revert d21
        split <;> intro d21 <;> omega
      have I2 := I.draw A0 b2 hp2
      refine ⟨d2, rfl, by omega, by omega, ?_⟩
      refine for_it (walk_range (lo := 0) (n := d2.toNat)) (fun i σ G => i ≤ d2.toNat → ∃ o10 o14 ps' ls, σ = [some (.ref p), some (.int hours), some (.int docks), some (.int size), some (.int lanes), some (.ref W), some (.ref R), some (.ref P0), some (.ref F), some (.int (1 + (m : Int))), o10, o11, o12, o13, o14] ∧
        PlI K H G p W R P0 F (l.map (·.1)) l ps' ls ∧ ls.length = i ∧ ps'.length + i = n * n ∧ (ls.map prL ++ ps').Nodup ∧ (∀ r ∈ ps', r.1 < n ∧ r.2 < n) ∧ ∀ r ∈ ls, r.1 < n ∧ r.2.1 < n ∧ 1 ≤ r.2.2 ∧ r.2.2 ≤ 3) ?_ (fun _ _ _ _ _ => trivial) ?_ ?_
      · exact fun _ => ⟨o10, none, ps, [], rfl, I2, rfl, by rw [hpl]; rfl, by simpa using hpn, hpr, fun r hr => (by cases hr)⟩
      · rintro i v σ G G' hi hP ⟨rfl, rfl⟩
        obtain ⟨o10', o14, ps', ls, rfl, I3, hll, hpl3, hnd3, hpr3, hls3⟩ := hP (Nat.le_of_lt hi)
        obtain ⟨zs3, hq3, dq3⟩ := I3.pr
        have hz3 : zs3.length = ps'.length := by rw [dpsLen dq3, List.length_map]
        have hpos : 0 < ps'.length := by omega
        refine ⟨_, rfl, Or.inl ⟨rfl, _, SqL.of hq3⟩, _, rfl, _, rfl, P0, zs3, rfl, Or.inl (SqL.of hq3), p, _, rfl, I3.src, by omega, by omega, fun d3 H4 d30 d31 hp4 b4 => ?_⟩
        have I4 := I3.draw A0 b4 hp4
        obtain ⟨zs4, hq4, dq4⟩ := I4.pr
        have e34 : zs3 = zs4 := by
          have := b4 _ _ hq3 A0.pP.symm
          rw [hq4] at this
          cases this
          rfl
        subst e34
        have hlt : d3.toNat < zs3.length := by omega
        obtain ⟨y, hy⟩ : ∃ y, zs3[d3.toNat]? = some y := ⟨_, List.getElem?_eq_getElem hlt⟩
        obtain ⟨r, b, er, rfl, hb⟩ := lane_at dq4 hy
        refine ⟨P0, zs3, d3, d3.toNat, _, rfl, rfl, hq4, by omega, by omega, seqIx d30 (by omega), hy, ?_⟩
        have I5 := I4.setP A0 (ps' := ps'.eraseIdx d3.toNat) (zs := zs3.eraseIdx d3.toNat) (by
          have := dpsErase d3.toNat dq4
          rw [erase_map] at this
          exact this)
        have hb5 := sqtV (o := .lst (zs3.eraseIdx d3.toNat)) (noTup_lst hq4) hb
        have hrm := hpr3 r (List.mem_of_getElem? er)
        obtain ⟨fs5, hf5, df5⟩ := I5.f
        refine ⟨_, rfl, Or.inl ⟨rfl, _, SqL.of hf5⟩, _, rfl, b, _, _, _, rfl, rfl, hb5, atI_nat (j := 0) rfl, _, rfl, b, _, _, _, rfl, rfl, hb5, atI_nat (j := 1) rfl, _, rfl, p, 3, rfl, I5.src, by decide, by decide, fun d4 H6 d40 d41 hp6 b6 => ⟨_, _, rfl, rfl, (show 3 ≤ sizeLine by decide), fun tt htt => ?_⟩⟩
        have I6 := I5.draw A0 b6 hp6
        obtain ⟨fs6, hf6, df6⟩ := I6.f
        have stt := same_new (o := .tup [.int (r.1 : Nat), .int (r.2 : Nat), .int (1 + d4)]) htt
        have I7 := I6.same stt
        have hfl : fs6.length = i := by rw [dpsLen df6, List.length_map, hll]
        refine ⟨F, fs6, _, rfl, rfl, stt _ _ hf6, by omega, fun hi1 => ⟨_, _, ps'.eraseIdx d3.toNat, ls ++ [(r.1, r.2, 1 + d4)], rfl, ?_, ?_, ?_, ?_, ?_, ?_⟩⟩
        · exact I7.setF A0 (s := (r.1, r.2, 1 + d4)) (stt _ _ hf6) (dpsS stt df6) (.tup (SqT.of upd_same) (.cons (.int _) (.cons (.int _) (.cons (.int _) .nil))))
        · rw [List.length_append, hll]; rfl
        · rw [List.length_eraseIdx_of_lt (by omega)]; omega
        · rw [List.map_append]
          exact erase_nodup hnd3 er
        · exact fun u hu => hpr3 u (mem_erase hu)
        · intro u hu
          rcases List.mem_append.mp hu with h | h
          · exact hls3 u h
          · rw [List.mem_singleton.mp h]
            exact ⟨hrm.1, hrm.2, by show 1 ≤ 1 + d4; omega, by show 1 + d4 ≤ 3; omega⟩
      · intro σ G hP
        obtain ⟨o10', o14, ps', ls, rfl, I3, hll, hpl3, hnd3, hpr3, hls3⟩ := hP (Nat.le_refl _)
        refine ⟨_, rfl, _, rfl, p, hours, rfl, I3.src, by omega, by omega, fun d4 H6 d40 d41 hp6 b6 => ⟨_, _, rfl, rfl, ?_⟩⟩
        have I6 := I3.draw A0 b6 hp6
        obtain ⟨ys, hy, dy⟩ := I6.r
        refine ⟨_, rfl, R, ys, rfl, Or.inl ⟨SqL.of hy, fun t1 h1 => ?_⟩⟩
        have s1 := same_new (o := .tup ys) h1
        have I7 := I6.same s1
        obtain ⟨fs, hf, df⟩ := I7.f
        refine ⟨_, rfl, F, fs, rfl, Or.inl ⟨SqL.of hf, fun t2 h2 => ⟨(show 3 ≤ sizeLine by decide), fun t3 h3 => ?_⟩⟩⟩
        have s2 := same_new (o := .tup fs) h2
        have s3 := same_new (o := .tup [.int (1 + d4), .ref t1, .ref t2]) h3
        have I8 := I7.same (s2.trans s3)
        refine q ⟨1 + d4, l, ls⟩ _ _ ⟨by show 1 ≤ 1 + d4; omega, by show 1 + d4 ≤ hours; omega, ?_, ?_, hs, hnd, ?_, ?_, ?_⟩ (.tup (SqT.of upd_same) (.cons (.int _) (.cons ?_ (.cons ?_ .nil)))) I8.src I8.but
        · intro e
          have : l.length = 0 := by rw [show l = [] from e]; rfl
          omega
        · show (l.length : Int) ≤ docks
          omega
        · show (ls.length : Int) ≤ lanes
          omega
        · rw [show (⟨1 + d4, l, ls⟩ : Plan).stands.length = n from hl]
          exact hls3
        · have := hnd3.sublist (List.sublist_append_left _ _)
          exact this
        · exact .tup (SqT.of (s3 _ _ (s2 _ _ upd_same))) (dpsS (s1.trans (s2.trans s3)) dy)
        · exact .tup (SqT.of (s3 _ _ upd_same)) (dpsS (s2.trans s3) df)

end Bk
set_option Elab.async false
set_option linter.all false
set_option maxRecDepth 100000
set_option maxHeartbeats 4000000
namespace Bk
open PySem PySem.Spec PyProof.Rows L2 PySem.NumText
open PySem.W (Frag)
/-! ### _law_named -/
theorem sc__law_named : FnScope ["_law_plan_here", "_law_lane"] ["_law_plan_here"] (defScope s__law_named) := ⟨rfl, rfl, rfl, by decide +kernel, rfl, by decide +kernel, by decide +kernel⟩
def sp__law_named (K : Frag) : Sp := fun vs H Q _ => ∃ (v : V) (pl : Plan), vs = [v] ∧ Dp K H v (encPlan pl) ∧ (∀ r ∈ pl.lanes, r.1 < pl.stands.length ∧ r.2.1 < pl.stands.length) ∧ pl.lanes.length ≤ 1000 ∧ ∀ v' H', Same H H' → Dp K H' v' (encRs (named pl)) → Q v' H'
theorem ok__law_named {P : Program} {w : World} {K : Frag} {mg : Str → Option Value} {base : Heap} (T : Tx K mg) : DOk P w K mg base 1 "_law_named" ["_law_plan_here"] (sp__law_named K) := by
  refine dok_of (F__law_named T) (g__law_named T) sc__law_named (fun _ _ _ _ _ _ us hl => match us, hl with | [_], _ => rfl) (fun vs H Q E h => ?_) (fun cdv A outer s H vs Q E hr h => ?_)
  · obtain ⟨v, pl, rfl, _⟩ := h
    rfl
  · obtain ⟨v, pl, rfl, hv, hin, hll, q⟩ := h
    obtain ⟨a, a1, a2, xs, ls, rfl, h0, h1, dx, h2, dl⟩ := dp_plan hv
    have hl : ls.length = pl.lanes.length := by rw [dpsLen dl, List.length_map]
    refine ⟨_, (pss_one (ps_ret (pe_callTy call_tuple_of (by rfl) (b_tuple T) boot_tuple (pa_cons (pe_lc (own := [("_law_lane", 1)]) (g := (gName 1)) (tt := tYes) (by rfl) sc__law_named.nd (pi_tup (pe_ix ix_tup (pv 0) pe_int (fun _ _ => rfl))) (blkOk_by (own := [("_law_lane", 1)]) (N := ["_law_plan_here", "_law_lane"]) (sc := defScope s__law_named) (by decide +kernel)) (fun _ _ _ _ _ => (pg_name (i := 1) sc__law_named.nd rfl (by first | exact Or.inl rfl | exact Or.inr rfl))) (fun _ _ _ _ _ => pts_nil) (fun _ _ _ _ _ => (pe_tup (pa_cons (pe_ix (ix_tupK (K := K) rfl) (pe_ix (ix_tupK (K := K) rfl) (pe_ix (ix_tupK (K := K) rfl) (pv 0) pe_int (fun _ _ => rfl)) (pe_ix (ix_tupK (K := K) rfl) (pv 1) pe_int (fun _ _ => rfl)) (fun _ _ => rfl)) pe_int (fun _ _ => rfl)) (pa_cons (pe_ix (ix_tupK (K := K) rfl) (pe_ix (ix_tupK (K := K) rfl) (pe_ix (ix_tupK (K := K) rfl) (pv 0) pe_int (fun _ _ => rfl)) (pe_ix (ix_tupK (K := K) rfl) (pv 1) pe_int (fun _ _ => rfl)) (fun _ _ => rfl)) pe_int (fun _ _ => rfl)) (pa_cons (pe_ix (ix_tupK (K := K) rfl) (pv 1) pe_int (fun _ _ => rfl)) pa_nil)))))) pa_nil)))), ?_⟩
    refine ⟨_, rfl, a, _, _, _, rfl, rfl, h0, atI_nat (j := 2) rfl, a2, rfl, ⟨_, h2⟩, fun D hD => ?_⟩
    refine lc_map (K := K) (walk_tup (K := K) (a := a2) (xs := ls)) (fun i => pl.lanes[i]?.map fun r => encR (nameAt pl.stands r.1, nameAt pl.stands r.2.1, r.2.2)) hD (fun H2 s2 => Same.tup s2 h2) ?_ ?_ ?_ mg_name ?_
    · rw [hl]; exact Nat.lt_of_le_of_lt hll (by decide)
    · intro i d _ ed
      cases hc : pl.lanes[i]? with
      | none => rw [hc] at ed; cases ed
      | some c => rw [hc] at ed; cases ed; rfl
    · rintro i v G0 G1 hi s2 ⟨rfl, hx⟩ R kR
      obtain ⟨r, b, el, rfl, hb⟩ := ltri_at (dpsS s2 dl) hx
      have hr' := hin r (List.mem_of_getElem? el)
      obtain ⟨b1, z1, e1, f1⟩ := stand_ix (dpsS s2 dx) hr'.1
      obtain ⟨b2, z2, e2, f2⟩ := stand_ix (dpsS s2 dx) hr'.2
      refine ⟨rfl, _, rfl, a, _, _, _, rfl, rfl, Same.tup s2 h0, atI_nat (j := 1) rfl, _, rfl, b, _, _, _, rfl, rfl, hb, atI_nat (j := 0) rfl, a1, _, _, _, rfl, rfl, Same.tup s2 h1, atI_nat e1, b1, _, _, _, rfl, rfl, f1, atI_nat (j := 0) rfl, ?_⟩
      refine ⟨_, rfl, a, _, _, _, rfl, rfl, Same.tup s2 h0, atI_nat (j := 1) rfl, _, rfl, b, _, _, _, rfl, rfl, hb, atI_nat (j := 1) rfl, a1, _, _, _, rfl, rfl, Same.tup s2 h1, atI_nat e2, b2, _, _, _, rfl, rfl, f2, atI_nat (j := 0) rfl, ?_⟩
      refine ⟨_, rfl, b, _, _, _, rfl, rfl, hb, atI_nat (j := 2) rfl, (show 3 ≤ sizeLine by decide), fun u hu => ?_⟩
      refine kR _ _ (encR (nameAt pl.stands r.1, nameAt pl.stands r.2.1, r.2.2)) (same_new hu) (by rw [el]; rfl) (.tup (SqT.of upd_same) (.cons (.str _) (.cons (.str _) (.cons (.int _) .nil))))
    · intro H2 ys s2 hy hp2
      rw [hl, fm_map (fun r => encR (nameAt pl.stands r.1, nameAt pl.stands r.2.1, r.2.2)) pl.lanes] at hp2
      refine ⟨D, _, rfl, Or.inl ⟨SqL.of hy, fun u hu => ?_⟩⟩
      have s3 := same_new (o := .tup ys) hu
      refine q _ _ (s2.trans s3) (.tup (SqT.of upd_same) ?_)
      unfold named
      rw [List.map_map]
      exact dpsS s3 hp2

end Bk
set_option Elab.async false
set_option linter.all false
set_option maxRecDepth 100000
set_option maxHeartbeats 4000000
namespace Bk
open PySem PySem.Spec PyProof.Rows L2 PySem.NumText
open PySem.W (Frag)
/-! ### _law_lines -/
theorem sc__law_lines : FnScope ["_law_plan_here", "_law_rows", "_law_dock", "_law_lane"] ["_law_plan_here"] (defScope s__law_lines) := ⟨rfl, rfl, rfl, by decide +kernel, rfl, by decide +kernel, by decide +kernel⟩
def sp__law_lines (K : Frag) : Sp := fun vs H Q _ => ∃ (v : V) (pl : Plan), vs = [v] ∧ Dp K H v (encPlan pl) ∧ (townOf pl).Ok ∧ (∀ r ∈ pl.lanes, r.1 < pl.stands.length ∧ r.2.1 < pl.stands.length) ∧ ∀ H' L, Same H H' → H' L = some (.lst ((linesOf (townOf pl)).map V.str)) → Q (.ref L) H'
theorem ok__law_lines {P : Program} {w : World} {K : Frag} {mg : Str → Option Value} {base : Heap} (T : Tx K mg) : DOk P w K mg base 2 "_law_lines" ["_law_plan_here"] (sp__law_lines K) := by
  refine dok_of (F__law_lines T) (g__law_lines T) sc__law_lines (fun _ _ _ _ _ _ us hl => match us, hl with | [_], _ => rfl) (fun vs H Q E h => ?_) (fun cdv A outer s H vs Q E hr h => ?_)
  · obtain ⟨v, pl, rfl, _⟩ := h
    rfl
  · obtain ⟨v, pl, rfl, hv, ok, hin, q⟩ := h
    obtain ⟨a, a1, a2, xs, ls, rfl, h0, h1, dx, h2, dl⟩ := dp_plan hv
    have hxl : xs.length = pl.stands.length := by rw [dpsLen dx, List.length_map]
    have z1 : 1 ≤ pl.slots := ok.s1
    have z2 : pl.slots ≤ 8 := ok.s2
    have f1 : pl.stands.length ≤ 5 := ok.st.few
    have f2 : (named pl).length ≤ 12 := ok.rd.few
    have f3 : pl.lanes.length ≤ 12 := by
      unfold named at f2
      rw [List.length_map] at f2
      exact f2
    have n1 : (Str.ofString (toString pl.slots)).length ≤ 2 := (num_le (z := pl.slots) (by omega) (by omega)).1
    have e1 : (("slots " : String) : Str).length = 6 := by decide +kernel
    have e2 : (("stand " : String) : Str).length = 6 := by decide +kernel
    have e3 : (("road " : String) : Str).length = 5 := by decide +kernel
    have e4 : ((" " : String) : Str).length = 1 := by decide +kernel
    have big : 1000 ≤ sizeLine := by decide
    refine ⟨_, (pss_cons (ps_set (i := 1) sc__law_lines.nd rfl (by first | exact Or.inl rfl | exact Or.inr rfl) (pe_op op_cat (pe_lst (pa_cons (pe_op op_add_str pe_str (pe_callTy call_str_int (by rfl) (b_str T) boot_str (pa_cons (pe_ix ix_tup (pv 0) pe_int (fun _ _ => rfl)) pa_nil))) pa_nil)) (pe_lc (own := [("_law_dock", 2)]) (g := (gName 2)) (tt := tYes) (by rfl) sc__law_lines.nd (pi_tup (pe_ix ix_tup (pv 0) pe_int (fun _ _ => rfl))) (blkOk_by (own := [("_law_dock", 2)]) (N := ["_law_plan_here", "_law_rows", "_law_dock", "_law_lane"]) (sc := defScope s__law_lines) (by decide +kernel)) (fun _ _ _ _ _ => (pg_name (i := 2) sc__law_lines.nd rfl (by first | exact Or.inl rfl | exact Or.inr rfl))) (fun _ _ _ _ _ => pts_nil) (fun _ _ _ _ _ => (pe_op op_add_str (pe_op op_add_str (pe_op op_add_str pe_str (pe_ix (ix_tupK (K := K) rfl) (pv 2) pe_int (fun _ _ => rfl))) pe_str) (pe_callTy call_str_int (by rfl) (b_str T) boot_str (pa_cons (pe_ix (ix_tupK (K := K) rfl) (pv 2) pe_int (fun _ _ => rfl)) pa_nil))))))) (pss_one (ps_ret (pe_op op_cat (pv 1) (pe_lc (own := [("_law_lane", 3)]) (g := (gName 3)) (tt := tYes) (by rfl) sc__law_lines.nd (pi_tup (pe_callD (ok__law_named (K := K) T) (hr.mono (by decide)) (by rfl) passE (pa_cons (pv 0) pa_nil))) (blkOk_by (own := [("_law_lane", 3)]) (N := ["_law_plan_here", "_law_rows", "_law_dock", "_law_lane"]) (sc := defScope s__law_lines) (by decide +kernel)) (fun _ _ _ _ _ => (pg_name (i := 3) sc__law_lines.nd rfl (by first | exact Or.inl rfl | exact Or.inr rfl))) (fun _ _ _ _ _ => pts_nil) (fun _ _ _ _ _ => (pe_op op_add_str (pe_op op_add_str (pe_op op_add_str (pe_op op_add_str (pe_op op_add_str pe_str (pe_ix (ix_tupK (K := K) rfl) (pv 3) pe_int (fun _ _ => rfl))) pe_str) (pe_ix (ix_tupK (K := K) rfl) (pv 3) pe_int (fun _ _ => rfl))) pe_str) (pe_callTy call_str_int (by rfl) (b_str T) boot_str (pa_cons (pe_ix (ix_tupK (K := K) rfl) (pv 3) pe_int (fun _ _ => rfl)) pa_nil))))))))), ?_⟩
    refine ⟨_, rfl, a, _, _, _, rfl, rfl, h0, atI_nat (j := 0) rfl, pl.slots, rfl, log2_small (by omega) (by omega), _, _, rfl, rfl, by omega, (show 1 ≤ sizeLine by decide), fun L1 hL1 => ?_⟩
    have s1 := same_new (o := .lst [.str ("slots " ++ num pl.slots)]) hL1
    refine ⟨_, rfl, a, _, _, _, rfl, rfl, Same.tup s1 h0, atI_nat (j := 1) rfl, a1, rfl, ⟨_, Same.tup s1 h1⟩, fun D hD => ?_⟩
    refine lc_map (K := K) (walk_tup (K := K) (a := a1) (xs := xs)) (fun i => pl.stands[i]?.map fun s => .str (standLine s)) hD (fun H2 s2 => Same.tup s2 (Same.tup s1 h1)) ?_ ?_ ?_ mg_name ?_
    · omega
    · intro i d _ ed
      cases hc : pl.stands[i]? with
      | none => rw [hc] at ed; cases ed
      | some c => rw [hc] at ed; cases ed; rfl
    · rintro i v G0 G1 hi s2 ⟨rfl, hx⟩ R kR
      obtain ⟨sd, b, el, rfl, hb⟩ := stand_at (dpsS (s1.trans s2) dx) hx
      have hsd := ok.st.each sd (List.mem_of_getElem? el)
      have nl := nameOk_len hsd.1
      have nn : (Str.ofString (toString sd.2)).length ≤ 2 := (num_le (z := sd.2) (by omega) (by omega)).1
      refine ⟨rfl, _, rfl, b, _, _, _, rfl, rfl, hb, atI_nat (j := 0) rfl, _, _, rfl, rfl, by omega, _, _, rfl, rfl, ?_, _, rfl, b, _, _, _, rfl, rfl, hb, atI_nat (j := 1) rfl, sd.2, rfl, log2_small (by omega) (by omega), _, _, rfl, rfl, ?_, ?_⟩
      · rw [len_app]; omega
      · rw [len_app, len_app]; omega
      · refine kR _ _ (.str (standLine sd)) (Same.refl _) (by rw [el]; rfl) (.str _)
    · intro H2 ys s2 hy hp2
      rw [hxl, fm_map (fun s => PyData.str (standLine s)) pl.stands] at hp2
      have ey : ys = (pl.stands.map standLine).map V.str := strs_of_dps (by rw [List.map_map]; exact hp2)
      subst ey
      refine ⟨L1, D, [.str (slotsLine pl.slots)], _, rfl, rfl, s2 _ _ upd_same, hy, ?_, fun L2 hL2 => ?_⟩
      · rw [List.length_map, List.length_map]
        show 1 + pl.stands.length ≤ sizeLine
        omega
      have s3 := (s1.trans s2).trans (same_new (o := .lst ([.str (slotsLine pl.slots)] ++ (pl.stands.map standLine).map V.str)) hL2)
      refine ⟨_, rfl, _, rfl, _, pl, rfl, dpS s3 hv, hin, by omega, fun v' H4 s4 hv4 => ?_⟩
      obtain ⟨b0, rs, rfl, hb0, hrs⟩ := dp_tup hv4
      have hrl : rs.length = (named pl).length := by rw [dpsLen hrs, List.length_map]
      refine ⟨b0, rfl, ⟨_, hb0⟩, fun D2 hD2 => ?_⟩
      refine lc_map (K := K) (walk_tup (K := K) (a := b0) (xs := rs)) (fun i => (named pl)[i]?.map fun s => .str (roadLine s)) hD2 (fun H5 s5 => Same.tup s5 hb0) ?_ ?_ ?_ mg_name ?_
      · omega
      · intro i d _ ed
        cases hc : (named pl)[i]? with
        | none => rw [hc] at ed; cases ed
        | some c => rw [hc] at ed; cases ed; rfl
      · rintro i v G0 G1 hi s5 ⟨rfl, hx⟩ R kR
        obtain ⟨sd, b, el, rfl, hb⟩ := road_at (dpsS s5 hrs) hx
        have hsd := ok.rds sd (List.mem_of_getElem? el)
        have nl1 := nameOk_len hsd.1
        have nl2 := nameOk_len hsd.2.1
        have nn : (Str.ofString (toString sd.2.2)).length ≤ 2 := (num_le (z := sd.2.2) (by omega) (by omega)).1
        refine ⟨rfl, _, rfl, b, _, _, _, rfl, rfl, hb, atI_nat (j := 0) rfl, _, _, rfl, rfl, by omega, _, _, rfl, rfl, ?_, _, rfl, b, _, _, _, rfl, rfl, hb, atI_nat (j := 1) rfl, _, _, rfl, rfl, ?_, _, _, rfl, rfl, ?_, _, rfl, b, _, _, _, rfl, rfl, hb, atI_nat (j := 2) rfl, sd.2.2, rfl, log2_small (by omega) (by omega), _, _, rfl, rfl, ?_, ?_⟩
        · rw [len_app]; omega
        · rw [len_app, len_app]; omega
        · rw [len_app, len_app, len_app]; omega
        · rw [len_app, len_app, len_app, len_app]; omega
        · refine kR _ _ (.str (roadLine sd)) (Same.refl _) (by rw [el]; rfl) (.str _)
      · intro H5 ys s5 hy5 hp5
        rw [hrl, fm_map (fun s => PyData.str (roadLine s)) (named pl)] at hp5
        have ey : ys = ((named pl).map roadLine).map V.str := strs_of_dps (by rw [List.map_map]; exact hp5)
        subst ey
        refine ⟨L2, D2, _, _, rfl, rfl, s5 _ _ (s4 _ _ upd_same), hy5, ?_, fun L3 hL3 => ?_⟩
        · rw [List.length_append, List.length_map, List.length_map, List.length_map, List.length_map]
          show 1 + pl.stands.length + (named pl).length ≤ sizeLine
          omega
        · refine q _ L3 (((s3.trans s4).trans s5).trans (same_new hL3)) ?_
          rw [upd_same]
          unfold linesOf
          rw [List.map_append, List.map_append]
          rfl

/-! ### _law_text -/
theorem sc__law_text : FnScope ["_law_plan_here"] ["_law_plan_here"] (defScope s__law_text) := ⟨rfl, rfl, rfl, by decide +kernel, rfl, by decide +kernel, by decide +kernel⟩
def sp__law_text (K : Frag) : Sp := fun vs H Q _ => ∃ (v : V) (pl : Plan), vs = [v] ∧ Dp K H v (encPlan pl) ∧ (townOf pl).Ok ∧ (∀ r ∈ pl.lanes, r.1 < pl.stands.length ∧ r.2.1 < pl.stands.length) ∧ ∀ H', Same H H' → Q (.str (townText (townOf pl))) H'
theorem ok__law_text {P : Program} {w : World} {K : Frag} {mg : Str → Option Value} {base : Heap} (T : Tx K mg) : DOk P w K mg base 3 "_law_text" ["_law_plan_here"] (sp__law_text K) := by
  refine dok_of (F__law_text T) (g__law_text T) sc__law_text (fun _ _ _ _ _ _ us hl => match us, hl with | [_], _ => rfl) (fun vs H Q E h => ?_) (fun cdv A outer s H vs Q E hr h => ?_)
  · obtain ⟨v, pl, rfl, _⟩ := h
    rfl
  · obtain ⟨v, pl, rfl, hv, ok, hin, q⟩ := h
    refine ⟨_, (pss_one (ps_ret (pe_join pe_str (pe_callD (ok__law_lines (K := K) T) (hr.mono (by decide)) (by rfl) passE (pa_cons (pv 0) pa_nil))))), ?_⟩
    refine ⟨⟨_, rfl⟩, _, rfl, v, pl, rfl, hv, ok, hin, fun H' L s1 h1 => ⟨_, L, linesOf (townOf pl), rfl, rfl, Or.inl (SqL.of h1), ?_, q H' s1⟩⟩
    have h2 := sum_le (line_len ok)
    have h3 := lines_few ok
    have e : (("\n" : String) : Str).length = 1 := by decide +kernel
    rw [e]
    have : (linesOf (townOf pl)).length * 40 ≤ 18 * 40 := Nat.mul_le_mul_right _ h3
    omega

/-! ### _law_town -/
theorem sc__law_town : FnScope ["_law_plan_here"] ["_law_plan_here"] (defScope s__law_town) := ⟨rfl, rfl, rfl, by decide +kernel, rfl, by decide +kernel, by decide +kernel⟩
def sp__law_town (K : Frag) : Sp := fun vs H Q _ => ∃ (v : V) (pl : Plan), vs = [v] ∧ Dp K H v (encPlan pl) ∧ (townOf pl).Ok ∧ (∀ r ∈ pl.lanes, r.1 < pl.stands.length ∧ r.2.1 < pl.stands.length) ∧ ∀ p H', H p = none → Same H H' → TownAt K H' p (townOf pl) → Q (.ref p) H'
theorem ok__law_town {P : Program} {w : World} {K : Frag} {mg : Str → Option Value} {base : Heap} (T : Tx K mg) : DOk P w K mg base 8 "_law_town" ["_law_plan_here"] (sp__law_town K) := by
  refine dok_of (F__law_town T) (g__law_town T) sc__law_town (fun _ _ _ _ _ _ us hl => match us, hl with | [_], _ => rfl) (fun vs H Q E h => ?_) (fun cdv A outer s H vs Q E hr h => ?_)
  · obtain ⟨v, pl, rfl, _⟩ := h
    rfl
  · obtain ⟨v, pl, rfl, hv, ok, hin, q⟩ := h
    obtain ⟨a, a1, a2, xs, ls, rfl, h0, h1, dx, h2, dl⟩ := dp_plan hv
    have f2 : (named pl).length ≤ 12 := ok.rd.few
    have f3 : pl.lanes.length ≤ 12 := by
      unfold named at f2
      rw [List.length_map] at f2
      exact f2
    refine ⟨_, (pss_one (ps_ret (pe_makeM (mk_Town T) (ok_Town___init__ T) (hr.mono (by decide)) (by rfl) (g_Town T) passE (pa_cons (pe_ix ix_tup (pv 0) pe_int (fun _ _ => rfl)) (pa_cons (pe_ix ix_tup (pv 0) pe_int (fun _ _ => rfl)) (pa_cons (pe_callD (ok__law_named (K := K) T) (hr.mono (by decide)) (by rfl) passE (pa_cons (pv 0) pa_nil)) pa_nil)))))), ?_⟩
    refine ⟨_, rfl, a, _, _, _, rfl, rfl, h0, atI_nat (j := 0) rfl, _, rfl, a, _, _, _, rfl, rfl, h0, atI_nat (j := 1) rfl, _, rfl, _, pl, rfl, hv, hin, by omega, fun v' H1 s1 hv1 => ?_⟩
    intro x dx' nx ndx nex
    have s2 : Same H1 (upd (upd H1 dx' (.own x)) x (.ins (He.ga K "Town") dx' [])) := same_set (same_new ndx) nx
    refine ⟨x, dx', .ref a1, v', townOf pl, rfl, upd_same, .tup (Same.tup (s1.trans s2) h1) (dpsS (s1.trans s2) dx), dpS s2 hv1, ok, fun H2 bt ht => ⟨rfl, ?_⟩⟩
    exact q x H2 (s1.free nx) (fun b o hb => bt b o (s2 b o (s1 b o hb)) (ne_of_none (s1 b o hb) nx)) ht

end Bk
set_option Elab.async false
set_option linter.all false
set_option maxRecDepth 100000
set_option maxHeartbeats 4000000
namespace Bk
open PySem PySem.Spec PyProof.Rows L2 PySem.NumText
open PySem.W (Frag)
/-! ### _law_right -/
theorem sc__law_right : FnScope ["_law_source_here", "_law_seen", "_law_plan_here", "_law_whole", "_law_mine", "_law_read_here", "_law_words", "_law_dock", "_law_one", "_law_told", "_law_line_here", "_law_town_here"] ["_law_source_here", "_law_seen"] (defScope s__law_right) := ⟨rfl, rfl, rfl, by decide +kernel, rfl, by decide +kernel, by decide +kernel⟩
def sp__law_right (K : Frag) : Sp := fun vs H Q _ => ∃ (p L : Addr) (ts : List TownD) (xs : List V), vs = [.ref p, .ref L] ∧ SrcAt H p ∧ L ≠ p ∧ SeenAt K H L ts xs ∧ ts.length ≤ 1000 ∧
  ∀ t x H', SeenAt K H' L (ts ++ [t]) (xs ++ [x]) → (∀ b o, H b = some o → b ≠ p → b ≠ L → H' b = some o) → Q (.bl true) H'
theorem ok__law_right {P : Program} {w : World} {K : Frag} {mg : Str → Option Value} {base : Heap} (T : Tx K mg) : GOk P w K mg base 12 "_law_right" ["_law_source_here", "_law_seen"] (sp__law_right K) := by
  refine gok_of (F__law_right T) (g__law_right T) sc__law_right (fun _ _ _ _ _ _ us hl => match us, hl with | [_, _], _ => rfl) (fun vs H Q E h => ?_) (fun cdv A outer s H vs Q E hG hr h => ?_)
  · obtain ⟨p, L, ts, xs, rfl, _⟩ := h
    rfl
  · obtain ⟨p, L, ts, xs, rfl, hp, hLp, hS, hts, q⟩ := h
    refine ⟨_, (pss_cons (ps_set (i := 2) sc__law_right.nd rfl (by first | exact Or.inl rfl | exact Or.inr rfl) (pe_callD (ok__law_plan (K := K) T) (hr.mono (by decide)) (by rfl) passE (pa_cons (pv 0) (pa_cons pe_int (pa_cons pe_int (pa_cons pe_int (pa_cons pe_int pa_nil))))))) (pss_cons (ps_par (i := 3) (j := 4) (by rfl) sc__law_right.nd rfl rfl (by decide) rfl rfl (pa_cons (pe_callD (ok__law_text (K := K) T) (hr.mono (by decide)) (by rfl) passE (pa_cons (pv 2) pa_nil)) (pa_cons (pe_callD (ok__law_town (K := K) T) (hr.mono (by decide)) (by rfl) passE (pa_cons (pv 2) pa_nil)) pa_nil)) (by rfl)) (pss_cons (ps_set (i := 5) sc__law_right.nd rfl (by first | exact Or.inl rfl | exact Or.inr rfl) (pe_lst (pa_cons (pe_cmM (pe_glob (v := .ref (He.ga K "Town")) (by rfl) (g_Town T) rfl) (crB_ok (cr_Town T)) (cmB_ok (cm_Town_read T)) (ok_Town_read T) (hr.mono (by decide)) passE (pa_cons (pv 3) pa_nil)) (pa_cons (pe_cmK (pe_glob (v := .ref (He.ga K "Town")) (by rfl) (g_Town T) rfl) (crB_ok (cr_Town T)) (cmB_ok (cm_Town_read T)) (ok_Town_read T) (F_Town_read T) (fun _ _ _ _ _ _ _ _ => rfl) (hr.mono (by decide)) passE (pv 3)) (pa_cons (pe_cmM (pe_glob (v := .ref (He.ga K "Town")) (by rfl) (g_Town T) rfl) (crB_ok (cr_Town T)) (cmB_ok (cm_Town_read T)) (ok_Town_read T) (hr.mono (by decide)) passE (pa_cons (pe_callTy (call_strOwn (mt_Town___str__ T) (ok_Town___str__ T) (hr.mono (by decide)) passE) (by rfl) (b_str T) boot_str (pa_cons (pv 4) pa_nil)) pa_nil)) (pa_cons (pe_cmM (pe_glob (v := .ref (He.ga K "Town")) (by rfl) (g_Town T) rfl) (crB_ok (cr_Town T)) (cmB_ok (cm_Town_read T)) (ok_Town_read T) (hr.mono (by decide)) passE (pa_cons (pe_callTy (call_strOwn (mt_Town___str__ T) (ok_Town___str__ T) (hr.mono (by decide)) passE) (by rfl) (b_str T) boot_str (pa_cons (pe_cmM (pe_glob (v := .ref (He.ga K "Town")) (by rfl) (g_Town T) rfl) (crB_ok (cr_Town T)) (cmB_ok (cm_Town_read T)) (ok_Town_read T) (hr.mono (by decide)) passE (pa_cons (pv 3) pa_nil)) pa_nil)) pa_nil)) pa_nil)))))) (pss_cons (ps_set (i := 6) sc__law_right.nd rfl (by first | exact Or.inl rfl | exact Or.inr rfl) (pe_callTy call_tuple_of (by rfl) (b_tuple T) boot_tuple (pa_cons (pe_lc (own := [("_law_dock", 7)]) (g := (gName 7)) (tt := tYes) (by rfl) sc__law_right.nd (pi_tup (pe_ix ix_tup (pv 2) pe_int (fun _ _ => rfl))) (blkOk_by (own := [("_law_dock", 7)]) (N := ["_law_source_here", "_law_seen", "_law_plan_here", "_law_whole", "_law_mine", "_law_read_here", "_law_words", "_law_dock", "_law_one", "_law_told", "_law_line_here", "_law_town_here"]) (sc := defScope s__law_right) (by decide +kernel)) (fun _ _ _ _ _ => (pg_name (i := 7) sc__law_right.nd rfl (by first | exact Or.inl rfl | exact Or.inr rfl))) (fun _ _ _ _ _ => pts_nil) (fun _ _ _ _ _ => (pe_ix (ix_tupK (K := K) rfl) (pv 7) pe_int (fun _ _ => rfl)))) pa_nil))) (pss_cons (ps_for ownE rfl (pi_list (pv 5)) (pg_name (i := 8) sc__law_right.nd rfl (by first | exact Or.inl rfl | exact Or.inr rfl)) (pss_cons (ps_set (i := 9) sc__law_right.nd rfl (by first | exact Or.inl rfl | exact Or.inr rfl) (pe_lst (pa_cons (pe_propM (pv 8) (cl_Town T) (propB_ok (pr_Town_slots T)) (ok_Town_slots T) (hr.mono (by decide))) (pa_cons (pe_propM (pv 8) (cl_Town T) (propB_ok (pr_Town_stands T)) (ok_Town_stands T) (hr.mono (by decide))) (pa_cons (pe_propM (pv 8) (cl_Town T) (propB_ok (pr_Town_roads T)) (ok_Town_roads T) (hr.mono (by decide))) (pa_cons (pe_propM (pv 8) (cl_Town T) (propB_ok (pr_Town_names T)) (ok_Town_names T) (hr.mono (by decide))) (pa_cons (pe_callTy (call_strOwn (mt_Town___str__ T) (ok_Town___str__ T) (hr.mono (by decide)) passE) (by rfl) (b_str T) boot_str (pa_cons (pv 8) pa_nil)) pa_nil))))))) (pss_cons (ps_if (pt_cmpR op_ne (pe_callB (call_repr hG hr.units) (by rfl) (b_repr T) boot_repr (pa_cons (pv 9) pa_nil)) (pe_callB (call_repr hG hr.units) (by rfl) (b_repr T) boot_repr (pa_cons (pe_lst (pa_cons (pe_ix ix_tup (pv 2) pe_int (fun _ _ => rfl)) (pa_cons (pe_ix ix_tup (pv 2) pe_int (fun _ _ => rfl)) (pa_cons (pe_callD (ok__law_named (K := K) T) (hr.mono (by decide)) (by rfl) passE (pa_cons (pv 2) pa_nil)) (pa_cons (pv 6) (pa_cons (pv 3) pa_nil)))))) pa_nil)) (nomark _)) (pss_one (ps_ret pe_bl)) pss_nil) (pss_cons (ps_if (pt_cmpR op_ne (pe_callB (call_repr hG hr.units) (by rfl) (b_repr T) boot_repr (pa_cons (pe_lst (pa_cons (pe_cmpR (op_eqOwn (mt_Town___eq__ T) (ok_Town___eq__ T) (hr.mono (by decide)) passE) (pv 8) (pv 4) (nomark _)) (pa_cons (pe_cmpR (op_eqOwn (mt_Town___eq__ T) (ok_Town___eq__ T) (hr.mono (by decide)) passE) (pv 4) (pv 8) (nomark _)) (pa_cons (pe_cmpR (op_neOwn (mt_Town___eq__ T) (He.eqO_ok (ne_Town T)) (insB_mro (in_Town T)) (ok_Town___eq__ T) (hr.mono (by decide)) passE) (pv 8) (pv 4) (nomark _)) pa_nil)))) pa_nil)) pe_str (nomark _)) (pss_one (ps_ret pe_bl)) pss_nil) (pss_one (ps_for ownE rfl (pi_list (pv 1)) (pg_tup (by rfl) (pgs_cons (pg_name (i := 10) sc__law_right.nd rfl (by first | exact Or.inl rfl | exact Or.inr rfl)) (pgs_cons (pg_name (i := 11) sc__law_right.nd rfl (by first | exact Or.inl rfl | exact Or.inr rfl)) pgs_nil))) (pss_one (ps_if (pt_cmpR op_ne (pe_callB (call_repr hG hr.units) (by rfl) (b_repr T) boot_repr (pa_cons (pe_lst (pa_cons (pe_cmpR (op_eqOwn (mt_Town___eq__ T) (ok_Town___eq__ T) (hr.mono (by decide)) passE) (pv 8) (pv 11) (nomark _)) (pa_cons (pe_cmpR (op_neOwn (mt_Town___eq__ T) (He.eqO_ok (ne_Town T)) (insB_mro (in_Town T)) (ok_Town___eq__ T) (hr.mono (by decide)) passE) (pv 11) (pv 8) (nomark _)) pa_nil))) pa_nil)) (pe_callB (call_repr hG hr.units) (by rfl) (b_repr T) boot_repr (pa_cons (pe_lst (pa_cons (pe_cmpR op_eq (pv 10) (pv 3) (nomark _)) (pa_cons (pe_cmpR op_ne (pv 10) (pv 3) (nomark _)) pa_nil))) pa_nil)) (nomark _)) (pss_one (ps_ret pe_bl)) pss_nil)))))))) (pss_cons (ps_expr (pe_bm PySem.F.plainAttrs_list PySem.F.slot_list_append PySem.F.type_list_append mt_append (pv 1) (pa_cons (pe_tup (pa_cons (pv 3) (pa_cons (pe_ix ix_list (pv 5) pe_int (fun _ _ => rfl)) pa_nil))) pa_nil))) (pss_one (ps_ret pe_bl)))))))), ?_⟩
    refine ⟨_, rfl, p, 8, 5, 40, 12, rfl, hp, by decide, by decide, by decide, by decide, by decide, by decide, by decide, by decide, fun pl v H1 pok hv hp1 b1 => ?_⟩
    have ok : (townOf pl).Ok := townOf_ok pok (by decide) (by decide) (by decide) (by decide)
    have hin : ∀ r ∈ pl.lanes, r.1 < pl.stands.length ∧ r.2.1 < pl.stands.length := fun r hr => ⟨(pok.lin r hr).1, (pok.lin r hr).2.1⟩
    have hlf : pl.lanes.length ≤ 1000 := by
      have := pok.lfew
      omega
    obtain ⟨z1, z2, z3, hpe⟩ := hp
    have hS1 := hS.but hpe hLp b1
    refine ⟨_, rfl, v, pl, rfl, hv, ok, hin, fun H2 s2 => ⟨_, rfl, v, pl, rfl, dpS s2 hv, ok, hin, fun m H3 nm s3 hm => ⟨_, _, rfl, ?_⟩⟩⟩
    refine ⟨rfl, _, rfl, townOf pl, rfl, ok, fun q1 H4 s4 n4 h4 => ?_⟩
    refine ⟨rfl, _, rfl, townOf pl, rfl, ok, fun q2 H5 s5 n5 h5 => ?_⟩
    obtain ⟨dm, _, _, _, hm1, _⟩ := (hm.same (s4.trans s5)).ob
    refine ⟨rfl, _, rfl, m, dm, _, rfl, hm1, m, townOf pl, rfl, hm.same (s4.trans s5), ok, fun H6 s6 => ⟨_, rfl, townOf pl, rfl, ok, fun q3 H7 s7 n7 h7 => ?_⟩⟩
    refine ⟨rfl, rfl, _, rfl, townOf pl, rfl, ok, fun q0 H8 s8 n8 h8 => ?_⟩
    obtain ⟨d0, _, _, _, hm0, _⟩ := h8.ob
    refine ⟨q0, d0, _, rfl, hm0, q0, townOf pl, rfl, h8, ok, fun H9 s9 => ⟨_, rfl, townOf pl, rfl, ok, fun q4 H10 s10 n10 h10 => ?_⟩⟩
    refine ⟨(show 4 ≤ sizeLine by decide), fun R hR => ?_⟩
    have sR := same_new (o := .lst [.ref q1, .ref q2, .ref q3, .ref q4]) hR
    have hRR : (upd H10 R (.lst [.ref q1, .ref q2, .ref q3, .ref q4])) R = some (.lst [.ref q1, .ref q2, .ref q3, .ref q4]) := upd_same
    generalize upd H10 R (.lst [.ref q1, .ref q2, .ref q3, .ref q4]) = HA at *
    have e4 : Same H10 HA := sR
    have e3 : Same H7 HA := s8.trans (s9.trans (s10.trans e4))
    have e2 : Same H5 HA := s6.trans (s7.trans e3)
    have e1 : Same H4 HA := s5.trans e2
    have eM : Same H3 HA := s4.trans e1
    have e0 : Same H1 HA := s2.trans (s3.trans eM)
    have tw : ∀ (i : Nat) (x : V), ([.ref q1, .ref q2, .ref q3, .ref q4] : List V)[i]? = some x → ∃ q, x = .ref q ∧ TownAt K HA q (townOf pl) := by
      intro i x hx
      match i, hx with
      | 0, hx => cases hx; exact ⟨q1, rfl, h4.same e1⟩
      | 1, hx => cases hx; exact ⟨q2, rfl, h5.same e2⟩
      | 2, hx => cases hx; exact ⟨q3, rfl, h7.same e3⟩
      | 3, hx => cases hx; exact ⟨q4, rfl, h10.same e4⟩
    have hmA := hm.same eM
    have hSA := hS1.same e0
    have hvA := dpS e0 hv
    clear sR e4 e3 e2 e1 eM h4 h5 h7 h8 h10 hm hR n4 n5 n7 n8 n10
    obtain ⟨a, a1, a2, ys, ls, rfl, h0, h1, dx, h2, dl⟩ := dp_plan hvA
    have hl : ys.length = pl.stands.length := by rw [dpsLen dx, List.length_map]
    have hsf := ok.st.few
    refine ⟨_, rfl, a, _, _, _, rfl, rfl, h0, atI_nat (j := 1) rfl, a1, rfl, ⟨_, h1⟩, fun D hD => ?_⟩
    refine lc_map (K := K) (walk_tup (K := K) (a := a1) (xs := ys)) (fun i => pl.stands[i]?.map fun r => PyData.str r.1) hD (fun H2 s2 => Same.tup s2 h1) ?_ ?_ ?_ mg_name ?_
    · rw [hl]; exact Nat.lt_of_le_of_lt hsf (by decide)
    · intro i d _ ed
      cases hc : pl.stands[i]? with
      | none => rw [hc] at ed; cases ed
      | some c => rw [hc] at ed; cases ed; rfl
    · rintro i v G0 G1 hi s2 ⟨rfl, hx⟩ R kR
      obtain ⟨r, b, el, rfl, hb⟩ := stand_at (dpsS s2 dx) hx
      refine ⟨rfl, _, rfl, b, _, _, _, rfl, rfl, hb, atI_nat (j := 0) rfl, ?_⟩
      exact kR _ _ (.str r.1) (Same.refl _) (by rw [el]; rfl) (.str _)
    · intro HB zs sB hy hp2
      rw [hl, fm_map (fun r => PyData.str r.1) pl.stands] at hp2
      refine ⟨D, _, rfl, Or.inl ⟨SqL.of hy, fun u hu => ?_⟩⟩
      have su := same_new (o := .tup zs) hu
      have dn : Dp K (upd HB u (.tup zs)) (.ref u) (encN (townOf pl).names) := by
        refine .tup (SqT.of upd_same) ?_
        unfold TownD.names
        rw [List.map_map]
        exact dpsS su hp2
      have sC := sB.trans su
      generalize upd HB u (.tup zs) = HC at *
      have hvC := dpS sC hvA
      have hmC := hmA.same sC
      have hSC := hSA.same sC
      have hRC := sC _ _ hRR
      refine ⟨_, rfl, R, rfl, ⟨_, SqL.of hRC⟩, ?_⟩
      refine for_it (walk_list (K := K) (a := R) (xs := [.ref q1, .ref q2, .ref q3, .ref q4])) (fun i σ G => ∃ o7 o8 o9 o10 o11, σ = [some (.ref p), some (.ref L), some (.ref a), some (.str (townText (townOf pl))), some (.ref m), some (.ref R), some (.ref u), o7, o8, o9, o10, o11] ∧ Same HC G) ?_ ?_ ?_ ?_
      · exact ⟨_, _, _, _, _, rfl, Same.refl _⟩
      · rintro i σ G hi ⟨_, _, _, _, _, _, s⟩
        exact SqL.of (s _ _ hRC)
      · rintro i v σ G0 G1 hi ⟨o7, o8, o9, o10, o11, rfl, sG⟩ ⟨rfl, hx⟩
        obtain ⟨c, rfl, hc⟩ := tw i v hx
        have hcG := (hc.same sC).same sG
        obtain ⟨dc, _, _, _, hc1, _⟩ := hcG.ob
        refine ⟨_, rfl, c, dc, _, rfl, hc1, c, _, rfl, hcG, ?_⟩
        refine ⟨_, rfl, c, dc, _, rfl, hc1, c, _, rfl, hcG, fun v2 d2 => ?_⟩
        refine ⟨_, rfl, c, dc, _, rfl, hc1, c, _, rfl, hcG, fun v3 d3 => ?_⟩
        refine ⟨_, rfl, c, dc, _, rfl, hc1, c, _, rfl, hcG, fun v4 d4 => ?_⟩
        refine ⟨_, rfl, c, dc, _, rfl, hc1, c, _, rfl, hcG, ok, fun K1 t1 => ⟨_, rfl, ?_⟩⟩
        refine ⟨(show 5 ≤ sizeLine by decide), fun W hW => ?_⟩
        have tW := same_new (o := .lst [.int (townOf pl).slots, v2, v3, v4, .str (townText (townOf pl))]) hW
        have dT : Dp K (upd K1 W (.lst [.int (townOf pl).slots, v2, v3, v4, .str (townText (townOf pl))])) (.ref W) (allD (townOf pl)) :=
          .lst (SqL.of upd_same) (dpsS (t1.trans tW) (.cons (.int _) (.cons d2 (.cons d3 (.cons d4 (.cons (.str _) .nil))))))
        refine ⟨_, rfl, _, allD (townOf pl), rfl, dT, rfl, (few_all ok).s, Nat.le_trans (few_all ok).d (by decide), (few_all ok).short (by decide), ?_⟩
        have t2 := t1.trans tW
        have h0C := Same.tup (sC.trans (sG.trans t2)) h0
        have h1C := Same.tup (sC.trans (sG.trans t2)) h1
        refine ⟨_, rfl, a, _, _, _, rfl, rfl, h0C, atI_nat (j := 0) rfl, _, rfl, a, _, _, _, rfl, rfl, h0C, atI_nat (j := 1) rfl, _, rfl, .ref a, pl, rfl, dpS (sC.trans (sG.trans t2)) hvA, hin, hlf, fun v' K2 t3 dv' => ?_⟩
        have t4 := t2.trans t3
        refine ⟨_, rfl, _, rfl, (show 5 ≤ sizeLine by decide), fun W2 hW2 => ?_⟩
        have tW2 := same_new (o := .lst [.int pl.slots, .ref a1, v', .ref u, .str (townText (townOf pl))]) hW2
        have t5 := t4.trans tW2
        have dT2 : Dp K (upd K2 W2 (.lst [.int pl.slots, .ref a1, v', .ref u, .str (townText (townOf pl))])) (.ref W2) (allD (townOf pl)) :=
          .lst (SqL.of upd_same) (.cons (.int _) (.cons (.tup (Same.tup (sC.trans (sG.trans t5)) h1) (dpsS (sC.trans (sG.trans t5)) dx)) (.cons (dpS tW2 dv') (.cons (dpS (sG.trans t5) dn) (.cons (.str _) .nil)))))
        refine ⟨_, allD (townOf pl), rfl, dT2, rfl, (few_all ok).s, Nat.le_trans (few_all ok).d (by decide), (few_all ok).short (by decide), ?_⟩
        refine ⟨rfl, _, rfl, ?_⟩
        refine iteNS rfl ?_
        generalize upd K2 W2 (.lst [.int pl.slots, .ref a1, v', .ref u, .str (townText (townOf pl))]) = K3 at *
        have hc3 := hcG.same t5
        have hm3 := (hmC.same sG).same t5
        obtain ⟨dc3, _, _, _, hc31, _⟩ := hc3.ob
        obtain ⟨dm3, _, _, _, hm31, _⟩ := hm3.ob
        have selfF := first_self K (He.ga K "Town")
        refine ⟨_, rfl, _, rfl, c, dc3, _, .ref (He.ga K "Town"), rfl, hc31, .base (insB_ok (in_Town T) (cl_Town T) hm31), selfF, c, m, _, _, rfl, hc3, ok, hm3, ok, fun K4 t6 => ⟨_, rfl, ?_⟩⟩
        have hc4 := hc3.same t6
        have hm4 := hm3.same t6
        refine ⟨_, rfl, _, rfl, m, dm3, _, .ref (He.ga K "Town"), rfl, t6 _ _ hm31, .base (insB_ok (in_Town T) (cl_Town T) (t6 _ _ hc31)), selfF, m, c, _, _, rfl, hm4, ok, hc4, ok, fun K5 t7 => ⟨_, rfl, ?_⟩⟩
        refine ⟨_, rfl, _, rfl, c, dc3, _, .ref (He.ga K "Town"), rfl, t7 _ _ (t6 _ _ hc31), .base (insB_ok (in_Town T) (cl_Town T) (t7 _ _ (t6 _ _ hm31))), selfF, c, m, _, _, rfl, hc4.same t7, ok, hm4.same t7, ok, fun K6 t8 => ⟨_, rfl, ?_⟩⟩
        have dt : decide (townText (townOf pl) = townText (townOf pl)) = true := decide_eq_true rfl
        refine ⟨(show 3 ≤ sizeLine by decide), fun W3 hW3 => ?_⟩
        rw [dt]
        have fb := few_bls (bs := [true, true, false]) (by decide)
        refine ⟨_, PyData.list ([true, true, false].map .bool), rfl, .lst (SqL.of upd_same) (.cons (.bl _) (.cons (.bl _) (.cons (.bl _) .nil))), rfl, fb.s, Nat.le_trans fb.d (by decide), fb.short (by decide), ?_⟩
        refine ⟨rfl, _, rfl, ?_⟩
        refine iteNS (congrArg V.str shown_bls3) ?_
        have tW3 := same_new (o := .lst [.bl true, .bl true, .bl (!true)]) hW3
        have t9 := sG.trans (t5.trans (t6.trans (t7.trans (t8.trans tW3))))
        generalize upd K6 W3 (.lst [.bl true, .bl true, .bl (!true)]) = K7 at *
        have hS7 := hSC.same t9
        have hc7 := (hc.same sC).same t9
        refine ⟨_, rfl, L, rfl, ⟨_, SqL.of hS7.at_⟩, ?_⟩
        refine for_it (walk_list (K := K) (a := L) (xs := xs)) (fun i σ G => ∃ o10 o11, σ = [some (.ref p), some (.ref L), some (.ref a), some (.str (townText (townOf pl))), some (.ref m), some (.ref R), some (.ref u), o7, some (.ref c), some (.ref W), o10, o11] ∧ Same K7 G) ?_ ?_ ?_ ?_
        · exact ⟨_, _, rfl, Same.refl _⟩
        · rintro i σ G hi ⟨_, _, _, s⟩
          exact SqL.of (s _ _ hS7.at_)
        · rintro i v σ G0 G1 hi ⟨o10, o11, rfl, r1⟩ ⟨rfl, hx⟩
          obtain ⟨t', et⟩ : ∃ t', ts[i]? = some t' := ⟨ts[i]'(by rw [← hS7.len]; exact hi), List.getElem?_eq_getElem _⟩
          obtain ⟨b, q', rfl, hb, hq, okq⟩ := (hS7.each i v t' hx et).same r1
          have hcg := hc7.same r1
          obtain ⟨d1, _, _, _, hc8, _⟩ := hcg.ob
          obtain ⟨d2', _, _, _, hq8, _⟩ := hq.ob
          refine ⟨b, _, rfl, SqT.of hb, rfl, _, _, rfl, _, _, rfl, rfl, ?_⟩
          refine ⟨_, rfl, _, rfl, c, d1, _, .ref (He.ga K "Town"), rfl, hc8, .base (insB_ok (in_Town T) (cl_Town T) hq8), selfF, c, q', _, _, rfl, hcg, ok, hq, okq, fun L1 r2 => ⟨_, rfl, ?_⟩⟩
          refine ⟨_, rfl, _, rfl, q', d2', _, .ref (He.ga K "Town"), rfl, r2 _ _ hq8, .base (insB_ok (in_Town T) (cl_Town T) (r2 _ _ hc8)), selfF, q', c, _, _, rfl, hq.same r2, okq, hcg.same r2, ok, fun L2 r3 => ⟨_, rfl, ?_⟩⟩
          refine ⟨(show 2 ≤ sizeLine by decide), fun W4 hW4 => ?_⟩
          have fb1 := few_bls (bs := [decide (townText (townOf pl) = townText t'), !decide (townText t' = townText (townOf pl))]) (by show 2 ≤ 10; decide)
          refine ⟨_, PyData.list ([decide (townText (townOf pl) = townText t'), !decide (townText t' = townText (townOf pl))].map .bool), rfl, .lst (SqL.of upd_same) (.cons (.bl _) (.cons (.bl _) .nil)), rfl, fb1.s, Nat.le_trans fb1.d (by decide), fb1.short (by decide), ?_⟩
          refine ⟨_, rfl, _, rfl, rfl, _, rfl, _, rfl, rfl, (show 2 ≤ sizeLine by decide), fun W5 hW5 => ?_⟩
          have e9 : decide (V.str (townText t') = V.str (townText (townOf pl))) = decide (townText t' = townText (townOf pl)) := by simp
          have e8 : decide (townText (townOf pl) = townText t') = decide (townText t' = townText (townOf pl)) := by simp [eq_comm]
          have tW4 := same_new (o := .lst [.bl (decide (townText (townOf pl) = townText t')), .bl (!decide (townText t' = townText (townOf pl)))]) hW4
          have tW5 := same_new (o := .lst [.bl (decide (V.str (townText t') = V.str (townText (townOf pl)))), .bl (!decide (V.str (townText t') = V.str (townText (townOf pl))))]) hW5
          have fb2 := few_bls (bs := [decide (V.str (townText t') = V.str (townText (townOf pl))), !decide (V.str (townText t') = V.str (townText (townOf pl)))]) (by show 2 ≤ 10; decide)
          refine ⟨_, PyData.list ([decide (V.str (townText t') = V.str (townText (townOf pl))), !decide (V.str (townText t') = V.str (townText (townOf pl)))].map .bool), rfl, .lst (SqL.of upd_same) (.cons (.bl _) (.cons (.bl _) .nil)), rfl, fb2.s, Nat.le_trans fb2.d (by decide), fb2.short (by decide), ?_⟩
          refine ⟨rfl, _, rfl, ?_⟩
          refine iteNS (by rw [e9, e8]) ?_
          exact ⟨_, _, rfl, r1.trans (r2.trans (r3.trans (tW4.trans tW5)))⟩
        · rintro σ G ⟨o10, o11, rfl, r1⟩
          exact ⟨_, _, _, _, _, rfl, t9.trans r1⟩
      · rintro σ G ⟨o7, o8, o9, o10, o11, rfl, sG⟩
        have hSG := hSC.same sG
        refine ⟨_, rfl, Or.inl ⟨rfl, _, SqL.of hSG.at_⟩, _, rfl, _, rfl, R, _, _, _, rfl, rfl, SqL.of (sG _ _ hRC), atI_nat (j := 1) rfl, (show 2 ≤ sizeLine by decide), fun b hb => ?_⟩
        have sb := same_new (o := .tup [.str (townText (townOf pl)), .ref q2]) hb
        obtain ⟨qq, eq, hq2⟩ := tw 1 (.ref q2) rfl
        cases eq
        have hSb := hSG.same sb
        have big : 100000 ≤ sizeLine := by decide
        refine ⟨L, xs, _, rfl, rfl, hSb.at_, by rw [hSb.len]; omega, ?_⟩
        refine q (townOf pl) (.ref b) _ (hSb.more ⟨b, q2, rfl, upd_same, ((hq2.same sC).same sG).same sb, ok⟩) ?_
        intro b' o hbo n1 n2
        rw [upd_ne n2]
        exact sb _ _ (sG _ _ (sC _ _ (e0 _ _ (b1 _ _ hbo n1))))

end Bk
set_option Elab.async false
set_option linter.all false
set_option maxRecDepth 100000
set_option maxHeartbeats 4000000
namespace Bk
open PySem PySem.Spec PyProof.Rows L2 PySem.NumText
open PySem.W (Frag)
/-! ### law -/
theorem sc_law : FnScope ["_law_cells", "_law_seen", "_law_k"] ["_law_cells"] (defScope s_law) := ⟨rfl, rfl, rfl, by decide +kernel, rfl, by decide +kernel, by decide +kernel⟩
def sp_law (K : Frag) : Sp := fun vs H Q _ => ∃ (a : Addr) (ns : List Int), vs = [.ref a] ∧ SqL K H a (ns.map V.int) ∧ ∀ H', Q (.bl true) H'
theorem law_many (l : Int) (h : 0 ≤ l) : 0 ≤ (if (if (10 : Int) < l then (10 : Int) else l) > 2 then (if (10 : Int) < l then (10 : Int) else l) else 2) ∧ (if (if (10 : Int) < l then (10 : Int) else l) > 2 then (if (10 : Int) < l then (10 : Int) else l) else 2) ≤ 10 := by
  by_cases h1 : (10 : Int) < l
  · rw [if_pos h1, if_pos (by decide)]
    decide
  · rw [if_neg h1]
    by_cases h2 : l > 2
    · rw [if_pos h2]; omega
    · rw [if_neg h2]; decide
theorem ok_law {P : Program} {w : World} {K : Frag} {mg : Str → Option Value} (T : Tx K mg) : GLaw P w K mg 13 "law" ["_law_cells"] (sp_law K) := by
  refine gokL_of (F_law T) sc_law (fun _ _ _ _ _ _ us hl => match us, hl with | [_], _ => rfl) (fun vs H Q E h => ?_) (fun base cdv A outer s H vs Q E hG hr h => ?_)
  · obtain ⟨a, ns, rfl, _⟩ := h
    rfl
  · obtain ⟨a, ns, rfl, ha, q⟩ := h
    refine ⟨_, (pss_cons (ps_set (i := 1) sc_law.nd rfl (by first | exact Or.inl rfl | exact Or.inr rfl) (pe_lst pa_nil)) (pss_cons (ps_for ownE rfl (pi_range1 (by rfl) (b_range T) (pa_cons (pe_callB (call_max2 rfl) (by rfl) (b_max T) boot_max (pa_cons pe_int (pa_cons (pe_callB (call_min2 rfl) (by rfl) (b_min T) boot_min (pa_cons (pe_callB call_len_seq (by rfl) (b_len T) boot_len (pa_cons (pv 0) pa_nil)) (pa_cons pe_int pa_nil))) pa_nil))) pa_nil)) (pg_name (i := 2) sc_law.nd rfl (by first | exact Or.inl rfl | exact Or.inr rfl)) (pss_one (ps_if (pt_not (pt_val (pe_callGD (ok__law_right (K := K) T) hG (hr.mono (by decide)) (by rfl) passE (pa_cons (pe_callD (ok__law_source (K := K) T) (hr.mono (by decide)) (by rfl) passE (pa_cons (pe_callD (ok__law_cell (K := K) T) (hr.mono (by decide)) (by rfl) passE (pa_cons (pv 0) (pa_cons (pv 2) pa_nil))) pa_nil)) (pa_cons (pv 1) pa_nil))))) (pss_one (ps_ret pe_bl)) pss_nil))) (pss_one (ps_ret pe_bl)))), ?_⟩
    refine ⟨Nat.zero_le _, fun L hL => ?_⟩
    have s0 := same_new (o := .lst ([] : List V)) hL
    have m0 := law_many ((ns.map V.int).length : Int) (by omega)
    refine ⟨_, rfl, a, _, rfl, Or.inl (sqlS s0 ha), _, _, rfl, _, _, rfl, _, rfl, Int.le_trans (by decide) m0.1, Int.lt_of_le_of_lt m0.2 (by decide), ?_⟩
    generalize (if (if (10 : Int) < ((ns.map V.int).length : Int) then (10 : Int) else ((ns.map V.int).length : Int)) > 2 then (if (10 : Int) < ((ns.map V.int).length : Int) then (10 : Int) else ((ns.map V.int).length : Int)) else 2) = m at *
    refine for_it (walk_range (lo := 0) (n := m.toNat)) (fun i σ G => ∃ o2 ts xs, σ = [some (.ref a), some (.ref L), o2] ∧ Same H G ∧ SeenAt K G L ts xs ∧ ts.length = i) ?_ (fun _ _ _ _ _ => trivial) ?_ ?_
    · exact ⟨_, [], [], rfl, s0, ⟨upd_same, rfl, fun i x t e => by cases e⟩, rfl⟩
    · rintro i v σ G G' hi ⟨o2, ts, xs, rfl, sG, hS, hl⟩ ⟨rfl, rfl⟩
      refine ⟨_, rfl, _, rfl, a, ns, _, rfl, sqlS sG ha, by omega, fun z G2 s2 => ⟨z, rfl, fun p G3 np s3 hp3 => ?_⟩⟩
      have hS3 := hS.same (s2.trans s3)
      have hLp : L ≠ p := fun e => by
        have := (hS.same s2).at_
        rw [e, np] at this
        cases this
      refine ⟨_, rfl, p, L, ts, xs, rfl, hp3, hLp, hS3, by omega, fun t x G4 h4 k4 => ⟨_, rfl, ?_⟩⟩
      refine iteF ?_
      refine ⟨_, ts ++ [t], xs ++ [x], rfl, ?_, h4, by rw [List.length_append, hl]; rfl⟩
      exact same_of_two (sG.trans (s2.trans s3)) ((sG.trans s2).free np) hL k4
    · rintro σ G _
      exact q G

end Bk
set_option Elab.async false
set_option linter.all false
set_option maxRecDepth 100000
set_option maxHeartbeats 0
namespace Bk
open PySem PySem.Spec PyProof.Rows L2
open PySem.W (Frag)
abbrev R : PySem.W.OpenRow := PySem.W.OpenLaw.row PySem.Challenge.rw_bikestands_k04_whole_towns_read_back
abbrev hk : PySem.W.Hook := hookB 6 ex fn
def ob (s : PySem.W.SharedT) : He.AlD := obsBG 6 ex fn (HandSHeadRun.getT s)
theorem ob_eq (s : PySem.W.SharedT) : ob s = hk.obs s.abs := obsBG_eq (HandSHeadRun.getT_eq s)
theorem run (w : World) : HandSHeadRun.RunEq R (PySem.W.view R.prog [41]) hk ob 20000 loose w := by
  intro os
  kernel_rfl
end Bk
open PySem PySem.W PySem.Calls PyProof.Rows
theorem PySem.Challenge.cw_bikestands_k04_whole_towns_read_back_holds : PySem.Challenge.rw_bikestands_k04_whole_towns_read_back.Holds := by
  w_on; o_law
  refine HandSHeadRun.head_any (r := OpenLaw.row PySem.Challenge.rw_bikestands_k04_whole_towns_read_back) (q := view (OpenLaw.row PySem.Challenge.rw_bikestands_k04_whole_towns_read_back).prog [41]) (H := Bk.hk) (ob := Bk.ob) (M := 20000) (loose := Bk.loose) (d := HandSHeadRun.topDef (OpenLaw.row PySem.Challenge.rw_bikestands_k04_whole_towns_read_back).prog 41) (kwd := []) Bk.ob_eq
    (by kernel_rfl) (fun s => by kernel_rfl) Bk.run (by kernel_rfl) (by kernel_rfl) (by kernel_rfl) (by rfl) (by first | assumption | decide +kernel) (by decide +kernel) ⟨rfl, rfl, rfl, rfl, rfl, by decide +kernel⟩ ?hw ?hc
  case hw => w_witness2
  case hc =>
    refine Bk.walk_ofG (l := PySem.Challenge.rw_bikestands_k04_whole_towns_read_back) (n := 63) (k := 13) (x := "_law_cells") rfl (by decide) (by kernel_rfl) ⟨rfl, by decide, by decide⟩ ?F
    intro w mg fa h Y G hn
    obtain ⟨K, KX, c⟩ := Y
    have en : (HandSHeadRun.topDef (OpenLaw.row PySem.Challenge.rw_bikestands_k04_whole_towns_read_back).prog 41).name = ("law" : PySem.Str) := by kernel_rfl
    rw [en] at hn
    have T : Bk.Tx K mg := ⟨c, h, KX, G⟩
    have e := hn.symm.trans (Bk.g_law T)
    cases e
    obtain ⟨fd, hb, hF⟩ := (Bk.ok_law (P := (PySem.Challenge.rw_bikestands_k04_whole_towns_read_back).prog) (w := w) T).ok
    exact ⟨K, fd, Bk.sp_law K, KX, fun s u => hb s [u] rfl, fun H a ns hl _ hS => ⟨a, ns, rfl, hS, fun _ => rfl⟩, fun base _ _ => hF base⟩
