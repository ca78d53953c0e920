import PyProof.Rows.All
import Wide.All
import OpenK.AllK
import Wide.FinOn
import HandS.ForMost
import HandS.ForExc
import HandS.IsInst
import HandS.HeadEnd
import KE.KStateDown
import Lean
import HandS.HeadNt
import HandS.HeadHook2
import HandS.Defaults
import HandS.Property
import HandS.ClsMeth
import HandS.Head0
import HandS.Head1
import HandS.Head2
import HandS.Star
import HandS.FStr
import HandS.CallLocal
import HandS.Deep
import KE.GoesEnum
import HandS.Walk
import HandS.Style
import KE.IntTextLaws
import KE.KIntText
import KE.KCallOwn
import HandS.SlotsOwn
import PyProof.InstNe
import HandS.TupAny
import PyProof.StrLawsRepr
import PyProof.ReprLen
import KE.KExcSuper
import HandS.ExcInit
import HandS.Nested
import HandS.Small
import HandS.MakeKw
import HandS.MakeKwOnly
import KE.KRevSl
import HandS.Zip
import HandS.WideBits
import HandS.Strs
import HandS.Conv
import HandS.Dict
import KE.GoesZip
import KE.GoesMore
import PySem.Challenge.RW_bikestands_k02_towns_made
set_option Elab.async false
set_option linter.all false
set_option maxRecDepth 100000
set_option maxHeartbeats 4000000
/-! ## defs that are called where no repr is under way -/
namespace Bk
open PySem PySem.Spec PyProof.Rows L2

/-- as the layer's promise of a def, where the guards are known to be none -/
structure FnG (P : Program) (w : World) (K : PySem.W.Frag) (mg : Str → Option Value) (base : Heap)
    (CX : CXT) (k : Nat) (f : Addr) (fd : FuncData) (ps : List Str) (sp : Sp) : Prop where
  len : ∀ vs H Q E, sp vs H Q E → vs.length = ps.length
  run : ∀ (A : Around) (outer : List Env) (s : Shared) (H : Hp) (args : Args) (us : List Value) (vs : List V)
    (Q : VK) (E : XK), A.guards = some [] → Room k A → Env0 P w K mg base A outer s H →
    BindsTo s fd args (ps.zip us) → Vals vs us → sp vs H Q E →
    codeAny (model P w) A (.call (.ref f) args) (CR CX outer P w H s Q E) s

theorem FnOk.toG {P : Program} {w : World} {K : PySem.W.Frag} {mg : Str → Option Value} {base : Heap} {CX : CXT}
    {k : Nat} {f : Addr} {fd : FuncData} {ps : List Str} {sp : Sp} (F : FnOk P w K mg base CX k f fd ps sp) :
    FnG P w K mg base CX k f fd ps sp :=
  ⟨F.len, fun A outer s H args us vs Q E _ => F.run A outer s H args us vs Q E⟩

theorem fnG_of {CX : CXT} {P : Program} {w : World} {K : PySem.W.Frag} {mg : Str → Option Value} {base : Heap} {k : Nat}
    {f : Addr} {name qual : Str} {params : Arguments} {body : List Stmt} {scope : Scope}
    {dV kV doc pm cdv ct oc : Value} {an od : Option Addr} {osl : Array (Option Value)} {N ps : List Str} {sp : Sp}
    (lk : K.lookup f = some ⟨oc, od, .func (PySem.W.fnOf name qual params body scope dV kV doc pm an cdv ct), osl⟩)
    (hcd : PySem.W.codeIn K cdv qual = true) (S : FnScope N ps scope)
    (len : ∀ vs H Q E, sp vs H Q E → vs.length = ps.length)
    (hbody : ∀ (A : Around) (outer : List Env) (s : Shared) (H : Hp) (vs : List V) (Q : VK) (E : XK), A.guards = some [] →
      Room k (A.deeper (envOfC qual scope s.heap.objs.size f cdv)) → sp vs H Q E →
      ∃ t, PSs (cxOf CX P w K mg base N qual scope f cdv A outer s H E) body t ∧
        t { nx := fun _ H' => Q .non H', rt := Q } (start N vs) H) :
    FnG P w K mg base CX (k + 1) f (PySem.W.fnOf name qual params body scope dV kV doc pm an cdv ct) ps sp := by
  refine ⟨len, fun A outer s H args us vs Q E hG hr e0 hb r hsp => ?_⟩
  have hl := len vs H Q E hsp
  have old : ∀ b o, base.get? b = some o → s.heap.get? b = some o := fun b o e => (e0.bs b o e).1
  have KX : K.In s.heap := e0.mod.kin.keeps old
  have lim : s.heap.NoLimit := e0.mod.nolimit.keeps old
  have hkind : ∀ y ∈ ps.zip us, scope.names.lookup y.1 = some .local ∨
      (scope.names.lookup y.1 = some .cell ∧ ((cellsFrom (s.heap.objs.size + 1) scope.names []).lookup y.1).isSome = true) := by
    rintro ⟨n, v⟩ hy
    exact (S.par n (List.of_mem_zip hy).1).elim Or.inl fun q => Or.inr ⟨q, PySem.W.cellsFrom_some _ _ _ (Or.inl q)⟩
  refine codeAny_call_function hr.depth (KX _ _ lk) rfl S.co S.gen rfl (PySem.W.codeRec_of KX hcd) (hb _ _ _ _ ?_)
  refine wpAny_newFunctionEnv_cells S.kind hkind ?_
  intro env he s1 x
  subst he
  refine ⟨lim.keeps x.toInCall.keep, codeAny_func ?_⟩
  obtain ⟨t, ht, hq⟩ := hbody A outer s H vs Q E hG (hr.deeper _) hsp
  have J0 : Inv (cxOf CX P w K mg base N qual scope f cdv A outer s H E) [] (start N vs) H s1 := inv_start S hr.hd e0 hl r x
  refine wpAny_mono (ht.run [] s1 (start N vs) H _ J0 hq) ?_ (fun e s' hs => hs)
  intro fl s' hs
  cases fl with
  | ret u =>
    obtain ⟨v, σ', H', J, rv, q⟩ := hs
    exact ⟨v, H', J.os, J.bare, J.base, J.hok, rv, q⟩
  | next =>
    obtain ⟨σ', H', J, q⟩ := hs
    exact ⟨V.non, H', J.os, J.bare, J.base, J.hok, rfl, q⟩
  | brk =>
    obtain ⟨_, _, _, q⟩ := hs
    exact q.elim
  | cont =>
    obtain ⟨_, _, _, q⟩ := hs
    exact q.elim

section
variable {X : Cx} {CX : CXT} {k : Nat} {f : Addr} {fd : FuncData} {ps : List Str} {sp : Sp} {ds : List Value} {dvs : List V} {E : XK}
theorem run_fnG {pins : List (Addr × Obj)} {σ : L2.St} {H : Hp} {s : Shared} {Q : VK} {us : List Value} {vs : List V}
    (F : FnG X.prog X.w X.K X.mg X.base CX k f fd ps sp) (hG : X.A.guards = some []) (hr : Room k X.A)
    (hb : Binds X.K fd ps ds) (hd : Vals dvs ds) (hx : Passes CX X E) (I : Inv X pins σ H s) (r : Vals vs us)
    (h : sp (vs ++ dvs) H Q E) : wpAny (model X.prog X.w) X.A (call (.ref f) us) (EP X pins σ Q) X.xe s := by
  have r2 : Vals (vs ++ dvs) (us ++ ds) := r.append hd
  have hl : (us ++ ds).length = ps.length := r2.length ▸ F.len _ _ _ _ h
  have go := F.run X.A X.stack s H ⟨us, []⟩ (us ++ ds) (vs ++ dvs) Q E hG hr I.env0 (hb s us I.kIn hl) r2 h
  refine wpAny_call (codeAny_mono go ?_)
  intro rr s' hq
  match rr, hq with
  | .error e, hq => exact hx pins σ H s e s' I hq
  | .ok (.ret u), hq => exact I.after hq
  | .ok .next, hq => exact hq.elim
  | .ok .brk, hq => exact hq.elim
  | .ok .cont, hq => exact hq.elim
theorem pe_callG {x : Str} {p pos : Pos} {e : Expr} {es : List Expr} {t : TA}
    (F : FnG X.prog X.w X.K X.mg X.base CX k f fd ps sp) (hG : X.A.guards = some []) (hr : Room k X.A) (hg : Gl X x)
    (hm : X.mg x = some (.ref f)) (hk : PySem.W.keepIn X.K (.ref f) = true) (hb : Binds X.K fd ps ds)
    (hd : Vals dvs ds) (hx : Passes CX X E) (ha : PA X (e :: es) t) (hdb : (x == ("__debug__" : Str)) = false := by decide)
    (he : starEach (e :: es) X.env = (false, eval e X.env) :: starEach es X.env := by rfl)
    (hpl : (backTo pos (starEach es X.env)).any (·.1) = false := by rfl) :
    PE X (.Call (.Name x p) (e :: es) [] pos) (tCall sp dvs E t) := by
  refine ⟨fun pins s σ H Q I h => wpAny_Call_Name_kw (ld_glob I hg hm ?_ hdb)⟩
  refine PySem.W.callWith_K (h₀ := X.base) I.ok.mod.kin hk (thn (ha.run pos pins s σ H _ I h) ?_) he hpl
  rintro us s1 ⟨vs, H1, I1, r, q⟩
  exact ⟨I1.kIn, run_fnG F hG hr hb hd hx I1 r q⟩
end

/-! ## repr of data -/
section
variable {X : Cx}
def rRepr (K : PySem.W.Frag) : List V → Hp → VK → Prop := fun xs H Q =>
  ∃ v d, xs = [v] ∧ Dp K H v d ∧ isDisplay d = true ∧ d.showable = true ∧ d.depth ≤ 60 ∧ d.shown.length ≤ sizeLine ∧ Q (.str d.shown) H
mutual
theorem dp_noDict {K : PySem.W.Frag} {H : Hp} : ∀ (d : PyData) (v : V), Dp K H v d → d.hasDict = false
  | .none, _, _ => rfl
  | .bool _, _, _ => rfl
  | .int _, _, _ => rfl
  | .str _, _, _ => rfl
  | .list ds, _, h => by
    cases h with
    | lst _ h2 => exact dp_noDictAll ds _ h2
  | .tuple ds, _, h => by
    cases h with
    | tup _ h2 => exact dp_noDictAll ds _ h2
  | .dict _, _, h => nomatch h
theorem dp_noDictAll {K : PySem.W.Frag} {H : Hp} : ∀ (ds : List PyData) (vs : List V), DpAll K H vs ds → PyData.hasDictAll ds = false
  | [], _, _ => rfl
  | d :: ds, _, h => by
    cases h with
    | cons h1 h2 =>
      show (d.hasDict || PyData.hasDictAll ds) = false
      rw [dp_noDict d _ h1, dp_noDictAll ds _ h2]
      rfl
end
theorem call_repr (hG : X.A.guards = some []) (hu : X.A.units + 64 < cLine) : CallR X (.builtin "repr") (rRepr X.K) := by
  intro pins s σ H xs us Q I r h
  obtain ⟨v, d, rfl, hd, hds, hs, hdp, hsz, q⟩ := h
  obtain ⟨u, rfl, ru⟩ := r.one
  obtain ⟨as, rd⟩ := Dp.reads I d v u hd ru
  obtain ⟨a, rfl⟩ := isRef_of_reads rd hds
  refine repr_of_reads' rd hs (PyData.noDict_hsm (dp_noDict d v hd)) hG (by omega) (fun _ _ e => e) ?_ hsz
  intro h' t tk hk
  exact ⟨.str d.shown, H, I.kept (t' := tk) hk, ⟨t, rfl⟩, q⟩
end
end Bk
set_option Elab.async false
set_option linter.all false
set_option maxRecDepth 100000
set_option maxHeartbeats 4000000
/-! ## the head's facts: one test of the written part, and the defs -/
namespace Bk
open PySem PySem.Spec PyProof.Rows L2
open PySem.W (Frag)
def obsB (ex : Frag → Bool) (fn : List He5.DefA) (K : Frag) : He.AlD := (ex K && fn.all fun d => d.ok K, fn.map fun d => He5.fnA K (d.at_ K))
def SaysB (ex : Frag → Bool) (fn : List He5.DefA) (K : Frag) : Prop := obsB ex fn K = He5.valA fn
def obsBG (n : Nat) (ex : Frag → Bool) (fn : List He5.DefA) (g : Addr → Option Obj) : He.AlD := obsB ex fn (He.frG g (He5.asA g n))
def hookB (n : Nat) (ex : Frag → Bool) (fn : List He5.DefA) : PySem.W.Hook where
  α := He.AlD
  obs s := obsBG n ex fn s.heap.get?
  val _ := He5.valA fn
  says _ h := ∃ K : Frag, K.In h ∧ SaysB ex fn K
  of _ _ e := ⟨_, He.frG_in, e⟩
  keeps _ _ _ z k := let ⟨K, hK, c⟩ := z; ⟨K, Frag.In.keeps hK k, c⟩
theorem obsBG_eq {n : Nat} {ex : Frag → Bool} {fn : List He5.DefA} {g : Addr → Option Obj} {s : Shared}
    (h : ∀ a, g a = s.heap.get? a) : obsBG n ex fn g = (hookB n ex fn).obs s := by
  obtain rfl : g = s.heap.get? := funext h
  rfl
theorem SaysB.ex {ex : Frag → Bool} {fn : List He5.DefA} {K : Frag} (c : SaysB ex fn K) : ex K = true :=
  (He.ba (congrArg (fun z : He.AlD => z.1) c)).1
theorem SaysB.def_ {ex : Frag → Bool} {fn : List He5.DefA} {K : Frag} (c : SaysB ex fn K) (i : Nat) {d : He5.DefA} (h : fn[i]? = some d := by rfl) :
    ∃ fd, FunD K d.name d.qual d.params d.body d.scope (d.dvs K) (d.kws K) (d.at_ K) fd := by
  have c2 := (He.ba (congrArg (fun z : He.AlD => z.1) c)).2
  have e : (fn.map fun d => He5.fnA K (d.at_ K))[i]? = (fn.map He5.DefA.val)[i]? := congrArg (fun z : He.AlD => z.2[i]?) c
  rw [List.getElem?_map, List.getElem?_map, h] at e
  exact He5.DefA.funD (Option.some.inj e) (List.all_eq_true.mp c2 d (List.mem_of_getElem? h))
end Bk
set_option Elab.async false
set_option linter.all false
set_option maxRecDepth 100000
set_option maxHeartbeats 4000000
namespace Bk
open PySem PySem.Spec PyProof.Rows L2
open PySem.W (Frag)
/-! ## a def of the module, by its name -/
structure DOk (P : Program) (w : World) (K : Frag) (mg : Str → Option Value) (base : Heap) (k : Nat) (x : Str) (ps : List Str) (sp : Sp) : Prop where
  ok : ∃ fd, FnOk P w K mg base (L2.CX P w) k (He.ga K x) fd ps sp ∧ Binds K fd ps [] ∧ ∃ oc od osl, K.lookup (He.ga K x) = some ⟨oc, od, .func fd, osl⟩
  g : mg x = some (.ref (He.ga K x))
  kp : PySem.W.keepIn K (.ref (He.ga K x)) = true
section
variable {P : Program} {w : World} {K : Frag} {mg : Str → Option Value} {base : Heap}
/-- from the def's text and its body -/
theorem dok_of {x : Str} {st : Stmt} {N ps : List Str} {k : Nat} {sp : Sp} {kws : List (Str × V)}
    (F : ∃ fd, FunD K x x (defArgs st) (defBody st) (defScope st) [] kws (He.ga K x) fd) (g : mg x = some (.ref (He.ga K x))) (S : FnScope N ps (defScope st))
    (hb : ∀ (kV doc pm : Value) (an : Option Addr) (cdv ct : Value) (us : List Value), us.length = ps.length →
      bindArgs (PySem.W.fnOf x x (defArgs st) (defBody st) (defScope st) .none kV doc pm an cdv ct) ⟨us, []⟩ = pure (ps.zip us))
    (len : ∀ vs H Q E, sp vs H Q E → vs.length = ps.length)
    (hbody : ∀ (cdv : Value) (A : Around) (outer : List Env) (s : Shared) (H : Hp) (vs : List V) (Q : VK) (E : XK),
      Room k (A.deeper (envOfC x (defScope st) s.heap.objs.size (He.ga K x) cdv)) → sp vs H Q E →
      ∃ t, PSs (cxOf (L2.CX P w) P w K mg base N x (defScope st) (He.ga K x) cdv A outer s H E) (defBody st) t ∧
        t { nx := fun _ H' => Q .non H', rt := Q } (start N vs) H) :
    DOk P w K mg base (k + 1) x ps sp := by
  obtain ⟨fd, F⟩ := F
  obtain ⟨oc, od, dV, kV, doc, pm, an, cdv, ct, osl, _, lk, _⟩ := id F.ex
  exact ⟨⟨fd, F.ok S len hbody, F.bindsN hb, _, _, _, lk⟩, g, F.kp⟩
end
section
variable {X : Cx} {k : Nat} {x : Str} {ps : List Str} {sp : Sp} {E : XK} {p pos : Pos} {e : Expr} {es : List Expr} {t : TA}
theorem pe_callD (D : DOk X.prog X.w X.K X.mg X.base k x ps sp) (hr : Room k X.A) (hg : Gl X x) (hx : Passes (L2.CX X.prog X.w) X E)
    (ha : PA X (e :: es) t) (hdb : (x == ("__debug__" : Str)) = false := by decide)
    (he : starEach (e :: es) X.env = (false, eval e X.env) :: starEach es X.env := by rfl)
    (hpl : (backTo pos (starEach es X.env)).any (·.1) = false := by rfl) :
    PE X (.Call (.Name x p) (e :: es) [] pos) (tCall sp [] E t) := by
  obtain ⟨⟨fd, F, b, _⟩, g, kp⟩ := D
  exact pe_call F hr hg g kp b .nil hx ha hdb he hpl
end
section
variable {P : Program} {w : World} {K : Frag} {mg : Str → Option Value} {base : Heap} {N : List Str} {qual : Str} {scope : Scope} {f : Addr} {cd : Value} {A : Around} {outer : List Env} {s : Shared} {H : Hp} {E : XK}
/-- what a callee lets out leaves this def, too -/
theorem passE : Passes (L2.CX P w) (cxOf (L2.CX P w) P w K mg base N qual scope f cd A outer s H E) E :=
  passes_call (X := cxOf (L2.CX P w) P w K mg base N qual scope f cd A outer s H E) (takes_of rfl rfl rfl rfl) (fun _ _ _ _ h => h)
theorem ownE : PassesOwn (model P w) (A.deeper (envOfC qual scope s.heap.objs.size f cd)) (envOfC qual scope s.heap.objs.size f cd) (cxOf (L2.CX P w) P w K mg base N qual scope f cd A outer s H E).xe :=
  passes_of (X := cxOf (L2.CX P w) P w K mg base N qual scope f cd A outer s H E) rfl
end

/-! ## data -/
theorem Same.tup {K : Frag} {H H' : Hp} {a : Addr} {xs : List V} (e : Same H H') (h : SqT K H a xs) : SqT K H' a xs := by
  rcases h with (h | ⟨o, h⟩) | h
  · exact .inl (.inl (e _ _ h))
  · exact .inl (.inr ⟨o, e _ _ h⟩)
  · exact .inr h
mutual
theorem dpS {K : Frag} {H H' : Hp} (e : Same H H') : ∀ {d : PyData} {v : V}, Dp K H v d → Dp K H' v d
  | .none, _, h => by cases h; exact .non
  | .bool _, _, h => by cases h; exact .bl _
  | .int _, _, h => by cases h; exact .int _
  | .str _, _, h => by cases h; exact .str _
  | .list ds, _, h => by
    cases h with
    | lst h1 h2 => exact .lst (e.seq h1) (dpsS e h2)
  | .tuple ds, _, h => by
    cases h with
    | tup h1 h2 => exact .tup (Same.tup e h1) (dpsS e h2)
  | .dict _, _, h => nomatch h
theorem dpsS {K : Frag} {H H' : Hp} (e : Same H H') : ∀ {ds : List PyData} {vs : List V}, DpAll K H vs ds → DpAll K H' vs ds
  | [], _, h => by cases h; exact .nil
  | d :: ds, _, h => by
    cases h with
    | cons h1 h2 => exact .cons (dpS e h1) (dpsS e h2)
end
theorem same_new {H : Hp} {p : Addr} {o : HO} (h : H p = none) : Same H (upd H p o) := fun a u e => by
  rw [upd_ne (ne_of_none e h)]
  exact e
theorem same_set {H H' : Hp} {p : Addr} {o : HO} (e : Same H H') (h : H p = none) : Same H (upd H' p o) := fun a u ha => by
  rw [upd_ne (ne_of_none ha h)]
  exact e a u ha
def kindD : PyData → String
  | .none => "NoneType" | .bool _ => "bool" | .int _ => "int" | .str _ => "str" | .list _ => "list" | .tuple _ => "tuple" | .dict _ => "dict"
theorem tyD {K : Frag} {H : Hp} {v : V} {d : PyData} (h : Dp K H v d) : TyX K H v (.type (kindD d)) := by
  cases h with
  | non => exact .base .non
  | bl b => exact .base (.bl b)
  | int i => exact .base (.int i)
  | str x => exact .base (.str x)
  | lst h _ =>
    rcases h with (h | ⟨o, h⟩) | ⟨o, its, n, h, hc, _⟩
    · exact .base (.lst h)
    · exact .base (.frz h)
    · exact .kList h hc
  | tup h _ =>
    rcases h with (h | ⟨o, h⟩) | ⟨o, its, n, h, hc, _⟩
    · exact .base (.tup h)
    · exact .fTuple h
    · exact .kTuple h hc
def isTupD : PyData → Bool | .tuple _ => true | _ => false
def isStrD : PyData → Bool | .str _ => true | _ => false
def isIntD : PyData → Bool | .int _ => true | .bool _ => true | _ => false
def isBlD : PyData → Bool | .bool _ => true | _ => false
def isLstD : PyData → Bool | .list _ => true | _ => false
section
variable {X : Cx}
def rIsK (K : Frag) (T : String) (f : PyData → Bool) : List V → Hp → VK → Prop := fun xs H Q => ∃ v d, xs = [v, .ty T] ∧ Dp K H v d ∧ Q (.bl (f d)) H
theorem isK_of {T : String} {f : PyData → Bool} (h : ∀ d : PyData, kindD d ≠ "dict" → kitB (kindD d) T = some (f d)) : CallR X (.builtin "isinstance") (rIsK X.K T f) := by
  intro pins s σ H xs us Q I r z
  obtain ⟨v, d, rfl, hd, q⟩ := z
  refine call_isi pins s σ H _ us Q I r ⟨v, .ty T, _, _, f d, rfl, .ty T, tyD hd, kit_ty (h d ?_), q⟩
  cases hd <;> simp [kindD]
theorem call_isTup : CallR X (.builtin "isinstance") (rIsK X.K "tuple" isTupD) := isK_of fun d hd => by cases d <;> first | rfl | decide +kernel | exact absurd rfl hd
theorem call_isStr : CallR X (.builtin "isinstance") (rIsK X.K "str" isStrD) := isK_of fun d hd => by cases d <;> first | rfl | decide +kernel | exact absurd rfl hd
theorem call_isInt : CallR X (.builtin "isinstance") (rIsK X.K "int" isIntD) := isK_of fun d hd => by cases d <;> first | rfl | decide +kernel | exact absurd rfl hd
theorem call_isBl : CallR X (.builtin "isinstance") (rIsK X.K "bool" isBlD) := isK_of fun d hd => by cases d <;> first | rfl | decide +kernel | exact absurd rfl hd
theorem call_isLst : CallR X (.builtin "isinstance") (rIsK X.K "list" isLstD) := isK_of fun d hd => by cases d <;> first | rfl | decide +kernel | exact absurd rfl hd
end
end Bk
set_option Elab.async false
set_option linter.all false
set_option maxRecDepth 100000
set_option maxHeartbeats 4000000
namespace Bk
open PySem PySem.Spec PyProof.Rows L2
open PySem.W (Frag)
/-! ## enumerate(tuple) -/
open AutoSeq1 (wpAny_loadPart') in
theorem meets_enumT {v : Value} {o : Obj} {Hh : Heap → Prop} (B : Begins v o Hh) : Meets (Builtin.«enumerate.__new__» ⟨[.type "enumerate", v], []⟩) (fun _ R s => Hh s.heap ∧
      R (.ok (.ret (.ref (s.heap.push o).objs.size)))
        { s with heap := (s.heap.push o).push { cls := .type "enumerate", data := .fields #[.none, .bool false, .ref s.heap.objs.size, rawInt 0, .none, .none] } }) := by
  refine .of_wp fun prog w A R s h => ?_
  obtain ⟨hp, g, d, tk, os⟩ := s
  obtain ⟨hl, h⟩ := h
  have hsub := sub_enumerate
  have q1 : ∀ {A' : Around} {E' : Value → Shared → Prop} {Q' : Value → Shared → Prop}, Q' (.ref hp.objs.size) ⟨hp.push o, g, d, tk, os⟩ → wpAny (model prog w) A' (pyIter v) Q' E' ⟨hp, g, d, tk, os⟩ :=
    fun {A' E' Q'} z => B.iter prog w A' E' ⟨hp, g, d, tk, os⟩ Q' hl z
  wp_walk using q1
  refine wpAny_stack_any fun st => wpAny_pure ?_
  split
  · rename_i c _ _ _ _ _
    cases (c == Value.type "enumerate") <;> (wp_walk using q1; exact ⟨_, rfl, h⟩)
  · wp_walk using q1
    exact ⟨_, rfl, h⟩
section
variable {prog : Program} {w : World} {A : Around} {E : Value → Shared → Prop} {s : Shared}
theorem enumT_begins {v : Value} {o : Obj} {Hh : Heap → Prop} {Q : Value → Shared → Prop} (B : Begins v o Hh) (h1 : Hh s.heap)
    (h : ∀ h', IsEnum h' (s.heap.objs.size + 1) s.heap.objs.size 0 .none → h'.get? s.heap.objs.size = some o → h'.objs.size = s.heap.objs.size + 2 →
      (∀ b o, s.heap.get? b = some o → h'.get? b = some o) → Q (.ref (s.heap.objs.size + 1)) { s with heap := h' }) :
    wpAny (model prog w) A (call (.type "enumerate") [v]) Q E s := by
  refine callType_new F.called_enumerate (by decide) (F.typeCall_enumerate_1 _) (F.newCall_enumerate_1 _) (fun obj => F.args_object_init_2 obj _) F.entry_enumerate_new (meets_enumT B) ⟨h1, ?_⟩
  have hz : (s.heap.push o).objs.size = s.heap.objs.size + 1 := Heap.size_push ..
  have he := Heap.get?_push_size (s.heap.push o) (o := { cls := .type "enumerate", data := .fields #[.none, .bool false, .ref s.heap.objs.size, rawInt 0, .none, .none] }) rfl
  rw [hz] at he
  show _ ∧ _
  rw [hz]
  exact ⟨⟨_, he, rfl⟩, h _ he (Heap.get?_push_of_some _ (Heap.get?_push_size _ B.free)) (by rw [Heap.size_push, hz]) fun b o x => Heap.get?_push_of_some _ (Heap.get?_push_of_some _ x)⟩
end
/-- the tuple at a, each item in a new pair -/
def IteT (K : Frag) (a : Addr) : It :=
  ⟨fun i H => ∃ (xs : List V) (x : V), SqT K H a xs ∧ xs[i]? = some x,
   fun i H v H' => ∃ T x, v = .ref T ∧ H T = none ∧ H' = upd H T (.tup [.int (i : Nat), x]) ∧ ∀ xs, SqT K H a xs → xs[i]? = some x,
   fun i H => ∃ xs : List V, SqT K H a xs ∧ xs.length ≤ i⟩
theorem turn_enumT {P : Program} {w : World} {K : Frag} {elts : List Expr} {kk : Nat} {tpos : Pos} (a e it : Addr) (hai : a ≠ it) (hae : a ≠ e) :
    Turn P w K (.Tuple elts kk tpos) (IteT K a) [e, it] e (fun i h => (∃ old, IsEnum h e it ((i : Nat) : Int) old) ∧ h.IsTupleIter it a i ∧ e ≠ it) where
  mem := by simp
  obj i h st b hb := by
    obtain ⟨⟨old, he⟩, ⟨o, ho, hc, hd⟩, _⟩ := st
    rcases (by simpa using hb : b = e ∨ b = it) with z | z
    · subst z
      exact ⟨_, he, fun v q => nomatch q⟩
    · subst z
      exact ⟨o, ho, fun v q => by rw [hd] at q; cases q⟩
  keep i h h' st k := ⟨⟨st.1.choose, k e (by simp) _ st.1.choose_spec⟩, st.2.1.at fun o q => k it (by simp) o q, st.2.2⟩
  item := by
    intro X hP hw hK hc i pins s σ H E I hf st hg
    subst hP hw hK
    obtain ⟨⟨old, he⟩, hit, hne⟩ := st
    obtain ⟨xs, x, hq, hx⟩ := hg
    obtain ⟨its, rv, p, hz⟩ := I.tuple hq
    obtain ⟨u, hu, ru⟩ := rv.get hx
    have hel : e < s.heap.objs.size := Heap.lt_size he
    have hil : it < s.heap.objs.size := by obtain ⟨_, q, _⟩ := hit; exact Heap.lt_size q
    have D := Draws.tuple (prog := X.prog) (w := X.w) (A := X.A.in1) (show X.A.in1.handled = none from I.ok.hd hc) it a hai its.toArray
    have hlt : i < its.toArray.size := by
      have := (List.getElem?_eq_some_iff.mp hu).1
      simpa using this
    refine wpAny_pyNext_enum_itemD D he ⟨hit, p⟩ hlt hne (by simp [hne, Ne.symm hae]) ?_
    intro y h' tk hy ho hst' hT hsz hk
    have ey : y = u := by
      have hy' : its.toArray[i]? = some y := hy
      rw [List.getElem?_toArray, hu] at hy'
      exact (Option.some.inj hy').symm
    subst ey
    refine ⟨_, rfl, wpAny_letOwnedTupleGo_enum (s := { s with heap := h', toks := tk + 1 }) ho ?_⟩
    intro h'' he' sb
    have hT2 : h''.get? s.heap.objs.size = some { cls := .type "tuple", data := .seq #[.int i tk, y] } := (sb.2 _ (Nat.ne_of_gt hel)).trans hT
    have new : ObjOk X.prog X.w (upd H s.heap.objs.size (.tup [.int (i : Nat), x])) h'' s.heap.objs.size (.tup [.int (i : Nat), x]) :=
      ⟨by show 2 ≤ sizeLine; decide, [.int i tk, y], .cons ⟨_, rfl⟩ (.cons ru .nil), ⟨_, hT2, rfl, _, rfl⟩⟩
    have I1 : Inv X pins σ (upd H s.heap.objs.size (.tup [.int (i : Nat), x])) { s with heap := h'', toks := tk + 1 } := by
      refine I.turnedNew (ch := [e, it]) (fun b ob hb q => ?_) hf (Nat.le_refl _) new
      have hbe : b ≠ e := fun z => hb (by simp [z])
      have hbi : b ≠ it := fun z => hb (by simp [z])
      exact (sb.2 b hbe).trans (hk b ob hbe hbi q)
    refine ⟨.ref s.heap.objs.size, _, I1, rfl, ⟨_, x, rfl, I.hok.fresh (Nat.le_refl _), rfl, fun ys hy => by rw [I.tuple_inj hy hq]; exact hx⟩, ⟨⟨y, ?_⟩, hst'.1.at fun o q => (sb.2 it (Ne.symm hne)).trans q, hne⟩, fun b hb => ?_⟩
    · rw [show ((i + 1 : Nat) : Int) = (i : Int) + 1 by omega]
      exact he'
    · have hb' : b < s.heap.objs.size := by
        rcases (by simpa using hb : b = e ∨ b = it) with z | z <;> (subst z; assumption)
      rw [upd_ne (Nat.ne_of_lt hb')]
      exact (hf b hb).1
  done := by
    intro X hP hw hK hc i pins s σ H E I hf st hg
    subst hP hw hK
    obtain ⟨⟨old, he⟩, hit, hne⟩ := st
    obtain ⟨xs, hq, hx⟩ := hg
    obtain ⟨its, rv, p, hz⟩ := I.tuple hq
    obtain ⟨f0, f1, f2, f3, f4, f5⟩ := hf it (by simp)
    have hl := rv.length
    have hend : its.toArray[i]? = none := by
      rw [List.getElem?_toArray]
      exact List.getElem?_eq_none (by omega)
    have D : Draws X.prog X.w X.A.in1 it [it, a] 0 (fun _ _ => False) (fun _ h => h.IsTupleIter it a i ∧ h.IsTuple a its.toArray) :=
      { live := fun _ _ st => let ⟨o, ho, _⟩ := st.1; ⟨o, ho⟩
        frame := fun _ _ _ st hk => ⟨st.1.at fun o e => hk it (by simp) o e, st.2.at fun o e => hk a (by simp) o e⟩
        item := fun j s Q E hj => absurd hj (Nat.not_lt_zero _)
        done := fun s Q E st hE => wpAny_nextOf_tuple_end (show X.A.in1.handled = none from I.ok.hd hc) st.1 st.2 hend hE }
    exact wpAny_pyNext_enum_endD D he ⟨hit, p⟩ fun h' eb => ⟨rfl, I.turned (t' := s.toks) (fun b o hb q => eb b o hb q) f0 f1 f3 f4 f5⟩
  self A i s Q E st h := wpAny_pyIter_enum st.1.choose_spec h

def iEnumT (K : Frag) (ta : TA) : TI := fun σ H R => ta σ H fun vs H1 => ∃ a xs, vs = [.ref a] ∧ SqT K H1 a xs ∧ R (IteT K a) H1
theorem pi_enumT {X : Cx} {e : Expr} {ta : TA} {p pos tpos : Pos} {elts : List Expr} {kk : Nat} (hg : Gl X "enumerate") (hm : X.mg "enumerate" = none) (ha : PA X [e] ta)
    (hs : starEach [e] X.env = [(false, eval e X.env)] := by rfl) : PI X (.Tuple elts kk tpos) (.Call (.Name "enumerate" p) [e] [] pos) (iEnumT X.K ta) := by
  refine ⟨fun pins s σ H R I h => Call_ (ld_blt I hg hm boot_enumerate (PyProof.Rows.callWith_type1 (thn (ha.run pos pins s σ H _ I h) ?_) hs rfl))⟩
  rintro us s1 ⟨vs, H1, I1, r1, a, xs, ex, hq, q⟩
  subst ex
  cases r1 with
  | cons r rr =>
    cases rr
    cases r
    obtain ⟨its, rv, p', hz⟩ := I1.tuple hq
    have hal : a < s1.heap.objs.size := by obtain ⟨_, q, _⟩ := p'; exact Heap.lt_size q
    refine enumT_begins (begins_tuple a its.toArray) p' ?_
    intro h' he hit hsz hk
    refine wpAny_pyIter_enum he ?_
    have I2 : Inv X pins σ H1 { s1 with heap := h' } := I1.kept (t' := s1.toks) hk
    refine ⟨s1.heap.objs.size + 1, [s1.heap.objs.size + 1, s1.heap.objs.size], _, _, H1, rfl, I2,
      turn_enumT a (s1.heap.objs.size + 1) s1.heap.objs.size (Nat.ne_of_lt hal) (Nat.ne_of_lt (Nat.lt_succ_of_lt hal)), ⟨⟨.none, he⟩, ⟨_, hit, rfl, rfl⟩, Nat.succ_ne_self _⟩, fun b hb => ?_, q⟩
    have hle : s1.heap.objs.size ≤ b := by
      rcases (by simpa using hb : b = s1.heap.objs.size + 1 ∨ b = s1.heap.objs.size) with z | z
      · rw [z]
        exact Nat.le_add_right _ _
      · rw [z]
        exact Nat.le_refl _
    exact I1.fpOk hle (I1.hok.fresh hle)
end Bk
set_option Elab.async false
set_option linter.all false
set_option maxRecDepth 100000
set_option maxHeartbeats 4000000
namespace Bk
open PySem PySem.Spec PyProof.Rows L2
open PySem.W (Frag)
theorem walk_enumT {K : Frag} {a : Addr} {xs : List V} : Walk (IteT K a) xs.length (fun H => SqT K H a xs) (YPair (fun i => some (.int (i : Nat))) (fun i => xs[i]?)) := by
  refine ⟨fun i _ hi q => ⟨xs, xs[i], q, by simp [hi]⟩, fun _ q => ⟨xs, q, Nat.le_refl _⟩, ?_⟩
  rintro i H v H' _ q ⟨T, x, h1, h2, h3, h4⟩
  exact ⟨T, .int (i : Nat), x, h1, h2, h3, rfl, h4 xs q⟩
/-! ## data without lists: a list that changes leaves it -/
mutual
def noL : PyData → Bool
  | .none | .bool _ | .int _ | .str _ => true
  | .tuple ds => noLs ds
  | _ => false
def noLs : List PyData → Bool
  | [] => true
  | d :: ds => noL d && noLs ds
end
theorem noLs_all {ds : List PyData} (h : noLs ds = true) : ∀ d ∈ ds, noL d = true := by
  induction ds with
  | nil => intro d hd; cases hd
  | cons d ds ih =>
    have h' : (noL d && noLs ds) = true := h
    rw [Bool.and_eq_true] at h'
    intro e he
    rcases List.mem_cons.mp he with z | z
    · rw [z]; exact h'.1
    · exact ih h'.2 e z
theorem noLs_of {ds : List PyData} (h : ∀ d ∈ ds, noL d = true) : noLs ds = true := by
  induction ds with
  | nil => rfl
  | cons d ds ih =>
    show (noL d && noLs ds) = true
    rw [h d List.mem_cons_self, ih fun e he => h e (List.mem_cons_of_mem _ he)]
    rfl
mutual
theorem dpU {K : Frag} {H : Hp} {D : Addr} {xs : List V} {o : HO} (hD : H D = some (.lst xs)) : ∀ {d : PyData} {v : V}, noL d = true → Dp K H v d → Dp K (upd H D o) v d
  | .none, _, _, h => by cases h; exact .non
  | .bool _, _, _, h => by cases h; exact .bl _
  | .int _, _, _, h => by cases h; exact .int _
  | .str _, _, _, h => by cases h; exact .str _
  | .list ds, _, n, _ => by cases n
  | .tuple ds, _, n, h => by
    cases h with
    | tup h1 h2 =>
      refine .tup ?_ (dpsU hD n h2)
      rcases h1 with (h | ⟨o', h⟩) | h
      · exact .inl (.inl (by rw [upd_ne (fun z => by rw [z, hD] at h; cases h)]; exact h))
      · exact .inl (.inr ⟨o', by rw [upd_ne (fun z => by rw [z, hD] at h; cases h)]; exact h⟩)
      · exact .inr h
  | .dict _, _, n, _ => by cases n
theorem dpsU {K : Frag} {H : Hp} {D : Addr} {xs : List V} {o : HO} (hD : H D = some (.lst xs)) : ∀ {ds : List PyData} {vs : List V}, noLs ds = true → DpAll K H vs ds → DpAll K (upd H D o) vs ds
  | [], _, _, h => by cases h; exact .nil
  | d :: ds, _, n, h => by
    have n' : (noL d && noLs ds) = true := n
    rw [Bool.and_eq_true] at n'
    cases h with
    | cons h1 h2 => exact .cons (dpU hD n'.1 h1) (dpsU hD n'.2 h2)
end
theorem dpsApp {K : Frag} {H : Hp} : ∀ {vs : List V} {ds : List PyData} {ws : List V} {es : List PyData}, DpAll K H vs ds → DpAll K H ws es → DpAll K H (vs ++ ws) (ds ++ es)
  | [], _, _, _, h, k => by cases h; exact k
  | _ :: _, _, _, _, h, k => by
    cases h with
    | cons h1 h2 => exact .cons h1 (dpsApp h2 k)
theorem dpsLen {K : Frag} {H : Hp} : ∀ {vs : List V} {ds : List PyData}, DpAll K H vs ds → vs.length = ds.length
  | [], _, h => by cases h; rfl
  | _ :: _, _, h => by
    cases h with
    | cons h1 h2 => rw [List.length_cons, List.length_cons, dpsLen h2]
theorem dpsGet {K : Frag} {H : Hp} : ∀ {vs : List V} {ds : List PyData} {i : Nat} {v : V}, DpAll K H vs ds → vs[i]? = some v → ∃ d, ds[i]? = some d ∧ Dp K H v d
  | [], _, _, _, _, e => by cases e
  | _ :: _, _, 0, _, h, e => by
    cases h with
    | cons h1 h2 => cases e; exact ⟨_, rfl, h1⟩
  | _ :: _, _, i + 1, _, h, e => by
    cases h with
    | cons h1 h2 => exact dpsGet (i := i) h2 (by simpa using e)
theorem dpsGetD {K : Frag} {H : Hp} : ∀ {vs : List V} {ds : List PyData} {i : Nat} {d : PyData}, DpAll K H vs ds → ds[i]? = some d → ∃ v, vs[i]? = some v ∧ Dp K H v d
  | _, [], _, _, _, e => by cases e
  | _, _ :: _, 0, _, h, e => by
    cases h with
    | cons h1 h2 => cases e; exact ⟨_, rfl, h1⟩
  | _, _ :: _, i + 1, _, h, e => by
    cases h with
    | cons h1 h2 => exact dpsGetD (i := i) h2 (by simpa using e)
theorem dpsInts {K : Frag} {H : Hp} : ∀ (ns : List Int), DpAll K H (ns.map V.int) (ns.map PyData.int)
  | [] => .nil
  | n :: ns => .cons (.int n) (dpsInts ns)
theorem dpsStrs {K : Frag} {H : Hp} : ∀ (ns : List Str), DpAll K H (ns.map V.str) (ns.map PyData.str)
  | [] => .nil
  | n :: ns => .cons (.str n) (dpsStrs ns)
theorem strs_of_dps {K : Frag} {H : Hp} : ∀ {vs : List V} {xs : List Str}, DpAll K H vs (xs.map PyData.str) → vs = xs.map V.str
  | _, [], h => by cases h; rfl
  | _, x :: xs, h => by
    cases h with
    | cons h1 h2 => cases h1; rw [strs_of_dps h2]; rfl
theorem bls_of_dps {K : Frag} {H : Hp} : ∀ {vs : List V} {xs : List Bool}, DpAll K H vs (xs.map PyData.bool) → vs = xs.map V.bl
  | _, [], h => by cases h; rfl
  | _, x :: xs, h => by
    cases h with
    | cons h1 h2 => cases h1; rw [bls_of_dps h2]; rfl
theorem ints_of_dps {K : Frag} {H : Hp} : ∀ {vs : List V} {xs : List Int}, DpAll K H vs (xs.map PyData.int) → vs = xs.map V.int
  | _, [], h => by cases h; rfl
  | _, x :: xs, h => by
    cases h with
    | cons h1 h2 => cases h1; rw [ints_of_dps h2]; rfl
theorem fm_succ {α : Type} (e : Nat → Option α) (i : Nat) : (List.range (i + 1)).filterMap e = (List.range i).filterMap e ++ (e i).toList := by
  rw [List.range_succ, List.filterMap_append]
  congr 1
/-- a comprehension whose items are data without lists: e tells the i-th one, none where it is left out -/
theorem lc_data {K : Frag} {J : It} {n : Nat} {G : Hp → Prop} {Y : Nat → Hp → V → Hp → Prop} (w : Walk J n G Y) {g : TG} {tt : TT} {te : TE} {vs : List Nat} {σ : L2.St} {H1 : Hp} {D : Addr} {Qd : Hp → Prop}
    (e : Nat → Option PyData) (hD : H1 D = none) (hG : ∀ H, Same H1 H → G H) (hn : n < sizeLine) (he : ∀ i d, i < n → e i = some d → noL d = true)
    (hs : ∀ i x H H', i < n → Same H1 H → Y i H x H' → ∀ (R : V → Hp → Prop) (S : Hp → Prop), (∀ y H4 d, Same H H4 → e i = some d → Dp K H4 y d → R y H4) → (∀ H3, Same H H3 → e i = none → S H3) →
      g x (wipe σ vs) H' fun σ2 H2 => wipe σ2 vs = wipe σ vs ∧ tt σ2 H2 fun b H3 => if b = true then te σ2 H3 R else S H3)
    (hd : ∀ H ys, Same H1 H → H D = some (.lst ys) → DpAll K H ys ((List.range n).filterMap e) → Qd H) :
    ∃ W : Nat → Nat → Hp → Prop, (∃ m, W 0 m (upd H1 D (.lst []))) ∧ ∀ i m H, W i m H →
      (J.stop i H ∧ Qd H) ∨ (J.go i H ∧ ∃ Nx : Hp → Prop, (∀ H', Nx H' → ∃ m', m' < m ∧ W (i + 1) m' H') ∧ ∀ x H', J.yld i H x H' → g x (wipe σ vs) H' fun σ2 H2 => wipe σ2 vs = wipe σ vs ∧ tt σ2 H2 fun b H3 =>
        if b = true then te σ2 H3 fun y H4 => ∃ acc, H4 D = some (.lst acc) ∧ acc.length < sizeLine ∧ Nx (upd H4 D (.lst (acc ++ [y]))) else Nx H3) := by
  refine lc_it w (fun i H => i ≤ n → Same H1 H ∧ ∃ ys, H D = some (.lst ys) ∧ ys.length ≤ i ∧ DpAll K H ys ((List.range i).filterMap e)) ?_ ?_ ?_ ?_
  · exact fun _ => ⟨same_new hD, [], upd_same, Nat.le_refl _, .nil⟩
  · exact fun i H hi p => hG H (p hi).1
  · intro i x H H' hi p y
    obtain ⟨s1, ys, hy, hl, hp⟩ := p (Nat.le_of_lt hi)
    refine hs i x H H' hi s1 y _ _ ?_ ?_
    · intro z H4 d s4 ed hz
      have h4 : H4 D = some (.lst ys) := s4 _ _ hy
      refine ⟨ys, h4, by omega, fun hi1 => ⟨fun a u ha => ?_, _, upd_same, by rw [List.length_append]; simp; omega, ?_⟩⟩
      · rw [upd_ne (ne_of_none ha hD)]
        exact s4 _ _ (s1 _ _ ha)
      · rw [fm_succ, ed]
        refine dpsApp (dpsU h4 ?_ (dpsS s4 hp)) (.cons (dpU h4 (he i d hi ed) hz) .nil)
        refine noLs_of fun d' hd' => ?_
        obtain ⟨j, hj, ej⟩ := List.mem_filterMap.mp hd'
        exact he j d' (Nat.lt_trans (List.mem_range.mp hj) hi) ej
    · intro H3 s3 en hi1
      refine ⟨fun a u ha => s3 _ _ (s1 _ _ ha), ys, s3 _ _ hy, by omega, ?_⟩
      rw [fm_succ, en]
      simpa using dpsS s3 hp
  · intro H p
    obtain ⟨s1, ys, hy, _, hp⟩ := p (Nat.le_refl _)
    exact hd H ys s1 hy hp
/-- .. without an if -/
theorem lc_map {K : Frag} {J : It} {n : Nat} {G : Hp → Prop} {Y : Nat → Hp → V → Hp → Prop} (w : Walk J n G Y) {g : TG} {te : TE} {vs : List Nat} {σ : L2.St} {H1 : Hp} {D : Addr} {Qd : Hp → Prop}
    (e : Nat → Option PyData) (hD : H1 D = none) (hG : ∀ H, Same H1 H → G H) (hn : n < sizeLine) (he : ∀ i d, i < n → e i = some d → noL d = true)
    (hs : ∀ i x H H', i < n → Same H1 H → Y i H x H' → ∀ (R : V → Hp → Prop), (∀ y H4 d, Same H H4 → e i = some d → Dp K H4 y d → R y H4) →
      g x (wipe σ vs) H' fun σ2 H2 => wipe σ2 vs = wipe σ vs ∧ te σ2 H2 R)
    (mG : ∀ (x : V) (σ : L2.St) (H : Hp) (P P' : L2.St → Hp → Prop), (∀ b H, P b H → P' b H) → g x σ H P → g x σ H P')
    (hd : ∀ H ys, Same H1 H → H D = some (.lst ys) → DpAll K H ys ((List.range n).filterMap e) → Qd H) :
    ∃ W : Nat → Nat → Hp → Prop, (∃ m, W 0 m (upd H1 D (.lst []))) ∧ ∀ i m H, W i m H →
      (J.stop i H ∧ Qd H) ∨ (J.go i H ∧ ∃ Nx : Hp → Prop, (∀ H', Nx H' → ∃ m', m' < m ∧ W (i + 1) m' H') ∧ ∀ x H', J.yld i H x H' → g x (wipe σ vs) H' fun σ2 H2 => wipe σ2 vs = wipe σ vs ∧ tYes σ2 H2 fun b H3 =>
        if b = true then te σ2 H3 fun y H4 => ∃ acc, H4 D = some (.lst acc) ∧ acc.length < sizeLine ∧ Nx (upd H4 D (.lst (acc ++ [y]))) else Nx H3) := by
  refine lc_data w e hD hG hn he ?_ hd
  intro i x H H' hi s1 y R S kR kS
  refine mG _ _ _ _ _ ?_ (hs i x H H' hi s1 y R kR)
  rintro σ2 H2 ⟨e1, e2⟩
  refine ⟨e1, ?_⟩
  show if true = true then te σ2 H2 R else S H2
  rw [if_pos rfl]
  exact e2
theorem mg_name {i : Nat} : ∀ (x : V) (σ : L2.St) (H : Hp) (P P' : L2.St → Hp → Prop), (∀ b H, P b H → P' b H) → gName i x σ H P → gName i x σ H P' := fun _ _ _ _ _ h k => h _ _ k
theorem mg_tup2 {K : Frag} {i j : Nat} : ∀ (x : V) (σ : L2.St) (H : Hp) (P P' : L2.St → Hp → Prop), (∀ b H, P b H → P' b H) →
    gTup K 2 (gCons (gName i) (gCons (gName j) gNil)) x σ H P → gTup K 2 (gCons (gName i) (gCons (gName j) gNil)) x σ H P' := by
  rintro x σ H P P' h ⟨a, xs, rfl, hq, hl, v, r, rfl, v2, r2, rfl, e, p⟩
  exact ⟨a, _, rfl, hq, hl, v, _, rfl, v2, r2, rfl, e, h _ _ p⟩
theorem mg_tup3 {K : Frag} {i j l : Nat} : ∀ (x : V) (σ : L2.St) (H : Hp) (P P' : L2.St → Hp → Prop), (∀ b H, P b H → P' b H) →
    gTup K 3 (gCons (gName i) (gCons (gName j) (gCons (gName l) gNil))) x σ H P → gTup K 3 (gCons (gName i) (gCons (gName j) (gCons (gName l) gNil))) x σ H P' := by
  rintro x σ H P P' h ⟨a, xs, rfl, hq, hl, v, r, rfl, v2, r2, rfl, v3, r3, rfl, e, p⟩
  exact ⟨a, _, rfl, hq, hl, v, _, rfl, v2, _, rfl, v3, r3, rfl, e, h _ _ p⟩
end Bk
set_option Elab.async false
set_option linter.all false
set_option maxRecDepth 100000
set_option maxHeartbeats 4000000
namespace Bk
open PySem PySem.Spec PyProof.Rows L2
open PySem.W (Frag)
/-! ## methods, and defs that need the guards -/
structure MOk (P : Program) (w : World) (K : Frag) (mg : Str → Option Value) (base : Heap) (k : Nat) (f : Addr) (ps : List Str) (sp : Sp) : Prop where
  ok : ∃ fd, FnOk P w K mg base (L2.CX P w) k f fd ps sp ∧ Binds K fd ps [] ∧ ∃ oc od osl, K.lookup f = some ⟨oc, od, .func fd, osl⟩
  kp : PySem.W.keepIn K (.ref f) = true
structure GOk (P : Program) (w : World) (K : Frag) (mg : Str → Option Value) (base : Heap) (k : Nat) (x : Str) (ps : List Str) (sp : Sp) : Prop where
  ok : ∃ fd, FnG P w K mg base (L2.CX P w) k (He.ga K x) fd ps sp ∧ Binds K fd ps []
  g : mg x = some (.ref (He.ga K x))
  kp : PySem.W.keepIn K (.ref (He.ga K x)) = true
section
variable {P : Program} {w : World} {K : Frag} {mg : Str → Option Value} {base : Heap}
theorem mok_of {x q : Str} {st : Stmt} {N ps : List Str} {k : Nat} {sp : Sp} {kws : List (Str × V)} {f : Addr}
    (F : ∃ fd, FunD K x q (defArgs st) (defBody st) (defScope st) [] kws f fd) (S : FnScope N ps (defScope st))
    (hb : ∀ (kV doc pm : Value) (an : Option Addr) (cdv ct : Value) (us : List Value), us.length = ps.length →
      bindArgs (PySem.W.fnOf x q (defArgs st) (defBody st) (defScope st) .none kV doc pm an cdv ct) ⟨us, []⟩ = pure (ps.zip us))
    (len : ∀ vs H Q E, sp vs H Q E → vs.length = ps.length)
    (hbody : ∀ (cdv : Value) (A : Around) (outer : List Env) (s : Shared) (H : Hp) (vs : List V) (Q : VK) (E : XK),
      Room k (A.deeper (envOfC q (defScope st) s.heap.objs.size f cdv)) → sp vs H Q E →
      ∃ t, PSs (cxOf (L2.CX P w) P w K mg base N q (defScope st) f cdv A outer s H E) (defBody st) t ∧
        t { nx := fun _ H' => Q .non H', rt := Q } (start N vs) H) :
    MOk P w K mg base (k + 1) f ps sp := by
  obtain ⟨fd, F⟩ := F
  obtain ⟨oc, od, dV, kV, doc, pm, an, cdv, ct, osl, _, lk, _⟩ := id F.ex
  exact ⟨⟨fd, F.ok S len hbody, F.bindsN hb, _, _, _, lk⟩, F.kp⟩
/-- a method with defaults, all its arguments given -/
theorem mokD_of {x q : Str} {st : Stmt} {N ps : List Str} {k : Nat} {sp : Sp} {kws : List (Str × V)} {f : Addr} {dvs : List V} (hd : dvs ≠ [])
    (F : ∃ fd, FunD K x q (defArgs st) (defBody st) (defScope st) dvs kws f fd) (S : FnScope N ps (defScope st))
    (hb : ∀ (T : Addr) (kV doc pm : Value) (an : Option Addr) (cdv ct : Value) (us its : List Value), us.length = ps.length → its.length = dvs.length →
      ∃ k, bindArgs (PySem.W.fnOf x q (defArgs st) (defBody st) (defScope st) (.ref T) kV doc pm an cdv ct) ⟨us, []⟩ = seqItems? (.ref T) >>= k ∧ k (some its.toArray) = pure (ps.zip us))
    (len : ∀ vs H Q E, sp vs H Q E → vs.length = ps.length)
    (hbody : ∀ (cdv : Value) (A : Around) (outer : List Env) (s : Shared) (H : Hp) (vs : List V) (Q : VK) (E : XK),
      Room k (A.deeper (envOfC q (defScope st) s.heap.objs.size f cdv)) → sp vs H Q E →
      ∃ t, PSs (cxOf (L2.CX P w) P w K mg base N q (defScope st) f cdv A outer s H E) (defBody st) t ∧
        t { nx := fun _ H' => Q .non H', rt := Q } (start N vs) H) :
    MOk P w K mg base (k + 1) f ps sp := by
  obtain ⟨fd, F⟩ := F
  obtain ⟨oc, od, dV, kV, doc, pm, an, cdv, ct, osl, _, lk, _⟩ := id F.ex
  obtain ⟨ds, rd, b⟩ := F.binds1 (ps := ps) ps.length dvs.length hd (by omega) (fun T kV doc pm an cdv ct us its h1 h2 => by
    obtain ⟨k, e1, e2⟩ := hb T kV doc pm an cdv ct us its h1 h2
    exact ⟨k, e1, by rw [e2, ← h2, List.drop_length, List.append_nil]⟩)
  rw [List.drop_length] at rd
  cases rd
  exact ⟨⟨fd, F.ok S len hbody, b, _, _, _, lk⟩, F.kp⟩
theorem gok_of {x : Str} {st : Stmt} {N ps : List Str} {k : Nat} {sp : Sp} {kws : List (Str × V)}
    (F : ∃ fd, FunD K x x (defArgs st) (defBody st) (defScope st) [] kws (He.ga K x) fd) (g : mg x = some (.ref (He.ga K x))) (S : FnScope N ps (defScope st))
    (hb : ∀ (kV doc pm : Value) (an : Option Addr) (cdv ct : Value) (us : List Value), us.length = ps.length →
      bindArgs (PySem.W.fnOf x x (defArgs st) (defBody st) (defScope st) .none kV doc pm an cdv ct) ⟨us, []⟩ = pure (ps.zip us))
    (len : ∀ vs H Q E, sp vs H Q E → vs.length = ps.length)
    (hbody : ∀ (cdv : Value) (A : Around) (outer : List Env) (s : Shared) (H : Hp) (vs : List V) (Q : VK) (E : XK), A.guards = some [] →
      Room k (A.deeper (envOfC x (defScope st) s.heap.objs.size (He.ga K x) cdv)) → sp vs H Q E →
      ∃ t, PSs (cxOf (L2.CX P w) P w K mg base N x (defScope st) (He.ga K x) cdv A outer s H E) (defBody st) t ∧
        t { nx := fun _ H' => Q .non H', rt := Q } (start N vs) H) :
    GOk P w K mg base (k + 1) x ps sp := by
  obtain ⟨fd, F⟩ := F
  obtain ⟨oc, od, dV, kV, doc, pm, an, cdv, ct, osl, rfl, lk, hcd, _, _⟩ := id F.ex
  exact ⟨⟨_, fnG_of lk hcd S len fun A outer s H vs Q E hG hr hsp => hbody cdv A outer s H vs Q E hG hr hsp, F.bindsN hb⟩, g, F.kp⟩
end
section
variable {X : Cx} {k : Nat} {x : Str} {ps : List Str} {sp : Sp} {E : XK} {p pos : Pos} {e : Expr} {es : List Expr} {t : TA}
theorem pe_callGD (D : GOk X.prog X.w X.K X.mg X.base k x ps sp) (hG : X.A.guards = some []) (hr : Room k X.A) (hg : Gl X x) (hx : Passes (L2.CX X.prog X.w) X E)
    (ha : PA X (e :: es) t) (hdb : (x == ("__debug__" : Str)) = false := by decide)
    (he : starEach (e :: es) X.env = (false, eval e X.env) :: starEach es X.env := by rfl)
    (hpl : (backTo pos (starEach es X.env)).any (·.1) = false := by rfl) :
    PE X (.Call (.Name x p) (e :: es) [] pos) (tCall sp [] E t) := by
  obtain ⟨⟨fd, F, b⟩, g, kp⟩ := D
  exact pe_callG F hG hr hg g kp b .nil hx ha hdb he hpl
end
theorem _root_.L2.Room.units65 {k : Nat} {A : Around} (r : Room k A) : A.units + 65 < cLine := by have := r.un; omega
theorem iteB {b : Bool} {A B : Prop} (h1 : b = true → A) (h2 : b = false → B) : if b = true then A else B := by
  cases b
  · exact iteF (h2 rfl)
  · exact iteT (h1 rfl)
theorem fm_map {α β : Type} (f : α → β) : ∀ (xs : List α), (List.range xs.length).filterMap (fun i => xs[i]?.map f) = xs.map f := by
  intro xs
  induction xs with
  | nil => rfl
  | cons a xs ih =>
    rw [List.length_cons, List.range_succ_eq_map, List.filterMap_cons]
    simp only [List.getElem?_cons_zero, Option.map_some, List.filterMap_map, List.map_cons]
    congr 1
theorem fm_filter {α β : Type} (p : α → Bool) (f : α → β) : ∀ (xs : List α), (List.range xs.length).filterMap (fun i => xs[i]?.bind fun a => if p a then some (f a) else none) = (xs.filter p).map f := by
  intro xs
  induction xs with
  | nil => rfl
  | cons a xs ih =>
    rw [List.length_cons, List.range_succ_eq_map, List.filterMap_cons]
    simp only [List.getElem?_cons_zero, Option.bind_some, List.filterMap_map, List.filter_cons]
    have e : ((List.range xs.length).filterMap ((fun i => (a :: xs)[i]?.bind fun a => if p a then some (f a) else none) ∘ Nat.succ)) = (xs.filter p).map f := by
      rw [← ih]; rfl
    cases h : p a
    · simpa using e
    · simpa using e
/-! ## the program's words about data -/
def isInteger : PyData → Bool | .int _ => true | _ => false
def isBetween (lo hi : Int) : PyData → Bool | .int i => decide (lo ≤ i) && decide (i ≤ hi) | _ => false
def letter (c : Nat) : Bool := decide (97 ≤ c) && decide (c ≤ 122)
def nameOk (x : Str) : Bool := decide (0 < x.length) && decide (x.length < 9) && x.cps.toList.all letter
def isName : PyData → Bool | .str x => nameOk x | _ => false
def isStand : PyData → Bool | .tuple [a, b] => isName a && isBetween 1 40 b | _ => false
theorem letters_mem (c : Nat) : decide (c ∈ ("abcdefghijklmnopqrstuvwxyz" : Str).cps.toList) = letter c := by
  have e : ("abcdefghijklmnopqrstuvwxyz" : Str).cps.toList = List.range' 97 26 := by decide +kernel
  rw [e, letter]
  rw [Bool.eq_iff_iff]
  simp only [decide_eq_true_eq, Bool.and_eq_true, List.mem_range']
  constructor
  · rintro ⟨i, hi, rfl⟩
    omega
  · intro h
    exact ⟨c - 97, by omega, by omega⟩
end Bk
set_option Elab.async false
set_option linter.all false
set_option maxRecDepth 100000
set_option maxHeartbeats 4000000
namespace Bk
open PySem PySem.Spec PyProof.Rows L2 PySem.NumText
open PySem.W (Frag)
def digit (c : Nat) : Bool := decide (48 ≤ c) && decide (c ≤ 57)
/-- number_of -/
def numberOf (x : Str) : Option Int :=
  if x = "" then none else if 4 < x.length then none else if x.cps.toList.all digit = false then none
  else if x.cps.toList.head? = some 48 ∧ x ≠ "0" then none else some ((digitsVal x.cps.toList : Nat) : Int)
def optI : Option Int → V | none => .non | some n => .int n
def optD : Option Int → PyData | none => .none | some n => .int n
theorem digits_mem (c : Nat) : decide (c ∈ ("0123456789" : Str).cps.toList) = digit c := by
  have e : ("0123456789" : Str).cps.toList = List.range' 48 10 := by decide +kernel
  rw [e, digit, Bool.eq_iff_iff]
  simp only [decide_eq_true_eq, Bool.and_eq_true, List.mem_range']
  constructor
  · rintro ⟨i, hi, rfl⟩
    omega
  · intro h
    exact ⟨c - 48, by omega, by omega⟩
def isAmong (ns : List Str) : PyData → Bool | .str x => decide (x ∈ ns) | _ => false
def isRoad (ns : List Str) : PyData → Bool | .tuple [a, b, c] => isAmong ns a && isAmong ns b && isBetween 1 3 c | _ => false
theorem inV_strs (x : Str) (ns : List Str) : inV (.str x) (ns.map V.str) = decide (x ∈ ns) := by
  unfold inV
  rw [List.any_map, Bool.eq_iff_iff, List.any_eq_true]
  simp only [decide_eq_true_eq]
  constructor
  · rintro ⟨y, hy, e⟩
    have e' : (y == x) = true := e
    rw [eq_of_beq e'] at hy
    exact hy
  · intro h
    exact ⟨x, h, beq_self_eq_true x⟩
theorem flat_strs (ns : List Str) : (ns.map V.str).all flatV = true := by
  rw [List.all_map, List.all_eq_true]
  intro x _
  rfl
/-! ## stands and roads as data -/
def encS (s : Str × Int) : PyData := .tuple [.str s.1, .int s.2]
def encSs (l : List (Str × Int)) : PyData := .tuple (l.map encS)
def encR (r : Str × Str × Int) : PyData := .tuple [.str r.1, .str r.2.1, .int r.2.2]
def encRs (l : List (Str × Str × Int)) : PyData := .tuple (l.map encR)
structure StOk (l : List (Str × Int)) : Prop where
  ne : l ≠ []
  few : l.length ≤ 5
  each : ∀ s ∈ l, nameOk s.1 = true ∧ 1 ≤ s.2 ∧ s.2 ≤ 40
  nd : (l.map (·.1)).Nodup
structure RdOk (ns : List Str) (l : List (Str × Str × Int)) : Prop where
  few : l.length ≤ 12
  each : ∀ r ∈ l, r.1 ∈ ns ∧ r.2.1 ∈ ns ∧ 1 ≤ r.2.2 ∧ r.2.2 ≤ 3
  nd : (l.map fun r => (r.1, r.2.1)).Nodup
theorem nameOk_len {x : Str} (h : nameOk x = true) : 0 < x.length ∧ x.length ≤ 8 := by
  unfold nameOk at h
  simp only [Bool.and_eq_true, decide_eq_true_eq] at h
  omega
theorem isStand_enc {s : Str × Int} (h : nameOk s.1 = true ∧ 1 ≤ s.2 ∧ s.2 ≤ 40) : isStand (encS s) = true := by
  show (nameOk s.1 && (decide (1 ≤ s.2) && decide (s.2 ≤ 40))) = true
  rw [h.1, decide_eq_true h.2.1, decide_eq_true h.2.2]
  rfl
theorem isRoad_enc {ns : List Str} {r : Str × Str × Int} (h : r.1 ∈ ns ∧ r.2.1 ∈ ns ∧ 1 ≤ r.2.2 ∧ r.2.2 ≤ 3) : isRoad ns (encR r) = true := by
  show (decide (r.1 ∈ ns) && decide (r.2.1 ∈ ns) && (decide (1 ≤ r.2.2) && decide (r.2.2 ≤ 3))) = true
  rw [decide_eq_true h.1, decide_eq_true h.2.1, decide_eq_true h.2.2.1, decide_eq_true h.2.2.2]
  rfl
/-! ## taking data apart -/
theorem dp_tup {K : Frag} {H : Hp} {v : V} {ds : List PyData} (h : Dp K H v (.tuple ds)) : ∃ a xs, v = .ref a ∧ SqT K H a xs ∧ DpAll K H xs ds := by
  cases h with
  | tup h1 h2 => exact ⟨_, _, rfl, h1, h2⟩
theorem dp_str {K : Frag} {H : Hp} {v : V} {x : Str} (h : Dp K H v (.str x)) : v = .str x := by cases h; rfl
theorem dp_int {K : Frag} {H : Hp} {v : V} {x : Int} (h : Dp K H v (.int x)) : v = .int x := by cases h; rfl
theorem dps2 {K : Frag} {H : Hp} {xs : List V} {a b : PyData} (h : DpAll K H xs [a, b]) : ∃ u v, xs = [u, v] ∧ Dp K H u a ∧ Dp K H v b := by
  cases h with
  | cons h1 h => cases h with
    | cons h2 h => cases h; exact ⟨_, _, rfl, h1, h2⟩
theorem dps3 {K : Frag} {H : Hp} {xs : List V} {a b c : PyData} (h : DpAll K H xs [a, b, c]) : ∃ u v w, xs = [u, v, w] ∧ Dp K H u a ∧ Dp K H v b ∧ Dp K H w c := by
  cases h with
  | cons h1 h => cases h with
    | cons h2 h => cases h with
      | cons h3 h => cases h; exact ⟨_, _, _, rfl, h1, h2, h3⟩
/-- the i-th stand of encoded stands -/
theorem stand_at {K : Frag} {H : Hp} {xs : List V} {l : List (Str × Int)} {i : Nat} {x : V} (h : DpAll K H xs (l.map encS)) (hx : xs[i]? = some x) :
    ∃ s b, l[i]? = some s ∧ x = .ref b ∧ SqT K H b [.str s.1, .int s.2] := by
  obtain ⟨d, hd, hp⟩ := dpsGet h hx
  rw [List.getElem?_map] at hd
  cases e : l[i]? with
  | none => rw [e] at hd; cases hd
  | some s =>
    rw [e] at hd
    cases hd
    obtain ⟨b, ys, rfl, h1, h2⟩ := dp_tup hp
    obtain ⟨u, v, rfl, h3, h4⟩ := dps2 h2
    rw [dp_str h3, dp_int h4] at h1
    exact ⟨s, b, rfl, rfl, h1⟩
theorem road_at {K : Frag} {H : Hp} {xs : List V} {l : List (Str × Str × Int)} {i : Nat} {x : V} (h : DpAll K H xs (l.map encR)) (hx : xs[i]? = some x) :
    ∃ s b, l[i]? = some s ∧ x = .ref b ∧ SqT K H b [.str s.1, .str s.2.1, .int s.2.2] := by
  obtain ⟨d, hd, hp⟩ := dpsGet h hx
  rw [List.getElem?_map] at hd
  cases e : l[i]? with
  | none => rw [e] at hd; cases hd
  | some s =>
    rw [e] at hd
    cases hd
    obtain ⟨b, ys, rfl, h1, h2⟩ := dp_tup hp
    obtain ⟨u, v, w, rfl, h3, h4, h5⟩ := dps3 h2
    rw [dp_str h3, dp_str h4, dp_int h5] at h1
    exact ⟨s, b, rfl, rfl, h1⟩
theorem take_more {α : Type} {l : List α} {i : Nat} {x : α} (h : l[i]? = some x) : l.take (i + 1) = l.take i ++ [x] := by
  rw [List.take_add_one, h]
  rfl
end Bk
set_option Elab.async false
set_option linter.all false
set_option maxRecDepth 100000
set_option maxHeartbeats 4000000
namespace Bk
open PySem PySem.Spec PyProof.Rows L2
open PySem.W (Frag)
/-! ## tests of the written part: properties, classmethods -/
def propB (C f : Str) (K : Frag) : Bool :=
  He.eqO (PySem.W.findIn K (.ref (He.ga K C)) f) (some (some (.ref (He.ma K (He.ga K C) f)))) &&
  (He.eqO (PySem.W.specialIn K (.ref (He.ma K (He.ga K C) f)) "__get__") (some (some (.builtin "property.__get__"))) &&
  (decide (PySem.W.takesIn K (.ref (He.ma K (He.ga K C) f)) = some true) &&
  (match PySem.W.recIn K (He.ma K (He.ga K C) f) "property" with | some (.ref _ :: _) => true | _ => false)))
theorem propB_ok {C f : Str} {K : Frag} (h : propB C f K = true) : PropOf K (He.ga K C) f (He.ma K (He.ga K C) f) (He5.wf K (He.ga K C) "property" f) := by
  unfold propB at h
  obtain ⟨h1, h⟩ := He.ba h
  obtain ⟨h2, h⟩ := He.ba h
  obtain ⟨h3, h4⟩ := He.ba h
  refine ⟨He.eqO_ok h1, He.eqO_ok h2, of_decide_eq_true h3, ?_⟩
  unfold He5.wf
  split at h4
  · rename_i f r e
    exact ⟨r, by rw [e]⟩
  · cases h4
def cmB (C m : Str) (K : Frag) : Bool := He5.wrapB K (He.ga K C) "classmethod" "classmethod.__get__" m && PySem.W.fnIn K (He5.wf K (He.ga K C) "classmethod" m)
theorem cmB_ok {C m : Str} {K : Frag} (h : cmB C m K = true) : ClX.CMet K (He.ga K C) (.type "type") m (He.ma K (He.ga K C) m) (He5.wf K (He.ga K C) "classmethod" m) := by
  obtain ⟨h1, h2⟩ := He.ba h
  obtain ⟨h3, h4⟩ := He5.wrapB_ok h1
  exact ⟨h3, h4, h2⟩
def crB (C : Str) (K : Frag) : Bool := PySem.W.readsIn K (He.ga K C) (.type "type") && He.eqO (PySem.W.specialIn K (.ref (He.ga K C)) "__getattribute__") (some (some (.builtin "type.__getattribute__")))
theorem crB_ok {C : Str} {K : Frag} (h : crB C K = true) : ClX.CRead K (He.ga K C) (.type "type") := by
  obtain ⟨h1, h2⟩ := He.ba h
  exact ⟨h1, He.eqO_ok h2⟩
/-- an instance's own type is its class -/
def insB (C : Str) (K : Frag) : Bool :=
  He.eqO (PySem.W.findIn K (.ref (He.ga K C)) "__class__") (some (some (.builtin "object.__class__"))) &&
  (He.eqO (PySem.W.specialIn K (.builtin "object.__class__") "__get__") (some (some (.builtin "getset_descriptor.__get__"))) &&
  (decide (PySem.W.takesIn K (.builtin "object.__class__") = some true) && decide (PySem.W.mroIn K (He.ga K C) (.type "object") = some true)))
theorem insB_ok {C : Str} {K : Frag} (h : insB C K = true) (cl : Cls K (He.ga K C)) {H : Hp} {a dx : Addr} {fs : List (Str × V)} (e : H a = some (.ins (He.ga K C) dx fs)) : TyOf K H (.ref a) (.ref (He.ga K C)) := by
  obtain ⟨h1, h⟩ := He.ba h
  obtain ⟨h2, h⟩ := He.ba h
  obtain ⟨h3, h4⟩ := He.ba h
  exact .ins e cl (He.eqO_ok h1) (He.eqO_ok h2) (of_decide_eq_true h3) (of_decide_eq_true h4)
/-- isinstance of an instance of C by the class D -/
def isaB (C D : Str) (b : Bool) (K : Frag) : Bool := decide (PySem.W.kitOne K (.ref (He.ga K C)) (.ref (He.ga K D)) = some b)
/-! ## a property of an own class, read; its getter by MOk -/
section
variable {X : Cx} {k : Nat} {C : Str} {f : Str} {ps : List Str} {sp : Sp} {E : XK} {pos : Pos} {e : Expr} {ta : TE}
theorem pe_propM (he : PE X e ta) (c : Cls X.K (He.ga X.K C)) (hp : PropOf X.K (He.ga X.K C) f (He.ma X.K (He.ga X.K C) f) (He5.wf X.K (He.ga X.K C) "property" f))
    (F : MOk X.prog X.w X.K X.mg X.base k (He5.wf X.K (He.ga X.K C) "property" f) ps sp) (hr : Room (k + 1) X.A)
    (hab : attributeBase e f X.env (eval e X.env) = eval e X.env := by rfl) : PE X (.Attribute e f pos) (tProp (He.ga X.K C) sp [] E0 ta) := by
  obtain ⟨⟨fd, F, b, _⟩, kp⟩ := F
  exact pe_prop he c hp F hr b .nil passL hab
end
/-! ## towns -/
structure TownD where
  slots : Int
  stands : List (Str × Int)
  roads : List (Str × Str × Int)
def TownD.names (t : TownD) : List Str := t.stands.map (·.1)
structure TownD.Ok (t : TownD) : Prop where
  s1 : 1 ≤ t.slots
  s2 : t.slots ≤ 8
  st : StOk t.stands
  rd : RdOk t.names t.roads
def encN (l : List Str) : PyData := .tuple (l.map .str)
def tfl (s st rd nm : V) : List (Str × V) := putF "_names" nm (putF "_roads" rd (putF "_stands" st (putF "_slots" s [])))
theorem tfl_slots {s st rd nm : V} : (tfl s st rd nm).lookup ("_slots" : Str) = some s := by
  unfold tfl
  rw [lookup_putF, if_neg (by decide +kernel), lookup_putF, if_neg (by decide +kernel), lookup_putF, if_neg (by decide +kernel), lookup_putF, if_pos rfl]
theorem tfl_stands {s st rd nm : V} : (tfl s st rd nm).lookup ("_stands" : Str) = some st := by
  unfold tfl
  rw [lookup_putF, if_neg (by decide +kernel), lookup_putF, if_neg (by decide +kernel), lookup_putF, if_pos rfl]
theorem tfl_roads {s st rd nm : V} : (tfl s st rd nm).lookup ("_roads" : Str) = some rd := by
  unfold tfl
  rw [lookup_putF, if_neg (by decide +kernel), lookup_putF, if_pos rfl]
theorem tfl_names {s st rd nm : V} : (tfl s st rd nm).lookup ("_names" : Str) = some nm := by
  unfold tfl
  rw [lookup_putF, if_pos rfl]
structure TownAt (K : Frag) (H : Hp) (p : Addr) (t : TownD) : Prop where
  ob : ∃ dx vs vr vn, H p = some (.ins (He.ga K "Town") dx (tfl (.int t.slots) vs vr vn)) ∧ Dp K H vs (encSs t.stands) ∧ Dp K H vr (encRs t.roads) ∧ Dp K H vn (encN t.names)
theorem TownAt.same {K : Frag} {H H' : Hp} {p : Addr} {t : TownD} (h : TownAt K H p t) (e : Same H H') : TownAt K H' p t := by
  obtain ⟨dx, vs, vr, vn, h1, h2, h3, h4⟩ := h.ob
  exact ⟨dx, vs, vr, vn, e _ _ h1, dpS e h2, dpS e h3, dpS e h4⟩
end Bk
set_option Elab.async false
set_option linter.all false
set_option maxRecDepth 100000
set_option maxHeartbeats 4000000
namespace Bk
open PySem PySem.Spec PyProof.Rows L2
open PySem.W (Frag)
/-! ## data that may be compared and shown -/
theorem canAll {ds : List PyData} (h : ∀ d ∈ ds, d.canLay0 = true) : PyData.canLayAll0 ds = true := by
  induction ds with
  | nil => rfl
  | cons d ds ih =>
    show (d.canLay0 && PyData.canLayAll0 ds) = true
    rw [h d List.mem_cons_self, ih fun e he => h e (List.mem_cons_of_mem _ he)]
    rfl
theorem depAll {ds : List PyData} {n : Nat} (h : ∀ d ∈ ds, d.depth ≤ n) : PyData.depthAll ds ≤ n := by
  induction ds with
  | nil => exact Nat.zero_le _
  | cons d ds ih =>
    show max d.depth (PyData.depthAll ds) ≤ n
    exact Nat.max_le.mpr ⟨h d List.mem_cons_self, ih fun e he => h e (List.mem_cons_of_mem _ he)⟩
/-- deep at most n, and may be laid -/
def Sh (n : Nat) (d : PyData) : Prop := d.canLay0 = true ∧ d.depth ≤ n
theorem Sh.shaped {n : Nat} {d : PyData} (h : Sh n d) (hn : n ≤ 64 := by decide) : SeqAt.shaped d = true := by
  unfold SeqAt.shaped
  rw [h.1, decide_eq_true (Nat.le_trans h.2 hn)]
  rfl
theorem Sh.list {n : Nat} {ds : List PyData} (h : ∀ d ∈ ds, Sh n d) : Sh (n + 1) (.list ds) :=
  ⟨canAll fun d hd => (h d hd).1, Nat.succ_le_succ (depAll fun d hd => (h d hd).2)⟩
theorem Sh.tup {n : Nat} {ds : List PyData} (h : ∀ d ∈ ds, Sh n d) : Sh (n + 1) (.tuple ds) :=
  ⟨canAll fun d hd => (h d hd).1, Nat.succ_le_succ (depAll fun d hd => (h d hd).2)⟩
theorem Sh.int {n : Nat} {i : Int} : Sh n (.int i) := ⟨rfl, Nat.zero_le _⟩
theorem Sh.non {n : Nat} : Sh n .none := ⟨rfl, Nat.zero_le _⟩
theorem Sh.bl {n : Nat} {b : Bool} : Sh n (.bool b) := ⟨rfl, Nat.zero_le _⟩
theorem Sh.str {n : Nat} {x : Str} (h : PyData.strOk x = true) : Sh n (.str x) := ⟨h, Nat.zero_le _⟩
theorem name_ok {x : Str} (h : nameOk x = true) : PyData.strOk x = true := by
  have h1 : ∀ c ∈ x.cps.toList, letter c = true := by
    unfold nameOk at h
    rw [Bool.and_eq_true] at h
    exact List.all_eq_true.mp h.2
  show (x.cps.all fun c => decide (c < 0x110000)) = true
  rw [← Array.all_toList, List.all_eq_true]
  intro c hc
  have := h1 c hc
  unfold letter at this
  simp only [Bool.and_eq_true, decide_eq_true_eq] at this ⊢
  omega
def encP (p : Str × Str) : PyData := .tuple [.str p.1, .str p.2]
def encPr (r : Str × Str × Int) : PyData := encP (r.1, r.2.1)
theorem eqv_pair {p q : Str × Str} : PyData.eqv (encP p) (encP q) = decide (p = q) := by
  show (p.1 == q.1 && (p.2 == q.2 && true)) = decide (p = q)
  rw [Bool.eq_iff_iff]
  simp only [Bool.and_true, Bool.and_eq_true, beq_iff_eq, decide_eq_true_eq]
  exact ⟨fun h => Prod.ext h.1 h.2, fun h => by rw [h]; exact ⟨rfl, rfl⟩⟩
theorem sh_pair {p : Str × Str} (h1 : PyData.strOk p.1 = true) (h2 : PyData.strOk p.2 = true) : Sh 1 (encP p) := Sh.tup fun d hd => by
  rcases List.mem_cons.mp hd with z | z
  · rw [z]; exact Sh.str h1
  · rcases List.mem_cons.mp z with z | z
    · rw [z]; exact Sh.str h2
    · cases z
end Bk
set_option Elab.async false
set_option linter.all false
set_option maxRecDepth 100000
set_option maxHeartbeats 4000000
namespace Bk
open PySem PySem.Spec PyProof.Rows L2
open PySem.W (Frag)
/-! ## the text of a town -/
abbrev num (z : Int) : Str := Str.ofString (toString z)
theorem num_small : ∀ n : Fin 41, (num ((n.val : Nat) : Int)).length ≤ 2 ∧ numberOf (num ((n.val : Nat) : Int)) = some ((n.val : Nat) : Int) ∧ ((num ((n.val : Nat) : Int)).cps.toList.all digit) = true := by decide +kernel
theorem num_le {z : Int} (h0 : 0 ≤ z) (h1 : z ≤ 40) : (num z).length ≤ 2 ∧ numberOf (num z) = some z ∧ (num z).cps.toList.all digit = true := by
  have e : ((z.toNat : Nat) : Int) = z := by omega
  have := num_small ⟨z.toNat, by omega⟩
  rw [← e]
  exact this
theorem log2_small {z : Int} (h0 : 0 ≤ z) (h1 : z ≤ 9999) : z.natAbs.log2 < 1920 := by
  have h : z.natAbs < 2 ^ 14 := by omega
  by_cases hz : z.natAbs = 0
  · rw [hz]; decide
  · have := (Nat.log2_lt hz).mpr h
    omega
theorem empty_app (x : Str) : Str.empty ++ x = x := by
  apply Str.ext'
  show #[] ++ x.cps = x.cps
  simp
def slotsLine (s : Int) : Str := "slots " ++ num s
def standLine (s : Str × Int) : Str := "stand " ++ s.1 ++ " " ++ num s.2
def roadLine (r : Str × Str × Int) : Str := "road " ++ r.1 ++ " " ++ r.2.1 ++ " " ++ num r.2.2
def linesOf (t : TownD) : List Str := [slotsLine t.slots] ++ t.stands.map standLine ++ t.roads.map roadLine
theorem len_app (x y : Str) : (x ++ y).length = x.length + y.length := Str.length_append x y
def tJoin (ts : List TE) : TE := fun σ H Q => tJs ts Str.empty σ H fun out H1 => Q (.str out) H1
theorem pe_joinN {X : Cx} {v1 v2 : Expr} {rest : List Expr} {ts : List TE} {pos : Pos} (h : PJ X (v1 :: v2 :: rest) ts) : PE X (.JoinedStr (v1 :: v2 :: rest) pos) (tJoin ts) := pe_joined h
end Bk
set_option Elab.async false
set_option linter.all false
set_option maxRecDepth 100000
set_option maxHeartbeats 4000000
namespace Bk
open PySem PySem.Spec PyProof.Rows L2
open PySem.W (Frag)
/-! ## a def run where the caller stands deeper in the machine -/
section
variable {X : Cx} {CX : CXT} {k : Nat} {f C : Addr} {fd : FuncData} {ps : List Str} {sp : Sp} {E : XK} {pins : List (Addr × Obj)} {σ : L2.St} {H : Hp} {s : Shared} {Q : VK}
theorem run_fnAt {A' : Around} {us : List Value} {vs : List V} (F : FnOk X.prog X.w X.K X.mg X.base CX k f fd ps sp) (hr : Room k A') (e0 : Env0 X.prog X.w X.K X.mg X.base A' X.stack s H) (hb : Binds X.K fd ps [])
    (hx : Passes CX X E) (I : Inv X pins σ H s) (r : Vals vs us) (h : sp vs H Q E) : wpAny (model X.prog X.w) A' (call (.ref f) us) (EP X pins σ Q) X.xe s := by
  have hl : us.length = ps.length := r.length ▸ F.len _ _ _ _ h
  have bt := hb s us I.kIn (by rw [List.append_nil]; exact hl)
  rw [List.append_nil] at bt
  refine wpAny_call (codeAny_mono (F.run A' X.stack s H ⟨us, []⟩ us vs Q E hr e0 bt r h) ?_)
  intro rr s' hq
  match rr, hq with
  | .error e, hq => exact hx pins σ H s e s' I hq
  | .ok (.ret u), hq => exact I.after hq
  | .ok .next, hq => exact hq.elim
  | .ok .brk, hq => exact hq.elim
  | .ok .cont, hq => exact hq.elim
/-! ## str(x) by an own __str__ -/
def rStrOwn (C : Addr) (sp : Sp) (E : XK) : List V → Hp → VK → Prop := fun xs H Q => ∃ a dx fs, xs = [V.ref a] ∧ H a = some (.ins C dx fs) ∧ sp [.ref a] H (fun z H' => ∃ y, z = .str y ∧ Q z H') E
theorem call_strOwn (hm : Meth X.K C "__str__" f) (F : MOk X.prog X.w X.K X.mg X.base k f ps sp) (hr : Room (k + 2) X.A) (hx : Passes (L2.CX X.prog X.w) X E) : CallR X (.type "str") (rStrOwn C sp E) := by
  intro pins s σ H xs us Q I r h
  obtain ⟨a, dx, fs, rfl, ha, q⟩ := h
  obtain ⟨u, rfl, ru⟩ := r.one
  cases (show u = Value.ref a from ru)
  obtain ⟨⟨fd, F, b, _⟩, _⟩ := F
  obtain ⟨mA, O, _⟩ := ins_get I.hok ha
  obtain ⟨od, J, _⟩ := O.look
  have hr2 : Room k X.A.in1.in1 := (show Room (k + 1) X.A.in1 from Room.in1 hr).in1
  refine PySem.W.kso_call hr2.units0 I.kIn J hm.at_ hm.fn ?_
  refine wpAny_mono (run_fnAt (us := [.ref a]) (vs := [.ref a]) F hr2 I.env0.in1.in1 b hx I (.cons rfl .nil) q) ?_ (fun _ _ x => x)
  rintro w s' ⟨z, H', I', rz, y, rfl, qz⟩
  obtain ⟨t, rfl⟩ := rz
  exact ⟨.str y, H', I', ⟨t, rfl⟩, qz⟩
/-! ## x == y, x != y by an own __eq__ -/
def rEqOwn (K : Frag) (C : Addr) (sp : Sp) (E : XK) : R2 := fun x y H Q => ∃ a dx fs t, x = V.ref a ∧ H a = some (.ins C dx fs) ∧ TyX K H y t ∧ PySem.W.notFirst K C t = true ∧ sp [x, y] H (fun z H' => ∃ c, z = .bl c ∧ Q (.bl c) H') E
def rNeOwn (K : Frag) (C : Addr) (sp : Sp) (E : XK) : R2 := fun x y H Q => ∃ a dx fs t, x = V.ref a ∧ H a = some (.ins C dx fs) ∧ TyX K H y t ∧ PySem.W.notFirst K C t = true ∧ sp [x, y] H (fun z H' => ∃ c, z = .bl c ∧ Q (.bl (!c)) H') E
theorem op_eqOwn (hm : Meth X.K C "__eq__" f) (F : MOk X.prog X.w X.K X.mg X.base k f ps sp) (hr : Room k X.A) (hx : Passes (L2.CX X.prog X.w) X E) : OpR X (compareOp .Eq) (rEqOwn X.K C sp E) := by
  intro pins s σ H x y v u Q I rx ry h
  obtain ⟨a, dx, fs, t, rfl, ha, ty, hn, q⟩ := h
  cases (show v = Value.ref a from rx)
  obtain ⟨⟨fd, F, b, _⟩, _⟩ := F
  obtain ⟨mA, O, _⟩ := ins_get I.hok ha
  obtain ⟨od, J, _⟩ := O.look
  obtain ⟨P, Z, p, _⟩ := kit_of I ry ty
  obtain ⟨m, hF⟩ := I.fr
  show wpAny _ _ (richCompare .Eq _ _) _ _ _
  refine PySem.W.cmp_K (op := .Eq) hr.units0 hF I.ok.mod.kin J (Z.ty _ _ I.kIn p) hn hm.at_ hm.fn ?_
  refine wpAny_mono (run_fnAt (us := [.ref a, u]) (vs := [.ref a, y]) F hr I.env0 b hx I (.cons rfl (.cons ry .nil)) q) ?_ (fun _ _ x => x)
  rintro w s' ⟨z, H', I', rz, c, rfl, qz⟩
  cases (show w = Value.bool c from rz)
  exact ⟨.bl c, H', I', rfl, qz⟩
end
section
open PySem.W
variable {prog : Program} {w : World} {A : Around} {E : Value → Shared → Prop} {s : Shared} {K : Frag} {x C L f : Addr} {h₀ : Heap} {m : Str → Option Value} {ox : Obj} {od : Option Obj} {name : Str} {b tb : Value}
theorem ifBound_B {M : Model} {args : List Value} {id : String} {Q : Option Value → Shared → Prop} (X : K.In s.heap) (I : InstAt s.heap x ox C od) (hs : findIn K (.ref C) name = some (some (.builtin id)))
    (S : ∀ self, bindSpecial (.builtin id) self = pure (.builtin id, [self]))
    (h : wpAny M A (call (.builtin id) (.ref x :: args)) (fun v => Q (some v)) E s) : wpAny M A (callSpecialIfBound? (.ref x) name args) Q E s := by
  simp only [callSpecialIfBound?, bindSpecialIfBound?]
  refine wpAny_holding (wpAny_bind (wpAny_bind (wpAny_bind (I.type.here ((looks_findIn X hs).here ?_)))))
  refine wpAny_bind (wpAny_askSetting (wpAny_ite ?_))
  have fin : wpAny M A (call (.builtin id) ([.ref x] ++ args) >>= fun v => pure (some v)) Q E s :=
    wpAny_bind (wpAny_mono h (fun v s' h' => wpAny_pure h') fun _ _ h' => h')
  split
  · exact wpAny_bind (wpAny_of_eq (S _) (wpAny_pure fin))
  · exact wpAny_tryCatch (wpAny_bind (wpAny_of_eq (S _) (wpAny_pure fin)))
theorem ne_entry {Q : Fin → Shared → Prop} (hu : A.units < cLine) (X : K.In s.heap) (I : InstAt s.heap x ox C od) (hs : findIn K (.ref C) "__eq__" = some (some (.ref f))) (hf : isFn K (.ref f) = true)
    (h : wpAny (model prog w) A (call (.ref f) [.ref x, b]) (fun v s' => ∃ c, v = .bool c ∧ Q (.done (.ret (.bool (!c)))) s') E s) :
    wpAny (model prog w) A (Builtin.«object.__ne__» ⟨[.ref x, b], []⟩) Q E s := by
  unfold Builtin.«object.__ne__»
  repeat (first
    | with_reducible refine wpAny_cRoomFor hu ?_
    | (refine wpAny_bind (m := callSpecialIfBound? (.ref x) (Str.ofString "__eq__") [b]) (ifBound_K X I hs hf (wpAny_mono h (fun r s' hr => by
          obtain ⟨c, rfl, hq⟩ := hr
          repeat (first | exact hq | exact wpAny_pure hq | exact wpAny_truthy_bool hq | (refine wpAny_bind (m := truthy (.bool _)) (wpAny_truthy_bool ?_)) | wp_step)) fun _ _ e => e)))
    | wp_step)
theorem ne_K {Q : Value → Shared → Prop} (hu : A.units + 1 < cLine) (X : K.In s.heap) (I : InstAt s.heap x ox C od) (hb : Looks (model prog w) s.heap (typeOf b) tb) (hn : notFirst K C tb = true)
    (hne : findIn K (.ref C) "__ne__" = some (some (.builtin "object.__ne__"))) (hs : findIn K (.ref C) "__eq__" = some (some (.ref f))) (hf : isFn K (.ref f) = true) (hmo : mroIn K C (.type "object") = some true)
    (h : wpAny (model prog w) A.in1 (call (.ref f) [.ref x, b]) (fun v s' => ∃ c, v = .bool c ∧ Q (.bool (!c)) s') E s) : wpAny (model prog w) A (richCompare .NotEq (.ref x) b) Q E s := by
  have sub : Looks (model prog w) s.heap (isInstance (.ref x) (.type "object")) true := I.type.andThen (looks_mroIn X hmo)
  have one : wpAny (model prog w) A (tryCompare (.ref x) "__ne__" b) (fun r s' => ∃ v, r = some v ∧ Q v s') E s := by
    unfold tryCompare
    refine wpAny_bind (ifBound_B X I hne F.cmp_object.ne.bind ?_)
    refine wpAny_call (codeAny_call_builtin F.cmp_object.ne.plain F.cmpEntry_ne (check_slot F.cmpKind_ne F.cmpSplit_ne sub (F.cmpArgs_ne _ _) ?_))
    refine ne_entry (A := A.in1) hu X I hs hf (wpAny_mono h (fun v s' hv => ?_) fun _ _ e => e)
    obtain ⟨c, rfl, hq⟩ := hv
    exact ⟨c, rfl, wpAny_pure ⟨_, rfl, hq⟩⟩
  unfold richCompare
  simp only [oneThing_ref]
  refine wpAny_holding (wpAny_bind (wpAny_cRoomFor (Nat.lt_of_succ_lt hu) ?_))
  refine wpAny_bind (I.type.here (wpAny_bind (hb.here ?_)))
  split
  · rename_i q
    have e : subIn K tb (.ref C) = some false := by
      rcases Bool.or_eq_true_iff.mp hn with e | e
      · rw [beq_iff_eq.mp e] at q; simp at q
      · exact beq_iff_eq.mp e
    refine wpAny_bind ((looks_subIn X e).here ?_)
    simp only [Bool.false_eq_true, if_false]
    refine wpAny_bind (wpAny_mono one (fun r s' z => ?_) fun _ _ e => e)
    obtain ⟨v, rfl, hq⟩ := z
    exact wpAny_pure hq
  · refine wpAny_bind (wpAny_pure ?_)
    simp only [Bool.false_eq_true, if_false]
    refine wpAny_bind (wpAny_mono one (fun r s' z => ?_) fun _ _ e => e)
    obtain ⟨v, rfl, hq⟩ := z
    exact wpAny_pure hq
end
section
variable {X : Cx} {k : Nat} {f C : Addr} {ps : List Str} {sp : Sp} {E : XK}
theorem op_neOwn (hm : Meth X.K C "__eq__" f) (hne : PySem.W.findIn X.K (.ref C) "__ne__" = some (some (.builtin "object.__ne__"))) (hmo : PySem.W.mroIn X.K C (.type "object") = some true)
    (F : MOk X.prog X.w X.K X.mg X.base k f ps sp) (hr : Room (k + 1) X.A) (hx : Passes (L2.CX X.prog X.w) X E) : OpR X (compareOp .NotEq) (rNeOwn X.K C sp E) := by
  intro pins s σ H x y v u Q I rx ry h
  obtain ⟨a, dx, fs, t, rfl, ha, ty, hn, q⟩ := h
  cases (show v = Value.ref a from rx)
  obtain ⟨⟨fd, F, b, _⟩, _⟩ := F
  obtain ⟨mA, O, _⟩ := ins_get I.hok ha
  obtain ⟨od, J, _⟩ := O.look
  obtain ⟨P, Z, p, _⟩ := kit_of I ry ty
  show wpAny _ _ (richCompare .NotEq _ _) _ _ _
  refine ne_K (by have := hr.un; omega) I.kIn J (Z.ty _ _ I.kIn p) hn hne hm.at_ hm.fn hmo ?_
  refine wpAny_mono (run_fnAt (us := [.ref a, u]) (vs := [.ref a, y]) F hr.in1 I.env0.in1 b hx I (.cons rfl (.cons ry .nil)) q) ?_ (fun _ _ x => x)
  rintro w s' ⟨z, H', I', rz, c, rfl, qz⟩
  cases (show w = Value.bool c from rz)
  exact ⟨c, rfl, .bl (!c), H', I', rfl, qz⟩
end
end Bk
set_option Elab.async false
set_option linter.all false
set_option maxRecDepth 100000
set_option maxHeartbeats 4000000
namespace Bk
open PySem PySem.Spec PyProof.Rows L2
open PySem.W (Frag)
section
variable {X : Cx} {k i : Nat} {f C g p : Addr} {x m : Str} {ps : List Str} {sp : Sp} {E : XK} {pp pos apos kpos : Pos} {e o : Expr} {es : List Expr} {t : TA} {ta te : TE}
/-- C(e, ..), C the module's name of a class -/
theorem pe_makeM (M : Mk X.K C f) (F : MOk X.prog X.w X.K X.mg X.base k f ps sp) (hr : Room (k + 1) X.A) (hg : Gl X x) (hm : X.mg x = some (.ref C)) (hx : Passes (L2.CX X.prog X.w) X E)
    (ha : PA X (e :: es) t) (hdb : (x == ("__debug__" : Str)) = false := by decide) (he : starEach (e :: es) X.env = (false, eval e X.env) :: starEach es X.env := by rfl)
    (hpl : (backTo pos (starEach es X.env)).any (·.1) = false := by rfl) : PE X (.Call (.Name x pp) (e :: es) [] pos) (tMake C sp [] E t) := by
  obtain ⟨⟨fd, F, b, _⟩, _⟩ := F
  exact pe_make M F hr hg hm b .nil hx ha hdb he hpl
/-- c(e, ..), c a local name that holds the class -/
def tMakeL (i : Nat) (C : Addr) (sp : Sp) (E : XK) (t : TA) : TE := fun σ H Q => σ[i]? = some (some (.ref C)) ∧ tMake C sp [] E t σ H Q
theorem pe_makeL (M : Mk X.K C f) (F : MOk X.prog X.w X.K X.mg X.base k f ps sp) (hr : Room (k + 1) X.A) (hN : X.N[i]? = some x) (hv : Vis X.env.scope x) (hx : Passes (L2.CX X.prog X.w) X E)
    (ha : PA X (e :: es) t) (hdb : (x == ("__debug__" : Str)) = false := by decide) (hcd : (x == ("__classdict__" : Str)) = false := by decide)
    (he : starEach (e :: es) X.env = (false, eval e X.env) :: starEach es X.env := by rfl)
    (hpl : (backTo pos (starEach es X.env)).any (·.1) = false := by rfl) : PE X (.Call (.Name x pp) (e :: es) [] pos) (tMakeL i C sp E t) := by
  obtain ⟨⟨fd, F, b, _⟩, _⟩ := F
  refine ⟨fun pins s σ H Q I h => ?_⟩
  obtain ⟨hs, ht⟩ := h
  refine wpAny_Call_Name_kw (thn ((pe_var (pos := pp) hN hv hdb hcd).run pins s σ H (fun v H1 => v = .ref C ∧ H1 = H) I ⟨.ref C, hs, rfl, rfl⟩) ?_)
  rintro u s1 ⟨v, H1, I1, r1, rfl, rfl⟩
  cases r1
  refine PySem.W.callWith_K (h₀ := X.base) I.ok.mod.kin M.kp (thn (ha.run pos pins s1 σ _ _ I1 ht) ?_) he hpl
  rintro us s2 ⟨vs, H2, I2, r, q⟩
  exact ⟨I2.kIn, run_make M F hr b .nil hx I2 r q⟩
/-- C.m(e, ..), m a classmethod -/
theorem pe_cmM (he : PE X o ta) (r : ClX.CRead X.K C (.type "type")) (c : ClX.CMet X.K C (.type "type") m p g) (F : MOk X.prog X.w X.K X.mg X.base k g ps sp) (hr : Room k X.A) (hx : Passes (L2.CX X.prog X.w) X E) (ha : PA X (e :: es) t) {pl : Sem Bool}
    (hst : starEach (e :: es) X.env = (false, eval e X.env) :: starEach es X.env := by rfl) (hpl : (backTo pos (starEach es X.env)).any (·.1) = false := by rfl)
    (ht : eval (.Call (.Attribute o m apos) (e :: es) [] pos) X.env = (do
      let ov ← eval o X.env
      standAt apos.atName
      let (f, first) ← holding [ov] (getMethod ov m pl)
      callWith pos f first (backTo pos (starEach (e :: es) X.env)) (backToKw pos (keywordEach [] X.env))) := by rfl) :
    PE X (.Call (.Attribute o m apos) (e :: es) [] pos) (ClX.tCMeth C sp E ta t) := by
  obtain ⟨⟨fd, F, b, _⟩, _⟩ := F
  have F' := (FnOk.raw (dvs := []) F b .nil).imp (sp' := sp) (fun vs H Q E h => by rw [List.append_nil]; exact h)
  exact ClX.pe_cmeth he r c F' hr hx ha hst hpl ht
/-- C.m(k=e) -/
def tCMethK (C : Addr) (sp : Sp) (E : XK) (ta te : TE) : TE := fun σ H Q => ta σ H fun x H1 => x = .ref C ∧ te σ H1 fun v H2 => sp [.ref C, v] H2 Q E
theorem pe_cmK {kn : Str} {params : Arguments} {body : List Stmt} {scope : Scope} {nx nq c0 : Str} {kws : List (Str × V)} (he : PE X o ta) (r : ClX.CRead X.K C (.type "type")) (c : ClX.CMet X.K C (.type "type") m p g)
    (F : MOk X.prog X.w X.K X.mg X.base k g [c0, kn] sp) (FD : ∃ fd, FunD X.K nx nq params body scope [] kws g fd)
    (hbk : ∀ (kV doc pm : Value) (an : Option Addr) (cdv ct : Value) (u v : Value), bindArgs (PySem.W.fnOf nx nq params body scope .none kV doc pm an cdv ct) ⟨[u], [(kn, v)]⟩ = pure [(c0, u), (kn, v)])
    (hr : Room k X.A) (hx : Passes (L2.CX X.prog X.w) X E) (ha : PE X e te) {pl : Sem Bool}
    (ht : eval (.Call (.Attribute o m apos) [] [⟨some kn, e, kpos⟩] pos) X.env = (do
      let ov ← eval o X.env
      standAt apos.atName
      let (f, first) ← holding [ov] (getMethod ov m pl)
      callWith pos f first (backTo pos (starEach [] X.env)) (backToKw pos (keywordEach [⟨some kn, e, kpos⟩] X.env))) := by rfl) :
    PE X (.Call (.Attribute o m apos) [] [⟨some kn, e, kpos⟩] pos) (tCMethK C sp E ta te) := by
  obtain ⟨⟨fd, F, b, oc, od, osl, lk⟩, _⟩ := F
  obtain ⟨fd2, FD⟩ := FD
  obtain ⟨oc2, od2, dV, kV, doc, pm, an, cdv, ct, osl2, e2, lk2, _, hD, _⟩ := FD.ex
  have edV : dV = .none := by
    rcases hD with ⟨_, z⟩ | ⟨z, _⟩
    · exact z
    · exact absurd rfl z
  subst edV
  have efd : fd = fd2 := by
    rw [lk] at lk2
    cases lk2
    rfl
  subst efd
  refine ⟨fun pins s σ H Q I h => ?_⟩
  refine PySem.W.methodCall_KW (pl := pl) (thn (he.run pins s σ H _ I h) ?_) ht
  rintro u s1 ⟨x, H1, I1, rx, ex, q⟩
  subst ex
  obtain rfl : u = Value.ref C := rx
  refine ClX.getmethcm_ok I1 r c fun s2 I2 => ?_
  have hk := pk_cons (X := X) (nm := some kn) (kpos := kpos) ha pk_nil
  refine PySem.W.callWith_of (P := PySem.W.MethP X.K s1.heap.objs.size g (.ref C)) (first := []) rfl (PySem.W.keeps_M c.fi) ?_
  refine evalArgs_kw2_nil (by rfl) (thn (hk.run pos _ s2 σ H1 (fun vs H2 => sp (.ref C :: vs) H2 Q E) I2 q) ?_)
  rintro ws s3 ⟨vs, H2, I3, rv, q2⟩
  refine ⟨⟨ClX.pin_at I3, I3.kIn⟩, ?_⟩
  have hl := F.len _ _ _ _ q2
  obtain ⟨v, rfl⟩ : ∃ v, vs = [v] := by
    match vs, hl with
    | [v], _ => exact ⟨v, rfl⟩
  obtain ⟨u, rfl, ru⟩ := rv.one
  have bt : BindsTo s3 fd ⟨[.ref C, ], [(kn, u)]⟩ ([c0, kn].zip [.ref C, u]) := by
    rw [e2]
    exact .of_eq (hbk kV doc pm an cdv ct (.ref C) u)
  have z : wpAny (model X.prog X.w) X.A (call (.ref s1.heap.objs.size) [] [(kn, u)]) (EP X ((s1.heap.objs.size, PySem.W.methodObj (.ref g) (.ref C)) :: pins) σ Q) X.xe s3 := by
    refine wpAny_call (PySem.W.method_call (ClX.pin_at I3) (codeAny_mono (F.run X.A X.stack s3 H2 ⟨[.ref C], [(kn, u)]⟩ [.ref C, u] [.ref C, v] Q E hr I3.env0 bt (.cons rfl (.cons ru .nil)) q2) ?_))
    intro rr s' hq
    match rr, hq with
    | .error e, hq => exact hx _ σ _ s3 e s' I3 hq
    | .ok (.ret u), hq => exact I3.after hq
    | .ok .next, hq => exact hq.elim
    | .ok .brk, hq => exact hq.elim
    | .ok .cont, hq => exact hq.elim
  exact thn z fun _ _ y => ClX.unpinE y
end
end Bk
set_option Elab.async false
set_option linter.all false
set_option maxRecDepth 100000
set_option maxHeartbeats 4000000
namespace Bk
open PySem PySem.Spec PyProof.Rows L2
open PySem.W (Frag)
/-- what stands there is no tuple -/
def NoTup (H : Hp) (D : Addr) : Prop := (∀ xs, H D ≠ some (.tup xs)) ∧ ∀ o xs, H D ≠ some (.frz o (.tup xs))
theorem noTup_ins {H : Hp} {D C dx : Addr} {fs : List (Str × V)} (h : H D = some (.ins C dx fs)) : NoTup H D := ⟨fun _ z => (by rw [h] at z; cases z), fun _ _ z => (by rw [h] at z; cases z)⟩
theorem noTup_lst {H : Hp} {D : Addr} {xs : List V} (h : H D = some (.lst xs)) : NoTup H D := ⟨fun _ z => (by rw [h] at z; cases z), fun _ _ z => (by rw [h] at z; cases z)⟩
theorem sqtV {K : Frag} {H : Hp} {D a : Addr} {o : HO} {xs : List V} (hD : NoTup H D) (h : SqT K H a xs) : SqT K (upd H D o) a xs := by
  rcases h with (h | ⟨o', h⟩) | h
  · exact .inl (.inl (by rw [upd_ne (fun z => hD.1 _ (by rw [← z]; exact h))]; exact h))
  · exact .inl (.inr ⟨o', by rw [upd_ne (fun z => hD.2 _ _ (by rw [← z]; exact h))]; exact h⟩)
  · exact .inr h
mutual
theorem dpV {K : Frag} {H : Hp} {D : Addr} {o : HO} (hD : NoTup H D) : ∀ {d : PyData} {v : V}, noL d = true → Dp K H v d → Dp K (upd H D o) v d
  | .none, _, _, h => by cases h; exact .non
  | .bool _, _, _, h => by cases h; exact .bl _
  | .int _, _, _, h => by cases h; exact .int _
  | .str _, _, _, h => by cases h; exact .str _
  | .list ds, _, n, _ => by cases n
  | .tuple ds, _, n, h => by
    cases h with
    | tup h1 h2 => exact .tup (sqtV hD h1) (dpsV hD n h2)
  | .dict _, _, n, _ => by cases n
theorem dpsV {K : Frag} {H : Hp} {D : Addr} {o : HO} (hD : NoTup H D) : ∀ {ds : List PyData} {vs : List V}, noLs ds = true → DpAll K H vs ds → DpAll K (upd H D o) vs ds
  | [], _, _, h => by cases h; exact .nil
  | d :: ds, _, n, h => by
    have n' : (noL d && noLs ds) = true := n
    rw [Bool.and_eq_true] at n'
    cases h with
    | cons h1 h2 => exact .cons (dpV hD n'.1 h1) (dpsV hD n'.2 h2)
end
theorem noL_S (l : List (Str × Int)) : noL (encSs l) = true := noLs_of fun d hd => by
  obtain ⟨s, _, rfl⟩ := List.mem_map.mp hd
  rfl
theorem noL_R (l : List (Str × Str × Int)) : noL (encRs l) = true := noLs_of fun d hd => by
  obtain ⟨s, _, rfl⟩ := List.mem_map.mp hd
  rfl
theorem noL_N (l : List Str) : noL (encN l) = true := noLs_of fun d hd => by
  obtain ⟨s, _, rfl⟩ := List.mem_map.mp hd
  rfl
/-- all but what stands at p is as it was -/
def But (p : Addr) (H H' : Hp) : Prop := ∀ b o, H b = some o → b ≠ p → H' b = some o
theorem tfl_putN (s st rd nm nm' : V) : putF "_names" nm (putF "_roads" rd (putF "_stands" st (putF "_slots" s []))) = tfl s st rd nm := rfl
end Bk
set_option Elab.async false
set_option linter.all false
set_option maxRecDepth 100000
set_option maxHeartbeats 4000000
namespace Bk
open PySem PySem.Spec PyProof.Rows L2 PySem.NumText
open PySem.W (Frag)
def townText (t : TownD) : Str := Txt.join "\n" (linesOf t)
/-! ## parts of a text -/
theorem join_part {y : Str} : ∀ {parts : List Str} {p : Str}, p ∈ parts → p.length ≤ (Str.join y parts).length
  | [q], p, h => by
    rw [List.mem_singleton.mp h]
    exact Nat.le_refl _
  | a :: b :: r, p, h => by
    have e : Str.join y (a :: b :: r) = a ++ y ++ Str.join y (b :: r) := rfl
    rw [e, len_app, len_app]
    rcases List.mem_cons.mp h with z | z
    · rw [z]; omega
    · have := join_part (y := y) z
      omega
theorem join_many {y : Str} (hy : 1 ≤ y.length) : ∀ {parts : List Str}, parts.length ≤ (Str.join y parts).length + 1
  | [] => Nat.zero_le _
  | [q] => Nat.succ_le_succ (Nat.zero_le _)
  | a :: b :: r => by
    have e : Str.join y (a :: b :: r) = a ++ y ++ Str.join y (b :: r) := rfl
    rw [e, len_app, len_app]
    have := join_many hy (parts := b :: r)
    simp only [List.length_cons] at this ⊢
    omega
theorem split_part {x y p : Str} (h : p ∈ Txt.split x y) : p.length ≤ x.length := by
  have := join_part (y := y) h
  rw [StrLaws.join_split] at this
  exact this
theorem split_many {x y : Str} (hy : 1 ≤ y.length) : (Txt.split x y).length ≤ x.length + 1 := by
  have := join_many hy (parts := Txt.split x y)
  rw [StrLaws.join_split] at this
  exact this
/-! ## what the lines of a text tell -/
def midW (ws : List Str) : List Str := (ws.drop 1).dropLast
def rowD (ws : List Str) (n : Option Int) : PyData := .tuple ((midW ws).map .str ++ [optD n])
structure Told where
  slots : Option Int
  stands : List PyData
  roads : List PyData
def toldStep (s : Told) (line : Str) : Told :=
  let ws := Txt.split line " "
  let n := numberOf (ws.getLastD "")
  if ws.headD "" = "slots" then { s with slots := n }
  else if ws.headD "" = "stand" then { s with stands := s.stands ++ [rowD ws n] }
  else if ws.headD "" = "road" then { s with roads := s.roads ++ [rowD ws n] } else s
def told (x : Str) : Told := (Txt.split x "\n").foldl toldStep ⟨none, [], []⟩
theorem spl_ne (S : List Nat) : ∀ (k : Nat) (acc l : List Nat), TL.spl S k acc l ≠ []
  | k, acc, [] => by rw [TL.spl_nil]; exact List.cons_ne_nil _ _
  | 0, acc, c :: r => by
    unfold TL.spl
    split
    · exact List.cons_ne_nil _ _
    · exact spl_ne S 0 _ r
  | k + 1, acc, _ :: r => by
    unfold TL.spl
    exact spl_ne S k acc r
theorem split_ne (x y : Str) (hy : TL.tl y ≠ []) (hk : y.cps.all (· < 256) = true) : Txt.split x y ≠ [] := by
  intro h
  have e := TL.split_spl x y hy (TL.kind_ok hk)
  rw [h] at e
  exact spl_ne _ _ _ _ e.symm
theorem split_sp (x : Str) : Txt.split x " " ≠ [] := split_ne x " " (by decide +kernel) (by decide +kernel)
theorem split_nl (x : Str) : Txt.split x "\n" ≠ [] := split_ne x "\n" (by decide +kernel) (by decide +kernel)
/-! ## the text of a town is told -/
theorem sp_free {x : Str} (h : x.cps.toList.all letter = true) : 32 ∉ TL.tl x := fun hm => by
  have := List.all_eq_true.mp h 32 hm
  revert this
  decide
theorem nl_free {x : Str} (h : x.cps.toList.all letter = true) : 10 ∉ TL.tl x := fun hm => by
  have := List.all_eq_true.mp h 10 hm
  revert this
  decide
theorem sp_freeD {x : Str} (h : x.cps.toList.all digit = true) : 32 ∉ TL.tl x := fun hm => by
  have := List.all_eq_true.mp h 32 hm
  revert this
  decide
theorem nl_freeD {x : Str} (h : x.cps.toList.all digit = true) : 10 ∉ TL.tl x := fun hm => by
  have := List.all_eq_true.mp h 10 hm
  revert this
  decide
theorem name_all {x : Str} (h : nameOk x = true) : x.cps.toList.all letter = true := by
  unfold nameOk at h
  rw [Bool.and_eq_true] at h
  exact h.2
theorem tl_slots : TL.tl "slots " = TL.tl "slots" ++ TL.tl " " := by decide +kernel
theorem tl_stand : TL.tl "stand " = TL.tl "stand" ++ TL.tl " " := by decide +kernel
theorem tl_road : TL.tl "road " = TL.tl "road" ++ TL.tl " " := by decide +kernel
theorem w_slots (s : Int) : slotsLine s = Txt.join " " ["slots", num s] := by
  refine TL.ext_tl ?_
  rw [TL.join_eq, TL.tl_join]
  show TL.tl ("slots " ++ num s) = TL.tl "slots" ++ (TL.tl " " ++ TL.tl (num s))
  rw [TL.tl_append, tl_slots, List.append_assoc]
theorem w_stand (s : Str × Int) : standLine s = Txt.join " " ["stand", s.1, num s.2] := by
  refine TL.ext_tl ?_
  rw [TL.join_eq, TL.tl_join]
  show TL.tl ("stand " ++ s.1 ++ " " ++ num s.2) = TL.tl "stand" ++ (TL.tl " " ++ (TL.tl s.1 ++ (TL.tl " " ++ TL.tl (num s.2))))
  rw [TL.tl_append, TL.tl_append, TL.tl_append, tl_stand]
  simp only [List.append_assoc]
theorem w_road (s : Str × Str × Int) : roadLine s = Txt.join " " ["road", s.1, s.2.1, num s.2.2] := by
  refine TL.ext_tl ?_
  rw [TL.join_eq, TL.tl_join]
  show TL.tl ("road " ++ s.1 ++ " " ++ s.2.1 ++ " " ++ num s.2.2) = TL.tl "road" ++ (TL.tl " " ++ (TL.tl s.1 ++ (TL.tl " " ++ (TL.tl s.2.1 ++ (TL.tl " " ++ TL.tl (num s.2.2))))))
  rw [TL.tl_append, TL.tl_append, TL.tl_append, TL.tl_append, TL.tl_append, tl_road]
  simp only [List.append_assoc]
theorem tl_sp : TL.tl (" " : Str) = [32] := by decide +kernel
theorem tl_nl : TL.tl ("\n" : Str) = [10] := by decide +kernel
theorem split_words {ws : List Str} (hne : ws ≠ []) (h : ∀ w ∈ ws, 32 ∉ TL.tl w) : Txt.split (Txt.join " " ws) " " = ws := TL.split_join tl_sp (by decide +kernel) hne h
theorem split_lines {ws : List Str} (hne : ws ≠ []) (h : ∀ w ∈ ws, 10 ∉ TL.tl w) : Txt.split (Txt.join "\n" ws) "\n" = ws := TL.split_join tl_nl (by decide +kernel) hne h
theorem s_slots {s : Int} (h0 : 0 ≤ s) (h1 : s ≤ 40) : Txt.split (slotsLine s) " " = (["slots", num s] : List Str) := by
  rw [w_slots]
  refine split_words (by simp) fun w hw => ?_
  simp only [List.mem_cons, List.not_mem_nil, or_false] at hw
  rcases hw with rfl | rfl
  · decide +kernel
  · exact sp_freeD (num_le h0 h1).2.2
theorem s_stand {s : Str × Int} (hn : nameOk s.1 = true) (h0 : 0 ≤ s.2) (h1 : s.2 ≤ 40) : Txt.split (standLine s) " " = (["stand", s.1, num s.2] : List Str) := by
  rw [w_stand]
  refine split_words (by simp) fun w hw => ?_
  simp only [List.mem_cons, List.not_mem_nil, or_false] at hw
  rcases hw with rfl | rfl | rfl
  · decide +kernel
  · exact sp_free (name_all hn)
  · exact sp_freeD (num_le h0 h1).2.2
theorem s_road {s : Str × Str × Int} (hn : nameOk s.1 = true) (hm : nameOk s.2.1 = true) (h0 : 0 ≤ s.2.2) (h1 : s.2.2 ≤ 40) : Txt.split (roadLine s) " " = (["road", s.1, s.2.1, num s.2.2] : List Str) := by
  rw [w_road]
  refine split_words (by simp) fun w hw => ?_
  simp only [List.mem_cons, List.not_mem_nil, or_false] at hw
  rcases hw with rfl | rfl | rfl | rfl
  · decide +kernel
  · exact sp_free (name_all hn)
  · exact sp_free (name_all hm)
  · exact sp_freeD (num_le h0 h1).2.2
theorem step_slots {st : Told} {s : Int} (h0 : 0 ≤ s) (h1 : s ≤ 40) : toldStep st (slotsLine s) = { st with slots := some s } := by
  unfold toldStep
  rw [s_slots h0 h1]
  simp only [List.getLastD_cons, List.headD_cons, if_true, List.getLastD_nil]
  rw [show numberOf (num s) = some s from (num_le h0 h1).2.1]
theorem stand_ne : (("stand" : String) : Str) ≠ "slots" := by decide +kernel
theorem road_ne : (("road" : String) : Str) ≠ "slots" := by decide +kernel
theorem road_ne2 : (("road" : String) : Str) ≠ "stand" := by decide +kernel
theorem step_stand {st : Told} {s : Str × Int} (hn : nameOk s.1 = true) (h0 : 0 ≤ s.2) (h1 : s.2 ≤ 40) : toldStep st (standLine s) = { st with stands := st.stands ++ [encS s] } := by
  unfold toldStep
  rw [s_stand hn h0 h1]
  simp only [List.getLastD_cons, List.headD_cons, if_true, List.getLastD_nil, if_neg stand_ne]
  rw [show numberOf (num s.2) = some s.2 from (num_le h0 h1).2.1]
  rfl
theorem step_road {st : Told} {s : Str × Str × Int} (hn : nameOk s.1 = true) (hm : nameOk s.2.1 = true) (h0 : 0 ≤ s.2.2) (h1 : s.2.2 ≤ 40) : toldStep st (roadLine s) = { st with roads := st.roads ++ [encR s] } := by
  unfold toldStep
  rw [s_road hn hm h0 h1]
  simp only [List.getLastD_cons, List.headD_cons, if_true, List.getLastD_nil, if_neg road_ne, if_neg road_ne2]
  rw [show numberOf (num s.2.2) = some s.2.2 from (num_le h0 h1).2.1]
  rfl
theorem fold_stands : ∀ (l : List (Str × Int)) (st : Told), (∀ s ∈ l, nameOk s.1 = true ∧ 1 ≤ s.2 ∧ s.2 ≤ 40) → (l.map standLine).foldl toldStep st = { st with stands := st.stands ++ l.map encS }
  | [], st, _ => by simp
  | s :: l, st, h => by
    have := h s List.mem_cons_self
    rw [List.map_cons, List.foldl_cons, step_stand this.1 (by omega) this.2.2, fold_stands l _ fun u hu => h u (List.mem_cons_of_mem _ hu)]
    simp
theorem fold_roads : ∀ (l : List (Str × Str × Int)) (st : Told), (∀ s ∈ l, nameOk s.1 = true ∧ nameOk s.2.1 = true ∧ 1 ≤ s.2.2 ∧ s.2.2 ≤ 3) → (l.map roadLine).foldl toldStep st = { st with roads := st.roads ++ l.map encR }
  | [], st, _ => by simp
  | s :: l, st, h => by
    have := h s List.mem_cons_self
    rw [List.map_cons, List.foldl_cons, step_road this.1 this.2.1 (by omega) (by omega), fold_roads l _ fun u hu => h u (List.mem_cons_of_mem _ hu)]
    simp
theorem TownD.Ok.nm {t : TownD} (ok : t.Ok) : ∀ x ∈ t.names, nameOk x = true := fun x hx => by
  obtain ⟨u, hu, rfl⟩ := List.mem_map.mp hx
  exact (ok.st.each u hu).1
theorem TownD.Ok.rds {t : TownD} (ok : t.Ok) : ∀ s ∈ t.roads, nameOk s.1 = true ∧ nameOk s.2.1 = true ∧ 1 ≤ s.2.2 ∧ s.2.2 ≤ 3 := fun s hs =>
  have h := ok.rd.each s hs
  ⟨ok.nm _ h.1, ok.nm _ h.2.1, h.2.2⟩
theorem nl_line {ws : List Str} (h : ∀ w ∈ ws, 10 ∉ TL.tl w) : 10 ∉ TL.tl (Txt.join " " ws) := by
  rw [TL.join_eq]
  induction ws with
  | nil => decide +kernel
  | cons a r ih =>
    cases r with
    | nil => exact h a List.mem_cons_self
    | cons b r =>
      have e : Str.join " " (a :: b :: r) = a ++ " " ++ Str.join " " (b :: r) := rfl
      rw [e, TL.tl_append, TL.tl_append, List.mem_append, List.mem_append]
      rintro ((z | z) | z)
      · exact h a List.mem_cons_self z
      · revert z; decide +kernel
      · exact ih (fun w hw => h w (List.mem_cons_of_mem _ hw)) z
theorem lines_nl {t : TownD} (ok : t.Ok) : ∀ w ∈ linesOf t, 10 ∉ TL.tl w := by
  intro w hw
  have z1 := ok.s1
  have z2 := ok.s2
  unfold linesOf at hw
  rw [List.mem_append, List.mem_append] at hw
  rcases hw with (hw | hw) | hw
  · rw [List.mem_singleton.mp hw, w_slots]
    refine nl_line fun w hw => ?_
    simp only [List.mem_cons, List.not_mem_nil, or_false] at hw
    rcases hw with rfl | rfl
    · decide +kernel
    · exact nl_freeD (num_le (by omega) (by omega)).2.2
  · obtain ⟨s, hs, rfl⟩ := List.mem_map.mp hw
    have := ok.st.each s hs
    rw [w_stand]
    refine nl_line fun w hw => ?_
    simp only [List.mem_cons, List.not_mem_nil, or_false] at hw
    rcases hw with rfl | rfl | rfl
    · decide +kernel
    · exact nl_free (name_all this.1)
    · exact nl_freeD (num_le (by omega) this.2.2).2.2
  · obtain ⟨s, hs, rfl⟩ := List.mem_map.mp hw
    have := ok.rds s hs
    rw [w_road]
    refine nl_line fun w hw => ?_
    simp only [List.mem_cons, List.not_mem_nil, or_false] at hw
    rcases hw with rfl | rfl | rfl | rfl
    · decide +kernel
    · exact nl_free (name_all this.1)
    · exact nl_free (name_all this.2.1)
    · exact nl_freeD (num_le (by omega) (by omega)).2.2
theorem lines_ne (t : TownD) : linesOf t ≠ [] := by
  unfold linesOf
  simp
theorem split_town {t : TownD} (ok : t.Ok) : Txt.split (townText t) "\n" = linesOf t := split_lines (lines_ne t) (lines_nl ok)
theorem told_town {t : TownD} (ok : t.Ok) : told (townText t) = ⟨some t.slots, t.stands.map encS, t.roads.map encR⟩ := by
  have z1 := ok.s1
  have z2 := ok.s2
  unfold told
  rw [split_town ok]
  unfold linesOf
  rw [List.foldl_append, List.foldl_append, List.foldl_cons, List.foldl_nil, step_slots (by omega) (by omega), fold_stands _ _ ok.st.each, fold_roads _ _ ok.rds]
  simp
/-! ## how long it is -/
theorem line_len {t : TownD} (ok : t.Ok) : ∀ w ∈ linesOf t, w.length ≤ 40 := by
  intro w hw
  have z1 := ok.s1
  have z2 := ok.s2
  have e1 : (("slots " : String) : Str).length = 6 := by decide +kernel
  have e2 : (("stand " : String) : Str).length = 6 := by decide +kernel
  have e3 : (("road " : String) : Str).length = 5 := by decide +kernel
  have e4 : ((" " : String) : Str).length = 1 := by decide +kernel
  unfold linesOf at hw
  rw [List.mem_append, List.mem_append] at hw
  rcases hw with (hw | hw) | hw
  · rw [List.mem_singleton.mp hw]
    unfold slotsLine
    have := (num_le (z := t.slots) (by omega) (by omega)).1
    rw [len_app]
    omega
  · obtain ⟨s, hs, rfl⟩ := List.mem_map.mp hw
    have h := ok.st.each s hs
    have n1 := nameOk_len h.1
    have := (num_le (z := s.2) (by omega) h.2.2).1
    unfold standLine
    rw [len_app, len_app, len_app]
    omega
  · obtain ⟨s, hs, rfl⟩ := List.mem_map.mp hw
    have h := ok.rds s hs
    have n1 := nameOk_len h.1
    have n2 := nameOk_len h.2.1
    have := (num_le (z := s.2.2) (by omega) (by omega)).1
    unfold roadLine
    rw [len_app, len_app, len_app, len_app, len_app]
    omega
theorem lines_few {t : TownD} (ok : t.Ok) : (linesOf t).length ≤ 18 := by
  have := ok.st.few
  have := ok.rd.few
  unfold linesOf
  simp only [List.length_append, List.length_map, List.length_cons, List.length_nil]
  omega
theorem sum_le {l : List Str} {n : Nat} (h : ∀ w ∈ l, w.length ≤ n) : (l.map (·.length)).sum ≤ l.length * n := by
  induction l with
  | nil => simp
  | cons a r ih =>
    have h1 := h a List.mem_cons_self
    have h2 := ih fun w hw => h w (List.mem_cons_of_mem _ hw)
    simp only [List.map_cons, List.sum_cons, List.length_cons, Nat.succ_mul]
    omega
theorem join_len (y : Str) : ∀ (l : List Str), (Str.join y l).length ≤ (l.map (·.length)).sum + l.length * y.length
  | [] => Nat.zero_le _
  | [a] => by simp [Str.join]
  | a :: b :: r => by
    have e : Str.join y (a :: b :: r) = a ++ y ++ Str.join y (b :: r) := rfl
    have := join_len y (b :: r)
    rw [e, len_app, len_app]
    simp only [List.map_cons, List.sum_cons, List.length_cons, Nat.succ_mul] at this ⊢
    omega
theorem text_len {t : TownD} (ok : t.Ok) : (townText t).length ≤ 1000 := by
  unfold townText
  rw [TL.join_eq]
  have h1 := join_len "\n" (linesOf t)
  have h2 := sum_le (line_len ok)
  have h3 := lines_few ok
  have e : (("\n" : String) : Str).length = 1 := by decide +kernel
  rw [e] at h1
  have : (linesOf t).length * 40 ≤ 18 * 40 := Nat.mul_le_mul_right _ h3
  omega
end Bk
set_option Elab.async false
set_option linter.all false
set_option maxRecDepth 100000
set_option maxHeartbeats 4000000
namespace Bk
open PySem PySem.Spec PyProof.Rows L2 PySem.NumText
open PySem.W (Frag)
theorem atI_lastD {ws : List Str} (h : ws ≠ []) : atI (ws.map V.str) (-1) = some (V.str (ws.getLastD "")) := by
  have e : ws = ws.dropLast ++ [ws.getLastD ""] := by
    rw [List.getLastD_eq_getLast?, List.getLast?_eq_some_getLast h]
    exact (List.dropLast_concat_getLast h).symm
  have e2 : ws.map V.str = ws.dropLast.map V.str ++ [V.str (ws.getLastD "")] := by
    conv => lhs; rw [e]
    rw [List.map_append]
    rfl
  rw [e2]
  exact atI_last _ _
theorem atI_head {ws : List Str} (h : ws ≠ []) : atI (ws.map V.str) 0 = some (V.str (ws.headD "")) := by
  cases ws with
  | nil => exact absurd rfl h
  | cons a r => exact atI_nat (j := 0) rfl
theorem cut_mid (ws : List Str) (h : ws ≠ []) : cutV (ws.map V.str) (some 1) (some (-1)) = (midW ws).map V.str := by
  cases ws with
  | nil => exact absurd rfl h
  | cons a r =>
    unfold cutV midW
    have e1 : HT.sIx ((a :: r).map V.str).length 0 (some 1) = 1 := by
      have := HT.sIx_nat ((a :: r).map V.str).length 0 1
      rw [show ((1 : Nat) : Int) = (1 : Int) from rfl] at this
      rw [this, List.length_map, List.length_cons]
      omega
    have e2 : HT.sIx ((a :: r).map V.str).length ((a :: r).map V.str).length (some (-1)) = r.length := by
      unfold HT.sIx
      dsimp only
      rw [if_pos (by decide), List.length_map, List.length_cons]
      omega
    rw [e1, e2, ← List.map_drop, ← List.map_take]
    show ((r.take (r.length - 1)).map V.str) = r.dropLast.map V.str
    rw [List.dropLast_eq_take]
theorem mid_len (ws : List Str) : (midW ws).length ≤ ws.length := by
  unfold midW
  rw [List.length_dropLast, List.length_drop]
  omega
theorem noL_row (ws : List Str) (n : Option Int) : noL (rowD ws n) = true := noLs_of fun d hd => by
  rcases List.mem_append.mp hd with h | h
  · obtain ⟨x, _, rfl⟩ := List.mem_map.mp h
    rfl
  · rw [List.mem_singleton.mp h]
    cases n <;> rfl
theorem dp_opt {K : Frag} {H : Hp} (n : Option Int) : Dp K H (optI n) (optD n) := by
  cases n
  · exact .non
  · exact .int _
theorem fold_more {α β : Type} (f : β → α → β) (b : β) {l : List α} {i : Nat} {x : α} (h : l[i]? = some x) : (l.take (i + 1)).foldl f b = f ((l.take i).foldl f b) x := by
  rw [take_more h, List.foldl_append]
  rfl
theorem step_rows {s : Told} {line : Str} (h1 : noLs s.stands = true) (h2 : noLs s.roads = true) : noLs (toldStep s line).stands = true ∧ noLs (toldStep s line).roads = true ∧
    (toldStep s line).stands.length ≤ s.stands.length + 1 ∧ (toldStep s line).roads.length ≤ s.roads.length + 1 := by
  unfold toldStep
  dsimp only
  split
  · exact ⟨h1, h2, Nat.le_succ _, Nat.le_succ _⟩
  · split
    · refine ⟨noLs_of fun d hd => ?_, h2, by simp, Nat.le_succ _⟩
      rcases List.mem_append.mp hd with h | h
      · exact noLs_all h1 d h
      · rw [List.mem_singleton.mp h]; exact noL_row _ _
    · split
      · refine ⟨h1, noLs_of fun d hd => ?_, Nat.le_succ _, by simp⟩
        rcases List.mem_append.mp hd with h | h
        · exact noLs_all h2 d h
        · rw [List.mem_singleton.mp h]; exact noL_row _ _
      · exact ⟨h1, h2, Nat.le_succ _, Nat.le_succ _⟩
end Bk
set_option Elab.async false
set_option linter.all false
set_option maxRecDepth 100000
set_option maxHeartbeats 4000000
namespace Bk
open PySem PySem.Spec PyProof.Rows L2 PySem.NumText
open PySem.W (Frag)
/-! ## what a law draws from -/
def SrcAt (H : Hp) (p : Addr) : Prop := ∃ a x n : Int, H p = some (.lst [.int a, .int x, .int n])
theorem SrcAt.noTup {H : Hp} {p : Addr} (h : SrcAt H p) : NoTup H p := let ⟨_, _, _, e⟩ := h; noTup_lst e
theorem But.refl (p : Addr) (H : Hp) : But p H H := fun _ _ h _ => h
theorem But.trans {p : Addr} {H H1 H2 : Hp} (a : But p H H1) (b : But p H1 H2) : But p H H2 := fun c o h hc => b c o (a c o h hc) hc
theorem same_but {p : Addr} {H H' : Hp} (s : Same H H') : But p H H' := fun b o h _ => s b o h
theorem but_upd (p : Addr) (H : Hp) (o : HO) : But p H (upd H p o) := fun b u h hb => by rw [upd_ne hb]; exact h
theorem but_new {p q : Addr} {H : Hp} {o : HO} (h : H q = none) : But p H (upd H q o) := same_but (same_new h)
/-- data without lists stands, if what changed is no tuple -/
theorem sqtB {K : Frag} {p : Addr} {H H' : Hp} (nt : NoTup H p) (b : But p H H') {a : Addr} {xs : List V} (h : SqT K H a xs) : SqT K H' a xs := by
  rcases h with (h | ⟨o', h⟩) | h
  · exact .inl (.inl (b _ _ h fun z => nt.1 _ (by rw [← z]; exact h)))
  · exact .inl (.inr ⟨o', b _ _ h fun z => nt.2 _ _ (by rw [← z]; exact h)⟩)
  · exact .inr h
mutual
theorem dpB {K : Frag} {p : Addr} {H H' : Hp} (nt : NoTup H p) (b : But p H H') : ∀ {d : PyData} {v : V}, noL d = true → Dp K H v d → Dp K H' v d
  | .none, _, _, h => by cases h; exact .non
  | .bool _, _, _, h => by cases h; exact .bl _
  | .int _, _, _, h => by cases h; exact .int _
  | .str _, _, _, h => by cases h; exact .str _
  | .list ds, _, n, _ => by cases n
  | .tuple ds, _, n, h => by
    cases h with
    | tup h1 h2 => exact .tup (sqtB nt b h1) (dpsB nt b n h2)
  | .dict _, _, n, _ => by cases n
theorem dpsB {K : Frag} {p : Addr} {H H' : Hp} (nt : NoTup H p) (b : But p H H') : ∀ {ds : List PyData} {vs : List V}, noLs ds = true → DpAll K H vs ds → DpAll K H' vs ds
  | [], _, _, h => by cases h; exact .nil
  | d :: ds, _, n, h => by
    have n' : (noL d && noLs ds) = true := n
    rw [Bool.and_eq_true] at n'
    cases h with
    | cons h1 h2 => exact .cons (dpB nt b n'.1 h1) (dpsB nt b n'.2 h2)
end
theorem TownAt.but {K : Frag} {p q : Addr} {H H' : Hp} {t : TownD} (h : TownAt K H q t) (nt : NoTup H p) (b : But p H H') (hn : q ≠ p) : TownAt K H' q t := by
  obtain ⟨dx, vs, vr, vn, h1, h2, h3, h4⟩ := h.ob
  exact ⟨dx, vs, vr, vn, b _ _ h1 hn, dpB nt b (noL_S _) h2, dpB nt b (noL_R _) h3, dpB nt b (noL_N _) h4⟩
end Bk
set_option Elab.async false
set_option linter.all false
set_option maxRecDepth 100000
set_option maxHeartbeats 4000000
namespace Bk
open PySem PySem.Spec PyProof.Rows L2 PySem.NumText
open PySem.W (Frag)
/-! ## rules within a comprehension: the written part is K -/
section
variable {X : Cx} {K : Frag}
theorem op_in_seqK (h : X.K = K) : OpR X (compareOp .In) (rIn K false) := h ▸ op_in_seq
theorem op_notIn_seqK (h : X.K = K) : OpR X (compareOp .NotIn) (rIn K true) := h ▸ op_notIn_seq
theorem ix_listK (h : X.K = K) : IxR X (rIxL K) := h ▸ ix_list
theorem ix_tupK (h : X.K = K) : IxR X (rIxT K) := h ▸ ix_tup
theorem sl_listK (h : X.K = K) : SlR X (rSlL K) := h ▸ sl_list
theorem sl_tupK (h : X.K = K) : SlR X (rSlT K) := h ▸ sl_tup
theorem op_catTK (h : X.K = K) : OpR X (binaryOp .Add) (rCatT K) := h ▸ op_catT
def rLenK (K : Frag) : List V → Hp → VK → Prop := fun xs H Q => ∃ p ys, xs = [.ref p] ∧ (SqL K H p ys ∨ SqT K H p ys) ∧ Q (.int ys.length) H
theorem call_len_seqK (h : X.K = K) : CallR X (.builtin "len") (rLenK K) := h ▸ call_len_seq
end
/-! ## words -/
def one (c : Nat) : Str := ⟨#[c]⟩
def cut1 (x : Str) : Str := cutS x none (some (-1))
theorem tl_one (c : Nat) : TL.tl (one c) = [c] := rfl
theorem tl_cut1 (x : Str) : TL.tl (cut1 x) = (TL.tl x).dropLast := by
  show ((x.cps.toList.drop (HT.sIx x.length 0 none)).take (HT.sIx x.length x.length (some (-1)) - HT.sIx x.length 0 none)) = x.cps.toList.dropLast
  have e1 : HT.sIx x.length 0 none = 0 := rfl
  have e2 : HT.sIx x.length x.length (some (-1)) = x.length - 1 := by
    unfold HT.sIx
    dsimp only
    rw [if_pos (by decide)]
    omega
  rw [e1, e2, List.drop_zero, Nat.sub_zero, List.dropLast_eq_take]
  congr 1
theorem nameOk_of {x : Str} (h1 : 0 < (TL.tl x).length) (h2 : (TL.tl x).length ≤ 8) (h3 : ∀ c ∈ TL.tl x, letter c = true) : nameOk x = true := by
  have e : x.length = (TL.tl x).length := by
    show x.cps.size = x.cps.toList.length
    simp
  unfold nameOk
  rw [Bool.and_eq_true, Bool.and_eq_true, decide_eq_true_eq, decide_eq_true_eq]
  exact ⟨⟨by omega, by omega⟩, List.all_eq_true.mpr h3⟩
theorem nameOk_inv {x : Str} (h : nameOk x = true) : 0 < (TL.tl x).length ∧ (TL.tl x).length ≤ 8 ∧ ∀ c ∈ TL.tl x, letter c = true := by
  have e : x.length = (TL.tl x).length := by
    show x.cps.size = x.cps.toList.length
    simp
  have := nameOk_len h
  exact ⟨by omega, by omega, List.all_eq_true.mp (name_all h)⟩
def signsL : List Nat := List.range' 97 26
theorem signs_eq : ("abcdefghijklmnopqrstuvwxyz" : Str).cps.toList = signsL := by decide +kernel
theorem signs_letter {c : Nat} (h : c ∈ signsL) : letter c = true := by
  unfold signsL at h
  rw [List.mem_range'] at h
  obtain ⟨i, hi, rfl⟩ := h
  unfold letter
  simp only [Bool.and_eq_true, decide_eq_true_eq]
  omega
def tries (x : Str) : List Str := [x] ++ signsL.map fun c => cut1 x ++ one c
theorem tries_ok {x : Str} (h : nameOk x = true) : ∀ y ∈ tries x, nameOk y = true := by
  obtain ⟨h1, h2, h3⟩ := nameOk_inv h
  intro y hy
  rcases List.mem_append.mp hy with z | z
  · rw [List.mem_singleton.mp z]; exact h
  · obtain ⟨c, hc, rfl⟩ := List.mem_map.mp z
    have e : TL.tl (cut1 x ++ one c) = (TL.tl x).dropLast ++ [c] := by rw [TL.tl_append, tl_cut1, tl_one]
    refine nameOk_of ?_ ?_ ?_
    · rw [e]; simp
    · rw [e]; simp; omega
    · rw [e]
      intro d hd
      rcases List.mem_append.mp hd with z | z
      · exact h3 d (List.mem_of_mem_take (by rw [List.dropLast_eq_take] at z; exact z))
      · rw [List.mem_singleton.mp z]; exact signs_letter hc
theorem nodup_signs : signsL.Nodup := by decide
theorem tries_nodup (x : Str) : (signsL.map fun c => cut1 x ++ one c).Nodup := by
  refine List.Pairwise.map _ ?_ nodup_signs
  intro a b hab e
  have := congrArg TL.tl e
  rw [TL.tl_append, TL.tl_append, tl_one, tl_one] at this
  have := List.append_cancel_left this
  exact hab (by simpa using this)
theorem pigeon {α : Type} [DecidableEq α] : ∀ {l m : List α}, l.Nodup → (∀ x ∈ l, x ∈ m) → l.length ≤ m.length
  | [], _, _, _ => Nat.zero_le _
  | a :: l, m, nd, h => by
    have ha := h a List.mem_cons_self
    have h2 : ∀ x ∈ l, x ∈ m.erase a := fun x hx => by
      have hne : x ≠ a := fun z => (List.nodup_cons.mp nd).1 (by rw [← z]; exact hx)
      exact (List.mem_erase_of_ne hne).mpr (h x (List.mem_cons_of_mem _ hx))
    have := pigeon (List.nodup_cons.mp nd).2 h2
    rw [List.length_erase_of_mem ha] at this
    have : 0 < m.length := List.length_pos_of_mem ha
    simp only [List.length_cons]
    omega
theorem tries_free {x : Str} {ts : List Str} (h : ts.length ≤ 20) : (tries x).filter (fun y => !decide (y ∈ ts)) ≠ [] := by
  intro e
  have h1 : ∀ y ∈ signsL.map (fun c => cut1 x ++ one c), y ∈ ts := by
    intro y hy
    by_cases hm : y ∈ ts
    · exact hm
    · have : y ∈ (tries x).filter (fun y => !decide (y ∈ ts)) := List.mem_filter.mpr ⟨List.mem_append_right _ hy, by simp [hm]⟩
      rw [e] at this
      cases this
  have := pigeon (tries_nodup x) h1
  rw [List.length_map] at this
  have e26 : signsL.length = 26 := by decide
  omega
theorem tries_len (x : Str) : (tries x).length = 27 := by
  unfold tries
  rw [List.length_append, List.length_map]
  show 1 + signsL.length = 27
  decide
def keptW : List Str := ["count", "bikes", "left", "came", "rides", "van", "way", "road", "stand", "slots", "from", "to", "is"]
def keptW2 : List Str := ["least", "most", "all", "vans"]
theorem kept_ok : ∀ x ∈ keptW ++ keptW2, nameOk x = true := by
  have : ((keptW ++ keptW2).all fun x => nameOk x) = true := by decide +kernel
  exact List.all_eq_true.mp this
end Bk
namespace Bk
open PySem PySem.Spec PyProof.Rows L2 PySem.NumText
theorem join_ones : ∀ cs : List Nat, TL.joinL [] (cs.map fun c => [c]) = cs
  | [] => rfl
  | [c] => rfl
  | c :: d :: r => by
    show [c] ++ ([] ++ TL.joinL [] ((d :: r).map fun c => [c])) = c :: d :: r
    rw [join_ones (d :: r)]
    rfl
theorem tl_ones (cs : List Nat) : TL.tl (Txt.join "" (cs.map one)) = cs := by
  rw [TL.join_eq, TL.tl_join, List.map_map]
  exact join_ones cs
theorem ones_len (cs : List Nat) : ((cs.map one).map (·.length)).sum = cs.length := by
  induction cs with
  | nil => rfl
  | cons c r ih =>
    rw [List.map_cons, List.map_cons, List.sum_cons, ih, List.length_cons]
    show 1 + r.length = r.length + 1
    omega
end Bk
namespace Bk
open PySem PySem.Spec PyProof.Rows L2 PySem.NumText
theorem tYes_of {σ : L2.St} {H : Hp} {P S : Hp → Prop} (h : P H) : tYes σ H (fun b H3 => if b = true then P H3 else S H3) := by
  show if true = true then P H else S H
  rw [if_pos rfl]
  exact h
end Bk
set_option Elab.async false
set_option linter.all false
set_option maxRecDepth 100000
set_option maxHeartbeats 4000000
namespace Bk
open PySem PySem.Spec PyProof.Rows L2 PySem.NumText
open PySem.W (Frag)
/-! ## plans -/
def encI (q : Nat × Nat) : PyData := .tuple [.int (q.1 : Nat), .int (q.2 : Nat)]
def encL (q : Nat × Nat × Int) : PyData := .tuple [.int (q.1 : Nat), .int (q.2.1 : Nat), .int q.2.2]
structure Plan where
  slots : Int
  stands : List (Str × Int)
  lanes : List (Nat × Nat × Int)
def encPlan (q : Plan) : PyData := .tuple [.int q.slots, encSs q.stands, .tuple (q.lanes.map encL)]
structure PlanOk (hours docks size lanes : Int) (q : Plan) : Prop where
  s1 : 1 ≤ q.slots
  s2 : q.slots ≤ hours
  ne : q.stands ≠ []
  few : (q.stands.length : Int) ≤ docks
  each : ∀ s ∈ q.stands, nameOk s.1 = true ∧ 1 ≤ s.2 ∧ s.2 ≤ size
  nd : (q.stands.map (·.1)).Nodup
  lfew : (q.lanes.length : Int) ≤ lanes
  lin : ∀ r ∈ q.lanes, r.1 < q.stands.length ∧ r.2.1 < q.stands.length ∧ 1 ≤ r.2.2 ∧ r.2.2 ≤ 3
  lnd : (q.lanes.map fun r => (r.1, r.2.1)).Nodup
theorem noL_mS (l : List (Str × Int)) : noLs (l.map encS) = true := noL_S l
theorem noL_mI (l : List (Nat × Nat)) : noLs (l.map encI) = true := noLs_of fun d hd => by
  obtain ⟨s, _, rfl⟩ := List.mem_map.mp hd
  rfl
theorem noL_mL (l : List (Nat × Nat × Int)) : noLs (l.map encL) = true := noLs_of fun d hd => by
  obtain ⟨s, _, rfl⟩ := List.mem_map.mp hd
  rfl
theorem noL_plan (q : Plan) : noL (encPlan q) = true := by
  show (true && (noL (encSs q.stands) && (noLs (q.lanes.map encL) && true))) = true
  rw [noL_S, noL_mL]
  rfl
/-- the lists of a plan that is being made -/
structure PlA (H0 : Hp) (p W R P F : Addr) : Prop where
  pW : p ≠ W
  pR : p ≠ R
  pP : p ≠ P
  pF : p ≠ F
  WR : W ≠ R
  WP : W ≠ P
  WF : W ≠ F
  RP : R ≠ P
  RF : R ≠ F
  PF : P ≠ F
  w0 : H0 W = none
  r0 : H0 R = none
  p0 : H0 P = none
  f0 : H0 F = none
structure PlI (K : Frag) (H0 H : Hp) (p W R P F : Addr) (ns : List Str) (l : List (Str × Int)) (ps : List (Nat × Nat)) (ls : List (Nat × Nat × Int)) : Prop where
  src : SrcAt H p
  but : But p H0 H
  w : H W = some (.lst (ns.map V.str))
  r : ∃ ys, H R = some (.lst ys) ∧ DpAll K H ys (l.map encS)
  pr : ∃ zs, H P = some (.lst zs) ∧ DpAll K H zs (ps.map encI)
  f : ∃ fs, H F = some (.lst fs) ∧ DpAll K H fs (ls.map encL)
section
variable {K : Frag} {H0 H H' : Hp} {p W R P F : Addr} {ns : List Str} {l : List (Str × Int)} {ps : List (Nat × Nat)} {ls : List (Nat × Nat × Int)}
theorem PlI.same (I : PlI K H0 H p W R P F ns l ps ls) (s : Same H H') : PlI K H0 H' p W R P F ns l ps ls := by
  obtain ⟨⟨a, x, n, e⟩, b, w, ⟨ys, r1, r2⟩, ⟨zs, p1, p2⟩, ⟨fs, f1, f2⟩⟩ := I
  exact ⟨⟨a, x, n, s _ _ e⟩, b.trans (same_but s), s _ _ w, ⟨ys, s _ _ r1, dpsS s r2⟩, ⟨zs, s _ _ p1, dpsS s p2⟩, ⟨fs, s _ _ f1, dpsS s f2⟩⟩
theorem PlI.draw (I : PlI K H0 H p W R P F ns l ps ls) (A : PlA H0 p W R P F) (b' : But p H H') (h : SrcAt H' p) : PlI K H0 H' p W R P F ns l ps ls := by
  have nt := I.src.noTup
  obtain ⟨_, b, w, ⟨ys, r1, r2⟩, ⟨zs, p1, p2⟩, ⟨fs, f1, f2⟩⟩ := I
  exact ⟨h, b.trans b', b' _ _ w A.pW.symm, ⟨ys, b' _ _ r1 A.pR.symm, dpsB nt b' (noL_mS _) r2⟩, ⟨zs, b' _ _ p1 A.pP.symm, dpsB nt b' (noL_mI _) p2⟩, ⟨fs, b' _ _ f1 A.pF.symm, dpsB nt b' (noL_mL _) f2⟩⟩
theorem PlI.setW (I : PlI K H0 H p W R P F ns l ps ls) (A : PlA H0 p W R P F) (ns' : List Str) : PlI K H0 (upd H W (.lst (ns'.map V.str))) p W R P F ns' l ps ls := by
  have nt := noTup_lst I.w
  obtain ⟨⟨a, x, n, e⟩, b, w, ⟨ys, r1, r2⟩, ⟨zs, p1, p2⟩, ⟨fs, f1, f2⟩⟩ := I
  refine ⟨⟨a, x, n, by rw [upd_ne A.pW]; exact e⟩, fun c o hc hn => ?_, upd_same, ⟨ys, by rw [upd_ne A.WR.symm]; exact r1, dpsV nt (noL_mS _) r2⟩, ⟨zs, by rw [upd_ne A.WP.symm]; exact p1, dpsV nt (noL_mI _) p2⟩, ⟨fs, by rw [upd_ne A.WF.symm]; exact f1, dpsV nt (noL_mL _) f2⟩⟩
  rw [upd_ne (ne_of_none hc A.w0)]
  exact b c o hc hn
theorem PlI.setR (I : PlI K H0 H p W R P F ns l ps ls) (A : PlA H0 p W R P F) {ys : List V} (hy : H R = some (.lst ys)) (dy : DpAll K H ys (l.map encS)) {v : V} {s : Str × Int} (dv : Dp K H v (encS s)) :
    PlI K H0 (upd H R (.lst (ys ++ [v]))) p W R P F ns (l ++ [s]) ps ls := by
  have nt := noTup_lst hy
  obtain ⟨⟨a, x, n, e⟩, b, w, ⟨_, _, _⟩, ⟨zs, p1, p2⟩, ⟨fs, f1, f2⟩⟩ := I
  refine ⟨⟨a, x, n, by rw [upd_ne A.pR]; exact e⟩, fun c o hc hn => ?_, by rw [upd_ne A.WR]; exact w, ⟨_, upd_same, ?_⟩, ⟨zs, by rw [upd_ne A.RP.symm]; exact p1, dpsV nt (noL_mI _) p2⟩, ⟨fs, by rw [upd_ne A.RF.symm]; exact f1, dpsV nt (noL_mL _) f2⟩⟩
  · rw [upd_ne (ne_of_none hc A.r0)]
    exact b c o hc hn
  · rw [List.map_append]
    exact dpsApp (dpsV nt (noL_mS _) dy) (.cons (dpV nt rfl dv) .nil)
theorem PlI.setP (I : PlI K H0 H p W R P F ns l ps ls) (A : PlA H0 p W R P F) {zs : List V} {ps' : List (Nat × Nat)} (dz : DpAll K H zs (ps'.map encI)) :
    PlI K H0 (upd H P (.lst zs)) p W R P F ns l ps' ls := by
  obtain ⟨⟨a, x, n, e⟩, b, w, ⟨ys, r1, r2⟩, ⟨zs0, p1, p2⟩, ⟨fs, f1, f2⟩⟩ := I
  have nt := noTup_lst p1
  refine ⟨⟨a, x, n, by rw [upd_ne A.pP]; exact e⟩, fun c o hc hn => ?_, by rw [upd_ne A.WP]; exact w, ⟨ys, by rw [upd_ne A.RP]; exact r1, dpsV nt (noL_mS _) r2⟩, ⟨_, upd_same, dpsV nt (noL_mI _) dz⟩, ⟨fs, by rw [upd_ne A.PF.symm]; exact f1, dpsV nt (noL_mL _) f2⟩⟩
  rw [upd_ne (ne_of_none hc A.p0)]
  exact b c o hc hn
theorem PlI.setF (I : PlI K H0 H p W R P F ns l ps ls) (A : PlA H0 p W R P F) {fs : List V} (hf : H F = some (.lst fs)) (df : DpAll K H fs (ls.map encL)) {v : V} {s : Nat × Nat × Int} (dv : Dp K H v (encL s)) :
    PlI K H0 (upd H F (.lst (fs ++ [v]))) p W R P F ns l ps (ls ++ [s]) := by
  have nt := noTup_lst hf
  obtain ⟨⟨a, x, n, e⟩, b, w, ⟨ys, r1, r2⟩, ⟨zs, p1, p2⟩, ⟨_, _, _⟩⟩ := I
  refine ⟨⟨a, x, n, by rw [upd_ne A.pF]; exact e⟩, fun c o hc hn => ?_, by rw [upd_ne A.WF]; exact w, ⟨ys, by rw [upd_ne A.RF]; exact r1, dpsV nt (noL_mS _) r2⟩, ⟨zs, by rw [upd_ne A.PF]; exact p1, dpsV nt (noL_mI _) p2⟩, ⟨_, upd_same, ?_⟩⟩
  · rw [upd_ne (ne_of_none hc A.f0)]
    exact b c o hc hn
  · rw [List.map_append]
    exact dpsApp (dpsV nt (noL_mL _) df) (.cons (dpV nt rfl dv) .nil)
end
theorem dpsErase {K : Frag} {H : Hp} : ∀ {vs : List V} {ds : List PyData} (i : Nat), DpAll K H vs ds → DpAll K H (vs.eraseIdx i) (ds.eraseIdx i)
  | [], _, _, h => by cases h; exact .nil
  | _ :: _, _, 0, h => by
    cases h with
    | cons h1 h2 => exact h2
  | _ :: _, _, i + 1, h => by
    cases h with
    | cons h1 h2 => exact .cons h1 (dpsErase i h2)
theorem lane_at {K : Frag} {H : Hp} {xs : List V} {l : List (Nat × Nat)} {i : Nat} {x : V} (h : DpAll K H xs (l.map encI)) (hx : xs[i]? = some x) :
    ∃ s b, l[i]? = some s ∧ x = .ref b ∧ SqT K H b [.int (s.1 : Nat), .int (s.2 : Nat)] := by
  obtain ⟨d, hd, hp⟩ := dpsGet h hx
  rw [List.getElem?_map] at hd
  cases e : l[i]? with
  | none => rw [e] at hd; cases hd
  | some s =>
    rw [e] at hd
    cases hd
    obtain ⟨b, ys, rfl, h1, h2⟩ := dp_tup hp
    obtain ⟨u, v, rfl, h3, h4⟩ := dps2 h2
    rw [dp_int h3, dp_int h4] at h1
    exact ⟨s, b, rfl, rfl, h1⟩
theorem seqIx {z : Int} {n : Nat} (h0 : 0 ≤ z) (h1 : z < n) : seqIndex? z n = some z.toNat := by
  unfold seqIndex?
  dsimp only
  have e : (if z < 0 then z + (n : Int) else z) = z := if_neg (by omega)
  rw [e, decide_eq_true h0, decide_eq_true h1]
  rfl
end Bk
namespace Bk
open PySem PySem.Spec PyProof.Rows L2 PySem.NumText
open PySem.W (Frag)
theorem fm_below {α : Type} (n : Nat) (f : Nat → α) : ∀ l : List Nat, (∀ j ∈ l, j < n) → l.filterMap (fun j => if j < n then some (f j) else none) = l.map f
  | [], _ => rfl
  | j :: l, h => by
    rw [List.filterMap_cons, if_pos (h j List.mem_cons_self), List.map_cons, fm_below n f l fun k hk => h k (List.mem_cons_of_mem _ hk)]
theorem fm_range {α : Type} (n : Nat) (f : Nat → α) : (List.range n).filterMap (fun j => if j < n then some (f j) else none) = (List.range n).map f :=
  fm_below n f _ fun j hj => List.mem_range.mp hj
theorem dp_int0 {K : Frag} {H : Hp} (i : Nat) : Dp K H (.int (0 + (i : Int))) (.int ((i : Nat) : Int)) := by
  rw [Int.zero_add]
  exact .int _
end Bk
namespace Bk
open PySem PySem.Spec PyProof.Rows L2 PySem.NumText
open PySem.W (Frag)
theorem erase_map {α β : Type} (f : α → β) : ∀ (l : List α) (i : Nat), (l.map f).eraseIdx i = (l.eraseIdx i).map f
  | [], _ => rfl
  | _ :: _, 0 => rfl
  | a :: l, i + 1 => by
    rw [List.map_cons, List.eraseIdx_cons_succ, List.eraseIdx_cons_succ, List.map_cons, erase_map f l i]
def prL (r : Nat × Nat × Int) : Nat × Nat := (r.1, r.2.1)
theorem erase_perm {α : Type} : ∀ {l : List α} {k : Nat} {r : α}, l[k]? = some r → (r :: l.eraseIdx k).Perm l
  | [], _, _, h => by cases h
  | a :: l, 0, r, h => by
    cases h
    exact List.Perm.refl _
  | a :: l, k + 1, r, h => by
    have ih := erase_perm (l := l) (k := k) (r := r) (by simpa using h)
    rw [List.eraseIdx_cons_succ]
    exact (List.Perm.swap a r _).trans (List.Perm.cons a ih)
theorem erase_nodup {xs : List (Nat × Nat)} {ps : List (Nat × Nat)} {k : Nat} {r : Nat × Nat} (h : (xs ++ ps).Nodup) (hk : ps[k]? = some r) : (xs ++ [r] ++ ps.eraseIdx k).Nodup := by
  have pm : (r :: ps.eraseIdx k).Perm ps := erase_perm hk
  have pm2 : (xs ++ [r] ++ ps.eraseIdx k).Perm (xs ++ ps) := by
    rw [List.append_assoc]
    exact List.Perm.append_left xs pm
  exact pm2.nodup_iff.mpr h
theorem mem_erase {α : Type} {ps : List α} {k : Nat} {r : α} (h : r ∈ ps.eraseIdx k) : r ∈ ps := List.mem_of_mem_eraseIdx h
end Bk
set_option Elab.async false
set_option linter.all false
set_option maxRecDepth 100000
set_option maxHeartbeats 4000000
namespace Bk
open PySem PySem.Spec PyProof.Rows L2 PySem.NumText
open PySem.W (Frag)
/-! ## the town of a plan -/
def nameAt (l : List (Str × Int)) (i : Nat) : Str := (l.getD i ("", 0)).1
def named (q : Plan) : List (Str × Str × Int) := q.lanes.map fun r => (nameAt q.stands r.1, nameAt q.stands r.2.1, r.2.2)
def townOf (q : Plan) : TownD := ⟨q.slots, q.stands, named q⟩
theorem nameAt_get {l : List (Str × Int)} {i : Nat} (h : i < l.length) : (l.map (·.1))[i]? = some (nameAt l i) := by
  rw [List.getElem?_map, List.getElem?_eq_getElem h]
  unfold nameAt
  rw [List.getD_eq_getElem?_getD, List.getElem?_eq_getElem h]
  rfl
theorem nameAt_mem {l : List (Str × Int)} {i : Nat} (h : i < l.length) : nameAt l i ∈ l.map (·.1) := List.mem_of_getElem? (nameAt_get h)
theorem nameAt_inj {l : List (Str × Int)} (nd : (l.map (·.1)).Nodup) {i j : Nat} (hi : i < l.length) (hj : j < l.length) (e : nameAt l i = nameAt l j) : i = j :=
  nd_ix nd (nameAt_get hi) (by rw [e]; exact nameAt_get hj)
theorem map_nodup {α β : Type} {f : α → β} : ∀ {l : List α}, l.Nodup → (∀ a ∈ l, ∀ b ∈ l, f a = f b → a = b) → (l.map f).Nodup
  | [], _, _ => List.nodup_nil
  | a :: l, nd, h => by
    rw [List.map_cons, List.nodup_cons]
    refine ⟨fun hm => ?_, map_nodup (List.nodup_cons.mp nd).2 fun x hx y hy => h x (List.mem_cons_of_mem _ hx) y (List.mem_cons_of_mem _ hy)⟩
    obtain ⟨b, hb, e⟩ := List.mem_map.mp hm
    have := h b (List.mem_cons_of_mem _ hb) a List.mem_cons_self e
    rw [this] at hb
    exact (List.nodup_cons.mp nd).1 hb
theorem townOf_ok {hours docks size lanes : Int} {q : Plan} (ok : PlanOk hours docks size lanes q) (h1 : hours ≤ 8) (h2 : docks ≤ 5) (h3 : size ≤ 40) (h4 : lanes ≤ 12) : (townOf q).Ok := by
  have := ok.s2
  have := ok.few
  have := ok.lfew
  refine ⟨ok.s1, by show q.slots ≤ 8; omega, ⟨ok.ne, by show q.stands.length ≤ 5; omega, fun s hs => ?_, ok.nd⟩, ⟨?_, ?_, ?_⟩⟩
  · have := ok.each s hs
    exact ⟨this.1, this.2.1, by omega⟩
  · show (named q).length ≤ 12
    unfold named
    rw [List.length_map]
    omega
  · intro r hr
    obtain ⟨u, hu, rfl⟩ := List.mem_map.mp hr
    have := ok.lin u hu
    exact ⟨nameAt_mem this.1, nameAt_mem this.2.1, this.2.2⟩
  · show ((named q).map fun r => (r.1, r.2.1)).Nodup
    unfold named
    rw [List.map_map]
    have e : (q.lanes.map ((fun r : Str × Str × Int => (r.1, r.2.1)) ∘ fun r : Nat × Nat × Int => (nameAt q.stands r.1, nameAt q.stands r.2.1, r.2.2))) = (q.lanes.map fun r => (r.1, r.2.1)).map fun u => (nameAt q.stands u.1, nameAt q.stands u.2) := by
      rw [List.map_map]
      rfl
    rw [e]
    refine map_nodup ok.lnd fun a ha b hb eab => ?_
    obtain ⟨u, hu, rfl⟩ := List.mem_map.mp ha
    obtain ⟨w, hw, rfl⟩ := List.mem_map.mp hb
    have hu' := ok.lin u hu
    have hw' := ok.lin w hw
    injection eab with e1 e2
    rw [Prod.mk.injEq]
    exact ⟨nameAt_inj ok.nd hu'.1 hw'.1 e1, nameAt_inj ok.nd hu'.2.1 hw'.2.1 e2⟩
theorem ltri_at {K : Frag} {H : Hp} {xs : List V} {l : List (Nat × Nat × Int)} {i : Nat} {x : V} (h : DpAll K H xs (l.map encL)) (hx : xs[i]? = some x) :
    ∃ s b, l[i]? = some s ∧ x = .ref b ∧ SqT K H b [.int (s.1 : Nat), .int (s.2.1 : Nat), .int s.2.2] := by
  obtain ⟨d, hd, hp⟩ := dpsGet h hx
  rw [List.getElem?_map] at hd
  cases e : l[i]? with
  | none => rw [e] at hd; cases hd
  | some s =>
    rw [e] at hd
    cases hd
    obtain ⟨b, ys, rfl, h1, h2⟩ := dp_tup hp
    obtain ⟨u, v, w, rfl, h3, h4, h5⟩ := dps3 h2
    rw [dp_int h3, dp_int h4, dp_int h5] at h1
    exact ⟨s, b, rfl, rfl, h1⟩
/-- the name at a place of encoded stands -/
theorem stand_ix {K : Frag} {H : Hp} {xs : List V} {l : List (Str × Int)} {i : Nat} (h : DpAll K H xs (l.map encS)) (hi : i < l.length) :
    ∃ b z, xs[i]? = some (.ref b) ∧ SqT K H b [.str (nameAt l i), .int z] := by
  have hl : xs.length = l.length := by rw [dpsLen h, List.length_map]
  obtain ⟨s, b, e1, e2, e3⟩ := stand_at (i := i) h (List.getElem?_eq_getElem (by omega))
  have en : s.1 = nameAt l i := by
    have := nameAt_get hi
    rw [List.getElem?_map, e1] at this
    exact Option.some.inj this
  rw [en] at e3
  exact ⟨b, s.2, by rw [List.getElem?_eq_getElem (by omega), e2], e3⟩
theorem dp_plan {K : Frag} {H : Hp} {v : V} {q : Plan} (h : Dp K H v (encPlan q)) : ∃ a a1 a2 xs ls, v = .ref a ∧ SqT K H a [.int q.slots, .ref a1, .ref a2] ∧ SqT K H a1 xs ∧ DpAll K H xs (q.stands.map encS) ∧ SqT K H a2 ls ∧ DpAll K H ls (q.lanes.map encL) := by
  obtain ⟨a, ys, rfl, h1, h2⟩ := dp_tup h
  obtain ⟨u, v, w, rfl, h3, h4, h5⟩ := dps3 h2
  obtain ⟨a1, xs, rfl, h6, h7⟩ := dp_tup h4
  obtain ⟨a2, ls, rfl, h8, h9⟩ := dp_tup h5
  rw [dp_int h3] at h1
  exact ⟨a, a1, a2, xs, ls, rfl, h1, h6, h7, h8, h9⟩
end Bk
set_option Elab.async false
set_option linter.all false
set_option maxRecDepth 100000
set_option maxHeartbeats 4000000
namespace Bk
open PySem PySem.Spec PyProof.Rows L2 PySem.NumText
open PySem.W (Frag)
def neB (C : Str) (K : Frag) : Bool := He.eqO (PySem.W.findIn K (.ref (He.ga K C)) "__ne__") (some (some (.builtin "object.__ne__")))
theorem insB_mro {C : Str} {K : Frag} (h : insB C K = true) : PySem.W.mroIn K (He.ga K C) (.type "object") = some true := by
  obtain ⟨_, h⟩ := He.ba h
  obtain ⟨_, h⟩ := He.ba h
  exact of_decide_eq_true (He.ba h).2
theorem first_self (K : Frag) (C : Addr) : PySem.W.notFirst K C (.ref C) = true := by
  unfold PySem.W.notFirst
  simp
/-! ## the end: the law's own call -/
section
variable {P : Program} {w : World} {K : Frag} {mg mb : Str → Option Value} {CX : CXT} {k : Nat} {fa a : Addr} {fd : FuncData} {x : Str} {sp : Sp} {s₁ : Shared} {vs : List Value} {ns : List Int}
theorem callG_core (KX : K.In s₁.heap) (hns : s₁.heap.Ns mainGlobals mg) (hb : s₁.heap.Ns builtinsNs mb) (hbb : ∀ x : Str, x ≠ "__name__" → mb x = bootBuiltins x) (hlim : s₁.heap.NoLimit) (hg : s₁.gens = #[])
    (ha : s₁.heap.get? a = some { cls := .type "list", data := .seq vs.toArray }) (hr : Room k callerA)
    (F : ∀ base : Heap, K.In base → base.Ns mainGlobals mg → FnG P w K mg base CX k fa fd [x] sp) (hbind : ∀ (s : Shared) (u : Value), BindsTo s fd ⟨[u], []⟩ [(x, u)])
    (hCX : ∀ H e s', CX [] H s₁ (fun _ _ _ => False) e s' → False)
    (H : Hp) (hO : Only H) (hsp : sp [.ref a] H (fun v _ => v = .bl true) fun _ _ _ => False) (hok : HOk P w H s₁.heap) (hA : ∀ b, H b ≠ none → b = a) (hK : H a ≠ none → K.lookup a = none) :
    codeAny (model P w) callerA (.call (.ref fa) ⟨[.ref a], []⟩) (fun r s' => r = .ok (.ret (.bool true)) ∧ OldK s₁.heap s'.heap ∧ s'.os = s₁.os ∧ AllBare s'.gens) s₁ := by
  have atA : ∀ {b : Addr} {u : HO}, H b = some u → b = a := fun {b u} q => hA b fun z => by rw [q] at z; cases z
  have noA : ∀ {b : Addr} {o : Obj} {es : Array DictEntry} {ep : Nat}, s₁.heap.get? b = some o → o.data = .dict es ep → H b = none := by
    intro b o es ep e d
    match q : H b with
    | none => rfl
    | some u =>
      rw [atA q, ha] at e
      cases e
      cases d
  have nsK : ∀ {b : Addr} {m : Str → Option Value}, s₁.heap.Ns b m → (hidT s₁.heap H).Ns b m := by
    rintro b m ⟨o, es, ep, e, d, r⟩
    exact ⟨o, es, ep, hidT_get e (noA e d), d, r⟩
  have hKb : K.In (hidT s₁.heap H) := by
    intro b o e
    refine hidT_get (KX b o e) ?_
    match q : H b with
    | none => rfl
    | some u =>
      have eb := atA q
      rw [eb] at q e
      rw [hK (fun z => by rw [q] at z; cases z)] at e
      cases e
  obtain ⟨mc, l1, l2⟩ := hlim
  have hM : Mod K mg (hidT s₁.heap H) := ⟨hKb, nsK hns, ⟨mb, nsK hb, hbb⟩, ⟨mc, nsK l1, l2⟩⟩
  have none_in : ∀ b : Addr, b ∉ ([] : List Addr) := fun b z => by cases z
  have e0 : Env0 P w K mg (hidT s₁.heap H) callerA [] s₁ H :=
    ⟨rfl, hM, fun b o e => of_hidT e, Nat.le_of_eq (hidT_size _ _), trivial, fun b hb => absurd hb (none_in b), hok, .of_eq hg⟩
  have go := (F _ hKb (nsK hns)).run callerA [] s₁ H ⟨[.ref a], []⟩ [.ref a] [.ref a] _ _ rfl hr e0 (hbind s₁ (.ref a)) (.cons rfl .nil) hsp
  refine codeAny_mono go ?_
  intro r s' h
  match r, h with
  | .error e, h => exact (hCX H e s' h).elim
  | .ok .next, h => exact h.elim
  | .ok .brk, h => exact h.elim
  | .ok .cont, h => exact h.elim
  | .ok (.ret u), h =>
    obtain ⟨v, H', os, bare, un, hok', r', q⟩ := h
    obtain rfl : v = .bl true := q
    obtain rfl : u = Value.bool true := r'
    refine ⟨rfl, OldK.of_keep ?_, os, bare⟩
    intro b o e
    match q : H b with
    | none => exact un.keep b o e q (none_in b) (none_in b)
    | some u =>
      rcases hO b with z | ⟨ob, xs, z⟩
      · rw [q] at z
        cases z
      · obtain ⟨f1, _⟩ := hok b _ z
        obtain ⟨f2, _⟩ := hok' b _ (un.frzs b ob _ z)
        rw [e] at f1
        cases f1
        exact f2
theorem law_callG (KX : K.In s₁.heap) (hns : s₁.heap.Ns mainGlobals mg) (hb : s₁.heap.Ns builtinsNs mb) (hbb : ∀ x : Str, x ≠ "__name__" → mb x = bootBuiltins x) (hlim : s₁.heap.NoLimit) (hg : s₁.gens = #[])
    (ha : s₁.heap.get? a = some { cls := .type "list", data := .seq vs.toArray }) (hi : IntsAre vs ns) (hl : ns.length ≤ sizeLine) (hr : Room k callerA)
    (F : ∀ base : Heap, K.In base → base.Ns mainGlobals mg → FnG P w K mg base CX k fa fd [x] sp) (hbind : ∀ (s : Shared) (u : Value), BindsTo s fd ⟨[u], []⟩ [(x, u)])
    (hsp : ∀ H : Hp, Only H → SqL K H a (ns.map V.int) → sp [.ref a] H (fun v _ => v = .bl true) fun _ _ _ => False)
    (hCX : ∀ H e s', CX [] H s₁ (fun _ _ _ => False) e s' → False) :
    codeAny (model P w) callerA (.call (.ref fa) ⟨[.ref a], []⟩) (fun r s' => r = .ok (.ret (.bool true)) ∧ OldK s₁.heap s'.heap ∧ s'.os = s₁.os ∧ AllBare s'.gens) s₁ := by
  have rv := vals_ints hi
  have lenV := hi.length
  match hk : K.lookup a with
  | some o =>
    have e := KX a o hk
    rw [ha] at e
    cases e
    have only : Only (fun _ => none) := fun _ => .inl rfl
    refine callG_core KX hns hb hbb hlim hg ha hr F hbind hCX (fun _ => none) only (hsp _ only ?_) (fun b u z => nomatch z) (fun b z => absurd rfl z) (fun z => absurd rfl z)
    refine .inr ⟨_, vs.toArray, _, hk, rfl, rfl, rfl, ?_, by simpa using rv⟩
    rw [List.size_toArray, lenV]
    exact hl
  | none =>
    have only : Only (fun b => if b = a then some (.frz { cls := .type "list", data := .seq vs.toArray } (.lst (ns.map V.int))) else none) := by
      intro b
      by_cases hb : b = a
      · exact .inr ⟨_, _, if_pos hb⟩
      · exact .inl (if_neg hb)
    refine callG_core KX hns hb hbb hlim hg ha hr F hbind hCX _ only (hsp _ only (.inl (.inr ⟨{ cls := .type "list", data := .seq vs.toArray }, if_pos rfl⟩))) ?_ ?_ (fun _ => hk)
    · intro b u z
      by_cases hb : b = a
      · have z' := (if_pos hb).symm.trans z
        cases z'
        subst hb
        exact ⟨ha, by rw [List.length_map]; exact hl, vs, _, rv, ha⟩
      · have z' := (if_neg hb).symm.trans z
        cases z'
    · intro b z
      by_cases hb : b = a
      · exact hb
      · exact absurd (if_neg hb) z
end
theorem walk_ofG {l : PySem.W.OpenLaw} {n k : Nat} {q : Program} {loose : List Str} {XP : (Str → Option Value) → Heap → Prop} {YP : World → Heap → Prop} {d : DefRec} {x : Str}
    (hn : l.most = some n) (hn2 : n ≤ sizeLine) (hdf : d.params.defaults = []) (hr : Room k callerA)
    (F : ∀ (w : World) (mg : Str → Option Value) (fa : Addr) (h : Heap), YP w h → h.Ns mainGlobals mg → mg d.name = some (.ref fa) →
      ∃ (K : Frag) (fd : FuncData) (sp : Sp), K.In h ∧ (∀ (s : Shared) (u : Value), BindsTo s fd ⟨[u], []⟩ [(x, u)]) ∧
        (∀ (H : Hp) (a : Addr) (ns : List Int), ns.length ≤ n → Only H → SqL K H a (ns.map V.int) → sp [.ref a] H (fun v _ => v = .bl true) fun _ _ _ => False) ∧
        ∀ base : Heap, K.In base → base.Ns mainGlobals mg → FnG l.prog w K mg base (L2.CX l.prog w) k fa fd [x] sp) :
    PySem.W.WalkO q loose XP YP l.row.toRowW d [] (fun f vs => PySem.call f vs) := by
  refine Att.attach_call hn hdf ?_
  intro w s₀ s₁ mg mb fa o pm cd doc a vs ns G Y ho hd hcd hmg hobj hints hlen hg
  obtain ⟨K, fd, sp, KX, hb, hsp, hF⟩ := F w mg fa _ Y G.T.g hmg
  refine law_callG KX G.T.g G.T.b G.T.builtins G.T.nolimit hg hobj hints (Nat.le_trans hlen hn2) hr hF hb (fun H hO hS => hsp H a ns hlen hO hS) ?_
  intro H e s' h
  obtain ⟨_, _, _, _, _, _, _, _, _, _, _, _, z⟩ := h
  exact z
end Bk
set_option Elab.async false
set_option linter.all false
set_option maxRecDepth 100000
set_option maxHeartbeats 4000000
namespace Bk
open PySem PySem.Spec PyProof.Rows L2 PySem.NumText
open PySem.W (Frag)
/-! ## data that is shown in few signs -/
def lowT (x : Str) : Prop := ∀ c ∈ x.cps.toList, c < 256
theorem low_app {x y : Str} (h : lowT x) (k : lowT y) : lowT (x ++ y) := by
  intro c hc
  have e : (x ++ y).cps.toList = x.cps.toList ++ y.cps.toList := TL.tl_append x y
  rw [e, List.mem_append] at hc
  exact hc.elim (h c) (k c)
theorem low_lit {x : Str} (h : x.cps.toList.all (fun c => decide (c < 256)) = true) : lowT x := fun c hc => of_decide_eq_true (List.all_eq_true.mp h c hc)
theorem low_join {y : Str} (hy : lowT y) : ∀ {ws : List Str}, (∀ w ∈ ws, lowT w) → lowT (Str.join y ws)
  | [], _ => low_lit (x := Str.empty) (by decide +kernel)
  | [a], h => h a List.mem_cons_self
  | a :: b :: r, h => by
    have e : Str.join y (a :: b :: r) = a ++ y ++ Str.join y (b :: r) := rfl
    rw [e]
    exact low_app (low_app (h a List.mem_cons_self) hy) (low_join hy fun w hw => h w (List.mem_cons_of_mem _ hw))
theorem low_name {x : Str} (h : nameOk x = true) : lowT x := fun c hc => by
  have := List.all_eq_true.mp (name_all h) c hc
  unfold letter at this
  simp only [Bool.and_eq_true, decide_eq_true_eq] at this
  omega
theorem low_num {z : Int} (h0 : 0 ≤ z) (h1 : z ≤ 40) : lowT (num z) := fun c hc => by
  have := List.all_eq_true.mp (num_le h0 h1).2.2 c hc
  unfold digit at this
  simp only [Bool.and_eq_true, decide_eq_true_eq] at this
  omega
theorem low_town {t : TownD} (ok : t.Ok) : lowT (townText t) := by
  have z1 := ok.s1
  have z2 := ok.s2
  unfold townText
  rw [TL.join_eq]
  refine low_join (low_lit (by decide +kernel)) fun w hw => ?_
  unfold linesOf at hw
  rw [List.mem_append, List.mem_append] at hw
  rcases hw with (hw | hw) | hw
  · rw [List.mem_singleton.mp hw]
    exact low_app (low_lit (by decide +kernel)) (low_num (by omega) (by omega))
  · obtain ⟨s, hs, rfl⟩ := List.mem_map.mp hw
    have := ok.st.each s hs
    exact low_app (low_app (low_app (low_lit (by decide +kernel)) (low_name this.1)) (low_lit (by decide +kernel))) (low_num (by omega) this.2.2)
  · obtain ⟨s, hs, rfl⟩ := List.mem_map.mp hw
    have := ok.rds s hs
    exact low_app (low_app (low_app (low_app (low_app (low_lit (by decide +kernel)) (low_name this.1)) (low_lit (by decide +kernel))) (low_name this.2.1)) (low_lit (by decide +kernel))) (low_num (by omega) (by omega))
/-- shown in few signs: depth n, weight w -/
structure Few (n w : Nat) (d : PyData) : Prop where
  s : d.showable = true
  l : d.leavesShort 8 = true
  w : d.weight ≤ w
  d : d.depth ≤ n
theorem Few.str {n m : Nat} {x : Str} (h : lowT x) (hl : x.length ≤ m) : Few n m (.str x) := by
  refine ⟨rfl, ?_, hl, Nat.zero_le _⟩
  show (x.cps.toList.all fun c => decide (c < 16 ^ 8)) = true
  rw [List.all_eq_true]
  intro c hc
  have := h c hc
  exact decide_eq_true (by omega)
theorem num_fit : ∀ n : Fin 41, (PyData.int ((n.val : Nat) : Int)).showable = true ∧ (PyData.int ((n.val : Nat) : Int)).leavesShort 8 = true ∧ (PyData.int ((n.val : Nat) : Int)).weight ≤ 6 := by decide +kernel
theorem Few.int {n : Nat} {z : Int} (h0 : 0 ≤ z) (h1 : z ≤ 40) : Few n 6 (.int z) := by
  have h := num_fit ⟨z.toNat, by omega⟩
  have e : ((z.toNat : Nat) : Int) = z := Int.toNat_of_nonneg h0
  simp only [e] at h
  exact ⟨h.1, h.2.1, h.2.2, Nat.zero_le _⟩
theorem Few.more {n m w w' : Nat} {d : PyData} (h : Few n w d) (hn : n ≤ m) (hw : w ≤ w') : Few m w' d := ⟨h.s, h.l, Nat.le_trans h.w hw, Nat.le_trans h.d hn⟩
theorem Few.bl {n : Nat} {b : Bool} : Few n 0 (.bool b) := ⟨rfl, rfl, Nat.le_refl _, Nat.zero_le _⟩
structure Fews (n w : Nat) (ds : List PyData) : Prop where
  s : PyData.showableAll ds = true
  l : PyData.leavesShortAll 8 ds = true
  w : PyData.weightAll ds ≤ w
  d : PyData.depthAll ds ≤ n
theorem Fews.nil {n : Nat} : Fews n 0 [] := ⟨rfl, rfl, Nat.le_refl _, Nat.zero_le _⟩
theorem Fews.cons {n w w' : Nat} {d : PyData} {ds : List PyData} (h : Few n w d) (k : Fews n w' ds) : Fews n (w + 1 + w') (d :: ds) := by
  refine ⟨?_, ?_, ?_, ?_⟩
  · show (d.showable && PyData.showableAll ds) = true
    rw [h.s, k.s]; rfl
  · show (d.leavesShort 8 && PyData.leavesShortAll 8 ds) = true
    rw [h.l, k.l]; rfl
  · show d.weight + 1 + PyData.weightAll ds ≤ _
    have := h.w
    have := k.w
    omega
  · show max d.depth (PyData.depthAll ds) ≤ n
    exact Nat.max_le.mpr ⟨h.d, k.d⟩
theorem Fews.all {n w : Nat} : ∀ {ds : List PyData}, (∀ d ∈ ds, Few n w d) → Fews n (ds.length * (w + 1)) ds
  | [], _ => by rw [List.length_nil, Nat.zero_mul]; exact .nil
  | d :: ds, h => by
    have e : (d :: ds).length * (w + 1) = w + 1 + ds.length * (w + 1) := by rw [List.length_cons, Nat.add_mul, Nat.one_mul, Nat.add_comm]
    rw [e]
    exact .cons (h d List.mem_cons_self) (Fews.all fun x hx => h x (List.mem_cons_of_mem _ hx))
theorem Fews.more {n m w w' : Nat} {ds : List PyData} (h : Fews n w ds) (hn : n ≤ m) (hw : w ≤ w') : Fews m w' ds := ⟨h.s, h.l, Nat.le_trans h.w hw, Nat.le_trans h.d hn⟩
theorem Fews.tup {n w : Nat} {ds : List PyData} (h : Fews n w ds) : Few (n + 1) w (.tuple ds) := ⟨h.s, h.l, h.w, Nat.succ_le_succ h.d⟩
theorem Fews.lst {n w : Nat} {ds : List PyData} (h : Fews n w ds) : Few (n + 1) w (.list ds) := ⟨h.s, h.l, h.w, Nat.succ_le_succ h.d⟩
theorem Few.short {n w : Nat} {d : PyData} (h : Few n w d) (hw : w ≤ 1000000) : d.shown.length ≤ sizeLine := by
  have h1 := PyData.shown_le 8 (by decide) d h.l
  have h2 := h.w
  have : sizeLine = 16777216 := by decide
  omega
theorem few_stand {s : Str × Int} (h : nameOk s.1 = true ∧ 1 ≤ s.2 ∧ s.2 ≤ 40) : Few 1 16 (encS s) :=
  (Fews.cons (.str (low_name h.1) (nameOk_len h.1).2) (.cons (.int (by omega) h.2.2) .nil)).tup
theorem few_road {s : Str × Str × Int} (h : nameOk s.1 = true ∧ nameOk s.2.1 = true ∧ 1 ≤ s.2.2 ∧ s.2.2 ≤ 3) : Few 1 25 (encR s) :=
  (Fews.cons (.str (low_name h.1) (nameOk_len h.1).2) (.cons (.str (low_name h.2.1) (nameOk_len h.2.1).2) (.cons (.int (by omega) (by omega)) .nil))).tup
theorem few_stands {l : List (Str × Int)} (h : ∀ s ∈ l, nameOk s.1 = true ∧ 1 ≤ s.2 ∧ s.2 ≤ 40) (hl : l.length ≤ 5) : Few 2 85 (encSs l) := by
  have h1 : Fews 1 ((l.map encS).length * 17) (l.map encS) := Fews.all fun d hd => by
    obtain ⟨s, hs, rfl⟩ := List.mem_map.mp hd
    exact few_stand (h s hs)
  rw [List.length_map] at h1
  exact (h1.more (Nat.le_refl _) (by omega)).tup
theorem few_roads {l : List (Str × Str × Int)} (h : ∀ s ∈ l, nameOk s.1 = true ∧ nameOk s.2.1 = true ∧ 1 ≤ s.2.2 ∧ s.2.2 ≤ 3) (hl : l.length ≤ 12) : Few 2 312 (encRs l) := by
  have h1 : Fews 1 ((l.map encR).length * 26) (l.map encR) := Fews.all fun d hd => by
    obtain ⟨s, hs, rfl⟩ := List.mem_map.mp hd
    exact few_road (h s hs)
  rw [List.length_map] at h1
  exact (h1.more (Nat.le_refl _) (by omega)).tup
theorem few_names {l : List Str} (h : ∀ x ∈ l, nameOk x = true) (hl : l.length ≤ 5) : Few 2 45 (encN l) := by
  have h1 : Fews 1 ((l.map PyData.str).length * 9) (l.map PyData.str) := Fews.all fun d hd => by
    obtain ⟨s, hs, rfl⟩ := List.mem_map.mp hd
    exact .str (low_name (h s hs)) (nameOk_len (h s hs)).2
  rw [List.length_map] at h1
  exact (h1.more (Nat.le_refl _) (by omega)).tup
def allD (t : TownD) : PyData := .list [.int t.slots, encSs t.stands, encRs t.roads, encN t.names, .str (townText t)]
theorem few_all {t : TownD} (ok : t.Ok) : Few 3 2000 (allD t) := by
  have z1 := ok.s1
  have z2 := ok.s2
  have hn : t.names.length ≤ 5 := by
    unfold TownD.names
    rw [List.length_map]
    exact ok.st.few
  exact ((Fews.cons (.int (by omega) (by omega)) (.cons (few_stands ok.st.each ok.st.few) (.cons (few_roads ok.rds ok.rd.few) (.cons (few_names ok.nm hn) (.cons (.str (low_town ok) (text_len ok)) .nil))))).more (Nat.le_refl _) (by decide)).lst
theorem repr_few {K : Frag} {H : Hp} {v : V} {d : PyData} {Q : VK} {n w : Nat} (h : Dp K H v d) (hd : isDisplay d = true) (f : Few n w d) (hn : n ≤ 60) (hw : w ≤ 1000000) (q : Q (.str d.shown) H) : rRepr K [v] H Q :=
  ⟨v, d, rfl, h, hd, f.s, Nat.le_trans f.d hn, f.short hw, q⟩
end Bk
set_option Elab.async false
set_option linter.all false
set_option maxRecDepth 100000
set_option maxHeartbeats 4000000
namespace Bk
open PySem PySem.Spec PyProof.Rows L2 PySem.NumText
open PySem.W (Frag)
/-! ## the list of what was seen: pairs of a text and its town -/
def PairAt (K : Frag) (H : Hp) (x : V) (t : TownD) : Prop := ∃ b q, x = .ref b ∧ H b = some (.tup [.str (townText t), .ref q]) ∧ TownAt K H q t ∧ t.Ok
structure SeenAt (K : Frag) (H : Hp) (L : Addr) (ts : List TownD) (xs : List V) : Prop where
  at_ : H L = some (.lst xs)
  len : xs.length = ts.length
  each : ∀ (i : Nat) (x : V) (t : TownD), xs[i]? = some x → ts[i]? = some t → PairAt K H x t
theorem PairAt.same {K : Frag} {H H' : Hp} {x : V} {t : TownD} (h : PairAt K H x t) (s : Same H H') : PairAt K H' x t := by
  obtain ⟨b, q, e, h1, h2, h3⟩ := h
  exact ⟨b, q, e, s _ _ h1, h2.same s, h3⟩
theorem SeenAt.same {K : Frag} {H H' : Hp} {L : Addr} {ts : List TownD} {xs : List V} (h : SeenAt K H L ts xs) (s : Same H H') : SeenAt K H' L ts xs :=
  ⟨s _ _ h.at_, h.len, fun i x t e1 e2 => (h.each i x t e1 e2).same s⟩
theorem PairAt.but {K : Frag} {p : Addr} {H H' : Hp} {x : V} {t : TownD} {zs : List V} (h : PairAt K H x t) (hp : H p = some (.lst zs)) (s : But p H H') : PairAt K H' x t := by
  obtain ⟨b, q, e, h1, h2, h3⟩ := h
  refine ⟨b, q, e, s _ _ h1 fun z => ?_, h2.but (noTup_lst hp) s fun z => ?_, h3⟩
  · rw [z, hp] at h1
    cases h1
  · obtain ⟨_, _, _, _, h4, _⟩ := h2.ob
    rw [z, hp] at h4
    cases h4
theorem SeenAt.but {K : Frag} {p : Addr} {H H' : Hp} {L : Addr} {ts : List TownD} {xs zs : List V} (h : SeenAt K H L ts xs) (hp : H p = some (.lst zs)) (hn : L ≠ p) (s : But p H H') : SeenAt K H' L ts xs :=
  ⟨s _ _ h.at_ hn, h.len, fun i x t e1 e2 => (h.each i x t e1 e2).but hp s⟩
theorem SeenAt.more {K : Frag} {H : Hp} {L : Addr} {ts : List TownD} {xs : List V} {x : V} {t : TownD} (h : SeenAt K H L ts xs) (hx : PairAt K H x t) : SeenAt K (upd H L (.lst (xs ++ [x]))) L (ts ++ [t]) (xs ++ [x]) := by
  refine ⟨upd_same, by rw [List.length_append, List.length_append, h.len]; rfl, fun i y u e1 e2 => ?_⟩
  have hl := h.len
  refine PairAt.but ?_ h.at_ (but_upd L H _)
  by_cases hi : i < xs.length
  · rw [List.getElem?_append_left hi] at e1
    rw [List.getElem?_append_left (by omega)] at e2
    exact h.each i y u e1 e2
  · have hi2 : i = xs.length := by
      have : i < (xs ++ [x]).length := by
        rcases Nat.lt_or_ge i (xs ++ [x]).length with z | z
        · exact z
        · rw [List.getElem?_eq_none z] at e1; cases e1
      rw [List.length_append] at this
      show i = _
      have e : [x].length = 1 := rfl
      omega
    rw [hi2, List.getElem?_append_right (Nat.le_refl _), Nat.sub_self] at e1
    rw [hi2, hl, List.getElem?_append_right (Nat.le_refl _), Nat.sub_self] at e2
    cases e1
    cases e2
    exact hx
theorem same_of_two {p L : Addr} {H0 H H' : Hp} (s : Same H0 H) (hp : H0 p = none) (hL : H0 L = none) (k : ∀ b o, H b = some o → b ≠ p → b ≠ L → H' b = some o) : Same H0 H' := fun b o h =>
  k b o (s b o h) (fun z => by rw [z, hp] at h; cases h) (fun z => by rw [z, hL] at h; cases h)
/-- two towns of one text are told alike -/
theorem few_bls {bs : List Bool} (h : bs.length ≤ 10) : Few 1 20 (.list (bs.map .bool)) := by
  have h1 : Fews 0 ((bs.map PyData.bool).length * 1) (bs.map PyData.bool) := Fews.all fun d hd => by
    obtain ⟨s, hs, rfl⟩ := List.mem_map.mp hd
    exact .bl
  rw [List.length_map] at h1
  exact (h1.more (Nat.le_refl _) (by omega)).lst
theorem shown_bls3 : (PyData.list [.bool true, .bool true, .bool false]).shown = "[True, True, False]" := by decide +kernel
end Bk
set_option Elab.async false
set_option linter.all false
namespace Bk
open PySem PySem.Spec PyProof.Rows L2 PySem.NumText
open PySem.W (Frag)
theorem sqlS {K : Frag} {H H' : Hp} {a : Addr} {xs : List V} (s : Same H H') (h : SqL K H a xs) : SqL K H' a xs := by
  rcases h with (h | ⟨o', h⟩) | h
  · exact .inl (.inl (s _ _ h))
  · exact .inl (.inr ⟨o', s _ _ h⟩)
  · exact .inr h
end Bk
set_option Elab.async false
set_option linter.all false
set_option maxRecDepth 100000
set_option maxHeartbeats 4000000
namespace Bk
open PySem PySem.Spec PyProof.Rows L2 PySem.NumText
open PySem.W (Frag)
/-- what is shown of the law's own def -/
structure GLaw (P : Program) (w : World) (K : Frag) (mg : Str → Option Value) (k : Nat) (x : Str) (ps : List Str) (sp : Sp) : Prop where
  ok : ∃ fd, (∀ (s : Shared) (us : List Value), us.length = ps.length → BindsTo s fd ⟨us, []⟩ (ps.zip us)) ∧ ∀ base : Heap, FnG P w K mg base (L2.CX P w) k (He.ga K x) fd ps sp
theorem gokL_of {P : Program} {w : World} {K : Frag} {mg : Str → Option Value} {x : Str} {st : Stmt} {N ps : List Str} {k : Nat} {sp : Sp} {kws : List (Str × V)}
    (F : ∃ fd, FunD K x x (defArgs st) (defBody st) (defScope st) [] kws (He.ga K x) fd) (S : FnScope N ps (defScope st))
    (hb : ∀ (kV doc pm : Value) (an : Option Addr) (cdv ct : Value) (us : List Value), us.length = ps.length →
      bindArgs (PySem.W.fnOf x x (defArgs st) (defBody st) (defScope st) .none kV doc pm an cdv ct) ⟨us, []⟩ = pure (ps.zip us))
    (len : ∀ vs H Q E, sp vs H Q E → vs.length = ps.length)
    (hbody : ∀ (base : Heap) (cdv : Value) (A : Around) (outer : List Env) (s : Shared) (H : Hp) (vs : List V) (Q : VK) (E : XK), A.guards = some [] →
      Room k (A.deeper (envOfC x (defScope st) s.heap.objs.size (He.ga K x) cdv)) → sp vs H Q E →
      ∃ t, PSs (cxOf (L2.CX P w) P w K mg base N x (defScope st) (He.ga K x) cdv A outer s H E) (defBody st) t ∧
        t { nx := fun _ H' => Q .non H', rt := Q } (start N vs) H) :
    GLaw P w K mg (k + 1) x ps sp := by
  obtain ⟨fd, F⟩ := F
  have bd := FunD.bindsA (ps := ps) F hb
  obtain ⟨oc, od, dV, kV, doc, pm, an, cdv, ct, osl, rfl, lk, hcd, _, _⟩ := id F.ex
  exact ⟨_, bd, fun base => fnG_of lk hcd S len fun A outer s H vs Q E hG hr hsp => hbody base cdv A outer s H vs Q E hG hr hsp⟩
end Bk
set_option Elab.async false
set_option linter.all false
set_option maxRecDepth 100000
set_option maxHeartbeats 4000000
/-! ## an own exception over ValueError whose __init__ begins with super().__init__() -/
namespace Bk
open PySem PySem.Spec PyProof.Rows L2 PySem.NumText
open PySem.W (Frag)
open NdefX
/-- the def at f: its one captured cell holds the class at C, its code object tells the file -/
structure SuF (K : Frag) (file : Str) (F : NF) (f C : Addr) (fd : FuncData) : Prop where
  ex : ∃ (oc : Value) (od : Option Addr) (doc pm ctv : Value) (osl : Array (Option Value)), fd = F.fd doc pm ctv ∧ K.lookup f = some ⟨oc, od, .func fd, osl⟩
  cd : PySem.W.codeIn K (.ref F.c) F.qual = true
  fl : ∃ (cl : Value) (od : Option Addr) (vs : Array Value) (sl : Array (Option Value)) (tf : Tok), K.lookup F.c = some ⟨cl, od, .fields vs, sl⟩ ∧ vs[2]? = some (.str file tf)
  ce : ∃ (cc : Addr) (cl : Value) (od : Option Addr) (sl : Array (Option Value)), F.cl = [(("__class__" : Str), cc)] ∧ K.lookup cc = some ⟨cl, od, .cell (some (.ref C)), sl⟩
/-- what the head must tell besides -/
structure SuK (K : Frag) (mg : Str → Option Value) (C : Addr) : Prop where
  mro : PySem.W.mroIn K C (.ref C) = some true
  isa : PySem.W.subIn K (.ref C) (.type "ValueError") = some true
  opq : PySem.W.nsIn K cStatics "thirdparty.any" = some none
  ini : PySem.W.ks_superIn K C C "__init__" = some (some (.builtin "ValueError.__init__"))
  sup : mg "super" = none
section
variable {X : Cx} {pins : List (Addr × Obj)} {σ : L2.St} {H : Hp} {s : Shared} {a C u : Addr}
theorem exo_init {A : Around} {E : Value → Shared → Prop} {Q : Value → Shared → Prop} (T : OexC X.K C) (I : Inv X pins σ H s) (e : H a = some (exo a C none)) (hu : s.heap.get? u = some (PySem.W.kxs_mw "ValueError.__init__" a)) (h : ∀ s', Inv X pins σ H s' → Q .none s') :
    wpAny (model X.prog X.w) A (call (.ref u) []) Q E s := by
  obtain ⟨nm, q, N, bs, bm, sn, sub, ab, col, dd, k0, k1, k2, k3, k5, hC, hbm⟩ := T.cls
  obtain ⟨t1, ho⟩ := exo_at I.hok e
  obtain ⟨hp, g, d, t, os⟩ := s
  have FB := F.excBase_ValueError
  refine wpAny_call (codeAny_of_tree ?_)
  show wpAny _ A.in1 (callAny (.ref u) ⟨[], []⟩) _ _ _
  simp only [callAny]
  refine wpAny_bind (wpAny_load hu ?_)
  simp only [PySem.W.kxs_mw, show (Value.type "method-wrapper" == Value.type "method" || Value.type "method-wrapper" == Value.type "builtin_function_or_method" || Value.type "method-wrapper" == Value.type "method-wrapper") = true by decide, if_true]
  refine PySem.W.KFB.if_so (by decide) ?_
  refine wpAny_bind (PySem.W.check_bound_init FB.toExcCallFacts (I.kIn _ _ hC) ho rfl ?_)
  refine wpAny_bind (wpAny_pure (wpAny_pure ?_))
  refine ⟨plainId_quiet FB.init.plain _, codeAny_builtin FB.initEntry ?_⟩
  refine PySem.W.exc_init_tree (cls := .ref C) (t0 := t1) (dv := none) (c2 := .none) (c3 := .none) (b4 := .bool false) ho (Nat.zero_le _) ?_
  intro h' k hx _
  have J := I.write (t' := t) (x := a) (e := a) (o := exo a C none) (by rw [e]; exact True.intro) (.inl rfl) k ⟨_, hx⟩ (exo_ok hx)
  have eu : upd H a (exo a C none) = H := by
    funext b
    by_cases hb : b = a
    · rw [hb, upd_same, e]
    · rw [upd_ne hb]
  rw [eu] at J
  exact h _ J
end
end Bk
set_option Elab.async false
set_option linter.all false
set_option maxRecDepth 100000
set_option maxHeartbeats 4000000
namespace Bk
open PySem PySem.Spec PyProof.Rows L2 PySem.NumText
open PySem.W (Frag)
open NdefX
theorem lk1 {α : Type} (k y : Str) (c : α) : ([(k, c)] : List (Str × α)).lookup y = if y = k then some c else none := by
  by_cases h : y = k
  · subst h
    simp [List.lookup]
  · have e : (y == k) = false := by simpa using h
    rw [if_neg h]
    simp [List.lookup, e]
theorem fnS_of {P : Program} {w : World} {K : Frag} {mg : Str → Option Value} {base : Heap} {CX : CXT} {file : Str} {F : NF} {f C : Addr} {fd : FuncData} {N ps : List Str} {sp : Sp} {k : Nat} {rest : List Stmt} {p0 p1 p2 p3 p4 : Pos} {ar : Arg}
    (S : SuF K file F f C fd) (U : SuK K mg C) (T : OexC K C) (NS : NScope N ps ["__class__"] F.scope)
    (hb : F.body = .Expr (.Call (.Attribute (.Call (.Name "super" p0) [] [] p1) "__init__" p2) [] [] p3) p4 :: rest)
    (hP : ((P.main.file : Str) == file) = true) (hT : (P.main.scope.names.lookup ("super" : Str)).isSome = false)
    (hp : (F.params.posonlyargs ++ F.params.args).head? = some ar) (hN0 : N[0]? = some ar.arg) (hka : F.scope.names.lookup ar.arg = some .local)
    {pl : Env → Sem Bool} (hev : ∀ L : Addr, eval (.Call (.Attribute (.Call (.Name "super" p0) [] [] p1) "__init__" p2) [] [] p3) (envF F f L) = (do
      let ov ← attributeBase (.Call (.Name "super" p0) [] [] p1) "__init__" (envF F f L) (eval (.Call (.Name "super" p0) [] [] p1) (envF F f L))
      standAt p2.atName
      let (ff, first) ← holding [ov] (getMethod ov "__init__" (pl (envF F f L)))
      callWith p3 ff first (backTo p3 (starEach [] (envF F f L))) []))
    (hint : ∀ L : Addr, interactive (envF F f L) = false) (hsw : ∀ L : Addr, swapsWith (.Call (.Attribute (.Call (.Name "super" p0) [] [] p1) "__init__" p2) [] [] p3) none p4.line (envF F f L) = pure false)
    (hks : F.scope.names.lookup ("super" : Str) = some .globalImplicit) (hkc : F.scope.names.lookup ("__class__" : Str) = some .free)
    (len : ∀ vs H Q E, sp vs H Q E → vs.length = ps.length)
    (hbody : ∀ (A : Around) (outer : List Env) (s : Shared) (H : Hp) (vs : List V) (Q : VK) (E : XK), Room k (A.deeper (envF F f s.heap.objs.size)) → sp vs H Q E →
      ∃ a vr, vs = V.ref a :: vr ∧ H a = some (exo a C none) ∧ ∃ t, PSs (ncx CX P w K mg base N F f A outer s H E) rest t ∧ t { nx := fun _ H' => Q .non H', rt := Q } (startF N vs [some (.ref C)]) H) :
    FnOk P w K mg base CX (k + 1) f fd ps sp := by
  refine ⟨len, fun A outer s H args us vs Q E hr e0 hbd r hsp => ?_⟩
  have old : ∀ b o, base.get? b = some o → s.heap.get? b = some o := fun b o e => (e0.bs b o e).1
  have KX : K.In s.heap := e0.mod.kin.keeps old
  have lim : s.heap.NoLimit := e0.mod.nolimit.keeps old
  have hl := len _ _ _ _ hsp
  obtain ⟨oc, od, doc, pm, ctv, osl, efd, lk⟩ := S.ex
  subst efd
  obtain ⟨ccl, cod, cvs, csl, tf, lc, hvs⟩ := S.fl
  obtain ⟨cc, cl, cdd, csl2, ecl, lcc⟩ := S.ce
  have CA : CellsAt F.cl ["__class__"] [some (.ref C)] s.heap H := by
    have inv : ∀ {y c}, F.cl.lookup y = some c → y = ("__class__" : Str) ∧ c = cc := by
      intro y c z
      rw [ecl] at z
      rw [lk1] at z
      by_cases hy : y = ("__class__" : Str)
      · rw [if_pos hy] at z
        exact ⟨hy, (Option.some.inj z).symm⟩
      · rw [if_neg hy] at z
        cases z
    refine ⟨rfl, fun y c z => ?_, fun x y c z z' => ?_, fun i y hi => ?_⟩
    · obtain ⟨_, rfl⟩ := inv z
      exact ⟨(e0.bs _ _ (e0.mod.kin _ _ lcc)).2, _, _, KX _ _ lcc, rfl⟩
    · rw [(inv z).1, (inv z').1]
    · match i, hi with
      | 0, hi =>
        cases hi
        refine ⟨cc, by rw [ecl, lk1, if_pos rfl], fun v hv => ?_⟩
        cases hv
        exact ⟨_, rfl, _, KX _ _ lcc, rfl⟩
  refine ks_codeAny_call_defAt (fd := F.fd doc pm ctv) (body := F.body) (binds := ps.zip us) hr.depth (KX _ _ lk) rfl lim (PySem.W.codeRec_of KX S.cd) rfl hbd NS.nocell (fun ⟨n, v⟩ hy => NS.par n (List.of_mem_zip hy).1) (fun h₁ hns kp => ?_) NS.co NS.gen NS.kind
  show _root_.PySem.wpAt _ (A.deeper (envF F f s.heap.objs.size)) (.func F.body (envF F f s.heap.objs.size)) (execs F.body (envF F f s.heap.objs.size)) _ _ _
  have I : Inv (ncx CX P w K mg base N F f A outer s H E) [] (startF N vs [some (.ref C)]) H { s with heap := h₁, toks := s.toks + (ps.zip us).length } := inv_startN NS hr.hd e0 hl r CA hns kp
  obtain ⟨a, vr, ev, ha, t, ht, hq⟩ := hbody A outer s H vs Q E (hr.deeper _) hsp
  generalize hbo : F.body = bo at *
  generalize hs1 : ({ s with heap := h₁, toks := s.toks + (ps.zip us).length } : Shared) = s1 at *
  subst hb
  have fin : ∀ {σ' : L2.St} {H' : Hp} {v : V} {u : Value} {s' : Shared}, Inv (ncx CX P w K mg base N F f A outer s H E) [] σ' H' s' → L2.RelV v u → Q v H' → CE outer P w H s Q u s' :=
    fun {σ' H' v u s'} J rv q => ⟨v, H', J.os, J.bare, J.base, J.hok, rv, q⟩
  have tail : ∀ s', Inv (ncx CX P w K mg base N F f A outer s H E) [] (startF N vs [some (.ref C)]) H s' → wpAny (model P w) (A.deeper (envF F f s.heap.objs.size)) (execs rest (envF F f s.heap.objs.size))
      (fun fl s' => CR CX outer P w H s Q E (.ok (.ret (match fl with | .ret v => v | _ => .none))) s')
      (fun e s' => wpAny (model P w) (A.deeper (envF F f s.heap.objs.size)) (leaving (envF F f s.heap.objs.size) e) (fun _ s'' => CR CX outer P w H s Q E (.error e) s'') (fun e' s'' => CR CX outer P w H s Q E (.error e') s'') s') s' := by
    intro s' J
    refine wpAny_mono (ht.run [] _ (startF N vs [some (.ref C)]) H _ J hq) (fun fl s' hs => ?_) fun e s' hs => hs
    cases fl with
    | ret u =>
      obtain ⟨v, σ', H', J, rv, q⟩ := hs
      exact fin J rv q
    | next =>
      obtain ⟨σ', H', J, q⟩ := hs
      exact fin (v := V.non) (u := Value.none) J rfl q
    | brk =>
      obtain ⟨_, _, _, q⟩ := hs
      exact False.elim q
    | cont =>
      obtain ⟨_, _, _, q⟩ := hs
      exact False.elim q
  refine ks_wpAt_execs_cons (ks_wpAt_Expr_any (ks_wpAt_MethodCall ?_ (hev _)) (hint _) (hsw _))
  obtain ⟨m1, m2, ⟨mb, m3, m4⟩, m5⟩ := I.ok.mod
  obtain ⟨t1, hx⟩ := exo_at I.hok ha
  obtain ⟨nm, qn, NN, bs, bm, sn, sub, ab, col, dd, k0, k1, k2, k3, k5, hC, hbm⟩ := T.cls
  obtain ⟨m, hm, hloc⟩ := I.loc
  have hself : m ar.arg = some (.ref a) := by
    obtain ⟨u, ru, lo⟩ := hloc 0 ar.arg (.ref a) hN0 (by rw [ev]; rfl) (Or.inl hka)
    cases (show u = Value.ref a from ru)
    rcases lo with ⟨_, z⟩ | ⟨z, _⟩
    · exact z
    · rcases z with z | z
      · cases (show (some NameKind.local : Option NameKind) = some .cell from hka.symm.trans z)
      · cases (show (some NameKind.local : Option NameKind) = some .free from hka.symm.trans z)
  refine ks_wpAt_super_base (f := f) (cc := F.c) (fd := F.fd doc pm ctv) hks hkc (by decide) rfl (I.kIn _ _ lk) rfl hp rfl (I.kIn _ _ lc) rfl hvs hP hT ?_
  refine PySem.W.ks_loadName_global NS.kind hks (PySem.Calls.loadGlobal_builtin (m2.keeps I.bk) U.sup (m3.keeps I.bk) ((m4 _ (by decide +kernel)).trans (by kernel_rfl : bootBuiltins "super" = some (.type "super"))) ⟨rfl, ?_⟩)
  refine wpAny_loadName_free NS.kind hkc (c := cc) (by show F.cl.lookup _ = _; rw [ecl, lk1, if_pos rfl]) ⟨_, I.kIn _ _ lcc, rfl⟩ ?_
  refine wpAny_loadName_local NS.kind hka hm hself ?_
  refine ks_wpAny_isType_cls (I.kIn _ _ hC) rfl ⟨rfl, ?_⟩
  clear hs1
  obtain ⟨hp1, g, d, tk, os⟩ := s1
  refine ks_wpAny_call_super (I.kIn _ _ hC) rfl hx rfl (fun c z => by cases z) (PySem.W.looks_mroIn I.kIn U.mro) (fun h' e kk => ?_)
  have J1 := I.kept (t' := tk) kk
  have IA : PySem.W.InstAt h' a { cls := .ref C, dict := none, data := .fields #[.ref t1, .none, .none, .none, .bool false, .none] } C none := ⟨kk _ _ hx, rfl, rfl, trivial⟩
  cases hcl : PySem.W.clsIn K C with
  | none =>
    have z := U.ini
    unfold PySem.W.ks_superIn at z
    rw [hcl] at z
    cases z
  | some cd =>
    have z := U.ini
    unfold PySem.W.ks_superIn at z
    rw [hcl] at z
    refine PySem.W.kxs_getMethod PySem.W.kxs_ValueError e (PySem.W.looks_opaque J1.kIn U.opq) (l₀ := cd.mro) ?_ rfl J1.kIn z (IA.type.andThen (PySem.W.looks_subIn J1.kIn U.isa)) (PySem.W.ks_ne J1.kIn IA hcl) (by decide) ?_
    · exact fun A Q E s k q => wpAny_bind ((PySem.W.looks_clsIn J1.kIn hcl) A _ E s k (wpAny_pure q))
    · have J2 := J1.kept (t' := tk + 1) (h' := h'.push (PySem.W.kxs_mw "ValueError.__init__" a)) fun b o e => Heap.get?_push_of_some _ e
      refine PySem.W.kxs_callWith (i := "ValueError.__init__") (x := a) rfl (evalArgs_empty ⟨Heap.get?_push_at rfl rfl, ?_⟩)
      exact exo_init (X := ncx CX P w K mg base N F f A outer s H E) T J2 ha (Heap.get?_push_at rfl rfl) fun s' J3 => wpAt_of_wpAny (tail s' J3)
end Bk
set_option Elab.async false
set_option linter.all false
set_option maxRecDepth 100000
set_option maxHeartbeats 4000000
namespace Bk
open PySem PySem.Spec PyProof.Rows L2 PySem.NumText
open PySem.W (Frag)
open NdefX
/-! ## defs with the cell of their class, as the head tells them -/
structure DefX where
  at_ : Frag → Addr
  cls : Frag → Addr
  name : Str
  qual : Str
  params : Arguments
  body : List Stmt
  scope : Scope
def fnC (K : Frag) (a : Addr) : He5.FnW := match K.lookup a with
  | some ⟨_, _, .func fd, _⟩ => some (fd.name, fd.qualname, fd.params, fd.body, fd.scope, fd.globals, [], fd.builtins)
  | _ => none
def DefX.val (d : DefX) : He5.FnW := some (d.name, d.qual, d.params, .stmts d.body, d.scope, mainGlobals, [], builtinsNs)
def codeF (K : Frag) (file qual : Str) : Value → Bool
  | .ref c => PySem.W.codeIn K (.ref c) qual && (match K.lookup c with
    | some ⟨_, _, .fields vs, _⟩ => (match (vs[2]? : Option Value) with
      | some (Value.str fl _) => decide (fl = file)
      | _ => false)
    | _ => false)
  | _ => false
def cellB (K : Frag) (C : Addr) : List (Str × Addr) → Bool
  | [(n, cc)] => decide (n = ("__class__" : Str)) && (match K.lookup cc with
    | some ⟨_, _, .cell (some (.ref D)), _⟩ => decide (D = C)
    | _ => false)
  | _ => false
def DefX.ok (file : Str) (K : Frag) (d : DefX) : Bool := match K.lookup (d.at_ K) with
  | some ⟨_, _, .func fd, _⟩ => decide (fd.defaults = .none) && (decide (fd.kwdefaults = .none) && (decide (fd.annotations = none) && (codeF K file d.qual fd.code && cellB K (d.cls K) fd.closure)))
  | _ => false
theorem codeF_ok {K : Frag} {file qual : Str} {v : Value} (h : codeF K file qual v = true) : ∃ c, v = .ref c ∧ PySem.W.codeIn K (.ref c) qual = true ∧
    ∃ (cl : Value) (od : Option Addr) (vs : Array Value) (sl : Array (Option Value)) (tf : Tok), K.lookup c = some ⟨cl, od, .fields vs, sl⟩ ∧ vs[2]? = some (.str file tf) := by
  cases v with
  | ref c =>
    obtain ⟨h1, h2⟩ := He.ba (show (PySem.W.codeIn K (.ref c) qual && (match K.lookup c with
      | some ⟨_, _, .fields vs, _⟩ => (match (vs[2]? : Option Value) with
        | some (Value.str fl _) => decide (fl = file)
        | _ => false)
      | _ => false)) = true from h)
    refine ⟨c, rfl, h1, ?_⟩
    cases q : K.lookup c with
    | none => rw [q] at h2; cases h2
    | some o =>
      obtain ⟨oc, od, dt, osl⟩ := o
      rw [q] at h2
      cases dt with
      | fields vs =>
        cases q2 : vs[2]? with
        | none => simp only [q2] at h2; cases h2
        | some x =>
          simp only [q2] at h2
          cases x with
          | str fl tf =>
            have e : fl = file := of_decide_eq_true h2
            subst e
            exact ⟨oc, od, vs, osl, tf, rfl, q2⟩
          | _ => cases h2
      | _ => cases h2
  | _ => cases h
theorem cellB_ok {K : Frag} {C : Addr} {l : List (Str × Addr)} (h : cellB K C l = true) : ∃ (cc : Addr) (cl : Value) (od : Option Addr) (sl : Array (Option Value)), l = [(("__class__" : Str), cc)] ∧ K.lookup cc = some ⟨cl, od, .cell (some (.ref C)), sl⟩ := by
  match l, h with
  | [(n, cc)], h =>
    obtain ⟨h1, h2⟩ := He.ba (show (decide (n = ("__class__" : Str)) && (match K.lookup cc with
      | some ⟨_, _, .cell (some (.ref D)), _⟩ => decide (D = C)
      | _ => false)) = true from h)
    have e : n = ("__class__" : Str) := of_decide_eq_true h1
    subst e
    cases q : K.lookup cc with
    | none => rw [q] at h2; cases h2
    | some o =>
      obtain ⟨oc, od, dt, osl⟩ := o
      rw [q] at h2
      cases dt with
      | cell v =>
        cases v with
        | none => cases h2
        | some v =>
          cases v with
          | ref D =>
            have e : D = C := of_decide_eq_true h2
            subst e
            exact ⟨cc, oc, od, osl, rfl, q⟩
          | _ => cases h2
      | _ => cases h2
theorem DefX.suF {K : Frag} {file : Str} {d : DefX} (e : fnC K (d.at_ K) = d.val) (c : d.ok file K = true) : ∃ (cl : List (Str × Addr)) (c : Addr) (fd : FuncData), SuF K file ⟨d.name, d.qual, d.params, d.body, d.scope, cl, c⟩ (d.at_ K) (d.cls K) fd := by
  unfold fnC at e
  unfold DefX.ok at c
  cases q : K.lookup (d.at_ K) with
  | none => rw [q] at c; cases c
  | some o =>
    obtain ⟨oc, od, dt, osl⟩ := o
    rw [q] at c e
    cases dt with
    | func fd =>
      obtain ⟨n1, n2, n3, n4, n5, n6, n7, n8, n9, n10, n11, n12, n13, n14, n15⟩ := fd
      have e2 : (some (n1, n2, n3, n4, n5, n6, [], n15) : He5.FnW) = some (d.name, d.qual, d.params, .stmts d.body, d.scope, mainGlobals, [], builtinsNs) := e
      simp only [Option.some.injEq, Prod.mk.injEq] at e2
      obtain ⟨h1, h2, h3, h4, h5, h6, _, h8⟩ := e2
      subst h1 h2 h3 h4 h5 h6 h8
      obtain ⟨c1, c⟩ := He.ba c
      obtain ⟨c2, c⟩ := He.ba c
      obtain ⟨c3, c⟩ := He.ba c
      obtain ⟨c4, c5⟩ := He.ba c
      have e1 : n8 = .none := of_decide_eq_true c1
      have e2 : n9 = .none := of_decide_eq_true c2
      have e3 : n12 = none := of_decide_eq_true c3
      subst e1 e2 e3
      obtain ⟨cd, e4, c6, c7⟩ := codeF_ok c4
      have e4' : n13 = .ref cd := e4
      subst e4'
      obtain ⟨cc, cl, od2, sl2, e5, c8⟩ := cellB_ok c5
      have e5' : n7 = [(("__class__" : Str), cc)] := e5
      subst e5'
      exact ⟨_, cd, _, ⟨oc, od, n10, n11, n14, osl, rfl, q⟩, c6, c7, cc, cl, od2, sl2, rfl, c8⟩
    | _ => cases c
/-! ## the head's facts, with such defs -/
abbrev AlC : Type := Bool × List He5.FnW × List He5.FnW
def obsC (file : Str) (ex : Frag → Bool) (fn : List He5.DefA) (fx : List DefX) (K : Frag) : AlC := (ex K && (fn.all (fun d => d.ok K) && fx.all fun d => d.ok file K), fn.map (fun d => He5.fnA K (d.at_ K)), fx.map fun d => fnC K (d.at_ K))
def valC (fn : List He5.DefA) (fx : List DefX) : AlC := (true, fn.map He5.DefA.val, fx.map DefX.val)
def SaysC (file : Str) (ex : Frag → Bool) (fn : List He5.DefA) (fx : List DefX) (K : Frag) : Prop := obsC file ex fn fx K = valC fn fx
def obsCG (n : Nat) (file : Str) (ex : Frag → Bool) (fn : List He5.DefA) (fx : List DefX) (g : Addr → Option Obj) : AlC := obsC file ex fn fx (He.frG g (He5.asA g n))
def hookC (n : Nat) (file : Str) (ex : Frag → Bool) (fn : List He5.DefA) (fx : List DefX) : PySem.W.Hook where
  α := AlC
  obs s := obsCG n file ex fn fx s.heap.get?
  val _ := valC fn fx
  says _ h := ∃ K : Frag, K.In h ∧ SaysC file ex fn fx K
  of _ _ e := ⟨_, He.frG_in, e⟩
  keeps _ _ _ z k := let ⟨K, hK, c⟩ := z; ⟨K, Frag.In.keeps hK k, c⟩
theorem obsCG_eq {n : Nat} {file : Str} {ex : Frag → Bool} {fn : List He5.DefA} {fx : List DefX} {g : Addr → Option Obj} {s : Shared}
    (h : ∀ a, g a = s.heap.get? a) : obsCG n file ex fn fx g = (hookC n file ex fn fx).obs s := by
  obtain rfl : g = s.heap.get? := funext h
  rfl
section
variable {file : Str} {xk : Frag → Bool} {fn : List He5.DefA} {fx : List DefX} {K : Frag}
theorem SaysC.ex (c : SaysC file xk fn fx K) : xk K = true := (He.ba (congrArg (fun z : AlC => z.1) c)).1
theorem SaysC.def_ (c : SaysC file xk fn fx K) (i : Nat) {d : He5.DefA} (h : fn[i]? = some d := by rfl) :
    ∃ fd, FunD K d.name d.qual d.params d.body d.scope (d.dvs K) (d.kws K) (d.at_ K) fd := by
  have c2 := (He.ba (He.ba (congrArg (fun z : AlC => z.1) c)).2).1
  have e : (fn.map fun d => He5.fnA K (d.at_ K))[i]? = (fn.map He5.DefA.val)[i]? := congrArg (fun z : AlC => z.2.1[i]?) c
  rw [List.getElem?_map, List.getElem?_map, h] at e
  exact He5.DefA.funD (Option.some.inj e) (List.all_eq_true.mp c2 d (List.mem_of_getElem? h))
theorem SaysC.defx (c : SaysC file xk fn fx K) (i : Nat) {d : DefX} (h : fx[i]? = some d := by rfl) :
    ∃ (cl : List (Str × Addr)) (c : Addr) (fd : FuncData), SuF K file ⟨d.name, d.qual, d.params, d.body, d.scope, cl, c⟩ (d.at_ K) (d.cls K) fd := by
  have c2 := (He.ba (He.ba (congrArg (fun z : AlC => z.1) c)).2).2
  have e : (fx.map fun d => fnC K (d.at_ K))[i]? = (fx.map DefX.val)[i]? := congrArg (fun z : AlC => z.2.2[i]?) c
  rw [List.getElem?_map, List.getElem?_map, h] at e
  exact DefX.suF (Option.some.inj e) (List.all_eq_true.mp c2 d (List.mem_of_getElem? h))
end
/-! ## what the head tells of such a class -/
def oexB (C : Str) (K : Frag) : Bool := match K.lookup (He.ga K C) with
  | some ⟨.type "type", _, .cls cd, sl⟩ => (match cd.mro, sl.toList with
    | .ref C' :: bm, [_, _, _, _, some (.builtin n), _] => decide (C' = He.ga K C) && (decide (n = "ValueError.__new__") && (!cd.hasDel && (cd.hasDict && PySem.HandSPX.refsVE bm)))
    | _, _ => false)
  | _ => false
def excB (C : Str) (K : Frag) : Bool := oexB C K && (decide (PySem.W.findIn K (.ref (He.ga K C)) "__setattr__" = some (some (.builtin "object.__setattr__"))) && (decide (PySem.W.subIn K (.ref (He.ga K C)) (.type "BaseException") = some true) &&
  (decide (PySem.W.typeIn K (.ref (He.ga K C)) = some (.type "type")) && (PySem.W.keepIn K (.ref (He.ga K C)) && (decide (PySem.W.mroIn K (He.ga K C) (.ref (He.ga K C)) = some true) && (decide (PySem.W.subIn K (.ref (He.ga K C)) (.type "ValueError") = some true) &&
  (decide (PySem.W.nsIn K cStatics "thirdparty.any" = some none) && decide (PySem.W.ks_superIn K (He.ga K C) (He.ga K C) "__init__" = some (some (.builtin "ValueError.__init__"))))))))))
def noatB (C f : Str) (K : Frag) : Bool := decide (PySem.W.findIn K (.ref (He.ga K C)) f = some none)
theorem oexB_ok {C : Str} {K : Frag} (h : oexB C K = true) : ∃ nm q N bs bm sn sub ab col dd k0 k1 k2 k3 k5, K.lookup (He.ga K C) = some (excClassObj nm q (He.ga K C) N bs bm true sn sub ab col dd k0 k1 k2 k3 k5 "ValueError.__new__") ∧ PySem.HandSPX.refsVE bm = true := by
  unfold oexB at h
  split at h
  · rename_i dd cd sl ho
    split at h
    · rename_i C' bm k0 k1 k2 k3 n k5 hm hs
      obtain ⟨h1, h⟩ := He.ba h
      obtain ⟨h2, h⟩ := He.ba h
      obtain ⟨h3, h⟩ := He.ba h
      obtain ⟨h4, h5⟩ := He.ba h
      have e1 : C' = He.ga K C := of_decide_eq_true h1
      have e2 : n = "ValueError.__new__" := of_decide_eq_true h2
      obtain ⟨nm, bs, mro, ns, qn, hd, sn, sub, ab, col, del⟩ := cd
      dsimp only at hm h3 h4
      have e3 : del = false := by simpa using h3
      subst hm e1 e2 e3 h4
      have hsl : sl = #[k0, k1, k2, k3, some (.builtin "ValueError.__new__"), k5] := by
        obtain ⟨l⟩ := sl
        simp only at hs
        rw [hs]
      subst hsl
      exact ⟨nm, qn, ns, bs, bm, sn, sub, ab, col, dd, k0, k1, k2, k3, k5, ho, h5⟩
    · cases h
  · cases h
theorem excB_ok {C : Str} {K : Frag} {mg : Str → Option Value} (h : excB C K = true) (hs : mg "super" = none) : OexC K (He.ga K C) ∧ SuK K mg (He.ga K C) := by
  obtain ⟨h1, h⟩ := He.ba h
  obtain ⟨h2, h⟩ := He.ba h
  obtain ⟨h3, h⟩ := He.ba h
  obtain ⟨h4, h⟩ := He.ba h
  obtain ⟨h5, h⟩ := He.ba h
  obtain ⟨h6, h⟩ := He.ba h
  obtain ⟨h7, h⟩ := He.ba h
  obtain ⟨h8, h9⟩ := He.ba h
  exact ⟨⟨oexB_ok h1, of_decide_eq_true h2, of_decide_eq_true h3, of_decide_eq_true h4, h5⟩, ⟨of_decide_eq_true h6, of_decide_eq_true h7, of_decide_eq_true h8, of_decide_eq_true h9, hs⟩⟩
end Bk
set_option Elab.async false
set_option linter.all false
set_option maxRecDepth 100000
set_option maxHeartbeats 4000000
namespace Bk
open PySem PySem.Spec PyProof.Rows L2 PySem.NumText
open PySem.W (Frag)
open NdefX
/-! ## such an exception of one field is made and raised -/
def spX (C : Addr) (f : Str) : Sp := fun vs H Q _ => ∃ (a : Addr) (v : V), vs = [.ref a, v] ∧ H a = some (exo a C none) ∧ ∀ dx, H dx = none → dx ≠ a → Q .non (upd (upd H dx (exd dx [(f, v)])) a (exo a C (some dx)))
structure XOk (P : Program) (w : World) (K : Frag) (mg : Str → Option Value) (base : Heap) (C fI : Addr) (ps : List Str) (sp : Sp) : Prop where
  ok : ∃ fd, FnOk P w K mg base (L2.CX P w) 1 fI fd ps sp ∧ Binds K fd ps []
  oex : OexC K C
  ini : PySem.W.findIn K (.ref C) "__init__" = some (some (.ref fI))
  tyI : PySem.W.typeIn K (.ref fI) = some (.type "function")
theorem xok_of {P : Program} {w : World} {K : Frag} {mg : Str → Option Value} {base : Heap} {file q : Str} {params : Arguments} {body : List Stmt} {scope : Scope} {f C : Addr} {pn fl : Str} {p0 p1 p2 p3 p4 p5 p6 p7 p8 : Pos} {ar : Arg}
    (S : ∃ (cl : List (Str × Addr)) (c : Addr) (fd : FuncData), SuF K file ⟨"__init__", q, params, body, scope, cl, c⟩ f C fd) (UT : OexC K C ∧ SuK K mg C) (M : Meth K C "__init__" f) (hno : PySem.W.findIn K (.ref C) fl = some none)
    (NS : NScope ["self", pn, "__class__"] ["self", pn] ["__class__"] scope)
    (hb : body = [.Expr (.Call (.Attribute (.Call (.Name "super" p0) [] [] p1) "__init__" p2) [] [] p3) p4, .Assign [.Attribute (.Name "self" p5) fl p6] (.Name pn p7) p8])
    (hP : ((P.main.file : Str) == file) = true) (hT : (P.main.scope.names.lookup ("super" : Str)).isSome = false)
    (hp : (params.posonlyargs ++ params.args).head? = some ar) (har : ar.arg = "self")
    (hks : scope.names.lookup ("super" : Str) = some .globalImplicit) (hkc : scope.names.lookup ("__class__" : Str) = some .free)
    (hbind : ∀ (cl : List (Str × Addr)) (c : Addr) (doc pm ctv u v : Value), bindArgs (NF.fd ⟨"__init__", q, params, body, scope, cl, c⟩ doc pm ctv) ⟨[u, v], []⟩ = pure [(("self" : Str), u), (pn, v)])
    (hpn : (pn == ("__debug__" : Str)) = false) (hpc : (pn == ("__classdict__" : Str)) = false) (hps : scope.names.lookup pn = some .local) (hss : scope.names.lookup ("self" : Str) = some .local)
    {pl : Env → Sem Bool} (hev : ∀ env : Env, eval (.Call (.Attribute (.Call (.Name "super" p0) [] [] p1) "__init__" p2) [] [] p3) env = (do
      let ov ← attributeBase (.Call (.Name "super" p0) [] [] p1) "__init__" env (eval (.Call (.Name "super" p0) [] [] p1) env)
      standAt p2.atName
      let (ff, first) ← holding [ov] (getMethod ov "__init__" (pl env))
      callWith p3 ff first (backTo p3 (starEach [] env)) []))
    (hint : ∀ (cl : List (Str × Addr)) (c f L : Addr), interactive (envF ⟨"__init__", q, params, body, scope, cl, c⟩ f L) = false)
    (hsw : ∀ (cl : List (Str × Addr)) (c f L : Addr), swapsWith (.Call (.Attribute (.Call (.Name "super" p0) [] [] p1) "__init__" p2) [] [] p3) none p4.line (envF ⟨"__init__", q, params, body, scope, cl, c⟩ f L) = pure false)
    (hsw2 : ∀ (cl : List (Str × Addr)) (c f L : Addr), swapsWith (.Name pn p7) (some (.Attribute (.Name "self" p5) fl p6)) p8.line (envF ⟨"__init__", q, params, body, scope, cl, c⟩ f L) = pure false) :
    XOk P w K mg base C f ["self", pn] (spX C fl) := by
  obtain ⟨cl, c, fd, S⟩ := S
  obtain ⟨T, U⟩ := UT
  have hN0 : (["self", pn, "__class__"] : List Str)[0]? = some ar.arg := by rw [har]; rfl
  have hka : scope.names.lookup ar.arg = some .local := by rw [har]; exact hss
  have G : FnOk P w K mg base (L2.CX P w) (0 + 1) f fd ["self", pn] (spX C fl) := by
    refine fnS_of (rest := [.Assign [.Attribute (.Name "self" p5) fl p6] (.Name pn p7) p8]) S U T NS hb hP hT hp hN0 hka (pl := pl) (fun L => hev _) (fun L => hint cl c f L) (fun L => hsw cl c f L) hks hkc ?_ ?_
    · rintro vs H Q E ⟨a, v, rfl, _⟩
      rfl
    · rintro A outer s H vs Q E hr ⟨a, v, rfl, ha, q⟩
      refine ⟨a, [v], rfl, ha, _, pss_one (ps_ost (pe_var (i := 0) rfl (Or.inl hss) (by decide) (by decide)) (pe_var (i := 1) rfl (Or.inl hps) hpn hpc) (hsw2 cl c f _)), ?_⟩
      exact ⟨v, rfl, .ref a, rfl, a, C, rfl, T, hno, Or.inl ⟨ha, fun dx n ne => q dx n ne⟩⟩
  refine ⟨⟨fd, G, Binds.all fun us hl => ?_⟩, T, M.at_, ?_⟩
  · obtain ⟨oc, od, doc, pm, ctv, osl, efd, _⟩ := S.ex
    rw [efd]
    match us, hl with
    | [u, v], _ => exact hbind cl c doc pm ctv u v
  · have := M.fn
    unfold PySem.W.isFn at this
    simpa using this
section
variable {P : Program} {w : World} {K : Frag} {mg : Str → Option Value} {base : Heap} {N : List Str} {qual : Str} {scope : Scope} {f : Addr} {cd : Value} {A : Around} {outer : List Env} {s : Shared} {H : Hp} {E : XK}
theorem takesE : Takes (cxOf (L2.CX P w) P w K mg base N qual scope f cd A outer s H E) (fun cls d _ H => E cls d H) := takes_of rfl rfl rfl rfl
end
/-- raise C(e) -/
def tRaiseX (C : Addr) (f : Str) (W : WX) (te : TE) : TS := fun _ σ H => tMkO C (spX C f) [] (tCons te tNil) σ H fun cls d H' => W cls d σ H'
theorem ps_raiseX {X : Cx} {W : WX} {C fI : Addr} {ps : List Str} {fl x : Str} {e : Expr} {te : TE} {p pos pos2 : Pos} (O : XOk X.prog X.w X.K X.mg X.base C fI ps (spX C fl)) (hc : X.calm = true) (tk : Takes X W) (hr : Room 2 X.A) (hg : Gl X x) (hm : X.mg x = some (.ref C)) (he : PE X e te)
    (hdb : (x == ("__debug__" : Str)) = false := by decide) (hst : starEach [e] X.env = (false, eval e X.env) :: starEach [] X.env := by rfl) (hpl : (backTo pos (starEach [] X.env)).any (·.1) = false := by rfl) :
    PS X (.Raise (some (.Call (.Name x p) [e] [] pos)) none pos2) (tRaiseX C fl W te) := by
  obtain ⟨fd, F, b⟩ := O.ok
  exact ps_raise (pos := pos2) hc tk (pmk_oex (pos := pos) (p := p) O.oex O.ini O.tyI F hr b .nil passL hg hm (pa_cons he pa_nil (hs := hst)) hdb hst hpl)
theorem raiseX_end {C : Addr} {f : Str} {Q : XK} {H1 : Hp} {v : V} (q : ∀ d, H1 d = none → Q (.ref C) (some d) (upd H1 d (.xd [(f, v)]))) :
    ([v] : List V).length ≤ 1000 ∧ ∀ a, H1 a = none → spX C f (.ref a :: ([v] ++ [])) (upd H1 a (exo a C none))
      (fun u H2 => u = .non ∧ ∃ (d : Addr) (fs : List (Str × V)), H2 a = some (exo a C (some d)) ∧ H2 d = some (exd d fs) ∧ H1 d = none ∧ Q (.ref C) (some d) (upd (L2.del H2 a) d (.xd fs))) (fun _ _ _ => False) := by
  refine ⟨by show 1 ≤ 1000; decide, fun a ha => ⟨a, v, rfl, upd_same, fun dx hn ne => ⟨rfl, dx, [(f, v)], upd_same, ?_, ?_, ?_⟩⟩⟩
  · rw [upd_ne ne, upd_same]
  · rw [upd_ne ne] at hn
    exact hn
  · rw [upd_ne ne] at hn
    have e : upd (L2.del (upd (upd (upd H1 a (exo a C none)) dx (exd dx [(f, v)])) a (exo a C (some dx))) a) dx (.xd [(f, v)]) = upd H1 dx (.xd [(f, v)]) := by
      funext b
      by_cases h1 : b = dx
      · rw [h1, upd_same, upd_same]
      · rw [upd_ne h1, upd_ne h1]
        by_cases h2 : b = a
        · rw [h2, L2.del_same, ha]
        · rw [L2.del_ne h2, upd_ne h2, upd_ne h1, upd_ne h2]
    rw [e]
    exact q dx hn
end Bk
set_option Elab.async false
set_option linter.all false
set_option maxRecDepth 100000
set_option maxHeartbeats 4000000
namespace Bk
open PySem PySem.Spec PyProof.Rows L2 PySem.NumText
open PySem.W (Frag)
/-! ## repr(x), bool(x) of an own object -/
theorem inst_bool (K : Frag) (x C : Addr) (ox : Obj) (od : Option Obj) (hb : PySem.W.findIn K (.ref C) "__bool__" = some none) (hl : PySem.W.findIn K (.ref C) "__len__" = some none) :
    Meets (Builtin.«bool.__new__» ⟨[.type "bool", .ref x], []⟩) (fun _ R s => (K.In s.heap ∧ PySem.W.InstAt s.heap x ox C od) ∧ R (.ok (.ret (.bool true))) s) :=
  Meets.of_wp fun prog w A R s hs => by
    obtain ⟨⟨X, I⟩, hs⟩ := hs
    obtain ⟨hp, g, d, tk, os⟩ := s
    have f1 := F.conv_sub_bool
    have tr : ∀ {M : Model} {A : Around} {E : Value → Shared → Prop} {Q : Bool → Shared → Prop}, Q true ⟨hp, g, d, tk, os⟩ → wpAny M A (truthy (.ref x)) Q E ⟨hp, g, d, tk, os⟩ := by
      intro M A E Q h
      unfold truthy
      refine wpAny_bind (m := callSpecial? (.ref x) (Str.ofString "__bool__")) (wpAny_bind (wpAny_bind (I.type.here ((PySem.W.looks_findIn X hb).here (wpAny_pure ?_)))))
      refine wpAny_bind (wpAny_bind (I.type.here ((PySem.W.looks_findIn X hl).here ?_)))
      exact wpAny_pure h
    repeat (any_goals (first | assumption | (with_reducible refine tr ?_) | wp_step))
    all_goals first | exact ⟨_, rfl, hs⟩ | exact hs | skip
section
variable {X : Cx} {k : Nat} {f C : Addr} {ps : List Str} {sp : Sp} {E : XK}
def rBoolOwn (C : Addr) : List V → Hp → VK → Prop := fun xs H Q => ∃ a dx fs, xs = [.ref a] ∧ H a = some (.ins C dx fs) ∧ Q (.bl true) H
theorem call_boolOwn (hb : PySem.W.findIn X.K (.ref C) "__bool__" = some none) (hl : PySem.W.findIn X.K (.ref C) "__len__" = some none) : CallR X (.type "bool") (rBoolOwn C) := by
  intro pins s σ H xs us Q I r h
  obtain ⟨a, dx, fs, rfl, ha, q⟩ := h
  obtain ⟨u, rfl, ru⟩ := r.one
  cases (show u = Value.ref a from ru)
  obtain ⟨mA, O, _⟩ := ins_get I.hok ha
  obtain ⟨od, J, _⟩ := O.look
  refine call_bool_1 (inst_bool X.K a C _ _ hb hl) ⟨⟨I.kIn, J⟩, rfl, ?_⟩
  exact ⟨.bl true, H, I, rfl, q⟩
theorem call_reprOwn (hm : Meth X.K C "__repr__" f) (F : MOk X.prog X.w X.K X.mg X.base k f ps sp) (hr : Room (k + 1) X.A) (hx : Passes (L2.CX X.prog X.w) X E) : CallR X (.builtin "repr") (rStrOwn C sp E) := by
  intro pins s σ H xs us Q I r h
  obtain ⟨a, dx, fs, rfl, ha, q⟩ := h
  obtain ⟨u, rfl, ru⟩ := r.one
  cases (show u = Value.ref a from ru)
  obtain ⟨⟨fd, F, b, _⟩, _⟩ := F
  obtain ⟨mA, O, _⟩ := ins_get I.hok ha
  obtain ⟨od, J, _⟩ := O.look
  obtain ⟨m, fr⟩ := I.fr
  have hr1 : Room k X.A.in1 := Room.in1 hr
  refine PySem.W.repr_K hr1.units0 fr I.ok.mod.kin J hm.at_ hm.fn ?_
  refine wpAny_mono (run_fnAt (us := [.ref a]) (vs := [.ref a]) F hr1 I.env0.in1 b hx I (.cons rfl .nil) q) ?_ (fun _ _ x => x)
  rintro w s' ⟨z, H', I', rz, y, rfl, qz⟩
  obtain ⟨t, rfl⟩ := rz
  exact ⟨.str y, H', I', ⟨t, rfl⟩, qz⟩
end
end Bk
set_option Elab.async false
set_option linter.all false
set_option maxRecDepth 100000
set_option maxHeartbeats 4000000
namespace Bk
open PySem PySem.Spec PyProof.Rows L2 PySem.NumText
open PySem.W (Frag)
/-! ## values that are no object of an own class -/
def othB (C : Str) (ty : Frag → Value) (K : Frag) : Bool := decide (PySem.W.kitOne K (ty K) (.ref (He.ga K C)) = some false) && PySem.W.notFirst K (He.ga K C) (ty K)
theorem othB_ok {C : Str} {ty : Frag → Value} {K : Frag} (h : othB C ty K = true) : PySem.W.kitOne K (ty K) (.ref (He.ga K C)) = some false ∧ PySem.W.notFirst K (He.ga K C) (ty K) = true := ⟨of_decide_eq_true (He.ba h).1, (He.ba h).2⟩
def noneB (C f : Str) (K : Frag) : Bool := decide (PySem.W.findIn K (.ref (He.ga K C)) f = some none)
end Bk
set_option Elab.async false
set_option linter.all false
set_option maxRecDepth 100000
set_option maxHeartbeats 4000000
namespace Bk
open PySem PySem.Spec PyProof.Rows L2 PySem.NumText
open PySem.W (Frag)
/-! ## an object is made with defaults, by keywords -/
theorem MOk.at_ {P : Program} {w : World} {K : Frag} {mg : Str → Option Value} {base : Heap} {k : Nat} {f : Addr} {ps : List Str} {sp : Sp} {x q : Str} {params : Arguments} {body : List Stmt} {scope : Scope} {dvs : List V} {kws : List (Str × V)} {fd : FuncData}
    (M : MOk P w K mg base k f ps sp) (F : FunD K x q params body scope dvs kws f fd) : FnOk P w K mg base (L2.CX P w) k f fd ps sp := by
  obtain ⟨⟨fd2, G, _, _, _, _, l2⟩, _⟩ := M
  obtain ⟨_, _, _, _, _, _, _, _, _, _, _, l1, _⟩ := F.ex
  rw [l1] at l2
  cases l2
  exact G
section
variable {X : Cx} {k j n : Nat} {f C : Addr} {x nx nq : Str} {params : Arguments} {body : List Stmt} {scope : Scope} {ps ks : List Str} {sp : Sp} {E : XK} {p pos : Pos} {e : Expr} {es : List Expr} {t tk : TA} {dvs : List V} {kws0 : List (Str × V)} {kws : List Keyword}
theorem pe_makeDf (n j : Nat) (M : Mk X.K C f) (F : MOk X.prog X.w X.K X.mg X.base k f ps sp) (FD : ∃ fd, FunD X.K nx nq params body scope dvs kws0 f fd) (hd : dvs ≠ []) (hn : n + (dvs.length - j) = ps.length)
    (hb : ∀ (T : Addr) (kV doc pm : Value) (an : Option Addr) (cdv ct : Value) (us its : List Value), us.length = n → its.length = dvs.length →
      ∃ k, bindArgs (PySem.W.fnOf nx nq params body scope (.ref T) kV doc pm an cdv ct) ⟨us, []⟩ = seqItems? (.ref T) >>= k ∧ k (some its.toArray) = pure (ps.zip (us ++ its.drop j)))
    (hr : Room (k + 1) X.A) (hg : Gl X x) (hm : X.mg x = some (.ref C)) (hx : Passes (L2.CX X.prog X.w) X E)
    (ha : PA X (e :: es) t) (hdb : (x == ("__debug__" : Str)) = false := by decide) (he : starEach (e :: es) X.env = (false, eval e X.env) :: starEach es X.env := by rfl)
    (hpl : (backTo pos (starEach es X.env)).any (·.1) = false := by rfl) : PE X (.Call (.Name x p) (e :: es) [] pos) (tMake C sp (dvs.drop j) E t) := by
  obtain ⟨fd, FD⟩ := FD
  obtain ⟨ds, rd, b⟩ := FD.binds1 (ps := ps) n j hd hn hb
  exact pe_make M (F.at_ FD) hr hg hm b rd hx ha hdb he hpl
theorem pe_makeKw (ks : List Str) (g : {α : Type} → List α → List α → List α → List α) (M : Mk X.K C f) (F : MOk X.prog X.w X.K X.mg X.base k f ps sp) (FD : ∃ fd, FunD X.K nx nq params body scope dvs kws0 f fd) (hd : dvs ≠ [])
    (hrel : ∀ {vs ds zs : List V} {us its ws : List Value}, Vals vs us → Vals ds its → Vals zs ws → Vals (g vs ds zs) (g us its ws))
    (hb : ∀ (T : Addr) (kV doc pm : Value) (an : Option Addr) (cdv ct : Value) (us its ws : List Value), us.length = 1 → its.length = dvs.length → ws.length = ks.length →
      ∃ k, bindArgs (PySem.W.fnOf nx nq params body scope (.ref T) kV doc pm an cdv ct) ⟨us, ks.zip ws⟩ = seqItems? (.ref T) >>= k ∧ k (some its.toArray) = pure (ps.zip (g us its ws)))
    (hr : Room (k + 1) X.A) (hg : Gl X x) (hm : X.mg x = some (.ref C)) (hx : Passes (L2.CX X.prog X.w) X E) (hkw : PK X kws tk)
    (hall : (backToKw pos (keywordEach kws X.env)).all (·.1.isSome) = true := by rfl) (hks : (backToKw pos (keywordEach kws X.env)).filterMap (·.1) = ks := by rfl) (hdb : (x == ("__debug__" : Str)) = false := by decide)
    (hpl : ((backTo pos (starEach [] X.env)).any (·.1) || (backToKw pos (keywordEach kws X.env)).any (·.1.isNone)) = false := by rfl) :
    PE X (.Call (.Name x p) [] kws pos) (tMakeK C 0 ks.length sp (fun vs zs => g vs dvs zs) E tNil tk) := by
  obtain ⟨fd, FD⟩ := FD
  obtain ⟨its, b⟩ := FD.kbindsD (ps := ps) 1 ks g hd hrel hb
  exact pe_makeK0 M (F.at_ FD) hr hg hm b hx hkw hall hks hdb hpl
end
/-- the i-th default of a def is the empty tuple -/
def etB (f : Str × Option Str) (i : Nat) (K : Frag) : Bool := match K.lookup (He.dflAt f i K) with
  | some ⟨.type "tuple", _, .seq its _, _⟩ => its.isEmpty
  | _ => false
theorem etB_ok {f : Str × Option Str} {i : Nat} {K : Frag} (h : etB f i K = true) (H : Hp) : Dp K H (.ref (He.dflAt f i K)) (.tuple []) := by
  unfold etB at h
  split at h
  · rename_i od its n sl ho
    have e : its = #[] := Array.isEmpty_iff.mp h
    subst e
    exact .tup (xs := []) (.inr ⟨_, #[], n, ho, rfl, rfl, by decide, .nil⟩) .nil
  · cases h
end Bk
set_option Elab.async false
set_option linter.all false
set_option maxRecDepth 100000
set_option maxHeartbeats 4000000
namespace Bk
open PySem PySem.Spec PyProof.Rows L2 PySem.NumText
open PySem.W (Frag)
/-! ## t[::-1] of a tuple -/
theorem adj_rev (n : Nat) : Builtin.Slice.sliceAdjust none none (-1) (n : Int) = ((n : Int) - 1, -1) := by
  first | rfl | simp [Builtin.Slice.sliceAdjust]
theorem places_rev (n : Nat) : Builtin.Slice.slicePlaces ((n : Int) - 1) (-1) (-1) = n := by
  unfold Builtin.Slice.slicePlaces
  by_cases h : n = 0
  · subst h
    decide
  · simp
    omega
theorem pick_rev (xs : Array Value) : ((List.range xs.size).filterMap fun (m : Nat) => xs[(((xs.size : Int) - 1) + (m : Int) * (-1)).toNat]?).toArray = xs.toList.reverse.toArray := by
  rw [← PySem.W.krv_pick]
  unfold slicePick
  rw [PySem.W.krv_bounds]
  show _ = ((sliceRange ((xs.size : Int) - 1) (-1) (-1)).filterMap (xs[·]?)).toArray
  rw [PySem.W.krv_sliceRange, List.filterMap_map]
  refine congrArg _ (congrArg (fun f => List.filterMap f (List.range xs.size)) ?_)
  funext m
  show _ = xs[xs.size - 1 - m]?
  have : (((xs.size : Int) - 1) + (m : Int) * (-1)).toNat = xs.size - 1 - m := by omega
  rw [this]
section
variable {prog : Program} {w : World} {A : Around} {E : Value → Shared → Prop} {s : Shared}
theorem tup_rev {t sl : Addr} {items : Array Value} {vl vu vs : Value} {Q : Value → Shared → Prop} (ht : IsTup s.heap t items) (hs : s.heap.IsSliceOf sl vl vu vs) (pl : IsPart vl none) (pu : IsPart vu none) (ps : IsPart vs (some (-1)))
    (h : Q (.ref s.heap.objs.size) { s with heap := s.heap.push { cls := .type "tuple", data := .seq items.toList.reverse.toArray } }) (hsz : items.size ≤ sizeLine) :
    wpAny (model prog w) A (getItem (.ref t) (.ref sl)) Q E s := by
  have hsz2 : sizeOk (.seq items.toList.reverse.toArray) := by
    show items.toList.reverse.toArray.size ≤ sizeLine
    rw [List.size_toArray, List.length_reverse, Array.length_toList]
    exact hsz
  obtain ⟨os, hos, hcs, hds⟩ := id hs
  have hTs : s.TypeIs (.ref sl) "slice" := ⟨os, hos, hcs⟩
  unfold getItem
  try with_reducible refine wpAny_holding ?_
  first | refine wpAny_bind (wpAny_pure ?_) | skip
  refine wpAny_bind (wpAny_sequenceKey ht.typeIs (by decide) ?_)
  refine wpAny_bind (wpAny_callSpecial?_slot (name := Str.ofString "__getitem__") ht.typeIs PyProof.Rows.slot_tuple_getitem
    (wpAny_call_entry PyProof.Rows.slot_tuple_getitem ht.typeIs entry_tuple_getitem ?_ (args_tuple_getitem _ _)))
  show wpAny _ _ (Builtin.Tuple.tupleItemsOf (.ref t) >>= _) _ _ s
  refine wpAny_bind (tupleItemsOf_ ht ?_)
  refine wpAny_bind (wpAny_typeOf hTs ?_)
  rw [if_pos (by decide)]
  have app : ∀ {A : Around} {E : Value → Shared → Prop} {Q : Int × Int × Nat → Shared → Prop}, Q ((items.size : Int) - 1, -1, items.size) s → wpAny (model prog w) A (Builtin.Slice.sliceApplied (.ref sl) (pure (items.size : Int))) Q E s := by
    intro A E Q h
    unfold Builtin.Slice.sliceApplied Builtin.Slice.sliceFields
    refine wpAny_bind (wpAny_bind (wpAny_field hos hds (x := vl) rfl (wpAny_bind (wpAny_field hos hds (x := vu) rfl (wpAny_bind (wpAny_field hos hds (x := vs) rfl (wpAny_pure ?_)))))))
    refine wpAny_bind (HT.slicePart_ ps ?_)
    show wpAny _ _ (if ((-1 : Int) == 0) = true then _ else _) _ _ s
    rw [if_neg (by decide)]
    refine wpAny_bind (HT.slicePart_ pl (wpAny_bind (HT.slicePart_ pu (wpAny_bind (wpAny_pure ?_)))))
    show wpAny _ _ (match Builtin.Slice.sliceAdjust none none (-1) (items.size : Int) with | (lo, hi) => pure (lo, (-1 : Int), Builtin.Slice.slicePlaces lo hi (-1))) _ _ s
    rw [adj_rev]
    show wpAny _ _ (pure ((items.size : Int) - 1, (-1 : Int), Builtin.Slice.slicePlaces ((items.size : Int) - 1) (-1) (-1))) _ _ s
    rw [places_rev]
    exact wpAny_pure h
  refine wpAny_bind (app ?_)
  show wpAny _ _ (if (((items.size : Int) - 1) == 0 && (-1 : Int) == 1 && items.size == items.size) = true then _ else _) _ _ s
  rw [if_neg (by simp), pick_rev]
  first
    | exact wpAny_bind (m := Builtin.Tuple.tupleExact _) (wpAny_newObj_type (wpAny_pure ⟨_, rfl, wpAny_pure h⟩) hsz2)
    | exact wpAny_bind (m := Builtin.Tuple.tupleExact _) (wpAny_newObj_type (wpAny_bind (wpAny_pure (wpAny_pure ⟨_, rfl, wpAny_pure h⟩))) hsz2)
    | exact wpAny_bind (wpAny_bind (m := Builtin.Tuple.tupleExact _) (wpAny_newObj_type (wpAny_pure (wpAny_pure ⟨_, rfl, wpAny_pure h⟩)) hsz2))
    | exact wpAny_bind (wpAny_bind (m := Builtin.Tuple.tupleExact _) (wpAny_newObj_type (wpAny_pure ⟨_, rfl, wpAny_pure h⟩) hsz2))
end
section
variable {X : Cx}
def tRevT (K : Frag) (te : TE) : TE := fun σ H Q => te σ H fun x H1 => ∃ a xs, x = .ref a ∧ SqT K H1 a xs ∧ ∀ p, H1 p = none → Q (.ref p) (upd H1 p (.tup xs.reverse))
theorem pe_revT {e : Expr} {te : TE} {k : Nat} {p1 p2 p3 pos : Pos} (he : PE X e te) : PE X (.Subscript e (.Slice none none (some (.UnaryOp .USub (.Constant (.int 1) k p1) p2)) p3) pos) (tRevT X.K te) := by
  refine ⟨fun pins s σ H Q I h => ?_⟩
  refine Subscript_ (thn (he.run pins s σ H _ I h) fun v s1 ⟨x, H1, I1, r1, q1⟩ => ?_)
  obtain ⟨a, xs, ex, hx, q⟩ := q1
  subst ex
  cases r1
  have hst : PO X (some (.UnaryOp .USub (.Constant (.int 1) k p1) p2)) (tPart (tUn (rU fun i => .int (-i)) (tC (.int 1)))) := po_some (pe_un un_neg pe_int)
  refine wpAny_Slice (thn (po_none.run pins s1 σ H1 (fun o H2 => o = none ∧ H2 = H1) I1 ⟨rfl, rfl⟩) fun vl s2 ⟨l, H2, I2, pl, el, e2⟩ => ?_)
  subst el e2
  refine thn (po_none.run pins s2 σ H2 (fun o H3 => o = none ∧ H3 = H2) I2 ⟨rfl, rfl⟩) fun vu s3 ⟨u, H3, I3, pu, eu, e3⟩ => ?_
  subst eu e3
  refine thn (hst.run pins s3 σ H3 (fun o H4 => o = some (-1) ∧ H4 = H3) I3 ⟨1, rfl, -1, rfl, rfl, rfl⟩) fun vs s4 ⟨o, H4, I4, ps, eo, e4⟩ => ?_
  subst eo e4
  have I5 : Inv X pins σ H4 { s4 with heap := s4.heap.push { cls := .type "slice", data := .fields #[vl, vu, vs] } } := I4.kept (t' := s4.toks) fun b ob q => Heap.get?_push_of_some _ q
  obtain ⟨its, r, ht, hz⟩ := I5.tuple hx
  have hlen := r.length
  show wpAny (model X.prog X.w) X.A (subscriptTail e (.Slice none none (some (.UnaryOp .USub (.Constant (.int 1) k p1) p2)) p3) (.ref a) (.ref s4.heap.objs.size)) (EP X pins σ Q) X.xe { s4 with heap := s4.heap.push { cls := .type "slice", data := .fields #[vl, vu, vs] } }
  refine tail_any (ops := [.ref a, .ref s4.heap.objs.size]) ht.typeIs (PyProof.Rows.slot_tuple_getitem.lookup) ?_ (by with_unfolding_all rfl)
  refine tup_rev ht (Heap.IsSliceOf.new _ vl vu vs) pl pu ps ?_ (by rw [List.size_toArray]; omega)
  refine ⟨.ref _, _, I5.laid (t' := s4.toks) (o := .tup xs.reverse) (fun b ob q => Heap.get?_push_of_some _ q) (Nat.le_refl _) ?_, rfl, q _ (I5.hok.fresh (Nat.le_refl _))⟩
  exact ⟨by rw [List.length_reverse]; exact hz, _, r.reverse, IsTup.new _ _⟩
end
end Bk
set_option Elab.async false
set_option linter.all false
set_option maxRecDepth 100000
set_option maxHeartbeats 4000000
/-! the abstract machine: values without addresses, a store of the few things that change -/
namespace AM
open PySem PySem.Spec PyProof.Rows L2 Bk
open PySem.W (Frag)
inductive D where
  | non | bl (b : Bool) | int (i : Int) | str (x : Str) | tup (l : List D) | lst (l : List D) | fl (l : List D) | obj (C : Str) (fs : List (Str × D)) | ty (n : String) | cls (C : Str) | dic (kvs : List (Str × D)) | tux (l : List D)
  deriving Inhabited
inductive W where | val (d : D) | ref (n : Nat)
  deriving Inhabited
inductive Ob where | lst (l : List D) | ins (C : Str) (fs : List (Str × D)) | dead | dic (kvs : List (Str × D))
  deriving Inhabited
abbrev Sto := List Ob
abbrev Ev := List (Option W)
inductive Rs (α : Type) where | ok (a : α) (S : Sto) | ex (C : Str) (fs : List (Str × D)) (S : Sto) | bad
inductive Rt where | nx (ε : Ev) (S : Sto) | rt (w : W) (S : Sto) | bk (ε : Ev) (S : Sto) | ct (ε : Ev) (S : Sto) | ex (C : Str) (fs : List (Str × D)) (S : Sto) | bad
def Rs.bind {α β : Type} (r : Rs α) (k : α → Sto → Rs β) : Rs β := match r with | .ok a S => k a S | .ex C fs S => .ex C fs S | .bad => .bad
def Rs.bindT {α : Type} (r : Rs α) (k : α → Sto → Rt) : Rt := match r with | .ok a S => k a S | .ex C fs S => .ex C fs S | .bad => .bad
abbrev ME := Ev → Sto → Rs W
abbrev MT := Ev → Sto → Rs Bool
abbrev MA := Ev → Sto → Rs (List W)
abbrev MS := Ev → Sto → Rt
abbrev F1 := List W → Sto → Rs W

/-! ## the relation -/
def keyS (vs : List (Str × V)) : List (Key × V) := vs.map fun p => (Sum.inr p.1, p.2)
mutual
inductive Rd (K : Frag) (G : Hp) : D → V → Prop
  | non : Rd K G .non .non
  | bl (b : Bool) : Rd K G (.bl b) (.bl b)
  | int (i : Int) : Rd K G (.int i) (.int i)
  | str (x : Str) (h : x.length ≤ sizeLine) : Rd K G (.str x) (.str x)
  | tup {a : Addr} {xs : List V} {l : List D} (h : SqT K G a xs) (r : Rds K G l xs) : Rd K G (.tup l) (.ref a)
  | lst {a : Addr} {xs : List V} {l : List D} (h : G a = some (.lst xs)) (r : Rds K G l xs) : Rd K G (.lst l) (.ref a)
  | fl {a : Addr} {xs : List V} {l : List D} (h : SqL K G a xs) (r : Rds K G l xs) : Rd K G (.fl l) (.ref a)
  | obj {a dx : Addr} {C : Str} {fs : List (Str × D)} {gs : List (Str × V)} (h : G a = some (.ins (He.ga K C) dx gs)) (r : Rfs K G fs gs) : Rd K G (.obj C fs) (.ref a)
  | ty (n : String) : Rd K G (.ty n) (.ty n)
  | cls (C : Str) : Rd K G (.cls C) (.ref (He.ga K C))
  | dic {a : Addr} {kvs : List (Str × D)} {vs : List (Str × V)} (h : G a = some (.dK (keyS vs))) (r : Rfs K G kvs vs) : Rd K G (.dic kvs) (.ref a)
  | tux {a : Addr} {o : Obj} {xs : List V} {l : List D} (h : G a = some (.frz o (.tup xs))) (hd : o.dict = none) (r : Rds K G l xs) : Rd K G (.tux l) (.ref a)
inductive Rds (K : Frag) (G : Hp) : List D → List V → Prop
  | nil : Rds K G [] []
  | cons {d : D} {v : V} {l : List D} {xs : List V} (h : Rd K G d v) (r : Rds K G l xs) : Rds K G (d :: l) (v :: xs)
inductive Rfs (K : Frag) (G : Hp) : List (Str × D) → List (Str × V) → Prop
  | nil : Rfs K G [] []
  | cons {x : Str} {d : D} {v : V} {l : List (Str × D)} {xs : List (Str × V)} (h : Rd K G d v) (r : Rfs K G l xs) : Rfs K G ((x, d) :: l) ((x, v) :: xs)
end
section
variable {K : Frag} {G G' : Hp}
theorem sqL_same (e : Same G G') {a : Addr} {xs : List V} (h : SqL K G a xs) : SqL K G' a xs := e.seq h
mutual
theorem Rd.mono (e : Same G G') : ∀ {d : D} {v : V}, Rd K G d v → Rd K G' d v
  | _, _, .non => .non
  | _, _, .bl b => .bl b
  | _, _, .int i => .int i
  | _, _, .str x h => .str x h
  | _, _, .tup h r => .tup (Same.tup e h) (r.mono e)
  | _, _, .lst h r => .lst (e _ _ h) (r.mono e)
  | _, _, .fl h r => .fl (sqL_same e h) (r.mono e)
  | _, _, .obj h r => .obj (e _ _ h) (r.mono e)
  | _, _, .ty n => .ty n
  | _, _, .cls C => .cls C
  | _, _, .dic h r => .dic (e _ _ h) (r.mono e)
  | _, _, .tux h hd r => .tux (e _ _ h) hd (r.mono e)
theorem Rds.mono (e : Same G G') : ∀ {d : List D} {v : List V}, Rds K G d v → Rds K G' d v
  | _, _, .nil => .nil
  | _, _, .cons h r => .cons (h.mono e) (r.mono e)
theorem Rfs.mono (e : Same G G') : ∀ {d : List (Str × D)} {v : List (Str × V)}, Rfs K G d v → Rfs K G' d v
  | _, _, .nil => .nil
  | _, _, .cons h r => .cons (h.mono e) (r.mono e)
end
theorem Rds.length : ∀ {l : List D} {xs : List V}, Rds K G l xs → l.length = xs.length
  | _, _, .nil => rfl
  | _, _, .cons _ r => by rw [List.length_cons, List.length_cons, r.length]
theorem Rds.get : ∀ {l : List D} {xs : List V} {i : Nat} {d : D}, Rds K G l xs → l[i]? = some d → ∃ v, xs[i]? = some v ∧ Rd K G d v
  | _, _, _, _, .nil, e => by simp at e
  | _, _, 0, _, .cons h _, e => by simp at e; subst e; exact ⟨_, rfl, h⟩
  | _, _, i + 1, d, .cons _ r, e => by
    obtain ⟨v, h1, h2⟩ := Rds.get (i := i) (d := d) r (by simpa using e)
    exact ⟨v, by simpa using h1, h2⟩
theorem Rds.app : ∀ {l l' : List D} {xs xs' : List V}, Rds K G l xs → Rds K G l' xs' → Rds K G (l ++ l') (xs ++ xs')
  | _, _, _, _, .nil, s => s
  | _, _, _, _, .cons h r, s => .cons h (r.app s)
theorem Rds.take : ∀ {l : List D} {xs : List V} (n : Nat), Rds K G l xs → Rds K G (l.take n) (xs.take n)
  | _, _, 0, _ => .nil
  | _, _, _ + 1, .nil => .nil
  | _, _, n + 1, .cons r t => .cons r (Rds.take n t)
theorem Rds.drop : ∀ {l : List D} {xs : List V} (n : Nat), Rds K G l xs → Rds K G (l.drop n) (xs.drop n)
  | _, _, 0, r => r
  | _, _, _ + 1, .nil => .nil
  | _, _, n + 1, .cons _ t => Rds.drop n t
theorem Rds.set {d : D} {v : V} (h : Rd K G d v) : ∀ {l : List D} {xs : List V} (n : Nat), Rds K G l xs → Rds K G (l.set n d) (xs.set n v)
  | _, _, _, .nil => .nil
  | _, _, 0, .cons _ t => .cons h t
  | _, _, n + 1, .cons r t => .cons r (Rds.set h n t)
theorem Rds.rev : ∀ {l : List D} {xs : List V}, Rds K G l xs → Rds K G l.reverse xs.reverse
  | _, _, .nil => .nil
  | _, _, .cons h r => by rw [List.reverse_cons, List.reverse_cons]; exact r.rev.app (.cons h .nil)
theorem Rds.erase : ∀ {l : List D} {xs : List V} (n : Nat), Rds K G l xs → Rds K G (l.eraseIdx n) (xs.eraseIdx n)
  | _, _, _, .nil => .nil
  | _, _, 0, .cons _ t => t
  | _, _, n + 1, .cons r t => .cons r (Rds.erase n t)
theorem Rfs.look : ∀ {l : List (Str × D)} {xs : List (Str × V)} {f : Str} {d : D}, Rfs K G l xs → l.lookup f = some d → ∃ v, xs.lookup f = some v ∧ Rd K G d v
  | _, _, _, _, .nil, e => by simp at e
  | _, _, f, d, .cons (x := x) h r, e => by
    rw [List.lookup_cons] at e ⊢
    cases q : f == x with
    | true => rw [q] at e; cases e; exact ⟨_, rfl, h⟩
    | false => rw [q] at e; exact r.look e
theorem Rfs.none : ∀ {l : List (Str × D)} {xs : List (Str × V)} {f : Str}, Rfs K G l xs → l.lookup f = none → xs.lookup f = none
  | _, _, _, .nil, _ => rfl
  | _, _, f, .cons (x := x) h r, e => by
    rw [List.lookup_cons] at e ⊢
    cases q : f == x with
    | true => rw [q] at e; cases e
    | false => rw [q] at e; exact r.none e
theorem Rfs.length : ∀ {l : List (Str × D)} {xs : List (Str × V)}, Rfs K G l xs → l.length = xs.length
  | _, _, .nil => rfl
  | _, _, .cons _ r => by rw [List.length_cons, List.length_cons, r.length]
end

/-! ## a state of both -/
def Rob (K : Frag) (G : Hp) : Ob → Option HO → Prop
  | .lst l, o => ∃ xs, o = some (.lst xs) ∧ Rds K G l xs
  | .ins C fs, o => ∃ dx gs, o = some (.ins (He.ga K C) dx gs) ∧ Rfs K G fs gs
  | .dead, o => ∃ u, o = some u
  | .dic kvs, o => ∃ vs, o = some (.dK (keyS vs)) ∧ Rfs K G kvs vs
theorem Rob.some {K : Frag} {G : Hp} {ob : Ob} {o : Option HO} (r : Rob K G ob o) : ∃ u, o = Option.some u := by
  cases ob with
  | dead => exact r
  | lst l => obtain ⟨xs, e1, r⟩ := r; exact ⟨_, e1⟩
  | ins C fs => obtain ⟨dx, gs, e1, r⟩ := r; exact ⟨_, e1⟩
  | dic kvs => obtain ⟨vs, e1, r⟩ := r; exact ⟨_, e1⟩
theorem Rob.mono {K : Frag} {G G' : Hp} (e : Same G G') {ob : Ob} {o : Option HO} (r : Rob K G ob o) : Rob K G' ob o := by
  cases ob with
  | dead => exact r
  | lst l => obtain ⟨xs, e1, r⟩ := r; exact ⟨xs, e1, r.mono e⟩
  | ins C fs => obtain ⟨dx, gs, e1, r⟩ := r; exact ⟨dx, gs, e1, r.mono e⟩
  | dic kvs => obtain ⟨vs, e1, r⟩ := r; exact ⟨vs, e1, r.mono e⟩
structure Cfg (K : Frag) where
  G : Hp
  m : List Addr
  S : Sto
  H : Hp
  sub : Same G H
  len : m.length = S.length
  nd : m.Nodup
  at_ : ∀ (n : Nat) (a : Addr) (ob : Ob), m[n]? = some a → S[n]? = some ob → Rob K G ob (H a)
  fr : ∀ (n : Nat) (a : Addr) (ob : Ob), m[n]? = some a → S[n]? = some ob → ob ≠ .dead → G a = none
variable {K : Frag}
structure Cfg.le (c c' : Cfg K) : Prop where
  g : Same c.G c'.G
  m : c.m <+: c'.m
theorem Same.rfl' {H : Hp} : Same H H := fun _ _ e => e
theorem Same.tr {H H' H'' : Hp} (a : Same H H') (b : Same H' H'') : Same H H'' := fun x o e => b x o (a x o e)
theorem Cfg.le.refl {c : Cfg K} : c.le c := ⟨Same.rfl', List.prefix_refl _⟩
theorem Cfg.le.tr {a b c : Cfg K} (h : a.le b) (k : b.le c) : a.le c := ⟨Same.tr h.g k.g, h.m.trans k.m⟩
def Rw (c : Cfg K) : W → V → Prop
  | .val d, v => Rd K c.G d v
  | .ref n, v => ∃ a, c.m[n]? = some a ∧ v = .ref a
theorem pre_get {α : Type} {l l' : List α} (h : l <+: l') {n : Nat} {a : α} (e : l[n]? = some a) : l'[n]? = some a := by
  obtain ⟨t, rfl⟩ := h
  rw [List.getElem?_append_left (List.getElem?_eq_some_iff.mp e).1]
  exact e
theorem Rw.mono {c c' : Cfg K} (h : c.le c') : ∀ {w : W} {v : V}, Rw c w v → Rw c' w v
  | .val _, _, r => Rd.mono h.g r
  | .ref _, _, ⟨a, e, q⟩ => ⟨a, pre_get h.m e, q⟩
inductive Rws (c : Cfg K) : List W → List V → Prop
  | nil : Rws c [] []
  | cons {w : W} {v : V} {ws : List W} {vs : List V} (h : Rw c w v) (r : Rws c ws vs) : Rws c (w :: ws) (v :: vs)
theorem Rws.mono {c c' : Cfg K} (h : c.le c') : ∀ {w : List W} {v : List V}, Rws c w v → Rws c' w v
  | _, _, .nil => .nil
  | _, _, .cons a r => .cons (a.mono h) (r.mono h)
theorem Rws.length {c : Cfg K} : ∀ {w : List W} {v : List V}, Rws c w v → w.length = v.length
  | _, _, .nil => rfl
  | _, _, .cons a r => by rw [List.length_cons, List.length_cons, r.length]
structure Re (c : Cfg K) (ε : Ev) (σ : L2.St) : Prop where
  len : ε.length = σ.length
  at_ : ∀ (i : Nat) (w : W), ε[i]? = some (some w) → ∃ v, σ[i]? = some (some v) ∧ Rw c w v
theorem Re.mono {c c' : Cfg K} (h : c.le c') {ε : Ev} {σ : L2.St} (r : Re c ε σ) : Re c' ε σ :=
  ⟨r.len, fun i w e => let ⟨v, a, b⟩ := r.at_ i w e; ⟨v, a, b.mono h⟩⟩
theorem Re.set {c : Cfg K} {ε : Ev} {σ : L2.St} {w : W} {v : V} (r : Re c ε σ) (i : Nat) (h : Rw c w v) : Re c (ε.set i (some w)) (σ.set i (some v)) := by
  refine ⟨by rw [List.length_set, List.length_set, r.len], fun j w' e => ?_⟩
  rw [List.getElem?_set] at e ⊢
  have hl := r.len
  by_cases hj : i = j
  · subst hj
    rw [if_pos rfl] at e ⊢
    by_cases hi : i < ε.length
    · rw [if_pos hi] at e
      cases e
      exact ⟨v, by rw [if_pos (by omega)], h⟩
    · rw [if_neg hi] at e; cases e
  · rw [if_neg hj] at e ⊢
    exact r.at_ j w' e

/-! ## what is wanted behind -/
def AP (c : Cfg K) (r : Rs W) (Q : VK) (E : XK) : Prop := match r with
  | .ok w S => ∀ c' : Cfg K, c.le c' → c'.S = S → ∀ u, Rw c' w u → Q u c'.H
  | .ex C fs S => ∀ c' : Cfg K, c.le c' → c'.S = S → ∀ d gs, c'.H d = some (.xd gs) → Rfs K c'.G fs gs → E (.ref (He.ga K C)) (some d) c'.H
  | .bad => False
def APt (c : Cfg K) (r : Rs Bool) (Q : Bool → Hp → Prop) (E : XK) : Prop := match r with
  | .ok b S => ∀ c' : Cfg K, c.le c' → c'.S = S → Q b c'.H
  | .ex C fs S => ∀ c' : Cfg K, c.le c' → c'.S = S → ∀ d gs, c'.H d = some (.xd gs) → Rfs K c'.G fs gs → E (.ref (He.ga K C)) (some d) c'.H
  | .bad => False
def APa (c : Cfg K) (r : Rs (List W)) (Q : List V → Hp → Prop) (E : XK) : Prop := match r with
  | .ok ws S => ∀ c' : Cfg K, c.le c' → c'.S = S → ∀ us, Rws c' ws us → Q us c'.H
  | .ex C fs S => ∀ c' : Cfg K, c.le c' → c'.S = S → ∀ d gs, c'.H d = some (.xd gs) → Rfs K c'.G fs gs → E (.ref (He.ga K C)) (some d) c'.H
  | .bad => False
def APs (c : Cfg K) (r : Rt) (D : Ends) (E : XK) : Prop := match r with
  | .nx ε S => ∀ c' : Cfg K, c.le c' → c'.S = S → ∀ σ, Re c' ε σ → D.nx σ c'.H
  | .bk ε S => ∀ c' : Cfg K, c.le c' → c'.S = S → ∀ σ, Re c' ε σ → D.bk σ c'.H
  | .ct ε S => ∀ c' : Cfg K, c.le c' → c'.S = S → ∀ σ, Re c' ε σ → D.ct σ c'.H
  | .rt w S => ∀ c' : Cfg K, c.le c' → c'.S = S → ∀ u, Rw c' w u → D.rt u c'.H
  | .ex C fs S => ∀ c' : Cfg K, c.le c' → c'.S = S → ∀ d gs, c'.H d = some (.xd gs) → Rfs K c'.G fs gs → E (.ref (He.ga K C)) (some d) c'.H
  | .bad => False
theorem AP.up {c c' : Cfg K} {r : Rs W} {Q : VK} {E : XK} (h : AP c r Q E) (l : c.le c') : AP c' r Q E := by
  cases r with
  | ok w S => exact fun c2 l2 e => h c2 (l.tr l2) e
  | ex C fs S => exact fun c2 l2 e => h c2 (l.tr l2) e
  | bad => exact h
theorem APt.up {c c' : Cfg K} {r : Rs Bool} {Q : Bool → Hp → Prop} {E : XK} (h : APt c r Q E) (l : c.le c') : APt c' r Q E := by
  cases r with
  | ok w S => exact fun c2 l2 e => h c2 (l.tr l2) e
  | ex C fs S => exact fun c2 l2 e => h c2 (l.tr l2) e
  | bad => exact h
theorem APa.up {c c' : Cfg K} {r : Rs (List W)} {Q : List V → Hp → Prop} {E : XK} (h : APa c r Q E) (l : c.le c') : APa c' r Q E := by
  cases r with
  | ok w S => exact fun c2 l2 e => h c2 (l.tr l2) e
  | ex C fs S => exact fun c2 l2 e => h c2 (l.tr l2) e
  | bad => exact h
theorem APs.up {c c' : Cfg K} {r : Rt} {D : Ends} {E : XK} (h : APs c r D E) (l : c.le c') : APs c' r D E := by
  cases r with
  | nx ε S => exact fun c2 l2 e => h c2 (l.tr l2) e
  | bk ε S => exact fun c2 l2 e => h c2 (l.tr l2) e
  | ct ε S => exact fun c2 l2 e => h c2 (l.tr l2) e
  | rt w S => exact fun c2 l2 e => h c2 (l.tr l2) e
  | ex C fs S => exact fun c2 l2 e => h c2 (l.tr l2) e
  | bad => exact h
def aE (K : Frag) (E : XK) (f : ME) : TE := fun σ H Q => ∃ (c : Cfg K) (ε : Ev), c.H = H ∧ Re c ε σ ∧ AP c (f ε c.S) Q E
def aT (K : Frag) (E : XK) (f : MT) : TT := fun σ H Q => ∃ (c : Cfg K) (ε : Ev), c.H = H ∧ Re c ε σ ∧ APt c (f ε c.S) Q E
def aA (K : Frag) (E : XK) (f : MA) : TA := fun σ H Q => ∃ (c : Cfg K) (ε : Ev), c.H = H ∧ Re c ε σ ∧ APa c (f ε c.S) Q E
def aS (K : Frag) (E : XK) (f : MS) : TS := fun D σ H => ∃ (c : Cfg K) (ε : Ev), c.H = H ∧ Re c ε σ ∧ APs c (f ε c.S) D E

section
variable {c : Cfg K} {ε : Ev} {σ : L2.St} {Q : VK} {Qt : Bool → Hp → Prop} {Qa : List V → Hp → Prop} {Ds : Ends} {E : XK} {f : ME} {ft : MT} {fa : MA}
theorem ee (re : Re c ε σ) {k : W → Sto → Rs W} (h : AP c ((f ε c.S).bind k) Q E) {T : VK} (g : ∀ (c' : Cfg K) w u, c.le c' → Rw c' w u → AP c' (k w c'.S) Q E → T u c'.H) : aE K E f σ c.H T := by
  refine ⟨c, ε, rfl, re, ?_⟩
  cases e : f ε c.S with
  | ok w S => rw [e] at h; exact fun c' l es u r => g c' w u l r (by rw [es]; exact AP.up (show AP c (k w S) Q E from h) l)
  | ex C fs S => rw [e] at h; exact h
  | bad => rw [e] at h; exact h
theorem et (re : Re c ε σ) {k : W → Sto → Rs Bool} (h : APt c ((f ε c.S).bind k) Qt E) {T : VK} (g : ∀ (c' : Cfg K) w u, c.le c' → Rw c' w u → APt c' (k w c'.S) Qt E → T u c'.H) : aE K E f σ c.H T := by
  refine ⟨c, ε, rfl, re, ?_⟩
  cases e : f ε c.S with
  | ok w S => rw [e] at h; exact fun c' l es u r => g c' w u l r (by rw [es]; exact APt.up (show APt c (k w S) Qt E from h) l)
  | ex C fs S => rw [e] at h; exact h
  | bad => rw [e] at h; exact h
theorem ea (re : Re c ε σ) {k : W → Sto → Rs (List W)} (h : APa c ((f ε c.S).bind k) Qa E) {T : VK} (g : ∀ (c' : Cfg K) w u, c.le c' → Rw c' w u → APa c' (k w c'.S) Qa E → T u c'.H) : aE K E f σ c.H T := by
  refine ⟨c, ε, rfl, re, ?_⟩
  cases e : f ε c.S with
  | ok w S => rw [e] at h; exact fun c' l es u r => g c' w u l r (by rw [es]; exact APa.up (show APa c (k w S) Qa E from h) l)
  | ex C fs S => rw [e] at h; exact h
  | bad => rw [e] at h; exact h
theorem es (re : Re c ε σ) {k : W → Sto → Rt} (h : APs c ((f ε c.S).bindT k) Ds E) {T : VK} (g : ∀ (c' : Cfg K) w u, c.le c' → Rw c' w u → APs c' (k w c'.S) Ds E → T u c'.H) : aE K E f σ c.H T := by
  refine ⟨c, ε, rfl, re, ?_⟩
  cases e : f ε c.S with
  | ok w S => rw [e] at h; exact fun c' l es u r => g c' w u l r (by rw [es]; exact APs.up (show APs c (k w S) Ds E from h) l)
  | ex C fs S => rw [e] at h; exact h
  | bad => rw [e] at h; exact h
theorem te (re : Re c ε σ) {k : Bool → Sto → Rs W} (h : AP c ((ft ε c.S).bind k) Q E) {T : Bool → Hp → Prop} (g : ∀ (c' : Cfg K) w, c.le c' → AP c' (k w c'.S) Q E → T w c'.H) : aT K E ft σ c.H T := by
  refine ⟨c, ε, rfl, re, ?_⟩
  cases e : ft ε c.S with
  | ok w S => rw [e] at h; exact fun c' l es => g c' w l (by rw [es]; exact AP.up (show AP c (k w S) Q E from h) l)
  | ex C fs S => rw [e] at h; exact h
  | bad => rw [e] at h; exact h
theorem tt (re : Re c ε σ) {k : Bool → Sto → Rs Bool} (h : APt c ((ft ε c.S).bind k) Qt E) {T : Bool → Hp → Prop} (g : ∀ (c' : Cfg K) w, c.le c' → APt c' (k w c'.S) Qt E → T w c'.H) : aT K E ft σ c.H T := by
  refine ⟨c, ε, rfl, re, ?_⟩
  cases e : ft ε c.S with
  | ok w S => rw [e] at h; exact fun c' l es => g c' w l (by rw [es]; exact APt.up (show APt c (k w S) Qt E from h) l)
  | ex C fs S => rw [e] at h; exact h
  | bad => rw [e] at h; exact h
theorem ts (re : Re c ε σ) {k : Bool → Sto → Rt} (h : APs c ((ft ε c.S).bindT k) Ds E) {T : Bool → Hp → Prop} (g : ∀ (c' : Cfg K) w, c.le c' → APs c' (k w c'.S) Ds E → T w c'.H) : aT K E ft σ c.H T := by
  refine ⟨c, ε, rfl, re, ?_⟩
  cases e : ft ε c.S with
  | ok w S => rw [e] at h; exact fun c' l es => g c' w l (by rw [es]; exact APs.up (show APs c (k w S) Ds E from h) l)
  | ex C fs S => rw [e] at h; exact h
  | bad => rw [e] at h; exact h
theorem ae (re : Re c ε σ) {k : List W → Sto → Rs W} (h : AP c ((fa ε c.S).bind k) Q E) {T : List V → Hp → Prop} (g : ∀ (c' : Cfg K) w u, c.le c' → Rws c' w u → AP c' (k w c'.S) Q E → T u c'.H) : aA K E fa σ c.H T := by
  refine ⟨c, ε, rfl, re, ?_⟩
  cases e : fa ε c.S with
  | ok w S => rw [e] at h; exact fun c' l es u r => g c' w u l r (by rw [es]; exact AP.up (show AP c (k w S) Q E from h) l)
  | ex C fs S => rw [e] at h; exact h
  | bad => rw [e] at h; exact h
theorem aa (re : Re c ε σ) {k : List W → Sto → Rs (List W)} (h : APa c ((fa ε c.S).bind k) Qa E) {T : List V → Hp → Prop} (g : ∀ (c' : Cfg K) w u, c.le c' → Rws c' w u → APa c' (k w c'.S) Qa E → T u c'.H) : aA K E fa σ c.H T := by
  refine ⟨c, ε, rfl, re, ?_⟩
  cases e : fa ε c.S with
  | ok w S => rw [e] at h; exact fun c' l es u r => g c' w u l r (by rw [es]; exact APa.up (show APa c (k w S) Qa E from h) l)
  | ex C fs S => rw [e] at h; exact h
  | bad => rw [e] at h; exact h
theorem as (re : Re c ε σ) {k : List W → Sto → Rt} (h : APs c ((fa ε c.S).bindT k) Ds E) {T : List V → Hp → Prop} (g : ∀ (c' : Cfg K) w u, c.le c' → Rws c' w u → APs c' (k w c'.S) Ds E → T u c'.H) : aA K E fa σ c.H T := by
  refine ⟨c, ε, rfl, re, ?_⟩
  cases e : fa ε c.S with
  | ok w S => rw [e] at h; exact fun c' l es u r => g c' w u l r (by rw [es]; exact APs.up (show APs c (k w S) Ds E from h) l)
  | ex C fs S => rw [e] at h; exact h
  | bad => rw [e] at h; exact h
end
theorem AP.ok {c : Cfg K} {w : W} {u : V} {Q : VK} {E : XK} (h : AP c (.ok w c.S) Q E) (r : Rw c w u) : Q u c.H := h c .refl rfl u r
theorem APt.ok {c : Cfg K} {b : Bool} {Q : Bool → Hp → Prop} {E : XK} (h : APt c (.ok b c.S) Q E) : Q b c.H := h c .refl rfl
theorem APa.ok {c : Cfg K} {w : List W} {u : List V} {Q : List V → Hp → Prop} {E : XK} (h : APa c (.ok w c.S) Q E) (r : Rws c w u) : Q u c.H := h c .refl rfl u r
end AM
namespace L2
open PySem
theorem PE.weak {X : Cx} {e : Expr} {t t' : TE} (h : PE X e t) (k : ∀ σ H Q, t' σ H Q → t σ H Q) : PE X e t' := ⟨fun pins s σ H Q I hw => h.run pins s σ H Q I (k σ H Q hw)⟩
theorem PT.weak {X : Cx} {e : Expr} {t t' : TT} (h : PT X e t) (k : ∀ σ H Q, t' σ H Q → t σ H Q) : PT X e t' := ⟨fun pins s σ H Q I hw => h.run pins s σ H Q I (k σ H Q hw)⟩
theorem PW.weak {X : Cx} {e : Expr} {t t' : TT} (h : PW X e t) (k : ∀ σ H Q, t' σ H Q → t σ H Q) : PW X e t' := ⟨fun wh pins s σ H Q I hw => h.run wh pins s σ H Q I (k σ H Q hw)⟩
theorem PA.weak {X : Cx} {e : List Expr} {t t' : TA} (h : PA X e t) (k : ∀ σ H Q, t' σ H Q → t σ H Q) : PA X e t' := ⟨fun pos pins s σ H Q I hw => h.run pos pins s σ H Q I (k σ H Q hw)⟩
theorem PS.weak {X : Cx} {e : Stmt} {t t' : TS} (h : PS X e t) (k : ∀ D σ H, t' D σ H → t D σ H) : PS X e t' := ⟨fun pins s σ H D I hw => h.run pins s σ H D I (k D σ H hw)⟩
theorem PSs.weak {X : Cx} {e : List Stmt} {t t' : TS} (h : PSs X e t) (k : ∀ D σ H, t' D σ H → t D σ H) : PSs X e t' := ⟨fun pins s σ H D I hw => h.run pins s σ H D I (k D σ H hw)⟩
theorem PI.weak {X : Cx} {tg e : Expr} {t t' : TI} (h : PI X tg e t) (k : ∀ σ H R, t' σ H R → t σ H R) : PI X tg e t' := ⟨fun pins s σ H R I hw => h.run pins s σ H R I (k σ H R hw)⟩
theorem PTs.weak {X : Cx} {e : List Expr} {t t' : TT} (h : PTs X e t) (k : ∀ σ H Q, t' σ H Q → t σ H Q) : PTs X e t' := ⟨fun pins s σ H Q I hw => h.run pins s σ H Q I (k σ H Q hw)⟩
end L2
set_option Elab.async false
set_option linter.all false
set_option maxRecDepth 100000
set_option maxHeartbeats 4000000
namespace AM
open PySem PySem.Spec PyProof.Rows L2 Bk
open PySem.W (Frag)
variable {K : Frag}
/-! ## new things -/
/-- a new thing that never changes -/
def Cfg.lay (c : Cfg K) (p : Addr) (o : HO) (h : c.H p = none) : Cfg K where
  G := upd c.G p o
  m := c.m
  S := c.S
  H := upd c.H p o
  sub := fun a u e => by
    by_cases hb : a = p
    · subst hb; rw [upd_same] at e ⊢; exact e
    · rw [upd_ne hb] at e ⊢; exact c.sub a u e
  len := c.len
  nd := c.nd
  at_ := fun n a ob e1 e2 => by
    have gp : c.G p = none := by
      cases q : c.G p with
      | none => rfl
      | some u => rw [c.sub p u q] at h; cases h
    have r := c.at_ n a ob e1 e2
    obtain ⟨u, hu⟩ := r.some
    rw [upd_ne (ne_of_none hu h)]
    exact r.mono (same_new gp)
  fr := fun n a ob e1 e2 e3 => by
    have r := c.at_ n a ob e1 e2
    obtain ⟨u, hu⟩ := r.some
    have ne : a ≠ p := ne_of_none hu h
    rw [upd_ne ne]
    exact c.fr n a ob e1 e2 e3
theorem Cfg.gnone (c : Cfg K) {p : Addr} (h : c.H p = none) : c.G p = none := by
  cases q : c.G p with
  | none => rfl
  | some u => rw [c.sub p u q] at h; cases h
theorem Cfg.lay_le (c : Cfg K) {p : Addr} {o : HO} (h : c.H p = none) : c.le (c.lay p o h) := ⟨same_new (c.gnone h), List.prefix_refl _⟩
theorem Cfg.lay_tup (c : Cfg K) {p : Addr} {xs : List V} {l : List D} (h : c.H p = none) (r : Rds K c.G l xs) : Rw (c.lay p (.tup xs) h) (.val (.tup l)) (.ref p) :=
  Rd.tup (.inl (.inl (by show upd c.G p _ p = _; rw [upd_same]))) (r.mono (same_new (c.gnone h)))
theorem Cfg.lay_lst (c : Cfg K) {p : Addr} {xs : List V} {l : List D} (h : c.H p = none) (r : Rds K c.G l xs) : Rw (c.lay p (.lst xs) h) (.val (.lst l)) (.ref p) :=
  Rd.lst (by show upd c.G p _ p = _; rw [upd_same]) (r.mono (same_new (c.gnone h)))
theorem AP.tup {c : Cfg K} {l : List D} {xs : List V} {p : Addr} {Q : VK} {E : XK} (h : AP c (.ok (.val (.tup l)) c.S) Q E) (r : Rds K c.G l xs) (hp : c.H p = none) : Q (.ref p) (upd c.H p (.tup xs)) :=
  h (c.lay p _ hp) (c.lay_le hp) rfl _ (c.lay_tup hp r)
theorem AP.lst {c : Cfg K} {l : List D} {xs : List V} {p : Addr} {Q : VK} {E : XK} (h : AP c (.ok (.val (.lst l)) c.S) Q E) (r : Rds K c.G l xs) (hp : c.H p = none) : Q (.ref p) (upd c.H p (.lst xs)) :=
  h (c.lay p _ hp) (c.lay_le hp) rfl _ (c.lay_lst hp r)
/-- a thing that changes is known from now on -/
def Cfg.freeze (c : Cfg K) (n : Nat) (a : Addr) (ob : Ob) (o : HO) (h1 : c.m[n]? = some a) (h2 : c.S[n]? = some ob) (h3 : ob ≠ .dead) (h4 : c.H a = some o) : Cfg K where
  G := upd c.G a o
  m := c.m
  S := c.S.set n .dead
  H := c.H
  sub := fun b u e => by
    by_cases hb : b = a
    · subst hb; rw [upd_same] at e; cases e; exact h4
    · rw [upd_ne hb] at e; exact c.sub b u e
  len := by rw [List.length_set]; exact c.len
  nd := c.nd
  at_ := fun k b ob' e1 e2 => by
    rw [List.getElem?_set] at e2
    by_cases hk : n = k
    · rw [if_pos hk] at e2
      subst hk
      rw [h1] at e1
      cases e1
      split at e2
      · cases e2; exact ⟨o, h4⟩
      · cases e2
    · rw [if_neg hk] at e2
      exact (c.at_ k b ob' e1 e2).mono (same_new (c.fr n a ob h1 h2 h3))
  fr := fun k b ob' e1 e2 e3 => by
    rw [List.getElem?_set] at e2
    by_cases hk : n = k
    · rw [if_pos hk] at e2
      split at e2
      · cases e2; exact absurd rfl e3
      · cases e2
    · rw [if_neg hk] at e2
      rw [upd_ne (fun z => hk ?_)]
      · exact c.fr k b ob' e1 e2 e3
      · rw [z] at e1
        have l1 := (List.getElem?_eq_some_iff.mp h1)
        have l2 := (List.getElem?_eq_some_iff.mp e1)
        obtain ⟨g1, e1'⟩ := l1
        obtain ⟨g2, e2'⟩ := l2
        exact (List.getElem_inj c.nd).mp (e1'.trans e2'.symm)
def toD : W → Sto → Option (D × Sto)
  | .val d, S => some (d, S)
  | .ref n, S => match S[n]? with
    | some (.lst l) => some (.lst l, S.set n .dead)
    | some (.ins C fs) => some (.obj C fs, S.set n .dead)
    | some (.dic kvs) => some (.dic kvs, S.set n .dead)
    | _ => none
def toDs : List W → Sto → Option (List D × Sto)
  | [], S => some ([], S)
  | w :: ws, S => (toD w S).bind fun p => (toDs ws p.2).map fun q => (p.1 :: q.1, q.2)
theorem toD_ok {c : Cfg K} {w : W} {u : V} {d : D} {S' : Sto} (h : toD w c.S = some (d, S')) (r : Rw c w u) : ∃ c' : Cfg K, c.le c' ∧ c'.S = S' ∧ c'.H = c.H ∧ Rd K c'.G d u := by
  cases w with
  | val d' => cases h; exact ⟨c, .refl, rfl, rfl, r⟩
  | ref n =>
    obtain ⟨a, e1, rfl⟩ := r
    cases e2 : c.S[n]? with
    | none => simp [toD, e2] at h
    | some ob =>
      cases ob with
      | dead => simp [toD, e2] at h
      | lst l =>
        simp only [toD, e2, Option.some.injEq, Prod.mk.injEq] at h
        obtain ⟨rfl, rfl⟩ := h
        obtain ⟨xs, e3, r⟩ := c.at_ n a _ e1 e2
        have sm : Same c.G (upd c.G a (.lst xs)) := same_new (c.fr n a _ e1 e2 (fun z => by cases z))
        exact ⟨c.freeze n a _ _ e1 e2 (fun z => by cases z) e3, ⟨sm, List.prefix_refl _⟩, rfl, rfl, .lst (by show upd c.G a _ a = _; rw [upd_same]) (r.mono sm)⟩
      | ins C fs =>
        simp only [toD, e2, Option.some.injEq, Prod.mk.injEq] at h
        obtain ⟨rfl, rfl⟩ := h
        obtain ⟨dx, gs, e3, r⟩ := c.at_ n a _ e1 e2
        have sm : Same c.G (upd c.G a (.ins (He.ga K C) dx gs)) := same_new (c.fr n a _ e1 e2 (fun z => by cases z))
        exact ⟨c.freeze n a _ _ e1 e2 (fun z => by cases z) e3, ⟨sm, List.prefix_refl _⟩, rfl, rfl, .obj (by show upd c.G a _ a = _; rw [upd_same]) (r.mono sm)⟩
      | dic kvs =>
        simp only [toD, e2, Option.some.injEq, Prod.mk.injEq] at h
        obtain ⟨rfl, rfl⟩ := h
        obtain ⟨vs, e3, r⟩ := c.at_ n a _ e1 e2
        have sm : Same c.G (upd c.G a (.dK (keyS vs))) := same_new (c.fr n a _ e1 e2 (fun z => by cases z))
        exact ⟨c.freeze n a _ _ e1 e2 (fun z => by cases z) e3, ⟨sm, List.prefix_refl _⟩, rfl, rfl, .dic (by show upd c.G a _ a = _; rw [upd_same]) (r.mono sm)⟩
theorem toDs_ok : ∀ {ws : List W} {us : List V} {c : Cfg K} {ds : List D} {S' : Sto}, toDs ws c.S = some (ds, S') → Rws c ws us → ∃ c' : Cfg K, c.le c' ∧ c'.S = S' ∧ c'.H = c.H ∧ Rds K c'.G ds us
  | _, _, c, _, _, h, .nil => by cases h; exact ⟨c, .refl, rfl, rfl, .nil⟩
  | w :: ws, u :: us, c, ds, S', h, .cons r rs => by
    unfold toDs at h
    cases e : toD w c.S with
    | none => rw [e] at h; cases h
    | some p =>
      obtain ⟨d, S1⟩ := p
      rw [e] at h
      obtain ⟨c1, l1, s1, h1, r1⟩ := toD_ok e r
      cases e2 : toDs ws S1 with
      | none => simp only [Option.bind_some, e2] at h; cases h
      | some q =>
        obtain ⟨ds2, S2⟩ := q
        simp only [Option.bind_some, e2] at h
        cases h
        subst s1
        obtain ⟨c2, l2, s2, h2, r2⟩ := toDs_ok e2 (rs.mono l1)
        exact ⟨c2, l1.tr l2, s2, h2.trans h1, .cons (r1.mono l2.g) r2⟩

/-! ## names, constants -/
section
variable {X : Cx} {E : XK} {pos : Pos} {a b e : Expr} {fa fb f : ME}
def cVar (i : Nat) : ME := fun ε S => match ε[i]? with | some (some w) => .ok w S | _ => .bad
theorem de_var {i : Nat} {x : Str} (hN : X.N[i]? = some x) (hv : Vis X.env.scope x) (hd : (x == ("__debug__" : Str)) = false := by decide) (hcd : (x == ("__classdict__" : Str)) = false := by decide) : PE X (.Name x pos) (aE K E (cVar i)) :=
  (pe_var hN hv hd hcd).weak fun σ H Q h => by
    obtain ⟨c, ε, rfl, re, h⟩ := h
    unfold cVar at h
    split at h
    · rename_i w e
      obtain ⟨v, e2, r⟩ := re.at_ _ _ e
      exact ⟨v, e2, h.ok r⟩
    · exact h.elim
def cC (d : D) : ME := fun _ S => .ok (.val d) S
theorem aE_c {d : D} {v : V} {σ : L2.St} {H : Hp} {Q : VK} (r : ∀ G, Rd K G d v) (h : aE K E (cC d) σ H Q) : Q v H := by
  obtain ⟨c, ε, rfl, re, h⟩ := h
  exact h.ok (r _)
theorem de_int {i j} : PE X (.Constant (.int i) j pos) (aE K E (cC (.int i))) := pe_int.weak fun _ _ _ h => aE_c (fun _ => .int i) h
theorem de_bl {i j} : PE X (.Constant (.bool i) j pos) (aE K E (cC (.bl i))) := pe_bl.weak fun _ _ _ h => aE_c (fun _ => .bl i) h
theorem de_non {j} : PE X (.Constant .none j pos) (aE K E (cC .non)) := pe_non.weak fun _ _ _ h => aE_c (fun _ => .non) h
theorem de_str {x j} (hx : x.length ≤ sizeLine := by decide +kernel) : PE X (.Constant (.str x) j pos) (aE K E (cC (.str x))) := pe_str.weak fun _ _ _ h => aE_c (fun _ => .str x hx) h
/-! ## operators -/
def rA (K : Frag) (E : XK) (g : W → W → Sto → Rs W) : R2 := fun u v H Q => ∃ (c : Cfg K) (x y : W), c.H = H ∧ Rw c x u ∧ Rw c y v ∧ AP c (g x y c.S) Q E
def rA1 (K : Frag) (E : XK) (g : W → Sto → Rs W) : V → Hp → VK → Prop := fun u H Q => ∃ (c : Cfg K) (x : W), c.H = H ∧ Rw c x u ∧ AP c (g x c.S) Q E
def rAs (K : Frag) (E : XK) (g : List W → Sto → Rs W) : List V → Hp → VK → Prop := fun us H Q => ∃ (c : Cfg K) (xs : List W), c.H = H ∧ Rws c xs us ∧ AP c (g xs c.S) Q E
def cBin (g : W → W → Sto → Rs W) (fa fb : ME) : ME := fun ε S => (fa ε S).bind fun x S => (fb ε S).bind fun y S => g x y S
def cUn (g : W → Sto → Rs W) (fa : ME) : ME := fun ε S => (fa ε S).bind fun x S => g x S
theorem tOp_of {g : W → W → Sto → Rs W} {σ : L2.St} {H : Hp} {Q : VK} (h : aE K E (cBin g fa fb) σ H Q) : tOp (rA K E g) (aE K E fa) (aE K E fb) σ H Q := by
  obtain ⟨c, ε, rfl, re, h⟩ := h
  refine ee re h fun c1 w1 u1 l1 r1 h1 => ?_
  refine ee (re.mono l1) h1 fun c2 w2 u2 l2 r2 h2 => ?_
  exact ⟨c2, w1, w2, rfl, r1.mono l2, r2, h2⟩
theorem tUn_of {g : W → Sto → Rs W} {σ : L2.St} {H : Hp} {Q : VK} (h : aE K E (cUn g fa) σ H Q) : tUn (rA1 K E g) (aE K E fa) σ H Q := by
  obtain ⟨c, ε, rfl, re, h⟩ := h
  refine ee re h fun c1 w1 u1 l1 r1 h1 => ?_
  exact ⟨c1, w1, rfl, r1, h1⟩
theorem de_op {op : Operator} {g : W → W → Sto → Rs W} (ho : OpR X (binaryOp op) (rA K E g)) (ha : PE X a (aE K E fa)) (hb : PE X b (aE K E fb)) : PE X (.BinOp a op b pos) (aE K E (cBin g fa fb)) :=
  (pe_op ho ha hb).weak fun _ _ _ h => tOp_of h
theorem de_un {op : UnaryOp} {g : W → Sto → Rs W} (ho : UnR X (unaryOp op) (rA1 K E g)) (ha : PE X a (aE K E fa)) : PE X (.UnaryOp op a pos) (aE K E (cUn g fa)) :=
  (pe_un ho ha).weak fun _ _ _ h => tUn_of h
theorem de_cmp {op : CmpOp} {g : W → W → Sto → Rs W} (ho : OpR X (compareOp op) (rA K E g)) (ha : PE X a (aE K E fa)) (hb : PE X b (aE K E fb)) (hm : behindInMarks op b = false) : PE X (.Compare a [op] [b] pos) (aE K E (cBin g fa fb)) :=
  (pe_cmpR ho ha hb hm).weak fun _ _ _ h => tOp_of h
/-- a value as a test: a truth value -/
def cTest (fa : ME) : MT := fun ε S => (fa ε S).bind fun x S => match x with | .val (.bl b) => .ok b S | _ => .bad
theorem tTest_of {t : TE} {fa : ME} {σ : L2.St} {H : Hp} {Q : Bool → Hp → Prop} (h : aT K E (cTest fa) σ H Q) : tTest (aE K E fa) σ H Q := by
  obtain ⟨c, ε, rfl, re, h⟩ := h
  refine et re h fun c1 w1 u1 l1 r1 h1 => ?_
  split at h1
  · cases r1
    exact ⟨_, rfl, h1.ok⟩
  · exact h1.elim
theorem dt_cmp {op : CmpOp} {g : W → W → Sto → Rs W} (ho : OpR X (compareOp op) (rA K E g)) (ha : PE X a (aE K E fa)) (hb : PE X b (aE K E fb)) (hm : behindInMarks op b = false) : PT X (.Compare a [op] [b] pos) (aT K E (cTest (cBin g fa fb))) :=
  (pt_cmpR ho ha hb hm).weak fun σ H Q h => by
    obtain ⟨c, ε, rfl, re, h⟩ := h
    show tOp (rA K E g) (aE K E fa) (aE K E fb) σ c.H fun x H' => ∃ k, x = .bl k ∧ Q k H'
    refine tOp_of ?_
    refine et (f := cBin g fa fb) re h fun c1 w1 u1 l1 r1 h1 => ?_
    split at h1
    · cases r1
      exact ⟨_, rfl, h1.ok⟩
    · exact h1.elim
theorem dt_val (ha : PE X e (aE K E fa)) (he : ∀ whole, isTrue e X.env whole = (do let v ← whole; standAt e.pos; holding [v] (truthy v)) := by intro _; rfl) : PT X e (aT K E (cTest fa)) :=
  (pt_val ha he).weak fun σ H Q h => by
    obtain ⟨c, ε, rfl, re, h⟩ := h
    refine et re h fun c1 w1 u1 l1 r1 h1 => ?_
    split at h1
    · cases r1
      exact ⟨_, rfl, h1.ok⟩
    · exact h1.elim
/-! ## and, or, not, if -/
variable {ft fu : MT} {rest : List Expr}
def cAndT (s t : MT) : MT := fun ε S => (s ε S).bind fun b S => if b then t ε S else .ok false S
def cOrT (s t : MT) : MT := fun ε S => (s ε S).bind fun b S => if b then .ok true S else t ε S
def cNotT (s : MT) : MT := fun ε S => (s ε S).bind fun b S => .ok (!b) S
theorem dw_and1 (ha : PT X a (aT K E ft)) : PW X (.BoolOp .And [a] pos) (aT K E ft) := pw_and1 ha
theorem dw_or1 (ha : PT X a (aT K E ft)) : PW X (.BoolOp .Or [a] pos) (aT K E ft) := pw_or1 ha
theorem dw_and (ha : PT X a (aT K E ft)) (hb : PW X (.BoolOp .And (b :: rest) pos) (aT K E fu)) : PW X (.BoolOp .And (a :: b :: rest) pos) (aT K E (cAndT ft fu)) :=
  (pw_and ha hb).weak fun σ H Q h => by
    obtain ⟨c, ε, rfl, re, h⟩ := h
    refine tt re h fun c1 w1 l1 h1 => ?_
    cases w1 with
    | true => exact ⟨c1, ε, rfl, re.mono l1, h1⟩
    | false => exact h1.ok
theorem dw_or (ha : PT X a (aT K E ft)) (hb : PW X (.BoolOp .Or (b :: rest) pos) (aT K E fu)) : PW X (.BoolOp .Or (a :: b :: rest) pos) (aT K E (cOrT ft fu)) :=
  (pw_or ha hb).weak fun σ H Q h => by
    obtain ⟨c, ε, rfl, re, h⟩ := h
    refine tt re h fun c1 w1 l1 h1 => ?_
    cases w1 with
    | false => exact ⟨c1, ε, rfl, re.mono l1, h1⟩
    | true => exact h1.ok
theorem dt_not (ha : PT X a (aT K E ft)) : PT X (.UnaryOp .Not a pos) (aT K E (cNotT ft)) :=
  (pt_not ha).weak fun σ H Q h => by
    obtain ⟨c, ε, rfl, re, h⟩ := h
    refine tt re h fun c1 w1 l1 h1 => ?_
    exact h1.ok
def cAndV (s t : ME) : ME := fun ε S => (s ε S).bind fun x S => match x with | .val (.bl b) => if b = true then t ε S else .ok (.val (.bl false)) S | _ => .bad
def cOrV (s t : ME) : ME := fun ε S => (s ε S).bind fun x S => match x with | .val (.bl b) => if b = true then .ok (.val (.bl true)) S else t ε S | _ => .bad
def cNotV (s : ME) : ME := fun ε S => (s ε S).bind fun x S => match x with | .val (.bl b) => .ok (.val (.bl (!b))) S | _ => .bad
theorem de_one {op} (h : PE X a (aE K E fa)) : PE X (.BoolOp op [a] pos) (aE K E fa) := pe_one h
theorem de_and (ha : PE X a (aE K E fa)) (hb : PE X (.BoolOp .And (b :: rest) pos) (aE K E fb)) : PE X (.BoolOp .And (a :: b :: rest) pos) (aE K E (cAndV fa fb)) :=
  (pe_and ha hb).weak fun σ H Q h => by
    obtain ⟨c, ε, rfl, re, h⟩ := h
    refine ee re h fun c1 w1 u1 l1 r1 h1 => ?_
    split at h1
    · rename_i b
      cases r1
      cases b with
      | true => exact ⟨true, rfl, ⟨c1, ε, rfl, re.mono l1, h1⟩⟩
      | false => exact ⟨false, rfl, AP.ok (w := .val (.bl false)) h1 (show Rd K _ _ _ from .bl false)⟩
    · exact h1.elim
theorem de_or (ha : PE X a (aE K E fa)) (hb : PE X (.BoolOp .Or (b :: rest) pos) (aE K E fb)) : PE X (.BoolOp .Or (a :: b :: rest) pos) (aE K E (cOrV fa fb)) :=
  (pe_or ha hb).weak fun σ H Q h => by
    obtain ⟨c, ε, rfl, re, h⟩ := h
    refine ee re h fun c1 w1 u1 l1 r1 h1 => ?_
    split at h1
    · rename_i b
      cases r1
      cases b with
      | false => exact ⟨false, rfl, ⟨c1, ε, rfl, re.mono l1, h1⟩⟩
      | true => exact ⟨true, rfl, AP.ok (w := .val (.bl true)) h1 (show Rd K _ _ _ from .bl true)⟩
    · exact h1.elim
theorem de_not (ha : PE X a (aE K E fa)) : PE X (.UnaryOp .Not a pos) (aE K E (cNotV fa)) :=
  (pe_not ha).weak fun σ H Q h => by
    obtain ⟨c, ε, rfl, re, h⟩ := h
    refine ee re h fun c1 w1 u1 l1 r1 h1 => ?_
    split at h1
    · cases r1; exact ⟨_, rfl, h1.ok (show Rd K _ _ _ from .bl _)⟩
    · exact h1.elim
def cIf (t : MT) (a b : ME) : ME := fun ε S => (t ε S).bind fun k S => if k then a ε S else b ε S
theorem de_if {c' : Expr} (hc : PT X c' (aT K E ft)) (ha : PE X a (aE K E fa)) (hb : PE X b (aE K E fb)) : PE X (.IfExp c' a b pos) (aE K E (cIf ft fa fb)) :=
  (pe_ifExp hc ha hb).weak fun σ H Q h => by
    obtain ⟨c, ε, rfl, re, h⟩ := h
    refine te re h fun c1 w1 l1 h1 => ?_
    cases w1 with
    | true => exact ⟨c1, ε, rfl, re.mono l1, h1⟩
    | false => exact ⟨c1, ε, rfl, re.mono l1, h1⟩
/-! ## arguments, displays -/
variable {es : List Expr} {fs : MA}
def cNil : MA := fun _ S => .ok [] S
def cCons (a : ME) (r : MA) : MA := fun ε S => (a ε S).bind fun w S => (r ε S).bind fun ws S => .ok (w :: ws) S
theorem da_nil : PA X [] (aA K E cNil) := pa_nil.weak fun σ H Q h => by
  obtain ⟨c, ε, rfl, re, h⟩ := h
  exact h.ok .nil
theorem da_cons (ha : PE X e (aE K E f)) (hr : PA X es (aA K E fs)) (hs : starEach (e :: es) X.env = (false, eval e X.env) :: starEach es X.env := by rfl) : PA X (e :: es) (aA K E (cCons f fs)) :=
  (pa_cons ha hr hs).weak fun σ H Q h => by
    obtain ⟨c, ε, rfl, re, h⟩ := h
    refine ea re h fun c1 w1 u1 l1 r1 h1 => ?_
    refine aa (re.mono l1) h1 fun c2 w2 u2 l2 r2 h2 => ?_
    exact h2.ok (.cons (r1.mono l2) r2)
def cTup (fs : MA) : ME := fun ε S => (fs ε S).bind fun ws S => match toDs ws S with | some (ds, S) => if ds.length ≤ sizeLine then .ok (.val (.tup ds)) S else .bad | none => .bad
def cLst (fs : MA) : ME := fun ε S => (fs ε S).bind fun ws S => match toDs ws S with | some (ds, S) => if ds.length ≤ sizeLine then .ok (.val (.lst ds)) S else .bad | none => .bad
theorem de_tup {x1} (h : PA X es (aA K E fs)) : PE X (.Tuple es x1 pos) (aE K E (cTup fs)) :=
  (pe_tup h).weak fun σ H Q h => by
    obtain ⟨c, ε, rfl, re, h⟩ := h
    refine ae re h fun c1 ws us l1 r1 h1 => ?_
    split at h1
    · rename_i ds S e
      obtain ⟨c2, l2, rfl, e2, r2⟩ := toDs_ok e r1
      split at h1
      · rename_i hz
        refine ⟨by rw [← r2.length]; exact hz, fun p hp => ?_⟩
        rw [← e2] at hp ⊢
        exact (h1.up l2).tup r2 hp
      · exact h1.elim
    · exact h1.elim
theorem de_lst (h : PA X es (aA K E fs)) : PE X (.List es pos) (aE K E (cLst fs)) :=
  (pe_lst h).weak fun σ H Q h => by
    obtain ⟨c, ε, rfl, re, h⟩ := h
    refine ae re h fun c1 ws us l1 r1 h1 => ?_
    split at h1
    · rename_i ds S e
      obtain ⟨c2, l2, rfl, e2, r2⟩ := toDs_ok e r1
      split at h1
      · rename_i hz
        refine ⟨by rw [← r2.length]; exact hz, fun p hp => ?_⟩
        rw [← e2] at hp ⊢
        exact (h1.up l2).lst r2 hp
      · exact h1.elim
    · exact h1.elim
end
end AM
set_option Elab.async false
set_option linter.all false
set_option maxRecDepth 100000
set_option maxHeartbeats 4000000
namespace AM
open PySem PySem.Spec PyProof.Rows L2 Bk
open PySem.W (Frag)
variable {K : Frag}
/-! ## the store grows, shrinks, is written -/
theorem Cfg.notin (c : Cfg K) {p : Addr} (h : c.H p = none) : p ∉ c.m := fun hm => by
  obtain ⟨n, hn, e⟩ := List.mem_iff_getElem.mp hm
  have hl := c.len
  have e1 : c.m[n]? = some p := by rw [List.getElem?_eq_getElem hn, e]
  obtain ⟨u, hu⟩ := (c.at_ n p _ e1 (List.getElem?_eq_getElem (by omega))).some
  rw [h] at hu
  cases hu
def Cfg.take (c : Cfg K) (n : Nat) : Cfg K where
  G := c.G
  m := c.m.take n
  S := c.S.take n
  H := c.H
  sub := c.sub
  len := by rw [List.length_take, List.length_take, c.len]
  nd := (List.take_sublist n c.m).nodup c.nd
  at_ := fun k a ob e1 e2 => by
    rw [List.getElem?_take] at e1 e2
    split at e1
    · rename_i hk
      rw [if_pos hk] at e2
      exact c.at_ k a ob e1 e2
    · cases e1
  fr := fun k a ob e1 e2 => by
    rw [List.getElem?_take] at e1 e2
    split at e1
    · rename_i hk
      rw [if_pos hk] at e2
      exact c.fr k a ob e1 e2
    · cases e1
theorem pre_take {α : Type} {l l' : List α} (h : l <+: l') {n : Nat} (hn : l.length ≤ n) : l <+: l'.take n := by
  obtain ⟨t, rfl⟩ := h
  rw [List.take_append, List.take_of_length_le hn]
  exact List.prefix_append _ _
theorem Cfg.le.take {c c' : Cfg K} (h : c.le c') {n : Nat} (hn : c.S.length ≤ n) : c.le (c'.take n) := ⟨h.g, pre_take h.m (by rw [c.len]; exact hn)⟩
/-- the thing at n is written -/
def Cfg.put (c : Cfg K) (n : Nat) (a : Addr) (ob ob' : Ob) (o : HO) (h1 : c.m[n]? = some a) (h2 : c.S[n]? = some ob) (h3 : ob ≠ .dead) (r : Rob K c.G ob' (some o)) : Cfg K where
  G := c.G
  m := c.m
  S := c.S.set n ob'
  H := upd c.H a o
  sub := fun b u e => by
    have := c.fr n a ob h1 h2 h3
    rw [upd_ne (ne_of_none e this)]
    exact c.sub b u e
  len := by rw [List.length_set]; exact c.len
  nd := c.nd
  at_ := fun k b ob2 e1 e2 => by
    rw [List.getElem?_set] at e2
    by_cases hk : n = k
    · subst hk
      rw [h1] at e1
      cases e1
      rw [if_pos rfl] at e2
      split at e2
      · cases e2
        rw [upd_same]
        exact r
      · cases e2
    · rw [if_neg hk] at e2
      have ne : b ≠ a := fun z => hk (by
        rw [z] at e1
        obtain ⟨g1, e1'⟩ := List.getElem?_eq_some_iff.mp h1
        obtain ⟨g2, e2'⟩ := List.getElem?_eq_some_iff.mp e1
        exact (List.getElem_inj c.nd).mp (e1'.trans e2'.symm))
      rw [upd_ne ne]
      exact c.at_ k b ob2 e1 e2
  fr := fun k b ob2 e1 e2 e3 => by
    rw [List.getElem?_set] at e2
    by_cases hk : n = k
    · subst hk
      rw [h1] at e1
      cases e1
      exact c.fr n a ob h1 h2 h3
    · rw [if_neg hk] at e2
      exact c.fr k b ob2 e1 e2 e3
theorem Cfg.put_le {c : Cfg K} {n : Nat} {a : Addr} {ob ob' : Ob} {o : HO} {h1 : c.m[n]? = some a} {h2 : c.S[n]? = some ob} {h3 : ob ≠ .dead} {r : Rob K c.G ob' (some o)} : c.le (c.put n a ob ob' o h1 h2 h3 r) := ⟨Same.rfl', List.prefix_refl _⟩
/-- a new thing that may change -/
def Cfg.push (c : Cfg K) (p : Addr) (ob : Ob) (o : HO) (h : c.H p = none) (r : Rob K c.G ob (some o)) : Cfg K where
  G := c.G
  m := c.m ++ [p]
  S := c.S ++ [ob]
  H := upd c.H p o
  sub := fun b u e => by
    rw [upd_ne (ne_of_none e (c.gnone h))]
    exact c.sub b u e
  len := by rw [List.length_append, List.length_append, c.len]; rfl
  nd := by
    rw [List.nodup_append]
    refine ⟨c.nd, by simp, fun a ha b hb => ?_⟩
    rw [List.mem_singleton] at hb
    subst hb
    exact fun z => c.notin h (by rw [← z]; exact ha)
  at_ := fun k b ob2 e1 e2 => by
    have hl := c.len
    by_cases hk : k < c.m.length
    · rw [List.getElem?_append_left hk] at e1
      rw [List.getElem?_append_left (by omega)] at e2
      rw [upd_ne (fun z => c.notin h (by rw [← z]; exact List.mem_of_getElem? e1))]
      exact c.at_ k b ob2 e1 e2
    · rw [List.getElem?_append_right (by omega)] at e1 e2
      rw [List.getElem?_singleton] at e1 e2
      split at e1
      · rename_i h0
        rw [if_pos (by omega)] at e2
        cases e1; cases e2
        rw [upd_same]
        exact r
      · cases e1
  fr := fun k b ob2 e1 e2 e3 => by
    have hl := c.len
    by_cases hk : k < c.m.length
    · rw [List.getElem?_append_left hk] at e1
      rw [List.getElem?_append_left (by omega)] at e2
      exact c.fr k b ob2 e1 e2 e3
    · rw [List.getElem?_append_right (by omega)] at e1
      rw [List.getElem?_singleton] at e1
      split at e1
      · cases e1
        exact c.gnone h
      · cases e1
end AM
set_option Elab.async false
set_option linter.all false
set_option maxRecDepth 100000
set_option maxHeartbeats 4000000
namespace AM
open PySem PySem.Spec PyProof.Rows L2 Bk
open PySem.W (Frag)
variable {K : Frag}
/-! ## statements -/
section
variable {X : Cx} {E : XK} {pos : Pos} {a b e : Expr} {fa fb f : ME} {ft : MT} {st : Stmt} {rest : List Stmt} {s t : MS}
def sNil : MS := fun ε S => .nx ε S
def sSeq (a b : MS) : MS := fun ε S => match a ε S with | .nx ε S => b ε S | r => r
def sExpr (f : ME) : MS := fun ε S => (f ε S).bindT fun _ S => .nx ε S
def sRet (f : ME) : MS := fun ε S => (f ε S).bindT fun w S => .rt w S
def sRetN : MS := fun ε S => .rt (.val .non) S
def sIf (c : MT) (a b : MS) : MS := fun ε S => (c ε S).bindT fun k S => if k then a ε S else b ε S
def sBad : MS := fun _ _ => .bad
def sBrk : MS := fun ε S => .bk ε S
def sCont : MS := fun ε S => .ct ε S
theorem dss_nil : PSs X [] (aS K E sNil) := pss_nil.weak fun D σ H h => by
  obtain ⟨c, ε, rfl, re, h⟩ := h
  exact h c .refl rfl σ re
theorem dss_cons (h1 : PS X st (aS K E s)) (h2 : PSs X rest (aS K E t)) : PSs X (st :: rest) (aS K E (sSeq s t)) := (pss_cons h1 h2).weak fun D σ H h => by
  obtain ⟨c, ε, rfl, re, h⟩ := h
  refine ⟨c, ε, rfl, re, ?_⟩
  unfold sSeq at h
  cases q : s ε c.S with
  | nx ε' S => rw [q] at h; exact fun c' l es σ' r => ⟨c', ε', rfl, r, by rw [es]; exact APs.up h l⟩
  | rt w S => rw [q] at h; exact h
  | bk ε' S => rw [q] at h; exact h
  | ct ε' S => rw [q] at h; exact h
  | ex C fs S => rw [q] at h; exact h
  | bad => rw [q] at h; exact h
theorem dss_one (h1 : PS X st (aS K E s)) : PSs X [st] (aS K E s) := pss_one h1
theorem ds_pass : PS X (.Pass pos) (aS K E sNil) := ps_pass.weak fun D σ H h => by
  obtain ⟨c, ε, rfl, re, h⟩ := h
  exact h c .refl rfl σ re
theorem ds_brk : PS X (.Break pos) (aS K E sBrk) := ps_break.weak fun D σ H h => by
  obtain ⟨c, ε, rfl, re, h⟩ := h
  exact h c .refl rfl σ re
theorem ds_cont : PS X (.Continue pos) (aS K E sCont) := ps_continue.weak fun D σ H h => by
  obtain ⟨c, ε, rfl, re, h⟩ := h
  exact h c .refl rfl σ re
theorem ds_doc {x j pos'} : PS X (.Expr (.Constant (.str x) j pos) pos') (aS K E sNil) := ps_doc.weak fun D σ H h => by
  obtain ⟨c, ε, rfl, re, h⟩ := h
  exact h c .refl rfl σ re
theorem ds_bad : PS X st (aS K E sBad) := ps_never.weak fun D σ H h => by
  obtain ⟨c, ε, rfl, re, h⟩ := h
  exact h
theorem ds_expr (he : PE X e (aE K E f)) (hs : swapsWith e none pos.line X.env = pure false := by rfl) : PS X (.Expr e pos) (aS K E (sExpr f)) := (ps_expr he hs).weak fun D σ H h => by
  obtain ⟨c, ε, rfl, re, h⟩ := h
  exact es re h fun c1 w1 u1 l1 r1 h1 => h1 c1 .refl rfl σ (re.mono l1)
theorem ds_ret (he : PE X e (aE K E f)) : PS X (.Return (some e) pos) (aS K E (sRet f)) := (ps_ret he).weak fun D σ H h => by
  obtain ⟨c, ε, rfl, re, h⟩ := h
  exact es re h fun c1 w1 u1 l1 r1 h1 => h1 c1 .refl rfl u1 r1
theorem ds_retN : PS X (.Return none pos) (aS K E sRetN) := ps_retN.weak fun D σ H h => by
  obtain ⟨c, ε, rfl, re, h⟩ := h
  exact h c .refl rfl .non (show Rd K _ _ _ from .non)
theorem ds_if {c : Expr} {aa bb : List Stmt} (hc : PT X c (aT K E ft)) (ha : PSs X aa (aS K E s)) (hb : PSs X bb (aS K E t)) : PS X (.If c aa bb pos) (aS K E (sIf ft s t)) := (ps_if hc ha hb).weak fun D σ H h => by
  obtain ⟨c, ε, rfl, re, h⟩ := h
  refine ts re h fun c1 w1 l1 h1 => ?_
  cases w1 with
  | true => exact ⟨c1, ε, rfl, re.mono l1, h1⟩
  | false => exact ⟨c1, ε, rfl, re.mono l1, h1⟩
/-! ## targets -/
abbrev MG := W → Ev → Option Ev
abbrev MGs := List D → Ev → Option Ev
def aG (K : Frag) (is : List Nat) (g : MG) : TG := fun v σ H Q => ∃ (c : Cfg K) (ε ε' : Ev) (w : W), c.H = H ∧ Re c ε σ ∧ Rw c w v ∧ g w ε = some ε' ∧ ∀ σ', Re c ε' σ' → σ'.length = σ.length → (∀ i, i ∉ is → σ'[i]? = σ[i]?) → Q σ' H
def aGs (K : Frag) (is : List Nat) (g : MGs) : TGs := fun vs σ H Q => ∃ (c : Cfg K) (ε ε' : Ev) (ds : List D), c.H = H ∧ Re c ε σ ∧ Rds K c.G ds vs ∧ g ds ε = some ε' ∧ ∀ σ', Re c ε' σ' → σ'.length = σ.length → (∀ i, i ∉ is → σ'[i]? = σ[i]?) → Q σ' H
theorem PG.weak {tg : Expr} {t t' : TG} (h : PG X tg t) (k : ∀ v σ H Q, t' v σ H Q → t v σ H Q) : PG X tg t' := ⟨fun pins s σ H v u Q I r hw => h.run pins s σ H v u Q I r (k v σ H Q hw)⟩
theorem PGs.weak {tg : List Expr} {t t' : TGs} (h : PGs X tg t) (k : ∀ v σ H Q, t' v σ H Q → t v σ H Q) : PGs X tg t' := ⟨fun pins s σ H v u Q I r hw => h.run pins s σ H v u Q I r (k v σ H Q hw)⟩
def gNm (i : Nat) : MG := fun w ε => some (ε.set i (some w))
theorem dg_name {i : Nat} {x : Str} (hN : X.N.Nodup) (hi : X.N[i]? = some x) (hx : Loc X.env.scope x) (hf : X.fn x = true ∨ X.env.scope.names.lookup x = some .local := by first | exact .inl rfl | exact .inr rfl | assumption) : PG X (.Name x pos) (aG K [i] (gNm i)) :=
  PG.weak (pg_name hN hi hx hf) fun v σ H Q h => by
    obtain ⟨c, ε, ε', w, rfl, re, r, e, q⟩ := h
    cases e
    refine q _ (re.set i r) (List.length_set ..) fun j hj => ?_
    rw [List.getElem?_set_ne (fun z => hj (by simp [z]))]
def gNilA : MGs := fun ds ε => match ds with | [] => some ε | _ => none
def gConsA (g : MG) (gs : MGs) : MGs := fun ds ε => match ds with | d :: r => (g (.val d) ε).bind fun ε => gs r ε | [] => none
theorem dgs_nil : PGs X [] (aGs K [] gNilA) := PGs.weak pgs_nil fun vs σ H Q h => by
  obtain ⟨c, ε, ε', ds, rfl, re, r, e, q⟩ := h
  cases r with
  | nil => cases e; exact ⟨rfl, q σ re rfl fun _ _ => rfl⟩
  | cons _ _ => cases e
theorem dgs_cons {es : List Expr} {is js : List Nat} {g : MG} {gs : MGs} (h1 : PG X e (aG K is g)) (h2 : PGs X es (aGs K js gs))
    (hs : (assignEach (e :: es) X.env).map (·.2) = assign e X.env :: (assignEach es X.env).map (·.2) := by rfl) : PGs X (e :: es) (aGs K (is ++ js) (gConsA g gs)) := PGs.weak (pgs_cons h1 h2 hs) fun vs σ H Q h => by
  obtain ⟨c, ε, ε', ds, rfl, re, r, e, q⟩ := h
  cases r with
  | nil => cases e
  | cons hd rr =>
    rename_i d v l xs
    refine ⟨v, xs, rfl, ?_⟩
    have e' : ((g (.val d) ε).bind fun ε => gs l ε) = some ε' := e
    cases e1 : g (.val d) ε with
    | none => rw [e1] at e'; cases e'
    | some ε1 =>
      rw [e1] at e'
      refine ⟨c, ε, ε1, .val d, rfl, re, hd, e1, fun σ1 re1 hl1 hs1 => ?_⟩
      refine ⟨c, ε1, ε', l, rfl, re1, rr, e', fun σ2 re2 hl2 hs2 => ?_⟩
      refine q σ2 re2 (hl2.trans hl1) fun i hi => ?_
      rw [List.mem_append] at hi
      rw [hs2 i fun z => hi (.inr z), hs1 i fun z => hi (.inl z)]
def gTupA (n : Nat) (gs : MGs) : MG := fun w ε => match w with | .val (.tup ds) => if ds.length = n then gs ds ε else none | _ => none
theorem dg_tup {es : List Expr} {k : Nat} {is : List Nat} {gs : MGs} {n : Nat} (hK : X.K = K) (hc : X.calm = true) (h : PGs X es (aGs K is gs))
    (hn : (assignEach es X.env).length = n := by rfl) (hst : (assignEach es X.env).findIdx? (·.1) = none := by rfl) : PG X (.Tuple es k pos) (aG K is (gTupA n gs)) := by
  subst hK
  refine PG.weak (pg_tup hc h hn hst) fun v σ H Q h => ?_
  obtain ⟨c, ε, ε', w, rfl, re, r, e, q⟩ := h
  unfold gTupA at e
  split at e
  · rename_i ds
    split at e
    · rename_i hl
      cases r with
      | tup hs rs =>
        rename_i a xs
        exact ⟨a, xs, rfl, Same.tup c.sub hs, by rw [← rs.length]; exact hl, ⟨c, ε, ε', ds, rfl, re, rs, e, q⟩⟩
    · cases e
  · cases e
def sAsg (g : MG) (f : ME) : MS := fun ε S => (f ε S).bindT fun w S => match g w ε with | some ε => .nx ε S | none => .bad
theorem asg_of {is : List Nat} {g : MG} {D : Ends} {σ : L2.St} {H : Hp} (h : aS K E (sAsg g f) D σ H) : tAsg (aE K E f) (aG K is g) D σ H := by
  obtain ⟨c, ε, rfl, re, h⟩ := h
  refine es re h fun c1 w1 u1 l1 r1 h1 => ?_
  split at h1
  · rename_i ε' e
    exact ⟨c1, ε, ε', w1, rfl, re.mono l1, r1, e, fun σ' re' _ _ => h1 c1 .refl rfl σ' re'⟩
  · exact h1.elim
theorem ds_asg {tg : Expr} {is : List Nat} {g : MG} (he : PE X e (aE K E f)) (hg : PG X tg (aG K is g)) (hs : swapsWithSole [tg] e pos.line X.env = pure false := by rfl) (hw : swappedStores [tg] e X.env = pure none := by rfl)
    (h1 : (assignEach [tg] X.env).map (·.2) = [assign tg X.env] := by rfl) : PS X (.Assign [tg] e pos) (aS K E (sAsg g f)) := (ps_asg he hg hs hw h1).weak fun D σ H h => asg_of h
theorem ds_set {i : Nat} {x : Str} {pos' : Pos} (hN : X.N.Nodup) (hi : X.N[i]? = some x) (hx : Loc X.env.scope x) (he : PE X e (aE K E f)) (hs : swapsWith e (some (.Name x pos')) pos.line X.env = pure false := by rfl) (hf : X.fn x = true ∨ X.env.scope.names.lookup x = some .local := by first | exact .inl rfl | exact .inr rfl | assumption) :
    PS X (.Assign [.Name x pos'] e pos) (aS K E (sAsg (gNm i) f)) := (ps_set hN hi hx he hs hf).weak fun D σ H h => by
  obtain ⟨c, ε, rfl, re, h⟩ := h
  exact es re h fun c1 w1 u1 l1 r1 h1 => h1 c1 .refl rfl _ ((re.mono l1).set i r1)
/-- a, b = x, y -/
def sPar (i j : Nat) (fs : MA) : MS := fun ε S => (fs ε S).bindT fun ws S => match ws with | [v, w] => .nx ((ε.set i (some v)).set j (some w)) S | _ => .bad
theorem ds_par {i j : Nat} {x y : Str} {fs : MA} {px py pt : Pos} {kt k2 pt2} (hc : X.calm = true) (hN : X.N.Nodup) (hi : X.N[i]? = some x) (hj : X.N[j]? = some y) (hij : i ≠ j)
    (hx : X.env.scope.names.lookup x = some .local) (hy : X.env.scope.names.lookup y = some .local) (ha : PA X [a, b] (aA K E fs))
    (hw : swappedStores [.Tuple [.Name x px, .Name y py] kt pt] (.Tuple [a, b] k2 pt2) X.env = pure (some [x, y]))
    (hs : swapsWithSole [.Tuple [.Name x px, .Name y py] kt pt] (.Tuple [a, b] k2 pt2) pos.line X.env = pure false := by rfl) :
    PS X (.Assign [.Tuple [.Name x px, .Name y py] kt pt] (.Tuple [a, b] k2 pt2) pos) (aS K E (sPar i j fs)) := (ps_par hc hN hi hj hij hx hy ha hw hs).weak fun D σ H h => by
  obtain ⟨c, ε, rfl, re, h⟩ := h
  refine as re h fun c1 ws us l1 r1 h1 => ?_
  split at h1
  · rename_i v w
    cases r1 with
    | cons r1 r2 => cases r2 with
      | cons r2 r3 =>
        cases r3
        exact ⟨_, _, rfl, h1 c1 .refl rfl _ (((re.mono l1).set i r1).set j r2)⟩
  · exact h1.elim
/-! ## iteration -/
abbrev MI := Ev → Sto → Rs (List D)
structure AIt (c0 : Cfg K) (items : List D) (J : It) : Prop where
  go : ∀ (c : Cfg K), c0.le c → ∀ (i : Nat) d, items[i]? = some d → J.go i c.H ∧ ∀ x H', J.yld i c.H x H' → ∃ c' : Cfg K, c.le c' ∧ c'.S = c.S ∧ c'.H = H' ∧ Rd K c'.G d x
  stop : ∀ c : Cfg K, c0.le c → J.stop items.length c.H
theorem AIt.up {c c' : Cfg K} {items : List D} {J : It} (h : AIt c items J) (l : c.le c') : AIt c' items J := ⟨fun c2 l2 => h.go c2 (l.tr l2), fun c2 l2 => h.stop c2 (l.tr l2)⟩
def API (c : Cfg K) (r : Rs (List D)) (R : It → Hp → Prop) (E : XK) : Prop := match r with
  | .ok ds S => ∀ c' : Cfg K, c.le c' → c'.S = S → ∀ J, AIt c' ds J → R J c'.H
  | .ex C fs S => ∀ c' : Cfg K, c.le c' → c'.S = S → ∀ d gs, c'.H d = some (.xd gs) → Rfs K c'.G fs gs → E (.ref (He.ga K C)) (some d) c'.H
  | .bad => False
def aI (K : Frag) (E : XK) (f : MI) : TI := fun σ H R => ∃ (c : Cfg K) (ε : Ev), c.H = H ∧ Re c ε σ ∧ API c (f ε c.S) R E
theorem API.up {c c' : Cfg K} {r : Rs (List D)} {R : It → Hp → Prop} {E : XK} (h : API c r R E) (l : c.le c') : API c' r R E := by
  cases r with
  | ok w S => exact fun c2 l2 e => h c2 (l.tr l2) e
  | ex C fs S => exact fun c2 l2 e => h c2 (l.tr l2) e
  | bad => exact h
theorem ei {c : Cfg K} {ε : Ev} {σ : L2.St} (re : Re c ε σ) {k : W → Sto → Rs (List D)} {R : It → Hp → Prop} (h : API c ((f ε c.S).bind k) R E) {T : VK} (g : ∀ (c' : Cfg K) w u, c.le c' → Rw c' w u → API c' (k w c'.S) R E → T u c'.H) : aE K E f σ c.H T := by
  refine ⟨c, ε, rfl, re, ?_⟩
  cases e : f ε c.S with
  | ok w S => rw [e] at h; exact fun c' l es u r => g c' w u l r (by rw [es]; exact API.up (show API c (k w S) R E from h) l)
  | ex C fs S => rw [e] at h; exact h
  | bad => rw [e] at h; exact h
theorem ai {c : Cfg K} {ε : Ev} {σ : L2.St} {fs : MA} (re : Re c ε σ) {k : List W → Sto → Rs (List D)} {R : It → Hp → Prop} (h : API c ((fs ε c.S).bind k) R E) {T : List V → Hp → Prop} (g : ∀ (c' : Cfg K) w u, c.le c' → Rws c' w u → API c' (k w c'.S) R E → T u c'.H) : aA K E fs σ c.H T := by
  refine ⟨c, ε, rfl, re, ?_⟩
  cases e : fs ε c.S with
  | ok w S => rw [e] at h; exact fun c' l es u r => g c' w u l r (by rw [es]; exact API.up (show API c (k w S) R E from h) l)
  | ex C fs S => rw [e] at h; exact h
  | bad => rw [e] at h; exact h
def signs (x : Str) : List D := x.cps.toList.map fun c => .str ⟨#[c]⟩
def iterD : W → Option (List D)
  | .val (.tup l) => some l
  | .val (.lst l) => some l
  | .val (.fl l) => some l
  | .val (.str x) => some (signs x)
  | .val (.tux l) => some l
  | _ => none
def cIter (f : ME) : MI := fun ε S => (f ε S).bind fun w S => match iterD w with | some l => .ok l S | none => .bad
theorem ait_list {c : Cfg K} {a : Addr} {xs : List V} {l : List D} (h : SqL K c.G a xs) (r : Rds K c.G l xs) : AIt c l (Itl K a) := by
  have wk := walk_list (K := K) (a := a) (xs := xs)
  have hl := r.length
  refine ⟨fun c2 l2 i d e => ?_, fun c2 l2 => ?_⟩
  · have sq : SqL K c2.H a xs := sqL_same c2.sub (sqL_same l2.g h)
    obtain ⟨v, e2, r2⟩ := r.get e
    have hi := (List.getElem?_eq_some_iff.mp e2).1
    refine ⟨wk.goes i _ hi sq, fun x H' hy => ?_⟩
    obtain ⟨rfl, e3⟩ := wk.yields i _ x H' hi sq hy
    rw [e2] at e3
    cases e3
    exact ⟨c2, .refl, rfl, rfl, r2.mono l2.g⟩
  · rw [hl]
    exact wk.stops _ (sqL_same c2.sub (sqL_same l2.g h))
theorem ait_tup {c : Cfg K} {a : Addr} {xs : List V} {l : List D} (h : SqT K c.G a xs) (r : Rds K c.G l xs) : AIt c l (Itt K a) := by
  have wk := walk_tup (K := K) (a := a) (xs := xs)
  have hl := r.length
  refine ⟨fun c2 l2 i d e => ?_, fun c2 l2 => ?_⟩
  · have sq : SqT K c2.H a xs := Same.tup c2.sub (Same.tup l2.g h)
    obtain ⟨v, e2, r2⟩ := r.get e
    have hi := (List.getElem?_eq_some_iff.mp e2).1
    refine ⟨wk.goes i _ hi sq, fun x H' hy => ?_⟩
    obtain ⟨rfl, e3⟩ := wk.yields i _ x H' hi sq hy
    rw [e2] at e3
    cases e3
    exact ⟨c2, .refl, rfl, rfl, r2.mono l2.g⟩
  · rw [hl]
    exact wk.stops _ (Same.tup c2.sub (Same.tup l2.g h))
theorem ait_str {c : Cfg K} {z : Str} : AIt c (signs z) (Its z) := by
  have wk := walk_str (z := z)
  have hl : (signs z).length = z.cps.size := by unfold signs; rw [List.length_map, Array.length_toList]
  refine ⟨fun c2 l2 i d e => ?_, fun c2 l2 => ?_⟩
  · have hi : i < z.cps.size := by rw [← hl]; exact (List.getElem?_eq_some_iff.mp e).1
    refine ⟨wk.goes i _ hi trivial, fun x H' hy => ?_⟩
    obtain ⟨rfl, cc, e3, rfl⟩ := wk.yields i _ x H' hi trivial hy
    unfold signs at e
    rw [List.getElem?_map, Array.getElem?_toList, e3] at e
    cases e
    exact ⟨c2, .refl, rfl, rfl, .str _ (by show 1 ≤ sizeLine; decide)⟩
  · rw [hl]
    exact wk.stops _ trivial
end
end AM
set_option Elab.async false
set_option linter.all false
set_option maxRecDepth 100000
set_option maxHeartbeats 4000000
namespace AM
open PySem PySem.Spec PyProof.Rows L2 Bk
open PySem.W (Frag)
variable {K : Frag}
section
variable {X : Cx} {E : XK} {pos : Pos} {a b e tg : Expr} {fa fb f : ME} {ft : MT} {st : Stmt} {rest : List Stmt} {s t : MS}
theorem PI.or {t t' : TI} (h : PI X tg e t) (h' : PI X tg e t') : PI X tg e (fun σ H R => t σ H R ∨ t' σ H R) := ⟨fun pins s σ H R I hw => hw.elim (h.run pins s σ H R I) (h'.run pins s σ H R I)⟩
theorem di_val (hK : X.K = K) (he : PE X e (aE K E f)) : PI X tg e (aI K E (cIter f)) := by
  subst hK
  refine PI.weak (PI.or (pi_list he) (PI.or (pi_tup he) (pi_str he))) fun σ H R h => ?_
  obtain ⟨c, ε, rfl, re, h⟩ := h
  unfold cIter at h
  cases q : f ε c.S with
  | bad => rw [q] at h; exact h.elim
  | ex C fs S => rw [q] at h; exact .inl ⟨c, ε, rfl, re, by rw [q]; exact h⟩
  | ok w S =>
    rw [q] at h
    cases w with
    | ref n => exact h.elim
    | val d =>
      cases d with
      | tup l =>
        refine .inr (.inl ⟨c, ε, rfl, re, ?_⟩)
        rw [q]
        intro c' l1 es u r
        cases r with
        | tup hs rs => exact ⟨_, rfl, ⟨_, Same.tup c'.sub hs⟩, h c' l1 es _ (ait_tup hs rs)⟩
      | lst l =>
        refine .inl ⟨c, ε, rfl, re, ?_⟩
        rw [q]
        intro c' l1 es u r
        cases r with
        | lst hs rs => exact ⟨_, rfl, ⟨_, .inl (.inl (c'.sub _ _ hs))⟩, h c' l1 es _ (ait_list (.inl (.inl hs)) rs)⟩
      | fl l =>
        refine .inl ⟨c, ε, rfl, re, ?_⟩
        rw [q]
        intro c' l1 es u r
        cases r with
        | fl hs rs => exact ⟨_, rfl, ⟨_, sqL_same c'.sub hs⟩, h c' l1 es _ (ait_list hs rs)⟩
      | str x =>
        refine .inr (.inr ⟨c, ε, rfl, re, ?_⟩)
        rw [q]
        intro c' l1 es u r
        cases r with
        | str _ hz => exact ⟨_, rfl, h c' l1 es _ ait_str⟩
      | tux l =>
        refine .inr (.inl ⟨c, ε, rfl, re, ?_⟩)
        rw [q]
        intro c' l1 es u r
        cases r with
        | tux hs hd rs => exact ⟨_, rfl, ⟨_, .inl (.inr ⟨_, c'.sub _ _ hs⟩)⟩, h c' l1 es _ (ait_tup (.inl (.inr ⟨_, hs⟩)) rs)⟩
      | _ => exact h.elim
def rangeD (lo : Int) (n : Nat) : List D := (List.range n).map fun (i : Nat) => .int (lo + i)
theorem ait_range {c : Cfg K} {lo : Int} {n : Nat} : AIt c (rangeD lo n) (Itr lo n) := by
  have wk := walk_range (lo := lo) (n := n)
  have hl : (rangeD lo n).length = n := by unfold rangeD; rw [List.length_map, List.length_range]
  refine ⟨fun c2 l2 i d e => ?_, fun c2 l2 => ?_⟩
  · have hi : i < n := by have := (List.getElem?_eq_some_iff.mp e).1; omega
    refine ⟨wk.goes i _ hi trivial, fun x H' hy => ?_⟩
    obtain ⟨rfl, rfl⟩ := wk.yields i _ x H' hi trivial hy
    unfold rangeD at e
    rw [List.getElem?_map, List.getElem?_range hi] at e
    cases e
    exact ⟨c2, .refl, rfl, rfl, .int _⟩
  · rw [hl]
    exact wk.stops _ trivial
def cRange1 (fs : MA) : MI := fun ε S => (fs ε S).bind fun ws S => match ws with | [.val (.int j)] => if -(2 ^ 62) ≤ j ∧ j < 2 ^ 62 then .ok (rangeD 0 j.toNat) S else .bad | _ => .bad
theorem di_range1 {fs : MA} {p : Pos} (hg : Gl X "range") (hm : X.mg "range" = none) (ha : PA X [a] (aA K E fs)) (hs : starEach [a] X.env = [(false, eval a X.env)] := by rfl) : PI X tg (.Call (.Name "range" p) [a] [] pos) (aI K E (cRange1 fs)) :=
  (pi_range1 hg hm ha hs).weak fun σ H R h => by
    obtain ⟨c, ε, rfl, re, h⟩ := h
    refine ai re h fun c1 ws us l1 r1 h1 => ?_
    split at h1
    · rename_i j
      split at h1
      · rename_i hj
        cases r1 with
        | cons r1 r2 =>
          cases r1; cases r2
          exact ⟨j, rfl, hj.1, hj.2, h1 c1 .refl rfl _ ait_range⟩
      · exact h1.elim
    · exact h1.elim
def cRange2 (fs : MA) : MI := fun ε S => (fs ε S).bind fun ws S => match ws with | [.val (.int i), .val (.int j)] => if (-(2 ^ 62) ≤ i ∧ i < 2 ^ 62) ∧ -(2 ^ 62) ≤ j ∧ j < 2 ^ 62 then .ok (rangeD i (j - i).toNat) S else .bad | _ => .bad
theorem di_range2 {fs : MA} {p : Pos} (hg : Gl X "range") (hm : X.mg "range" = none) (ha : PA X [a, b] (aA K E fs)) (hs : starEach [a, b] X.env = [(false, eval a X.env), (false, eval b X.env)] := by rfl) (hs2 : starEach [b] X.env = [(false, eval b X.env)] := by rfl) : PI X tg (.Call (.Name "range" p) [a, b] [] pos) (aI K E (cRange2 fs)) :=
  (pi_range2 hg hm ha hs hs2).weak fun σ H R h => by
    obtain ⟨c, ε, rfl, re, h⟩ := h
    refine ai re h fun c1 ws us l1 r1 h1 => ?_
    split at h1
    · rename_i i j
      split at h1
      · rename_i hj
        cases r1 with
        | cons r1 r2 =>
          cases r1
          cases r2 with
          | cons r2 r3 =>
            cases r2; cases r3
            exact ⟨i, j, rfl, ⟨hj.1.1, hj.1.2, hj.2.1, hj.2.2⟩, h1 c1 .refl rfl _ ait_range⟩
      · exact h1.elim
    · exact h1.elim
/-- pairs -/
theorem ait_pair {c : Cfg K} {J : It} {n : Nat} {Gd : Hp → Prop} {xs ys : Nat → Option V} {items : List D} (wk : Walk J n Gd (YPair xs ys)) (hl : items.length = n) (hg : ∀ c2 : Cfg K, c.le c2 → Gd c2.H)
    (hi : ∀ (c2 : Cfg K), c.le c2 → ∀ (i : Nat) d x y, items[i]? = some d → xs i = some x → ys i = some y → ∃ p q, d = .tup [p, q] ∧ Rd K c2.G p x ∧ Rd K c2.G q y) : AIt c items J := by
  refine ⟨fun c2 l2 i d e => ?_, fun c2 l2 => ?_⟩
  · have hn : i < n := by have := (List.getElem?_eq_some_iff.mp e).1; omega
    refine ⟨wk.goes i _ hn (hg c2 l2), fun x H' hy => ?_⟩
    obtain ⟨T, x1, y1, rfl, hT, rfl, e1, e2⟩ := wk.yields i _ x H' hn (hg c2 l2) hy
    obtain ⟨p, q, rfl, rp, rq⟩ := hi c2 l2 i d x1 y1 e e1 e2
    exact ⟨c2.lay T _ hT, c2.lay_le hT, rfl, rfl, c2.lay_tup hT (.cons rp (.cons rq .nil))⟩
  · rw [hl]
    exact wk.stops _ (hg c2 l2)
def enumD (l : List D) : List D := (List.range l.length).filterMap fun (i : Nat) => l[i]?.map fun d => .tup [.int i, d]
theorem enumD_get {l : List D} {i : Nat} {d : D} (h : l[i]? = some d) : (enumD l)[i]? = some (.tup [.int i, d]) := by
  have key : ∀ (l : List D) (n : Nat), (List.range n).filterMap (fun (i : Nat) => l[i]?.map fun d => D.tup [.int i, d]) = (List.range (min n l.length)).map fun (i : Nat) => D.tup [.int i, l.getD i default] := by
    intro l n
    induction n with
    | zero => simp
    | succ n ih =>
      rw [List.range_succ, List.filterMap_append, ih]
      by_cases hn : n < l.length
      · have e : min (n + 1) l.length = min n l.length + 1 := by omega
        rw [e, List.range_succ, List.map_append]
        have e2 : min n l.length = n := by omega
        simp [List.getElem?_eq_getElem hn, e2, List.getD]
      · have e : min (n + 1) l.length = min n l.length := by omega
        rw [e]
        simp [List.getElem?_eq_none (Nat.le_of_not_lt hn)]
  have hi := (List.getElem?_eq_some_iff.mp h).1
  unfold enumD
  rw [key, Nat.min_self, List.getElem?_map, List.getElem?_range hi]
  simp [List.getD, h]
theorem enumD_len (l : List D) : (enumD l).length = l.length := by
  unfold enumD
  have key : ∀ n, n ≤ l.length → ((List.range n).filterMap fun (i : Nat) => l[i]?.map fun d => D.tup [.int i, d]).length = n := by
    intro n
    induction n with
    | zero => intro _; rfl
    | succ n ih =>
      intro hn
      rw [List.range_succ, List.filterMap_append, List.length_append, ih (by omega)]
      simp [List.getElem?_eq_getElem (show n < l.length by omega)]
  exact key _ (Nat.le_refl _)
def cEnum (fs : MA) : MI := fun ε S => (fs ε S).bind fun ws S => match ws with | [.val (.tup l)] => .ok (enumD l) S | [.val (.lst l)] => .ok (enumD l) S | _ => .bad
theorem di_enum {fs : MA} {p tpos : Pos} {elts : List Expr} {kk : Nat} (hK : X.K = K) (hg : Gl X "enumerate") (hm : X.mg "enumerate" = none) (ha : PA X [e] (aA K E fs)) (hs : starEach [e] X.env = [(false, eval e X.env)] := by rfl) :
    PI X (.Tuple elts kk tpos) (.Call (.Name "enumerate" p) [e] [] pos) (aI K E (cEnum fs)) := by
  subst hK
  refine PI.weak (PI.or (pi_enum hg hm ha hs) (pi_enumT hg hm ha hs)) fun σ H R h => ?_
  obtain ⟨c, ε, rfl, re, h⟩ := h
  unfold cEnum at h
  cases q : fs ε c.S with
  | bad => rw [q] at h; exact h.elim
  | ex C fs S => rw [q] at h; exact .inl ⟨c, ε, rfl, re, by rw [q]; exact h⟩
  | ok ws S =>
    rw [q] at h
    simp only [Rs.bind] at h
    split at h
    · rename_i l
      refine .inr ⟨c, ε, rfl, re, ?_⟩
      rw [q]
      intro c' l1 es us r
      cases r with
      | cons r1 r2 =>
        cases r2
        cases r1 with
        | tup hs rs =>
          rename_i a xs
          refine ⟨a, xs, rfl, Same.tup c'.sub hs, h c' l1 es _ (ait_pair (Gd := fun H => SqT X.K H a xs) walk_enumT (by rw [enumD_len, rs.length]) (fun c2 l2 => Same.tup c2.sub (Same.tup l2.g hs)) fun c2 l2 i d x y e1 e2 e3 => ?_)⟩
          have hi := (List.getElem?_eq_some_iff.mp e1).1
          rw [enumD_len] at hi
          have e4 := List.getElem?_eq_getElem hi
          rw [enumD_get e4] at e1
          cases e1
          obtain ⟨v, e5, r5⟩ := rs.get e4
          rw [e3] at e5
          cases e5
          cases e2
          exact ⟨_, _, rfl, .int _, r5.mono l2.g⟩
    · rename_i l
      refine .inl ⟨c, ε, rfl, re, ?_⟩
      rw [q]
      intro c' l1 es us r
      cases r with
      | cons r1 r2 =>
        cases r2
        cases r1 with
        | lst hs rs =>
          rename_i a xs
          have sq : SqL X.K c'.G a xs := .inl (.inl hs)
          refine ⟨a, xs, rfl, sqL_same c'.sub sq, h c' l1 es _ (ait_pair (Gd := fun H => SqL X.K H a xs) walk_enum (by rw [enumD_len, rs.length]) (fun c2 l2 => sqL_same c2.sub (sqL_same l2.g sq)) fun c2 l2 i d x y e1 e2 e3 => ?_)⟩
          have hi := (List.getElem?_eq_some_iff.mp e1).1
          rw [enumD_len] at hi
          have e4 := List.getElem?_eq_getElem hi
          rw [enumD_get e4] at e1
          cases e1
          obtain ⟨v, e5, r5⟩ := rs.get e4
          rw [e3] at e5
          cases e5
          cases e2
          exact ⟨_, _, rfl, .int _, r5.mono l2.g⟩
    · exact h.elim
/-! ## for -/
def forL (g : MG) (body : MS) : List D → MS
  | [], ε, S => .nx ε S
  | d :: ds, ε, S => match g (.val d) ε with
    | none => .bad
    | some ε => match body ε S with
      | .nx ε S => forL g body ds ε S
      | .ct ε S => forL g body ds ε S
      | .bk ε S => .nx ε S
      | r => r
def sFor (g : MG) (fi : MI) (body : MS) : MS := fun ε S => (fi ε S).bindT fun ds S => forL g body ds ε S
theorem ds_for {iter : Expr} {body : List Stmt} {is : List Nat} {g : MG} {fi : MI} (hp : PassesOwn (model X.prog X.w) X.A X.env X.xe) (hc : X.calm = true) (hi : PI X tg iter (aI K E fi)) (hg : PG X tg (aG K is g)) (hb : PSs X body (aS K E s))
    (hs : ∀ x, foldedSetIterable iter X.env x = pure x := by intro _; rfl) : PS X (.For tg iter body [] pos) (aS K E (sFor g fi s)) := (ps_for hp hc hi hg hb hs).weak fun D σ H h => by
  obtain ⟨c, ε, rfl, re, h⟩ := h
  refine ⟨c, ε, rfl, re, ?_⟩
  unfold sFor at h
  cases q : fi ε c.S with
  | bad => rw [q] at h; exact h.elim
  | ex C fs S => rw [q] at h; exact h
  | ok ds S =>
    rw [q] at h
    intro c1 l1 es J ai
    have h1 : APs c1 (forL g s ds ε S) D E := APs.up h l1
    refine ⟨fun i m σ H => ∃ (c2 : Cfg K) (ε2 : Ev), c1.le c2 ∧ c2.H = H ∧ Re c2 ε2 σ ∧ m = ds.length - i ∧ i ≤ ds.length ∧ APs c2 (forL g s (ds.drop i) ε2 c2.S) D E, ⟨ds.length, c1, ε, .refl, rfl, re.mono l1, rfl, Nat.zero_le _, by rw [es]; exact h1⟩, ?_⟩
    rintro i m σ2 H2 ⟨c2, ε2, l2, rfl, re2, rfl, hi, h2⟩
    by_cases hlt : i < ds.length
    · refine .inr ?_
      have e := List.getElem?_eq_getElem hlt
      obtain ⟨go, yl⟩ := ai.go c2 l2 i _ e
      refine ⟨go, fun σ' H' => ∃ (c3 : Cfg K) (ε3 : Ev), c2.le c3 ∧ c3.H = H' ∧ Re c3 ε3 σ' ∧ APs c3 (forL g s (ds.drop (i + 1)) ε3 c3.S) D E, ?_, ?_⟩
      · rintro σ' H' ⟨c3, ε3, l3, rfl, re3, h3⟩
        exact ⟨ds.length - (i + 1), by omega, c3, ε3, l2.tr l3, rfl, re3, rfl, hlt, h3⟩
      · intro x H' hy
        obtain ⟨c3, l3, s3, rfl, r3⟩ := yl x H' hy
        rw [List.drop_eq_getElem_cons hlt] at h2
        have h3 := APs.up h2 l3
        rw [← s3] at h3
        unfold forL at h3
        cases e4 : g (.val ds[i]) ε2 with
        | none => rw [e4] at h3; exact h3.elim
        | some ε4 =>
          rw [e4] at h3
          refine ⟨c3, ε2, ε4, .val _, rfl, re2.mono l3, r3, e4, fun σ4 re4 _ _ => ⟨c3, ε4, rfl, re4, ?_⟩⟩
          cases e5 : s ε4 c3.S with
          | nx ε5 S5 =>
            simp only [e5] at h3
            exact fun c6 l6 es6 σ6 re6 => ⟨c6, ε5, l3.tr l6, rfl, re6, by rw [es6]; exact APs.up h3 l6⟩
          | ct ε5 S5 =>
            simp only [e5] at h3
            exact fun c6 l6 es6 σ6 re6 => ⟨c6, ε5, l3.tr l6, rfl, re6, by rw [es6]; exact APs.up h3 l6⟩
          | bk ε5 S5 => simp only [e5] at h3; exact h3
          | rt w S5 => simp only [e5] at h3; exact h3
          | ex C fs S5 => simp only [e5] at h3; exact h3
          | bad => simp only [e5] at h3; exact h3.elim
    · refine .inl ?_
      have e : i = ds.length := by omega
      subst e
      rw [List.drop_length] at h2
      exact ⟨ai.stop c2 l2, h2 c2 .refl rfl σ2 re2⟩
/-! ## while -/
def whileL (t : MT) (body : MS) : Nat → MS
  | 0, _, _ => .bad
  | n + 1, ε, S => (t ε S).bindT fun b S => if b then (match body ε S with
      | .nx ε S => whileL t body n ε S
      | .ct ε S => whileL t body n ε S
      | .bk ε S => .nx ε S
      | r => r) else .nx ε S
theorem ds_while {c : Expr} {body : List Stmt} (n : Nat) (hp : PassesOwn (model X.prog X.w) X.A X.env X.xe) (hc : PT X c (aT K E ft)) (hb : PSs X body (aS K E s)) : PS X (.While c body [] pos) (aS K E (whileL ft s n)) := (ps_while hp hc hb).weak fun D σ H h => by
  obtain ⟨c, ε, rfl, re, h⟩ := h
  refine ⟨fun m σ H => ∃ (c2 : Cfg K) (ε2 : Ev), c2.H = H ∧ Re c2 ε2 σ ∧ APs c2 (whileL ft s m ε2 c2.S) D E, ⟨n, c, ε, rfl, re, h⟩, ?_⟩
  rintro m σ2 H2 ⟨c2, ε2, rfl, re2, h2⟩
  cases m with
  | zero => exact h2.elim
  | succ m =>
    unfold whileL at h2
    refine ts re2 h2 fun c3 b l3 h3 => ?_
    cases b with
    | false => exact h3 c3 .refl rfl σ2 (re2.mono l3)
    | true =>
      rw [if_pos rfl] at h3 ⊢
      refine ⟨fun σ' H' => ∃ (c4 : Cfg K) (ε4 : Ev), c4.H = H' ∧ Re c4 ε4 σ' ∧ APs c4 (whileL ft s m ε4 c4.S) D E, fun σ' H' ⟨c4, ε4, e1, e2, e3⟩ => ⟨m, Nat.lt_succ_self m, c4, ε4, e1, e2, e3⟩, c3, ε2, rfl, re2.mono l3, ?_⟩
      cases e5 : s ε2 c3.S with
      | nx ε5 S5 =>
        simp only [e5] at h3
        exact fun c6 l6 es6 σ6 re6 => ⟨c6, ε5, rfl, re6, by rw [es6]; exact APs.up h3 l6⟩
      | ct ε5 S5 =>
        simp only [e5] at h3
        exact fun c6 l6 es6 σ6 re6 => ⟨c6, ε5, rfl, re6, by rw [es6]; exact APs.up h3 l6⟩
      | bk ε5 S5 => simp only [e5] at h3; exact h3
      | rt w S5 => simp only [e5] at h3; exact h3
      | ex C fs S5 => simp only [e5] at h3; exact h3
      | bad => simp only [e5] at h3; exact h3.elim
end
end AM
set_option Elab.async false
set_option linter.all false
set_option maxRecDepth 100000
set_option maxHeartbeats 4000000
namespace AM
open PySem PySem.Spec PyProof.Rows L2 Bk
open PySem.W (Frag)
variable {K : Frag}
/-! ## comprehensions -/
def wipeE (ε : Ev) : List Nat → Ev
  | [] => ε
  | v :: vs => (wipeE ε vs).set v none
theorem wipe_get (σ : L2.St) (i : Nat) : ∀ vs : List Nat, (wipe σ vs)[i]? = if i ∈ vs then (if i < σ.length then some none else none) else σ[i]?
  | [] => by simp [wipe]
  | v :: vs => by
    unfold wipe
    rw [List.getElem?_set, wipe_get σ i vs, wipe_length]
    by_cases h : v = i
    · subst h; simp
    · rw [if_neg h]
      have : (i ∈ v :: vs) ↔ i ∈ vs := by rw [List.mem_cons]; exact ⟨fun z => z.elim (fun z => absurd z.symm h) id, .inr⟩
      simp only [this]
theorem wipeE_len (ε : Ev) : ∀ vs : List Nat, (wipeE ε vs).length = ε.length
  | [] => rfl
  | v :: vs => by unfold wipeE; rw [List.length_set, wipeE_len ε vs]
theorem wipeE_get (ε : Ev) (i : Nat) : ∀ vs : List Nat, (wipeE ε vs)[i]? = if i ∈ vs then (if i < ε.length then some none else none) else ε[i]?
  | [] => by simp [wipeE]
  | v :: vs => by
    unfold wipeE
    rw [List.getElem?_set, wipeE_get ε i vs, wipeE_len]
    by_cases h : v = i
    · subst h; simp
    · rw [if_neg h]
      have : (i ∈ v :: vs) ↔ i ∈ vs := by rw [List.mem_cons]; exact ⟨fun z => z.elim (fun z => absurd z.symm h) id, .inr⟩
      simp only [this]
theorem Re.wipe {c : Cfg K} {ε : Ev} {σ : L2.St} (r : Re c ε σ) (vs : List Nat) : Re c (wipeE ε vs) (L2.wipe σ vs) := by
  refine ⟨by rw [wipeE_len, wipe_length, r.len], fun i w e => ?_⟩
  rw [wipeE_get] at e
  rw [wipe_get]
  split at e
  · split at e <;> cases e
  · rename_i h
    rw [if_neg h]
    exact r.at_ i w e
theorem wipe_back {σ σ2 : L2.St} {is vs : List Nat} (hi : ∀ i ∈ is, i ∈ vs) (hl : σ2.length = (wipe σ vs).length) (h : ∀ i, i ∉ is → σ2[i]? = (wipe σ vs)[i]?) : wipe σ2 vs = wipe σ vs := by
  apply List.ext_getElem?
  intro i
  rw [wipe_get, wipe_get]
  rw [wipe_length] at hl
  by_cases hv : i ∈ vs
  · rw [if_pos hv, if_pos hv, hl]
  · rw [if_neg hv, if_neg hv, h i (fun z => hv (hi i z)), wipe_get, if_neg hv]
def lcL (n : Nat) (g : MG) (ft : MT) (fe : ME) (ε : Ev) : List D → Sto → Option Sto
  | [], S => some S
  | d :: ds, S => match g (.val d) ε with
    | none => none
    | some ε1 => match ft ε1 S with
      | .ok true S => match fe ε1 S with
        | .ok w S => match toD w S with
          | some (x, S) => match S[n]? with
            | some (.lst acc) => if acc.length < sizeLine then lcL n g ft fe ε ds (S.set n (.lst (acc ++ [x]))) else none
            | _ => none
          | none => none
        | _ => none
      | .ok false S => lcL n g ft fe ε ds S
      | _ => none
def cLc (mu : Bool) (vs : List Nat) (g : MG) (fi : MI) (ft : MT) (fe : ME) : ME := fun ε S => (fi ε S).bind fun ds S => match lcL S.length g ft fe (wipeE ε vs) ds (S ++ [.lst []]) with
  | some S' => match S'[S.length]? with
    | some (.lst acc) => if mu then .ok (.ref S.length) (S'.take (S.length + 1)) else .ok (.val (.lst acc)) (S'.take S.length)
    | _ => .bad
  | none => .bad
def tYesM : MT := fun _ S => .ok true S
theorem lc_of {E0 : XK} {E : XK} {mu : Bool} {vs is : List Nat} {g : MG} {fi : MI} {ft : MT} {fe : ME} (hi : ∀ i ∈ is, i ∈ vs) {σ : L2.St} {H : Hp} {Q : VK} (h : aE K E (cLc mu vs g fi ft fe) σ H Q) :
    tLc (aI K E fi) (aG K is g) (aT K E0 ft) (aE K E0 fe) vs σ H Q := by
  obtain ⟨c, ε, rfl, re, h⟩ := h
  refine ⟨c, ε, rfl, re, ?_⟩
  unfold cLc at h
  cases q : fi ε c.S with
  | bad => rw [q] at h; exact h.elim
  | ex C fs S => rw [q] at h; exact h
  | ok ds S =>
    rw [q] at h
    simp only [Rs.bind] at h
    intro c1 l1 es J ai A hA
    subst es
    generalize hn : c1.S.length = n at h
    have hm : c1.m.length = n := by rw [c1.len, hn]
    let c1' := c1.push A (.lst []) (.lst []) hA ⟨[], rfl, .nil⟩
    have lp : c1.le c1' := ⟨Same.rfl', List.prefix_append _ _⟩
    -- what is wanted of the rest
    let Fin : Option Sto → Prop := fun r => ∃ S', r = some S' ∧ ∃ acc, S'[n]? = some (.lst acc) ∧ AP c (if mu then Rs.ok (.ref n) (S'.take (n + 1)) else .ok (.val (.lst acc)) (S'.take n)) Q E
    have h0 : Fin (lcL n g ft fe (wipeE ε vs) ds c1'.S) := by
      show Fin (lcL n g ft fe (wipeE ε vs) ds (c1.S ++ [.lst []]))
      cases e : lcL n g ft fe (wipeE ε vs) ds (c1.S ++ [.lst []]) with
      | none => rw [e] at h; exact h.elim
      | some S' =>
        rw [e] at h
        simp only at h
        split at h
        · rename_i acc e2
          exact ⟨S', rfl, acc, e2, h⟩
        · exact h.elim
    refine ⟨fun i m H => ∃ c2 : Cfg K, c1'.le c2 ∧ c2.H = H ∧ m = ds.length - i ∧ i ≤ ds.length ∧ Fin (lcL n g ft fe (wipeE ε vs) (ds.drop i) c2.S), ⟨ds.length, c1', .refl, rfl, rfl, Nat.zero_le _, h0⟩, ?_⟩
    rintro i m H2 ⟨c2, l2, rfl, rfl, hi2, h2⟩
    by_cases hlt : i < ds.length
    · refine .inr ?_
      obtain ⟨go, yl⟩ := ai.go c2 (lp.tr l2) i _ (List.getElem?_eq_getElem hlt)
      refine ⟨go, fun H' => ∃ c3 : Cfg K, c2.le c3 ∧ c3.H = H' ∧ Fin (lcL n g ft fe (wipeE ε vs) (ds.drop (i + 1)) c3.S), ?_, ?_⟩
      · rintro H' ⟨c3, l3, rfl, h3⟩
        exact ⟨ds.length - (i + 1), by omega, c3, l2.tr l3, rfl, rfl, hlt, h3⟩
      · intro x H' hy
        obtain ⟨c3, l3, s3, rfl, r3⟩ := yl x H' hy
        rw [List.drop_eq_getElem_cons hlt, ← s3] at h2
        unfold lcL at h2
        cases e4 : g (.val ds[i]) (wipeE ε vs) with
        | none => rw [e4] at h2; obtain ⟨_, z, _⟩ := h2; cases z
        | some ε4 =>
          rw [e4] at h2
          have lc3 : c.le c3 := l1.tr (lp.tr (l2.tr l3))
          refine ⟨c3, wipeE ε vs, ε4, .val _, rfl, (re.mono lc3).wipe vs, r3, e4, fun σ4 re4 hl4 hs4 => ⟨wipe_back hi hl4 hs4, c3, ε4, rfl, re4, ?_⟩⟩
          cases e5 : ft ε4 c3.S with
          | bad => simp only [e5] at h2; obtain ⟨_, z, _⟩ := h2; cases z
          | ex C fs S5 => simp only [e5] at h2; obtain ⟨_, z, _⟩ := h2; cases z
          | ok b S5 =>
            intro c5 l5 es5
            cases b with
            | false =>
              simp only [e5] at h2
              rw [if_neg Bool.false_ne_true]
              exact ⟨c5, l3.tr l5, rfl, by rw [es5]; exact h2⟩
            | true =>
              simp only [e5] at h2
              rw [if_pos rfl]
              refine ⟨c5, ε4, rfl, re4.mono l5, ?_⟩
              rw [es5]
              cases e6 : fe ε4 S5 with
              | bad => simp only [e6] at h2; obtain ⟨_, z, _⟩ := h2; cases z
              | ex C fs S6 => simp only [e6] at h2; obtain ⟨_, z, _⟩ := h2; cases z
              | ok w S6 =>
                simp only [e6] at h2
                intro c6 l6 es6 u r6
                cases e7 : toD w S6 with
                | none => simp only [e7] at h2; obtain ⟨_, z, _⟩ := h2; cases z
                | some pr =>
                  obtain ⟨x7, S7⟩ := pr
                  simp only [e7] at h2
                  rw [← es6] at e7
                  obtain ⟨c7, l7, es7, eh7, r7⟩ := toD_ok e7 r6
                  split at h2
                  · rename_i acc e8
                    split at h2
                    · rename_i hz
                      have lt7 : c1'.le c7 := l2.tr (l3.tr (l5.tr (l6.tr l7)))
                      have em : c7.m[n]? = some A := by
                        refine pre_get lt7.m ?_
                        show (c1.m ++ [A])[n]? = some A
                        rw [List.getElem?_append_right (by omega), hm, Nat.sub_self]
                        rfl
                      rw [← es7] at e8
                      obtain ⟨accV, eA, rA⟩ := c7.at_ n A _ em e8
                      refine ⟨accV, by rw [← eh7]; exact eA, by rw [← rA.length]; exact hz, ?_⟩
                      refine ⟨c7.put n A _ (.lst (acc ++ [x7])) (.lst (accV ++ [u])) em e8 (fun z => by cases z) ⟨_, rfl, rA.app (.cons r7 .nil)⟩, l3.tr (l5.tr (l6.tr (l7.tr Cfg.put_le))), ?_, ?_⟩
                      · show upd c7.H A _ = upd c6.H A _
                        rw [eh7]
                      · show Fin (lcL n g ft fe (wipeE ε vs) (ds.drop (i + 1)) (c7.S.set n _))
                        rw [es7]
                        exact h2
                    · obtain ⟨_, z, _⟩ := h2; cases z
                  · obtain ⟨_, z, _⟩ := h2; cases z
    · refine .inl ?_
      have e : i = ds.length := by omega
      subst e
      rw [List.drop_length] at h2
      refine ⟨ai.stop c2 (lp.tr l2), ?_⟩
      obtain ⟨S', e1, acc, e2, h3⟩ := h2
      cases e1
      have em : c2.m[n]? = some A := by
        refine pre_get l2.m ?_
        show (c1.m ++ [A])[n]? = some A
        rw [List.getElem?_append_right (by omega), hm, Nat.sub_self]
        rfl
      have lc2 : c.le c2 := l1.tr (lp.tr l2)
      have lc1 : c1.le c2 := lp.tr l2
      have hcn : c.S.length ≤ n := by
        have := l1.m.length_le
        rw [c.len, hm] at this
        exact this
      cases mu with
      | true =>
        refine h3 (c2.take (n + 1)) (lc2.take (by omega)) rfl _ ⟨A, ?_, rfl⟩
        show (c2.m.take (n + 1))[n]? = some A
        rw [List.getElem?_take, if_pos (Nat.lt_succ_self n)]
        exact em
      | false =>
        obtain ⟨accV, eA, rA⟩ := c2.at_ n A _ em e2
        have sm : Same c2.G (upd c2.G A (.lst accV)) := same_new (c2.fr n A _ em e2 (fun z => by cases z))
        let c4 := c2.freeze n A _ _ em e2 (fun z => by cases z) eA
        have l4 : c2.le c4 := ⟨sm, List.prefix_refl _⟩
        refine h3 (c4.take n) ((lc2.tr l4).take hcn) ?_ _ (Rd.lst (by show upd c2.G A _ A = _; rw [upd_same]) (rA.mono sm))
        show (c2.S.set n .dead).take n = c2.S.take n
        rw [List.take_set_of_le (Nat.le_refl n)]
section
variable {X : Cx} {E E0 : XK} {pos : Pos}
theorem de_lc {mu : Bool} {elt tg iter : Expr} {ifs : List Expr} {scope : Scope} {own : List (Str × Nat)} {is : List Nat} {g : MG} {fi : MI} {ft : MT} {fe : ME} (hc : X.calm = true) (hN : X.N.Nodup) (hi : PI X tg iter (aI K E fi)) (ok : BlkOk X.N X.env.scope scope own)
    (hg : ∀ (s : Shared) (H : Hp) (C : Addr) (cl : List (Str × Addr)) (fp : List Addr), PG (X.blk s H scope (compEnvC scope cl C X.env) fp) tg (aG K is g)) (ht : ∀ (s : Shared) (H : Hp) (C : Addr) (cl : List (Str × Addr)) (fp : List Addr), PTs (X.blk s H scope (compEnvC scope cl C X.env) fp) ifs (aT K E0 ft))
    (he : ∀ (s : Shared) (H : Hp) (C : Addr) (cl : List (Str × Addr)) (fp : List Addr), PE (X.blk s H scope (compEnvC scope cl C X.env) fp) elt (aE K E0 fe)) (hvs : ∀ i ∈ is, i ∈ own.map (·.2) := by decide) (hs : ∀ x, foldedSetIterable iter X.env x = pure x := by intro _; rfl) :
    PE X (.ListComp elt [⟨tg, iter, ifs, 0⟩] scope pos) (aE K E (cLc mu (own.map (·.2)) g fi ft fe)) := (pe_lc hc hN hi ok hg ht he hs).weak fun σ H Q h => lc_of hvs h
theorem ds_setLc {mu : Bool} {i : Nat} {y : Str} {py : Pos} {spos : Pos} {elt tg iter : Expr} {ifs : List Expr} {scope : Scope} {own : List (Str × Nat)} {is : List Nat} {g : MG} {fi : MI} {ft : MT} {fe : ME} (hc : X.calm = true) (hN : X.N.Nodup) (hy : X.N[i]? = some y) (hyl : X.env.scope.names.lookup y = some .local)
    (hsw : swapsWith (.ListComp elt [⟨tg, iter, ifs, 0⟩] scope pos) (some (.Name y py)) spos.line X.env = pure true) (hi : PI X tg iter (aI K E fi)) (ok : BlkOk X.N X.env.scope scope own)
    (hg : ∀ (s : Shared) (H : Hp) (C : Addr) (cl : List (Str × Addr)) (fp : List Addr), PG (X.blk s H scope (compEnvC scope cl C X.env) fp) tg (aG K is g)) (ht : ∀ (s : Shared) (H : Hp) (C : Addr) (cl : List (Str × Addr)) (fp : List Addr), PTs (X.blk s H scope (compEnvC scope cl C X.env) fp) ifs (aT K E0 ft))
    (he : ∀ (s : Shared) (H : Hp) (C : Addr) (cl : List (Str × Addr)) (fp : List Addr), PE (X.blk s H scope (compEnvC scope cl C X.env) fp) elt (aE K E0 fe)) (hvs : ∀ i ∈ is, i ∈ own.map (·.2) := by decide) (hs : ∀ x, foldedSetIterable iter X.env x = pure x := by intro _; rfl) :
    PS X (.Assign [.Name y py] (.ListComp elt [⟨tg, iter, ifs, 0⟩] scope pos) spos) (aS K E (sAsg (gNm i) (cLc mu (own.map (·.2)) g fi ft fe))) :=
  (ps_setLc hc hN hy hyl hsw hi ok hg ht he hs).weak fun D σ H h => by
    obtain ⟨c, ε, rfl, re, h⟩ := h
    have hh : aE K E (cLc mu (own.map (·.2)) g fi ft fe) σ c.H (fun x H1 => D.nx (σ.set i (some x)) H1) := es re h fun c1 w1 u1 l1 r1 h1 => h1 c1 .refl rfl _ ((re.mono l1).set i r1)
    exact lc_of hvs hh
theorem dts_nil : PTs X [] (aT K E tYesM) := pts_nil.weak fun σ H Q h => by
  obtain ⟨c, ε, rfl, re, h⟩ := h
  exact h.ok
end
end AM
set_option Elab.async false
set_option linter.all false
set_option maxRecDepth 100000
set_option maxHeartbeats 4000000
namespace AM
open PySem PySem.Spec PyProof.Rows L2 Bk
open PySem.W (Frag)
variable {K : Frag}
/-! ## defs -/
def exitW (mu : Bool) (n : Nat) (w : W) (S : Sto) : Rs W := match w with
  | .val d => .ok (.val d) (S.take n)
  | .ref k => if k < n then .ok (.ref k) (S.take n) else match S[k]? with
    | some (.lst l) => if mu then .ok (.ref n) (S.take n ++ [.lst l]) else .ok (.val (.lst l)) (S.take n)
    | some (.ins C fs) => if mu then .ok (.ref n) (S.take n ++ [.ins C fs]) else .ok (.val (.obj C fs)) (S.take n)
    | _ => .bad
def exitF (mu : Bool) (n : Nat) (r : Rt) : Rs W := match r with
  | .rt w S => exitW mu n w S
  | .nx _ S => .ok (.val .non) (S.take n)
  | .ex C fs S => .ex C fs (S.take n)
  | _ => .bad
def callF (mu : Bool) (N np : Nat) (body : MS) : F1 := fun ws S => if ws.length = np then exitF mu S.length (body (ws.map some ++ List.replicate (N - np) none) S) else .bad
def aSp (K : Frag) (F : F1) : Sp := fun vs H Q E => ∃ (c : Cfg K) (ws : List W), c.H = H ∧ Rws c ws vs ∧ AP c (F ws c.S) Q E
theorem aSp_len {mu : Bool} {N np : Nat} {body : MS} {vs : List V} {H : Hp} {Q : VK} {E : XK} (h : aSp K (callF mu N np body) vs H Q E) : vs.length = np := by
  obtain ⟨c, ws, rfl, r, h⟩ := h
  unfold callF at h
  split at h
  · rename_i e
    rw [← r.length]
    exact e
  · exact h.elim
theorem Rws.get {c : Cfg K} : ∀ {ws : List W} {vs : List V} {i : Nat} {w : W}, Rws c ws vs → ws[i]? = some w → ∃ v, vs[i]? = some v ∧ Rw c w v
  | _, _, _, _, .nil, e => by simp at e
  | _, _, 0, _, .cons h _, e => by simp at e; subst e; exact ⟨_, rfl, h⟩
  | _, _, i + 1, d, .cons _ r, e => by
    obtain ⟨v, h1, h2⟩ := Rws.get (i := i) (w := d) r (by simpa using e)
    exact ⟨v, by simpa using h1, h2⟩
theorem re_start {c : Cfg K} {ws : List W} {vs : List V} (N : List Str) (r : Rws c ws vs) : Re c (ws.map some ++ List.replicate (N.length - ws.length) none) (L2.start N vs) := by
  have hl := r.length
  refine ⟨?_, fun i w e => ?_⟩
  · unfold L2.start
    simp [hl]
  · by_cases hi : i < ws.length
    · rw [List.getElem?_append_left (by rw [List.length_map]; exact hi), List.getElem?_map] at e
      cases e2 : ws[i]? with
      | none => rw [e2] at e; cases e
      | some w2 =>
        rw [e2] at e
        cases e
        obtain ⟨v, e3, r3⟩ := r.get e2
        refine ⟨v, ?_, r3⟩
        unfold L2.start
        rw [List.getElem?_append_left (by rw [List.length_map]; omega), List.getElem?_map, e3]
        rfl
    · rw [List.getElem?_append_right (by rw [List.length_map]; omega)] at e
      rw [List.getElem?_replicate] at e
      split at e <;> cases e
/-- the thing at k is kept, at n -/
def Cfg.keep (c : Cfg K) (n k : Nat) (a : Addr) (ob : Ob) (hk : n ≤ k) (h1 : c.m[k]? = some a) (h2 : c.S[k]? = some ob) : Cfg K where
  G := c.G
  m := c.m.take n ++ [a]
  S := c.S.take n ++ [ob]
  H := c.H
  sub := c.sub
  len := by rw [List.length_append, List.length_append, List.length_take, List.length_take, c.len]; rfl
  nd := by
    rw [List.nodup_append]
    refine ⟨(List.take_sublist n c.m).nodup c.nd, by simp, fun x hx b hb z => ?_⟩
    rw [List.mem_singleton] at hb
    subst hb z
    obtain ⟨j, hj, e⟩ := List.mem_iff_getElem.mp hx
    rw [List.length_take] at hj
    rw [List.getElem_take] at e
    obtain ⟨g1, e1⟩ := List.getElem?_eq_some_iff.mp h1
    have := (List.getElem_inj c.nd).mp (e.trans e1.symm)
    omega
  at_ := fun j b ob2 e1 e2 => by
    have hl := c.len
    have hk2 := (List.getElem?_eq_some_iff.mp h1).1
    by_cases hj : j < n
    · rw [List.getElem?_append_left (by rw [List.length_take]; omega), List.getElem?_take, if_pos hj] at e1 e2
      exact c.at_ j b ob2 e1 e2
    · rw [List.getElem?_append_right (by rw [List.length_take]; omega), List.getElem?_singleton] at e1 e2
      rw [List.length_take] at e1 e2
      split at e1
      · rw [if_pos (by omega)] at e2
        cases e1; cases e2
        exact c.at_ k a ob h1 h2
      · cases e1
  fr := fun j b ob2 e1 e2 e3 => by
    have hl := c.len
    have hk2 := (List.getElem?_eq_some_iff.mp h1).1
    by_cases hj : j < n
    · rw [List.getElem?_append_left (by rw [List.length_take]; omega), List.getElem?_take, if_pos hj] at e1 e2
      exact c.fr j b ob2 e1 e2 e3
    · rw [List.getElem?_append_right (by rw [List.length_take]; omega), List.getElem?_singleton] at e1 e2
      rw [List.length_take] at e1 e2
      split at e1
      · rw [if_pos (by omega)] at e2
        cases e1; cases e2
        exact c.fr k a ob h1 h2 e3
      · cases e1
theorem exit_ok {mu : Bool} {c c' : Cfg K} {w : W} {u : V} {Q : VK} {E : XK} (l : c.le c') (h : AP c (exitW mu c.S.length w c'.S) Q E) (r : Rw c' w u) : Q u c'.H := by
  have hcl := c.len
  cases w with
  | val d => exact h (c'.take c.S.length) (l.take (Nat.le_refl _)) rfl u r
  | ref k =>
    obtain ⟨a, e1, rfl⟩ := r
    simp only [exitW] at h
    split at h
    · rename_i hk
      refine h (c'.take c.S.length) (l.take (Nat.le_refl _)) rfl _ ⟨a, ?_, rfl⟩
      show (c'.m.take c.S.length)[k]? = some a
      rw [List.getElem?_take, if_pos hk]
      exact e1
    · rename_i hk
      have hm : (c'.m.take c.S.length).length = c.S.length := by
        rw [List.length_take]
        have := l.m.length_le
        omega
      have le2 : ∀ ob (h2 : c'.S[k]? = some ob), c.le (c'.keep c.S.length k a ob (by omega) e1 h2) := fun ob h2 =>
        ⟨l.g, (pre_take l.m (Nat.le_of_eq hcl)).trans (List.prefix_append _ _)⟩
      have at2 : (c'.m.take c.S.length ++ [a])[c.S.length]? = some a := by
        rw [List.getElem?_append_right (by omega), hm, Nat.sub_self]
        rfl
      split at h
      · rename_i lst e2
        cases mu with
        | true => exact h (c'.keep c.S.length k a _ (by omega) e1 e2) (le2 _ e2) rfl _ ⟨a, at2, rfl⟩
        | false =>
          obtain ⟨xs, e3, r3⟩ := c'.at_ k a _ e1 e2
          have sm : Same c'.G (upd c'.G a (.lst xs)) := same_new (c'.fr k a _ e1 e2 (fun z => by cases z))
          have l4 : c'.le (c'.freeze k a _ _ e1 e2 (fun z => by cases z) e3) := ⟨sm, List.prefix_refl _⟩
          refine h ((c'.freeze k a _ _ e1 e2 (fun z => by cases z) e3).take c.S.length) ((l.tr l4).take (Nat.le_refl _)) ?_ _ (Rd.lst (by show upd c'.G a _ a = _; rw [upd_same]) (r3.mono sm))
          show (c'.S.set k .dead).take c.S.length = c'.S.take c.S.length
          rw [List.take_set_of_le (by omega)]
      · rename_i C fs e2
        cases mu with
        | true => exact h (c'.keep c.S.length k a _ (by omega) e1 e2) (le2 _ e2) rfl _ ⟨a, at2, rfl⟩
        | false =>
          obtain ⟨dx, gs, e3, r3⟩ := c'.at_ k a _ e1 e2
          have sm : Same c'.G (upd c'.G a (.ins (He.ga K C) dx gs)) := same_new (c'.fr k a _ e1 e2 (fun z => by cases z))
          have l4 : c'.le (c'.freeze k a _ _ e1 e2 (fun z => by cases z) e3) := ⟨sm, List.prefix_refl _⟩
          refine h ((c'.freeze k a _ _ e1 e2 (fun z => by cases z) e3).take c.S.length) ((l.tr l4).take (Nat.le_refl _)) ?_ _ (Rd.obj (by show upd c'.G a _ a = _; rw [upd_same]) (r3.mono sm))
          show (c'.S.set k .dead).take c.S.length = c'.S.take c.S.length
          rw [List.take_set_of_le (by omega)]
      · exact h.elim
theorem aSp_start {mu : Bool} {np : Nat} {N : List Str} {body : MS} {vs : List V} {H : Hp} {Q : VK} {E : XK} (h : aSp K (callF mu N.length np body) vs H Q E) :
    aS K E body { nx := fun _ H' => Q .non H', rt := Q } (L2.start N vs) H := by
  obtain ⟨c, ws, rfl, r, h⟩ := h
  unfold callF at h
  split at h
  · rename_i e
    refine ⟨c, ws.map some ++ List.replicate (N.length - np) none, rfl, by rw [← e]; exact re_start N r, ?_⟩
    cases q : body (ws.map some ++ List.replicate (N.length - np) none) c.S with
    | nx ε S => rw [q] at h; exact fun c' l es σ _ => h (c'.take c.S.length) (l.take (Nat.le_refl _)) (by rw [← es]; rfl) .non (show Rd K _ _ _ from .non)
    | rt w S => rw [q] at h; exact fun c' l es u ru => exit_ok (mu := mu) l (by rw [es]; exact h) ru
    | ex C fs S => rw [q] at h; exact fun c' l es d gs hd rf => h (c'.take c.S.length) (l.take (Nat.le_refl _)) (by rw [← es]; rfl) d gs hd rf
    | bk ε S => rw [q] at h; exact h.elim
    | ct ε S => rw [q] at h; exact h.elim
    | bad => rw [q] at h; exact h.elim
  · exact h.elim
/-! ## calls -/
section
variable {X : Cx} {E : XK} {pos p : Pos} {e o : Expr} {es : List Expr} {f : ME} {fs : MA} {k : Nat} {x : Str} {ps : List Str} {F : F1}
def cCall (F : F1) (fs : MA) : ME := fun ε S => (fs ε S).bind fun ws S => F ws S
theorem call_of {σ : L2.St} {H : Hp} {Q : VK} (h : aE K E (cCall F fs) σ H Q) : tCall (aSp K F) [] E (aA K E fs) σ H Q := by
  obtain ⟨c, ε, rfl, re, h⟩ := h
  refine ae re h fun c1 ws us l1 r1 h1 => ?_
  rw [List.append_nil]
  exact ⟨c1, ws, rfl, r1, h1⟩
theorem de_callD (D : DOk X.prog X.w X.K X.mg X.base k x ps (aSp K F)) (hr : Room k X.A) (hg : Gl X x) (hx : Passes (L2.CX X.prog X.w) X E)
    (ha : PA X (e :: es) (aA K E fs)) (hdb : (x == ("__debug__" : Str)) = false := by decide)
    (he : starEach (e :: es) X.env = (false, eval e X.env) :: starEach es X.env := by rfl)
    (hpl : (backTo pos (starEach es X.env)).any (·.1) = false := by rfl) :
    PE X (.Call (.Name x p) (e :: es) [] pos) (aE K E (cCall F fs)) := (pe_callD D hr hg hx ha hdb he hpl).weak fun _ _ _ h => call_of h
theorem de_callG (D : GOk X.prog X.w X.K X.mg X.base k x ps (aSp K F)) (hG : X.A.guards = some []) (hr : Room k X.A) (hg : Gl X x) (hx : Passes (L2.CX X.prog X.w) X E)
    (ha : PA X (e :: es) (aA K E fs)) (hdb : (x == ("__debug__" : Str)) = false := by decide)
    (he : starEach (e :: es) X.env = (false, eval e X.env) :: starEach es X.env := by rfl)
    (hpl : (backTo pos (starEach es X.env)).any (·.1) = false := by rfl) :
    PE X (.Call (.Name x p) (e :: es) [] pos) (aE K E (cCall F fs)) := (pe_callGD D hG hr hg hx ha hdb he hpl).weak fun _ _ _ h => call_of h
/-! ## builtins -/
def cBi (g : List W → Sto → Rs W) (fs : MA) : ME := fun ε S => (fs ε S).bind fun ws S => g ws S
theorem cb_of {g : List W → Sto → Rs W} {σ : L2.St} {H : Hp} {Q : VK} (h : aE K E (cBi g fs) σ H Q) : tCB (rAs K E g) (aA K E fs) σ H Q := by
  obtain ⟨c, ε, rfl, re, h⟩ := h
  refine ae re h fun c1 ws us l1 r1 h1 => ?_
  exact ⟨c1, ws, rfl, r1, h1⟩
theorem de_callB {id : String} {g : List W → Sto → Rs W} (hc : CallR X (.builtin id) (rAs K E g)) (hg : Gl X x) (hm : X.mg x = none) (hv : bootBuiltins x = some (.builtin id)) (ha : PA X (e :: es) (aA K E fs)) (hn : x ≠ "__name__" := by decide) (hdb : (x == ("__debug__" : Str)) = false := by decide)
    (he : starEach (e :: es) X.env = (false, eval e X.env) :: starEach es X.env := by rfl) (hpl : (backTo pos (starEach es X.env)).any (·.1) = false := by rfl) : PE X (.Call (.Name x p) (e :: es) [] pos) (aE K E (cBi g fs)) :=
  (pe_callB hc hg hm hv ha hn hdb he hpl).weak fun _ _ _ h => cb_of h
theorem de_callTy {T : String} {g : List W → Sto → Rs W} (hc : CallR X (.type T) (rAs K E g)) (hg : Gl X x) (hm : X.mg x = none) (hv : bootBuiltins x = some (.type T)) (ha : PA X (e :: es) (aA K E fs)) (hn : x ≠ "__name__" := by decide) (hdb : (x == ("__debug__" : Str)) = false := by decide)
    (he : starEach (e :: es) X.env = (false, eval e X.env) :: starEach es X.env := by rfl) (hpl : (backTo pos (starEach es X.env)).any (·.1) = false := by rfl) : PE X (.Call (.Name x p) (e :: es) [] pos) (aE K E (cBi g fs)) :=
  (pe_callTy hc hg hm hv ha hn hdb he hpl).weak fun _ _ _ h => cb_of h
end
end AM
set_option Elab.async false
set_option linter.all false
set_option maxRecDepth 100000
set_option maxHeartbeats 4000000
namespace AM
open PySem PySem.Spec PyProof.Rows L2 Bk
open PySem.W (Frag)
variable {K : Frag}
/-! ## what is read -/
def view : W → Sto → Option D
  | .val d, _ => some d
  | .ref n, S => match S[n]? with | some (.lst l) => some (.lst l) | some (.ins C fs) => some (.obj C fs) | some (.dic kvs) => some (.dic kvs) | _ => none
def Rc (c : Cfg K) (d : D) (u : V) : Prop := match d with
  | .lst l => ∃ a xs, u = .ref a ∧ c.H a = some (.lst xs) ∧ Rds K c.G l xs
  | .obj C fs => ∃ a dx gs, u = .ref a ∧ c.H a = some (.ins (He.ga K C) dx gs) ∧ Rfs K c.G fs gs
  | .dic kvs => ∃ a vs, u = .ref a ∧ c.H a = some (.dK (keyS vs)) ∧ Rfs K c.G kvs vs
  | d => Rd K c.G d u
theorem view_ok {c : Cfg K} {w : W} {u : V} {d : D} (h : view w c.S = some d) (r : Rw c w u) : Rc c d u := by
  cases w with
  | val d' =>
    cases h
    cases r with
    | lst h1 h2 => exact ⟨_, _, rfl, c.sub _ _ h1, h2⟩
    | non => exact .non
    | bl b => exact .bl b
    | int i => exact .int i
    | str x hx => exact .str x hx
    | tup h1 h2 => exact .tup h1 h2
    | fl h1 h2 => exact .fl h1 h2
    | obj h1 h2 => exact ⟨_, _, _, rfl, c.sub _ _ h1, h2⟩
    | ty n => exact .ty n
    | cls C => exact .cls C
    | dic h1 h2 => exact ⟨_, _, rfl, c.sub _ _ h1, h2⟩
    | tux h1 hd h2 => exact .tux h1 hd h2
  | ref n =>
    obtain ⟨a, e1, rfl⟩ := r
    cases e2 : c.S[n]? with
    | none => simp [view, e2] at h
    | some ob =>
      cases ob with
      | dead => simp [view, e2] at h
      | ins C fs =>
        simp only [view, e2, Option.some.injEq] at h
        subst h
        obtain ⟨dx, gs, e3, r⟩ := c.at_ n a _ e1 e2
        exact ⟨a, dx, gs, rfl, e3, r⟩
      | dic kvs =>
        simp only [view, e2, Option.some.injEq] at h
        subst h
        obtain ⟨vs, e3, r⟩ := c.at_ n a _ e1 e2
        exact ⟨a, vs, rfl, e3, r⟩
      | lst l =>
        simp only [view, e2, Option.some.injEq] at h
        subst h
        obtain ⟨xs, e3, r⟩ := c.at_ n a _ e1 e2
        exact ⟨a, xs, rfl, e3, r⟩
def views : List W → Sto → Option (List D)
  | [], _ => some []
  | w :: ws, S => (view w S).bind fun d => (views ws S).map fun ds => d :: ds
inductive Rcs (c : Cfg K) : List D → List V → Prop
  | nil : Rcs c [] []
  | cons {d : D} {v : V} {ds : List D} {vs : List V} (h : Rc c d v) (r : Rcs c ds vs) : Rcs c (d :: ds) (v :: vs)
theorem views_ok {c : Cfg K} : ∀ {ws : List W} {us : List V} {ds : List D}, views ws c.S = some ds → Rws c ws us → Rcs c ds us
  | _, _, _, h, .nil => by cases h; exact .nil
  | w :: ws, _, ds, h, .cons r rs => by
    unfold views at h
    cases e : view w c.S with
    | none => rw [e] at h; cases h
    | some d =>
      rw [e] at h
      cases e2 : views ws c.S with
      | none => simp only [Option.bind_some, e2] at h; cases h
      | some l =>
        simp only [Option.bind_some, e2] at h
        cases h
        exact .cons (view_ok e r) (views_ok e2 rs)
def aBin (g : D → D → Option D) : W → W → Sto → Rs W := fun x y S => match view x S, view y S with
  | some a, some b => match g a b with | some d => .ok (.val d) S | none => .bad
  | _, _ => .bad
def aUn (g : D → Option D) : W → Sto → Rs W := fun x S => match view x S with
  | some a => match g a with | some d => .ok (.val d) S | none => .bad
  | _ => .bad
def aFn (g : List D → Option D) : List W → Sto → Rs W := fun xs S => match views xs S with
  | some l => match g l with | some d => .ok (.val d) S | none => .bad
  | none => .bad
section
variable {X : Cx} {E : XK}
theorem aBin_of {g : D → D → Option D} {u v : V} {H : Hp} {Q : VK} (h : rA K E (aBin g) u v H Q) : ∃ (c : Cfg K) (a b d : D), c.H = H ∧ Rc c a u ∧ Rc c b v ∧ g a b = some d ∧ AP c (.ok (.val d) c.S) Q E := by
  obtain ⟨c, x, y, rfl, rx, ry, h⟩ := h
  unfold aBin at h
  split at h
  · rename_i a b ea eb
    split at h
    · rename_i d e
      exact ⟨c, a, b, d, rfl, view_ok ea rx, view_ok eb ry, e, h⟩
    · exact h.elim
  · exact h.elim
theorem aUn_of {g : D → Option D} {u : V} {H : Hp} {Q : VK} (h : rA1 K E (aUn g) u H Q) : ∃ (c : Cfg K) (a d : D), c.H = H ∧ Rc c a u ∧ g a = some d ∧ AP c (.ok (.val d) c.S) Q E := by
  obtain ⟨c, x, rfl, rx, h⟩ := h
  unfold aUn at h
  split at h
  · rename_i a ea
    split at h
    · rename_i d e
      exact ⟨c, a, d, rfl, view_ok ea rx, e, h⟩
    · exact h.elim
  · exact h.elim
theorem aFn_of {g : List D → Option D} {us : List V} {H : Hp} {Q : VK} (h : rAs K E (aFn g) us H Q) : ∃ (c : Cfg K) (l : List D) (d : D), c.H = H ∧ Rcs c l us ∧ g l = some d ∧ AP c (.ok (.val d) c.S) Q E := by
  obtain ⟨c, x, rfl, rx, h⟩ := h
  unfold aFn at h
  split at h
  · rename_i l ea
    split at h
    · rename_i d e
      exact ⟨c, l, d, rfl, views_ok ea rx, e, h⟩
    · exact h.elim
  · exact h.elim
theorem OpR.weak {f : Value → Value → Sem Value} {r r' : R2} (h : OpR X f r) (k : ∀ u v H Q, r' u v H Q → r u v H Q) : OpR X f r' := fun pins s σ H x y v u Q I rx ry hw => h pins s σ H x y v u Q I rx ry (k x y H Q hw)
theorem UnR.weak {f : Value → Sem Value} {r r' : V → Hp → VK → Prop} (h : UnR X f r) (k : ∀ u H Q, r' u H Q → r u H Q) : UnR X f r' := fun pins s σ H x v Q I rx hw => h pins s σ H x v Q I rx (k x H Q hw)
theorem CallR.weak {f : Value} {r r' : List V → Hp → VK → Prop} (h : CallR X f r) (k : ∀ u H Q, r' u H Q → r u H Q) : CallR X f r' := fun pins s σ H x v Q I rx hw => h pins s σ H x v Q I rx (k x H Q hw)
theorem CallR.or {f : Value} {r r' : List V → Hp → VK → Prop} (h : CallR X f r) (h' : CallR X f r') : CallR X f (fun u H Q => r u H Q ∨ r' u H Q) := fun pins s σ H x v Q I rx hw => hw.elim (h pins s σ H x v Q I rx) (h' pins s σ H x v Q I rx)
theorem AP.int {c : Cfg K} {i : Int} {Q : VK} {E : XK} (h : AP c (.ok (.val (.int i)) c.S) Q E) : Q (.int i) c.H := h.ok (show Rd K _ _ _ from .int i)
theorem AP.bl {c : Cfg K} {i : Bool} {Q : VK} {E : XK} (h : AP c (.ok (.val (.bl i)) c.S) Q E) : Q (.bl i) c.H := h.ok (show Rd K _ _ _ from .bl i)
theorem AP.non {c : Cfg K} {Q : VK} {E : XK} (h : AP c (.ok (.val .non) c.S) Q E) : Q .non c.H := h.ok (show Rd K _ _ _ from .non)
theorem AP.str {c : Cfg K} {x : Str} {Q : VK} {E : XK} (h : AP c (.ok (.val (.str x)) c.S) Q E) (hx : x.length ≤ sizeLine) : Q (.str x) c.H := h.ok (show Rd K _ _ _ from .str x hx)
/-! ## arithmetic -/
def addD : D → D → Option D
  | .int i, .int j => some (.int (i + j))
  | .str x, .str y => if x.length + y.length ≤ sizeLine then some (.str (x ++ y)) else none
  | .tup l, .tup r => if l.length + r.length ≤ sizeLine then some (.tup (l ++ r)) else none
  | .lst l, .lst r => if l.length + r.length ≤ sizeLine then some (.lst (l ++ r)) else none
  | _, _ => none
theorem oa_add (hK : X.K = K) : OpR X (binaryOp .Add) (rA K E (aBin addD)) := by
  subst hK
  refine OpR.weak (OpR.or op_add (OpR.or op_add_str (OpR.or op_catA op_cat))) fun u v H Q h => ?_
  replace h := aBin_of h
  obtain ⟨c, a, b, d, rfl, ra, rb, e, h⟩ := h
  unfold addD at e
  split at e
  · cases ra; cases rb; cases e
    exact .inl ⟨_, _, rfl, rfl, h.int⟩
  · split at e
    · rename_i x y hz
      cases ra; cases rb; cases e
      exact .inr (.inl ⟨_, _, rfl, rfl, hz, h.str (by rw [Str.length_append]; exact hz)⟩)
    · cases e
  · split at e
    · rename_i l r hz
      cases e
      cases ra with
      | tup h1 r1 => cases rb with
        | tup h2 r2 =>
          rename_i a xs a2 ys
          refine .inr (.inr (.inl ⟨_, _, xs, ys, rfl, rfl, Same.tup c.sub h1, Same.tup c.sub h2, by rw [← r1.length, ← r2.length]; exact hz, fun z => ?_, fun z1 z => ?_, fun z1 z2 p hp => h.tup (r1.app r2) hp⟩))
          · subst z
            cases r1
            exact h.ok (show Rd X.K _ _ _ from .tup h2 (by simpa using r2))
          · subst z
            cases r2
            exact h.ok (show Rd X.K _ _ _ from .tup h1 (by simpa using r1))
    · cases e
  · split at e
    · rename_i l r hz
      cases e
      obtain ⟨a, xs, rfl, h1, r1⟩ := ra
      obtain ⟨b, ys, rfl, h2, r2⟩ := rb
      exact .inr (.inr (.inr ⟨_, _, xs, ys, rfl, rfl, h1, h2, by rw [← r1.length, ← r2.length]; exact hz, fun p hp => h.lst (r1.app r2) hp⟩))
    · cases e
  · cases e
def intD (g : Int → Int → Option D) : D → D → Option D
  | .int i, .int j => g i j
  | _, _ => none
theorem intD_of {g : Int → Int → Option D} {c : Cfg K} {a b d : D} {u v : V} (ra : Rc c a u) (rb : Rc c b v) (e : intD g a b = some d) : ∃ i j, u = .int i ∧ v = .int j ∧ g i j = some d := by
  unfold intD at e
  split at e
  · cases ra; cases rb; exact ⟨_, _, rfl, rfl, e⟩
  · cases e
def subD : D → D → Option D := intD fun i j => some (.int (i - j))
theorem oa_sub : OpR X (binaryOp .Sub) (rA K E (aBin subD)) := OpR.weak op_sub fun u v H Q h => by
  replace h := aBin_of h
  obtain ⟨c, a, b, d, rfl, ra, rb, e, h⟩ := h
  obtain ⟨i, j, rfl, rfl, e⟩ := intD_of ra rb e
  cases e
  exact ⟨i, j, rfl, rfl, h.int⟩
instance (i j : Int) : Decidable (CMul i j) := by unfold CMul; infer_instance
def mulD : D → D → Option D
  | .int i, .int j => if CMul i j then some (.int (i * j)) else none
  | .lst l, .int k => if (-(2 ^ 63) ≤ k ∧ k < 2 ^ 63) ∧ l.length * k.toNat ≤ sizeLine then some (.lst (List.replicate k.toNat l).flatten) else none
  | _, _ => none
theorem rds_rep {G : Hp} {l : List D} {xs : List V} (r : Rds K G l xs) : ∀ n : Nat, Rds K G (List.replicate n l).flatten (List.replicate n xs).flatten
  | 0 => .nil
  | n + 1 => by
    rw [List.replicate_succ, List.replicate_succ, List.flatten_cons, List.flatten_cons]
    exact r.app (rds_rep r n)
theorem oa_mul : OpR X (binaryOp .Mult) (rA K E (aBin mulD)) := OpR.weak (OpR.or op_mul op_rep) fun u v H Q h => by
  replace h := aBin_of h
  obtain ⟨c, a, b, d, rfl, ra, rb, e, h⟩ := h
  unfold mulD at e
  split at e
  · split at e
    · rename_i hc
      cases ra; cases rb; cases e
      exact .inl ⟨_, _, rfl, rfl, hc, h.int⟩
    · cases e
  · split at e
    · rename_i hc
      cases e
      obtain ⟨a, xs, rfl, h1, r1⟩ := ra
      cases rb
      exact .inr ⟨_, _, xs, rfl, rfl, h1, hc.1.1, hc.1.2, by rw [← r1.length]; exact hc.2, fun p hp => h.lst (rds_rep r1 _) hp⟩
    · cases e
  · cases e
instance (i j : Int) : Decidable (CDiv i j) := by unfold CDiv; infer_instance
def fdivD : D → D → Option D := intD fun i j => if CDiv i j then some (.int (i / j)) else none
theorem oa_fdiv : OpR X (binaryOp .FloorDiv) (rA K E (aBin fdivD)) := OpR.weak op_fdiv fun u v H Q h => by
  replace h := aBin_of h
  obtain ⟨c, a, b, d, rfl, ra, rb, e, h⟩ := h
  obtain ⟨i, j, rfl, rfl, e⟩ := intD_of ra rb e
  split at e
  · rename_i hc
    cases e
    exact ⟨i, j, rfl, rfl, hc, h.int⟩
  · cases e
def modD : D → D → Option D := intD fun i j => if 0 < j then some (.int (i % j)) else none
theorem oa_mod : OpR X (binaryOp .Mod) (rA K E (aBin modD)) := OpR.weak op_mod fun u v H Q h => by
  replace h := aBin_of h
  obtain ⟨c, a, b, d, rfl, ra, rb, e, h⟩ := h
  obtain ⟨i, j, rfl, rfl, e⟩ := intD_of ra rb e
  split at e
  · rename_i hc
    cases e
    exact ⟨i, j, rfl, rfl, hc, h.int⟩
  · cases e
instance (i j : Int) : Decidable (CPow i j) := by unfold CPow; infer_instance
def powD : D → D → Option D := intD fun i j => if CPow i j then some (.int (i ^ j.toNat)) else none
theorem oa_pow : OpR X (binaryOp .Pow) (rA K E (aBin powD)) := OpR.weak op_pow fun u v H Q h => by
  replace h := aBin_of h
  obtain ⟨c, a, b, d, rfl, ra, rb, e, h⟩ := h
  obtain ⟨i, j, rfl, rfl, e⟩ := intD_of ra rb e
  split at e
  · rename_i hc
    cases e
    exact ⟨i, j, rfl, rfl, hc, h.int⟩
  · cases e
def negD : D → Option D | .int i => some (.int (-i)) | _ => none
theorem ua_neg : UnR X (unaryOp .USub) (rA1 K E (aUn negD)) := UnR.weak un_neg fun u H Q h => by
  replace h := aUn_of h
  obtain ⟨c, a, d, rfl, ra, e, h⟩ := h
  unfold negD at e
  split at e
  · cases ra; cases e; exact ⟨_, rfl, h.int⟩
  · cases e
/-! ## comparisons -/
def ltS (x y : Str) : Bool := decide (x.cps.toList < y.cps.toList)
def cmpD (p : Int → Int → Bool) (q : Str → Str → Bool) : D → D → Option D
  | .int i, .int j => some (.bl (p i j))
  | .str i, .str j => some (.bl (q i j))
  | _, _ => none
theorem cmpD_of {p : Int → Int → Bool} {q : Str → Str → Bool} {c : Cfg K} {a b d : D} {u v : V} (ra : Rc c a u) (rb : Rc c b v) (e : cmpD p q a b = some d) : (∃ i j, u = .int i ∧ v = .int j ∧ d = .bl (p i j)) ∨ ∃ i j, u = .str i ∧ v = .str j ∧ d = .bl (q i j) := by
  unfold cmpD at e
  split at e
  · cases ra; cases rb; cases e; exact .inl ⟨_, _, rfl, rfl, rfl⟩
  · cases ra; cases rb; cases e; exact .inr ⟨_, _, rfl, rfl, rfl⟩
  · cases e
def ltD := cmpD (fun i j => decide (i < j)) ltS
def leD := cmpD (fun i j => decide (i ≤ j)) (fun x y => !ltS y x)
def gtD := cmpD (fun i j => decide (j < i)) (fun x y => ltS y x)
def geD := cmpD (fun i j => decide (j ≤ i)) (fun x y => !ltS x y)
theorem oa_lt : OpR X (compareOp .Lt) (rA K E (aBin ltD)) := OpR.weak (OpR.or op_lt op_lt_str) fun u v H Q h => by
  replace h := aBin_of h
  obtain ⟨c, a, b, d, rfl, ra, rb, e, h⟩ := h
  rcases cmpD_of ra rb e with ⟨i, j, rfl, rfl, rfl⟩ | ⟨i, j, rfl, rfl, rfl⟩
  · exact .inl ⟨_, _, rfl, rfl, h.bl⟩
  · exact .inr ⟨_, _, rfl, rfl, h.bl⟩
theorem oa_le : OpR X (compareOp .LtE) (rA K E (aBin leD)) := OpR.weak (OpR.or op_le op_le_str) fun u v H Q h => by
  replace h := aBin_of h
  obtain ⟨c, a, b, d, rfl, ra, rb, e, h⟩ := h
  rcases cmpD_of ra rb e with ⟨i, j, rfl, rfl, rfl⟩ | ⟨i, j, rfl, rfl, rfl⟩
  · exact .inl ⟨_, _, rfl, rfl, h.bl⟩
  · exact .inr ⟨_, _, rfl, rfl, h.bl⟩
theorem oa_gt : OpR X (compareOp .Gt) (rA K E (aBin gtD)) := OpR.weak (OpR.or op_gt op_gt_str) fun u v H Q h => by
  replace h := aBin_of h
  obtain ⟨c, a, b, d, rfl, ra, rb, e, h⟩ := h
  rcases cmpD_of ra rb e with ⟨i, j, rfl, rfl, rfl⟩ | ⟨i, j, rfl, rfl, rfl⟩
  · exact .inl ⟨_, _, rfl, rfl, h.bl⟩
  · exact .inr ⟨_, _, rfl, rfl, h.bl⟩
theorem oa_ge : OpR X (compareOp .GtE) (rA K E (aBin geD)) := OpR.weak (OpR.or op_ge op_ge_str) fun u v H Q h => by
  replace h := aBin_of h
  obtain ⟨c, a, b, d, rfl, ra, rb, e, h⟩ := h
  rcases cmpD_of ra rb e with ⟨i, j, rfl, rfl, rfl⟩ | ⟨i, j, rfl, rfl, rfl⟩
  · exact .inl ⟨_, _, rfl, rfl, h.bl⟩
  · exact .inr ⟨_, _, rfl, rfl, h.bl⟩
mutual
def toP : D → Option PyData
  | .non => some .none
  | .bl b => some (.bool b)
  | .int i => some (.int i)
  | .str x => some (.str x)
  | .tup l => (toPs l).map .tuple
  | .lst l => (toPs l).map .list
  | .fl l => (toPs l).map .list
  | .obj _ _ => none
  | .ty _ => none
  | .cls _ => none
  | .dic _ => none
  | .tux l => (toPs l).map .tuple
def toPs : List D → Option (List PyData)
  | [] => some []
  | d :: l => (toP d).bind fun p => (toPs l).map fun ps => p :: ps
end
mutual
theorem toP_ok {G : Hp} : ∀ {d : D} {p : PyData} {v : V}, toP d = some p → Rd K G d v → Dp K G v p
  | .non, _, _, h, .non => by cases h; exact .non
  | .bl b, _, _, h, .bl _ => by cases h; exact .bl b
  | .int i, _, _, h, .int _ => by cases h; exact .int i
  | .str x, _, _, h, .str _ _ => by cases h; exact .str x
  | .tup l, p, _, h, .tup h1 h2 => by
    unfold toP at h
    cases e : toPs l with
    | none => rw [e] at h; cases h
    | some ps => rw [e] at h; cases h; exact .tup h1 (toPs_ok e h2)
  | .lst l, p, _, h, .lst h1 h2 => by
    unfold toP at h
    cases e : toPs l with
    | none => rw [e] at h; cases h
    | some ps => rw [e] at h; cases h; exact .lst (.inl (.inl h1)) (toPs_ok e h2)
  | .fl l, p, _, h, .fl h1 h2 => by
    unfold toP at h
    cases e : toPs l with
    | none => rw [e] at h; cases h
    | some ps => rw [e] at h; cases h; exact .lst h1 (toPs_ok e h2)
  | .obj _ _, _, _, h, _ => by unfold toP at h; cases h
  | .ty _, _, _, h, _ => by unfold toP at h; cases h
  | .cls _, _, _, h, _ => by unfold toP at h; cases h
  | .dic _, _, _, h, _ => by unfold toP at h; cases h
  | .tux l, p, _, h, .tux h1 _ h2 => by
    unfold toP at h
    cases e : toPs l with
    | none => rw [e] at h; cases h
    | some ps => rw [e] at h; cases h; exact .tup (.inl (.inr ⟨_, h1⟩)) (toPs_ok e h2)
theorem toPs_ok {G : Hp} : ∀ {l : List D} {ps : List PyData} {vs : List V}, toPs l = some ps → Rds K G l vs → DpAll K G vs ps
  | [], _, _, h, .nil => by cases h; exact .nil
  | d :: l, ps, _, h, .cons h1 h2 => by
    unfold toPs at h
    cases e : toP d with
    | none => rw [e] at h; cases h
    | some p =>
      rw [e] at h
      cases e2 : toPs l with
      | none => simp only [Option.bind_some, e2] at h; cases h
      | some qs =>
        simp only [Option.bind_some, e2] at h
        cases h
        exact .cons (toP_ok e h1) (toPs_ok e2 h2)
end
theorem rc_dp {c : Cfg K} {d : D} {p : PyData} {v : V} (h : toP d = some p) (r : Rc c d v) : Dp K c.H v p := by
  cases d with
  | lst l =>
    obtain ⟨a, xs, rfl, h1, r⟩ := r
    unfold toP at h
    cases e : toPs l with
    | none => rw [e] at h; cases h
    | some ps => rw [e] at h; cases h; exact .lst (.inl (.inl h1)) (dpsS c.sub (toPs_ok e r))
  | obj C fs => unfold toP at h; cases h
  | dic kvs => unfold toP at h; cases h
  | _ => exact dpS c.sub (toP_ok h r)
/-- scalars of a kind -/
def scE : D → D → Option Bool
  | .int i, .int j => some (decide (i = j))
  | .str i, .str j => some (decide (i = j))
  | .bl i, .bl j => some (decide (i = j))
  | .non, .non => some true
  | .non, .int _ => some false | .int _, .non => some false | .non, .bl _ => some false | .bl _, .non => some false | .non, .str _ => some false | .str _, .non => some false
  | .int _, .str _ => some false | .str _, .int _ => some false | .bl _, .str _ => some false | .str _, .bl _ => some false
  | _, _ => none
def eqDD (a b : D) : Option Bool := match scE a b with
  | some r => some r
  | none => match toP a, toP b with
    | some p, some q => if SeqAt.shaped p && SeqAt.shaped q then some (PyData.eqv p q) else none
    | _, _ => none
theorem scE_of {c : Cfg K} {a b : D} {u v : V} {r : Bool} (ra : Rc c a u) (rb : Rc c b v) (h : scE a b = some r) : scal u v = true ∧ decide (u = v) = r := by
  unfold scE at h
  split at h <;> first
    | (cases ra; cases rb; cases h; exact ⟨rfl, by simp⟩)
    | (cases h)
def eqD (a b : D) : Option D := (eqDD a b).map .bl
def neD (a b : D) : Option D := (eqDD a b).map fun r => .bl (!r)
theorem oa_eq (hK : X.K = K) (hu : X.A.units + 64 < cLine) : OpR X (compareOp .Eq) (rA K E (aBin eqD)) := by
  subst hK
  refine OpR.weak (OpR.or op_eq (op_eqD hu)) fun u v H Q h => ?_
  replace h := aBin_of h
  obtain ⟨c, a, b, d, rfl, ra, rb, e, h⟩ := h
  unfold eqD eqDD at e
  split at e
  · rename_i r es
    cases e
    obtain ⟨h1, h2⟩ := scE_of ra rb es
    refine .inl ⟨h1, ?_⟩
    rw [h2]
    exact h.bl
  · split at e
    · rename_i p q ep eq
      split at e
      · rename_i hs
        cases e
        rw [Bool.and_eq_true] at hs
        exact .inr ⟨p, q, rc_dp ep ra, rc_dp eq rb, hs.1, hs.2, h.bl⟩
      · cases e
    · cases e
theorem oa_ne (hK : X.K = K) (hu : X.A.units + 64 < cLine) : OpR X (compareOp .NotEq) (rA K E (aBin neD)) := by
  subst hK
  refine OpR.weak (OpR.or op_ne (op_neD hu)) fun u v H Q h => ?_
  replace h := aBin_of h
  obtain ⟨c, a, b, d, rfl, ra, rb, e, h⟩ := h
  unfold neD eqDD at e
  split at e
  · rename_i r es
    cases e
    obtain ⟨h1, h2⟩ := scE_of ra rb es
    refine .inl ⟨h1, ?_⟩
    rw [h2]
    exact h.bl
  · split at e
    · rename_i p q ep eq
      split at e
      · rename_i hs
        cases e
        rw [Bool.and_eq_true] at hs
        exact .inr ⟨p, q, rc_dp ep ra, rc_dp eq rb, hs.1, hs.2, h.bl⟩
      · cases e
    · cases e
def isNon : D → Bool | .non => true | _ => false
def isND : D → D → Option D | a, .non => some (.bl (isNon a)) | _, _ => none
def notND : D → D → Option D | a, .non => some (.bl (!isNon a)) | _, _ => none
theorem non_of {c : Cfg K} {a : D} {u : V} (r : Rc c a u) : decide (u = .non) = isNon a := by
  cases a with
  | lst l => obtain ⟨_, _, rfl, _, _⟩ := r; rfl
  | obj C fs => obtain ⟨_, _, _, rfl, _, _⟩ := r; rfl
  | dic kvs => obtain ⟨_, _, rfl, _, _⟩ := r; rfl
  | _ => cases r <;> rfl
theorem oa_isN : OpR X (compareOp .Is) (rA K E (aBin isND)) := OpR.weak op_isN fun u v H Q h => by
  replace h := aBin_of h
  obtain ⟨c, a, b, d, rfl, ra, rb, e, h⟩ := h
  unfold isND at e
  split at e
  · cases e; cases rb
    refine ⟨rfl, ?_⟩
    rw [non_of ra]
    exact h.bl
  · cases e
theorem oa_notN : OpR X (compareOp .IsNot) (rA K E (aBin notND)) := OpR.weak op_notN fun u v H Q h => by
  replace h := aBin_of h
  obtain ⟨c, a, b, d, rfl, ra, rb, e, h⟩ := h
  unfold notND at e
  split at e
  · cases e; cases rb
    refine ⟨rfl, ?_⟩
    rw [non_of ra]
    exact h.bl
  · cases e
end
end AM
set_option Elab.async false
set_option linter.all false
set_option maxRecDepth 100000
set_option maxHeartbeats 4000000
namespace AM
open PySem PySem.Spec PyProof.Rows L2 Bk
open PySem.W (Frag)
variable {K : Frag}
section
variable {X : Cx} {E : XK} {pos : Pos} {a b e o : Expr} {fa fb f : ME}
/-! ## places -/
theorem atI_rd {G : Hp} {l : List D} {xs : List V} {i : Int} {d : D} (r : Rds K G l xs) (h : atI l i = some d) : ∃ v, atI xs i = some v ∧ Rd K G d v := by
  unfold atI at h ⊢
  rw [← r.length]
  cases e : ixN l.length i with
  | none => rw [e] at h; cases h
  | some j =>
    rw [e] at h
    exact r.get h
def ixD : D → D → Option D
  | .lst l, .int i => atI l i
  | .fl l, .int i => atI l i
  | .tup l, .int i => atI l i
  | .str x, .int i => (atI x.cps.toList i).map fun c => .str ⟨#[c]⟩
  | .tux l, .int i => atI l i
  | _, _ => none
theorem IxR.weak {r r' : R2} (h : IxR X r) (k : ∀ u v H Q, r' u v H Q → r u v H Q) : IxR X r' := fun value slice pins s σ H x y v u Q I rx ry hw hs => h value slice pins s σ H x y v u Q I rx ry (k x y H Q hw) hs
theorem sz1 (c : Nat) : (⟨#[c]⟩ : Str).length ≤ sizeLine := by show 1 ≤ sizeLine; decide
theorem xa_ix (hK : X.K = K) : IxR X (rA K E (aBin ixD)) := by
  subst hK
  refine IxR.weak (IxR.or ix_list (IxR.or ix_tup ix_str)) fun u v H Q h => ?_
  replace h := aBin_of h
  obtain ⟨c, a, b, d, rfl, ra, rb, e, h⟩ := h
  unfold ixD at e
  split at e
  · obtain ⟨a, xs, rfl, h1, r1⟩ := ra
    cases rb
    obtain ⟨v, e2, r2⟩ := atI_rd r1 e
    exact .inl ⟨_, xs, _, v, rfl, rfl, .inl (.inl h1), e2, h.ok r2⟩
  · cases ra with
    | fl h1 r1 =>
      cases rb
      obtain ⟨v, e2, r2⟩ := atI_rd r1 e
      exact .inl ⟨_, _, _, v, rfl, rfl, sqL_same c.sub h1, e2, h.ok r2⟩
  · cases ra with
    | tup h1 r1 =>
      cases rb
      obtain ⟨v, e2, r2⟩ := atI_rd r1 e
      exact .inr (.inl ⟨_, _, _, v, rfl, rfl, Same.tup c.sub h1, e2, h.ok r2⟩)
  · rename_i x i
    cases ra with
    | str _ hz =>
      cases rb
      cases e2 : atI x.cps.toList i with
      | none => rw [e2] at e; cases e
      | some cc =>
        rw [e2] at e
        cases e
        exact .inr (.inr ⟨_, _, cc, rfl, rfl, hz, e2, h.str (sz1 _)⟩)
  · cases ra with
    | tux h1 hd r1 =>
      cases rb
      obtain ⟨v, e2, r2⟩ := atI_rd r1 e
      exact .inr (.inl ⟨_, _, _, v, rfl, rfl, .inl (.inr ⟨_, c.sub _ _ h1⟩), e2, h.ok r2⟩)
  · cases e
theorem de_ix (hK : X.K = K) (ha : PE X a (aE K E fa)) (hb : PE X b (aE K E fb)) (hs : PlainIx b := by intro _ _; rfl) : PE X (.Subscript a b pos) (aE K E (cBin (aBin ixD) fa fb)) :=
  (pe_ix (xa_ix hK) ha hb hs).weak fun _ _ _ h => tOp_of h
/-! ## slices -/
def cutL {α : Type} (xs : List α) (lo hi : Option Int) : List α := (xs.drop (HT.sIx xs.length 0 lo)).take (HT.sIx xs.length xs.length hi - HT.sIx xs.length 0 lo)
theorem Rds.cut {G : Hp} {l : List D} {xs : List V} (r : Rds K G l xs) (lo hi : Option Int) : Rds K G (cutL l lo hi) (cutV xs lo hi) := by
  unfold cutL cutV
  rw [r.length]
  exact (r.drop _).take _
def slD : D → Option Int → Option Int → Option D
  | .lst l, lo, hi => some (.lst (cutL l lo hi))
  | .fl l, lo, hi => some (.lst (cutL l lo hi))
  | .tup l, lo, hi => some (.tup (cutL l lo hi))
  | .str x, lo, hi => some (.str (cutS x lo hi))
  | _, _, _ => none
theorem cutS_len (x : Str) (lo hi : Option Int) : (cutS x lo hi).length ≤ x.length := by
  show (List.toArray _).size ≤ x.cps.size
  rw [List.size_toArray, List.length_take, List.length_drop, Array.length_toList]
  omega
abbrev MO := Ev → Sto → Rs (Option Int)
def oNone : MO := fun _ S => .ok none S
def oSome (f : ME) : MO := fun ε S => (f ε S).bind fun w S => match w with | .val (.int i) => .ok (some i) S | _ => .bad
def APo (c : Cfg K) (r : Rs (Option Int)) (Q : Option Int → Hp → Prop) (E : XK) : Prop := match r with
  | .ok b S => ∀ c' : Cfg K, c.le c' → c'.S = S → Q b c'.H
  | .ex C fs S => ∀ c' : Cfg K, c.le c' → c'.S = S → ∀ d gs, c'.H d = some (.xd gs) → Rfs K c'.G fs gs → E (.ref (He.ga K C)) (some d) c'.H
  | .bad => False
def aO (K : Frag) (E : XK) (f : MO) : TO := fun σ H Q => ∃ (c : Cfg K) (ε : Ev), c.H = H ∧ Re c ε σ ∧ APo c (f ε c.S) Q E
theorem PO.weak {e : Option Expr} {t t' : TO} (h : PO X e t) (k : ∀ σ H Q, t' σ H Q → t σ H Q) : PO X e t' := ⟨fun pins s σ H Q I hw => h.run pins s σ H Q I (k σ H Q hw)⟩
theorem do_none : PO X none (aO K E oNone) := PO.weak po_none fun σ H Q h => by
  obtain ⟨c, ε, rfl, re, h⟩ := h
  exact h c .refl rfl
theorem do_some (he : PE X e (aE K E f)) : PO X (some e) (aO K E (oSome f)) := PO.weak (po_some he) fun σ H Q h => by
  obtain ⟨c, ε, rfl, re, h⟩ := h
  refine ⟨c, ε, rfl, re, ?_⟩
  unfold oSome at h
  cases q : f ε c.S with
  | bad => rw [q] at h; exact h.elim
  | ex C fs S => rw [q] at h; exact h
  | ok w S =>
    rw [q] at h
    simp only [Rs.bind] at h
    intro c' l es u r
    split at h
    · cases r
      exact ⟨_, rfl, h c' l es⟩
    · exact h.elim
theorem oe {c : Cfg K} {ε : Ev} {σ : L2.St} {fo : MO} {Q : VK} (re : Re c ε σ) {k : Option Int → Sto → Rs W} (h : AP c ((fo ε c.S).bind k) Q E) {T : Option Int → Hp → Prop} (g : ∀ (c' : Cfg K) i, c.le c' → AP c' (k i c'.S) Q E → T i c'.H) : aO K E fo σ c.H T := by
  refine ⟨c, ε, rfl, re, ?_⟩
  cases e : fo ε c.S with
  | ok w S => rw [e] at h; exact fun c' l es => g c' w l (by rw [es]; exact AP.up (show AP c (k w S) Q E from h) l)
  | ex C fs S => rw [e] at h; exact h
  | bad => rw [e] at h; exact h
def cSl (f : ME) (lo hi : MO) : ME := fun ε S => (f ε S).bind fun w S => (lo ε S).bind fun i S => (hi ε S).bind fun j S => match view w S with
  | some d => match slD d i j with | some r => .ok (.val r) S | none => .bad
  | none => .bad
theorem de_slice {lo hi : Option Expr} {fl fh : MO} {p2 : Pos} (hK : X.K = K) (he : PE X e (aE K E f)) (hl : PO X lo (aO K E fl)) (hh : PO X hi (aO K E fh)) : PE X (.Subscript e (.Slice lo hi none p2) pos) (aE K E (cSl f fl fh)) := by
  subst hK
  refine (pe_slice (SlR.or sl_list (SlR.or sl_tupA sl_str)) he hl hh).weak fun σ H Q h => ?_
  obtain ⟨c, ε, rfl, re, h⟩ := h
  refine ee re h fun c1 w1 u1 l1 r1 h1 => ?_
  refine oe (re.mono l1) h1 fun c2 i l2 h2 => ?_
  refine oe ((re.mono l1).mono l2) h2 fun c3 j l3 h3 => ?_
  split at h3
  · rename_i d ed
    have rc := view_ok ed ((r1.mono l2).mono l3)
    split at h3
    · rename_i r er
      unfold slD at er
      split at er
      · cases er
        obtain ⟨a, xs, rfl, q1, q2⟩ := rc
        exact .inl ⟨a, xs, rfl, .inl (.inl q1), fun p hp => h3.lst (q2.cut _ _) hp⟩
      · cases er
        cases rc with
        | fl q1 q2 => exact .inl ⟨_, _, rfl, sqL_same c3.sub q1, fun p hp => h3.lst (q2.cut _ _) hp⟩
      · rename_i l
        cases er
        cases rc with
        | tup q1 q2 =>
          rename_i a xs
          refine .inr (.inl ⟨_, _, rfl, Same.tup c3.sub q1, fun z => ?_, fun _ p hp => h3.tup (q2.cut _ _) hp⟩)
          have e : cutL l i j = l := by
            unfold cutL
            rw [q2.length, z.1, z.2, List.drop_zero, Nat.sub_zero, ← q2.length, List.take_length]
          rw [e] at h3
          exact h3.ok (show Rd X.K _ _ _ from .tup q1 q2)
      · cases er
        cases rc with
        | str _ hz => exact .inr (.inr ⟨_, rfl, hz, h3.str (Nat.le_trans (cutS_len _ _ _) hz)⟩)
      · cases er
    · exact h3.elim
  · exact h3.elim
/-- t[::-1] -/
def cRev (f : ME) : ME := fun ε S => (f ε S).bind fun w S => match view w S with
  | some (.tup l) => .ok (.val (.tup l.reverse)) S
  | _ => .bad
theorem de_rev {k : Nat} {p1 p2 p3 : Pos} (hK : X.K = K) (he : PE X e (aE K E f)) : PE X (.Subscript e (.Slice none none (some (.UnaryOp .USub (.Constant (.int 1) k p1) p2)) p3) pos) (aE K E (cRev f)) := by
  subst hK
  refine (pe_revT he).weak fun σ H Q h => ?_
  obtain ⟨c, ε, rfl, re, h⟩ := h
  refine ee re h fun c1 w1 u1 l1 r1 h1 => ?_
  split at h1
  · rename_i l ed
    have rc := view_ok ed r1
    cases rc with
    | tup q1 q2 => exact ⟨_, _, rfl, Same.tup c1.sub q1, fun p hp => h1.tup q2.rev hp⟩
  · exact h1.elim
def cRevL (f : ME) : ME := fun ε S => (f ε S).bind fun w S => match view w S with
  | some (.lst l) => .ok (.val (.lst l.reverse)) S
  | _ => .bad
theorem de_revL {k : Nat} {p1 p2 p3 : Pos} (hK : X.K = K) (he : PE X e (aE K E f)) : PE X (.Subscript e (.Slice none none (some (.UnaryOp .USub (.Constant (.int 1) k p1) p2)) p3) pos) (aE K E (cRevL f)) := by
  subst hK
  refine (pe_revL he).weak fun σ H Q h => ?_
  obtain ⟨c, ε, rfl, re, h⟩ := h
  refine ee re h fun c1 w1 u1 l1 r1 h1 => ?_
  split at h1
  · rename_i l ed
    obtain ⟨a, xs, rfl, q1, q2⟩ := view_ok ed r1
    exact ⟨_, _, rfl, .inl (.inl q1), fun p hp => h1.lst q2.rev hp⟩
  · exact h1.elim
/-! ## built-in functions -/
theorem rc1 {c : Cfg K} {d : D} {us : List V} (r : Rcs c [d] us) : ∃ u, us = [u] ∧ Rc c d u := by
  cases r with
  | cons h r => cases r; exact ⟨_, rfl, h⟩
theorem rc2 {c : Cfg K} {d d' : D} {us : List V} (r : Rcs c [d, d'] us) : ∃ u u', us = [u, u'] ∧ Rc c d u ∧ Rc c d' u' := by
  cases r with
  | cons h r => cases r with
    | cons h' r => cases r; exact ⟨_, _, rfl, h, h'⟩
def lenD : List D → Option D
  | [.str x] => some (.int x.length)
  | [.lst l] => some (.int l.length)
  | [.fl l] => some (.int l.length)
  | [.tup l] => some (.int l.length)
  | [.tux l] => some (.int l.length)
  | _ => none
theorem ca_len (hK : X.K = K) : CallR X (.builtin "len") (rAs K E (aFn lenD)) := by
  subst hK
  refine CallR.weak call_len fun u H Q h => ?_
  replace h := aFn_of h
  obtain ⟨c, l, d, rfl, r, e, h⟩ := h
  unfold lenD at e
  split at e
  · cases e
    replace r := rc1 r
    obtain ⟨u, rfl, r⟩ := r
    cases r with
    | str _ hz => exact ⟨_, _, rfl, ⟨hz, rfl⟩, h.int⟩
  · cases e
    replace r := rc1 r
    obtain ⟨u, rfl, r⟩ := r
    obtain ⟨a, xs, rfl, q1, q2⟩ := r
    rw [q2.length] at h
    exact ⟨_, _, rfl, .inl ⟨xs, .inl (.inl q1), rfl⟩, h.int⟩
  · cases e
    replace r := rc1 r
    obtain ⟨u, rfl, r⟩ := r
    cases r with
    | fl q1 q2 =>
      rw [q2.length] at h
      exact ⟨_, _, rfl, .inl ⟨_, sqL_same c.sub q1, rfl⟩, h.int⟩
  · cases e
    replace r := rc1 r
    obtain ⟨u, rfl, r⟩ := r
    cases r with
    | tup q1 q2 =>
      rw [q2.length] at h
      exact ⟨_, _, rfl, .inr ⟨_, Same.tup c.sub q1, rfl⟩, h.int⟩
  · cases e
    replace r := rc1 r
    obtain ⟨u, rfl, r⟩ := r
    cases r with
    | tux q1 hd q2 =>
      rw [q2.length] at h
      exact ⟨_, _, rfl, .inr ⟨_, .inl (.inr ⟨_, c.sub _ _ q1⟩), rfl⟩, h.int⟩
  · cases e
def absD : List D → Option D | [.int i] => some (.int (if i < 0 then -i else i)) | _ => none
theorem ca_abs : CallR X (.builtin "abs") (rAs K E (aFn absD)) := CallR.weak call_abs fun u H Q h => by
  replace h := aFn_of h
  obtain ⟨c, l, d, rfl, r, e, h⟩ := h
  unfold absD at e
  split at e
  · cases e
    replace r := rc1 r
    obtain ⟨u, rfl, r⟩ := r
    cases r
    exact ⟨_, rfl, h.int⟩
  · cases e
def max2D : List D → Option D | [.int i, .int j] => some (.int (if j > i then j else i)) | _ => none
def min2D : List D → Option D | [.int i, .int j] => some (.int (if j < i then j else i)) | _ => none
theorem ca_max2 (hc : X.calm = true) : CallR X (.builtin "max") (rAs K E (aFn max2D)) := CallR.weak (call_max2 hc) fun u H Q h => by
  replace h := aFn_of h
  obtain ⟨c, l, d, rfl, r, e, h⟩ := h
  unfold max2D at e
  split at e
  · cases e
    replace r := rc2 r
    obtain ⟨u, u', rfl, r, r'⟩ := r
    cases r; cases r'
    exact ⟨_, _, rfl, h.int⟩
  · cases e
theorem ca_min2 (hc : X.calm = true) : CallR X (.builtin "min") (rAs K E (aFn min2D)) := CallR.weak (call_min2 hc) fun u H Q h => by
  replace h := aFn_of h
  obtain ⟨c, l, d, rfl, r, e, h⟩ := h
  unfold min2D at e
  split at e
  · cases e
    replace r := rc2 r
    obtain ⟨u, u', rfl, r, r'⟩ := r
    cases r; cases r'
    exact ⟨_, _, rfl, h.int⟩
  · cases e
def divmodD : List D → Option D | [.int i, .int j] => if CDiv i j then some (.tup [.int (i / j), .int (i % j)]) else none | _ => none
theorem ca_divmod : CallR X (.builtin "divmod") (rAs K E (aFn divmodD)) := CallR.weak call_divmod fun u H Q h => by
  replace h := aFn_of h
  obtain ⟨c, l, d, rfl, r, e, h⟩ := h
  unfold divmodD at e
  split at e
  · split at e
    · rename_i hc
      cases e
      replace r := rc2 r
      obtain ⟨u, u', rfl, r, r'⟩ := r
      cases r; cases r'
      exact ⟨_, _, rfl, hc, fun p hp => h.tup (.cons (.int _) (.cons (.int _) .nil)) hp⟩
    · cases e
  · cases e
def intFD : List D → Option D
  | [.int i] => some (.int i)
  | [.bl k] => some (.int (if k then 1 else 0))
  | [.str x] => if x.length ≤ 640 then (PySem.intText? x).map .int else none
  | _ => none
theorem ca_int : CallR X (.type "int") (rAs K E (aFn intFD)) := CallR.weak (CallR.or call_int1 call_int_str) fun u H Q h => by
  replace h := aFn_of h
  obtain ⟨c, l, d, rfl, r, e, h⟩ := h
  unfold intFD at e
  split at e
  · cases e
    replace r := rc1 r
    obtain ⟨u, rfl, r⟩ := r
    cases r
    exact .inl (.inl ⟨_, rfl, h.int⟩)
  · cases e
    replace r := rc1 r
    obtain ⟨u, rfl, r⟩ := r
    cases r
    exact .inl (.inr ⟨_, rfl, h.int⟩)
  · split at e
    · rename_i x hx
      replace r := rc1 r
      obtain ⟨u, rfl, r⟩ := r
      cases r
      cases e2 : PySem.intText? x with
      | none => rw [e2] at e; cases e
      | some n =>
        rw [e2] at e
        cases e
        exact .inr ⟨x, n, rfl, e2, hx, h.int⟩
    · cases e
  · cases e
def strFD : List D → Option D
  | [.int i] => if i.natAbs.log2 < 1920 then some (.str (Str.ofString (toString i))) else none
  | _ => none
theorem ca_strI (hz : ∀ i : Int, i.natAbs.log2 < 1920 → (Str.ofString (toString i)).length ≤ sizeLine) : CallR X (.type "str") (rAs K E (aFn strFD)) := CallR.weak call_str_int fun u H Q h => by
  replace h := aFn_of h
  obtain ⟨c, l, d, rfl, r, e, h⟩ := h
  unfold strFD at e
  split at e
  · split at e
    · rename_i i hi
      cases e
      replace r := rc1 r
      obtain ⟨u, rfl, r⟩ := r
      cases r
      exact ⟨_, rfl, hi, h.str (hz _ hi)⟩
    · cases e
  · cases e
def tupFD : List D → Option D | [.lst l] => some (.tup l) | [.tup l] => some (.tup l) | [.fl l] => some (.tup l) | _ => none
theorem ca_tuple (hK : X.K = K) : CallR X (.type "tuple") (rAs K E (aFn tupFD)) := by
  subst hK
  refine CallR.weak call_tuple_of fun u H Q h => ?_
  replace h := aFn_of h
  obtain ⟨c, l, d, rfl, r, e, h⟩ := h
  unfold tupFD at e
  split at e
  · cases e
    replace r := rc1 r
    obtain ⟨u, rfl, r⟩ := r
    obtain ⟨a, xs, rfl, q1, q2⟩ := r
    exact ⟨_, _, rfl, .inl ⟨.inl (.inl q1), fun p hp => h.tup q2 hp⟩⟩
  · cases e
    replace r := rc1 r
    obtain ⟨u, rfl, r⟩ := r
    cases r with
    | tup q1 q2 => exact ⟨_, _, rfl, .inr ⟨Same.tup c.sub q1, h.ok (show Rd X.K _ _ _ from .tup q1 q2)⟩⟩
  · cases e
    replace r := rc1 r
    obtain ⟨u, rfl, r⟩ := r
    cases r with
    | fl q1 q2 => exact ⟨_, _, rfl, .inl ⟨sqL_same c.sub q1, fun p hp => h.tup q2 hp⟩⟩
  · cases e
def lstFD : List D → Option D | [.lst l] => some (.lst l) | [.tup l] => some (.lst l) | [.fl l] => some (.lst l) | _ => none
theorem ca_list (hK : X.K = K) : CallR X (.type "list") (rAs K E (aFn lstFD)) := by
  subst hK
  refine CallR.weak call_list_of fun u H Q h => ?_
  replace h := aFn_of h
  obtain ⟨c, l, d, rfl, r, e, h⟩ := h
  unfold lstFD at e
  split at e
  · cases e
    replace r := rc1 r
    obtain ⟨u, rfl, r⟩ := r
    obtain ⟨a, xs, rfl, q1, q2⟩ := r
    exact ⟨_, _, rfl, .inl (.inl (.inl q1)), fun p hp => h.lst q2 hp⟩
  · cases e
    replace r := rc1 r
    obtain ⟨u, rfl, r⟩ := r
    cases r with
    | tup q1 q2 => exact ⟨_, _, rfl, .inr (Same.tup c.sub q1), fun p hp => h.lst q2 hp⟩
  · cases e
    replace r := rc1 r
    obtain ⟨u, rfl, r⟩ := r
    cases r with
    | fl q1 q2 => exact ⟨_, _, rfl, .inl (sqL_same c.sub q1), fun p hp => h.lst q2 hp⟩
  · cases e
/-- lists of one kind -/
def blsD : List D → Option (List Bool) | [] => some [] | .bl b :: l => (blsD l).map (b :: ·) | _ => none
def intsD : List D → Option (List Int) | [] => some [] | .int b :: l => (intsD l).map (b :: ·) | _ => none
def strsD : List D → Option (List Str) | [] => some [] | .str b :: l => (strsD l).map (b :: ·) | _ => none
theorem bls_ok {G : Hp} : ∀ {l : List D} {xs : List V} {bs : List Bool}, blsD l = some bs → Rds K G l xs → xs = bs.map V.bl
  | [], _, _, h, .nil => by cases h; rfl
  | .bl b :: l, _, _, h, .cons h1 h2 => by
    unfold blsD at h
    cases e : blsD l with
    | none => rw [e] at h; cases h
    | some bs => rw [e] at h; cases h; cases h1; rw [bls_ok e h2]; rfl
theorem ints_ok {G : Hp} : ∀ {l : List D} {xs : List V} {bs : List Int}, intsD l = some bs → Rds K G l xs → xs = bs.map V.int
  | [], _, _, h, .nil => by cases h; rfl
  | .int b :: l, _, _, h, .cons h1 h2 => by
    unfold intsD at h
    cases e : intsD l with
    | none => rw [e] at h; cases h
    | some bs => rw [e] at h; cases h; cases h1; rw [ints_ok e h2]; rfl
theorem strs_ok {G : Hp} : ∀ {l : List D} {xs : List V} {bs : List Str}, strsD l = some bs → Rds K G l xs → xs = bs.map V.str
  | [], _, _, h, .nil => by cases h; rfl
  | .str b :: l, _, _, h, .cons h1 h2 => by
    unfold strsD at h
    cases e : strsD l with
    | none => rw [e] at h; cases h
    | some bs => rw [e] at h; cases h; cases h1; rw [strs_ok e h2]; rfl
def allD' : List D → Option D | [.lst l] => (blsD l).map fun bs => .bl (bs.all id) | _ => none
def anyD' : List D → Option D | [.lst l] => (blsD l).map fun bs => .bl (bs.any id) | _ => none
def sumD' : List D → Option D | [.lst l] => (intsD l).map fun bs => .int bs.sum | _ => none
theorem ca_all (hK : X.K = K) (hc : X.calm = true) : CallR X (.builtin "all") (rAs K E (aFn allD')) := by
  subst hK
  refine CallR.weak (cr_all hc) fun u H Q h => ?_
  replace h := aFn_of h
  obtain ⟨c, l, d, rfl, r, e, h⟩ := h
  unfold allD' at e
  split at e
  · rename_i l
    replace r := rc1 r
    obtain ⟨u, rfl, r⟩ := r
    obtain ⟨a, xs, rfl, q1, q2⟩ := r
    cases e2 : blsD l with
    | none => rw [e2] at e; cases e
    | some bs =>
      rw [e2] at e
      cases e
      rw [bls_ok e2 q2] at q1
      exact ⟨_, bs, rfl, .inl (.inl q1), h.bl⟩
  · cases e
theorem ca_any (hK : X.K = K) (hc : X.calm = true) : CallR X (.builtin "any") (rAs K E (aFn anyD')) := by
  subst hK
  refine CallR.weak (cr_any hc) fun u H Q h => ?_
  replace h := aFn_of h
  obtain ⟨c, l, d, rfl, r, e, h⟩ := h
  unfold anyD' at e
  split at e
  · rename_i l
    replace r := rc1 r
    obtain ⟨u, rfl, r⟩ := r
    obtain ⟨a, xs, rfl, q1, q2⟩ := r
    cases e2 : blsD l with
    | none => rw [e2] at e; cases e
    | some bs =>
      rw [e2] at e
      cases e
      rw [bls_ok e2 q2] at q1
      exact ⟨_, bs, rfl, .inl (.inl q1), h.bl⟩
  · cases e
theorem ca_sum (hK : X.K = K) (hc : X.calm = true) : CallR X (.builtin "sum") (rAs K E (aFn sumD')) := by
  subst hK
  refine CallR.weak (cr_sum hc) fun u H Q h => ?_
  replace h := aFn_of h
  obtain ⟨c, l, d, rfl, r, e, h⟩ := h
  unfold sumD' at e
  split at e
  · rename_i l
    replace r := rc1 r
    obtain ⟨u, rfl, r⟩ := r
    obtain ⟨a, xs, rfl, q1, q2⟩ := r
    cases e2 : intsD l with
    | none => rw [e2] at e; cases e
    | some bs =>
      rw [e2] at e
      cases e
      rw [ints_ok e2 q2] at q1
      exact ⟨_, bs, rfl, .inl (.inl q1), h.int⟩
  · cases e
/-- repr -/
def reprD : List D → Option D
  | [d] => match toP d with
    | some p => if isDisplay p && p.showable && decide (p.depth ≤ 60) && decide (p.shown.length ≤ sizeLine) then some (.str p.shown) else none
    | none => none
  | _ => none
theorem ca_repr (hK : X.K = K) (hG : X.A.guards = some []) (hu : X.A.units + 64 < cLine) : CallR X (.builtin "repr") (rAs K E (aFn reprD)) := by
  subst hK
  refine CallR.weak (call_repr hG hu) fun u H Q h => ?_
  replace h := aFn_of h
  obtain ⟨c, l, d, rfl, r, e, h⟩ := h
  unfold reprD at e
  split at e
  · replace r := rc1 r
    obtain ⟨u, rfl, r⟩ := r
    split at e
    · rename_i p ep
      split at e
      · rename_i hs
        cases e
        simp only [Bool.and_eq_true, decide_eq_true_eq] at hs
        exact ⟨u, p, rfl, rc_dp ep r, hs.1.1.1, hs.1.1.2, hs.1.2, hs.2, h.str hs.2⟩
      · cases e
    · cases e
  · cases e
/-! ## in -/
def flD : D → Option V | .non => some .non | .bl b => some (.bl b) | .int i => some (.int i) | .str x => some (.str x) | _ => none
def flsD : List D → Option (List V) | [] => some [] | d :: l => (flD d).bind fun v => (flsD l).map (v :: ·)
theorem fl_ok {G : Hp} {d : D} {v w : V} (h : flD d = some v) (r : Rd K G d w) : w = v ∧ flatV v = true := by
  cases r <;> simp [flD] at h <;> subst h <;> exact ⟨rfl, rfl⟩
theorem fls_ok {G : Hp} : ∀ {l : List D} {xs vs : List V}, flsD l = some vs → Rds K G l xs → xs = vs ∧ vs.all flatV = true
  | [], _, _, h, .nil => by cases h; exact ⟨rfl, rfl⟩
  | d :: l, _, _, h, .cons h1 h2 => by
    unfold flsD at h
    cases e1 : flD d with
    | none => rw [e1] at h; cases h
    | some v =>
      rw [e1] at h
      cases e : flsD l with
      | none => simp only [Option.bind_some, e] at h; cases h
      | some bs =>
        simp only [Option.bind_some, e] at h
        cases h
        obtain ⟨rfl, f1⟩ := fl_ok e1 h1
        obtain ⟨rfl, f2⟩ := fls_ok e h2
        exact ⟨rfl, by rw [List.all_cons, f1, f2]; rfl⟩
theorem rc_fl {c : Cfg K} {d : D} {v w : V} (h : flD d = some v) (r : Rc c d w) : w = v ∧ flatV v = true := by
  cases d with
  | lst l => cases h
  | obj C fs => cases h
  | dic kvs => cases h
  | _ => exact fl_ok h r
def inDD (x : D) (y : D) : Option Bool := match y with
  | .str z => match x with
    | .str s => if s.length = 1 then some (decide (s.cps.getD 0 0 ∈ z.cps.toList)) else some (!(Builtin.Str.occurrences z s 0 z.length 1).isEmpty)
    | _ => none
  | .lst l => match flD x, flsD l with
    | some v, some vs => some (inV v vs)
    | _, _ => match toP x, toPs l with
      | some p, some ps => if SeqAt.shaped p && SeqAt.shaped (.list ps) then some (ps.any fun z => PyData.eqv z p) else none
      | _, _ => none
  | .tup l => match flD x, flsD l with
    | some v, some vs => some (inV v vs)
    | _, _ => none
  | .tux l => match flD x, flsD l with
    | some v, some vs => some (inV v vs)
    | _, _ => none
  | _ => none
def inD (x y : D) : Option D := (inDD x y).map .bl
def notInD (x y : D) : Option D := (inDD x y).map fun b => .bl (!b)
theorem str1 {s : Str} (h : s.length = 1) : s = ⟨#[s.cps.getD 0 0]⟩ := by
  obtain ⟨⟨l⟩⟩ := s
  have h' : l.length = 1 := h
  obtain ⟨c, rfl⟩ := List.length_eq_one_iff.mp h'
  rfl
theorem in_cases {c : Cfg K} {x y : D} {u v : V} {b : Bool} (ra : Rc c x u) (rb : Rc c y v) (e : inDD x y = some b) :
    (∃ s z, u = .str ⟨#[s]⟩ ∧ v = .str z ∧ b = decide (s ∈ z.cps.toList)) ∨ (∃ s z, u = .str s ∧ v = .str z ∧ b = !(Builtin.Str.occurrences z s 0 z.length 1).isEmpty) ∨
    (∃ p xs, v = .ref p ∧ (SqL K c.H p xs ∨ SqT K c.H p xs) ∧ flatV u = true ∧ xs.all flatV = true ∧ b = inV u xs) ∨
    (∃ d ds, Dp K c.H u d ∧ Dp K c.H v (.list ds) ∧ SeqAt.shaped d = true ∧ SeqAt.shaped (.list ds) = true ∧ b = ds.any fun z => PyData.eqv z d) := by
  unfold inDD at e
  split at e
  · split at e
    · split at e
      · rename_i z s hs
        cases e
        cases ra; cases rb
        exact .inl ⟨_, _, by rw [← str1 hs], rfl, rfl⟩
      · cases e
        cases ra; cases rb
        exact .inr (.inl ⟨_, _, rfl, rfl, rfl⟩)
    · cases e
  · rename_i l
    obtain ⟨a, xs, rfl, q1, q2⟩ := rb
    split at e
    · rename_i v vs e1 e2
      cases e
      obtain ⟨rfl, f1⟩ := rc_fl e1 ra
      obtain ⟨rfl, f2⟩ := fls_ok e2 q2
      exact .inr (.inr (.inl ⟨_, _, rfl, .inl (.inl (.inl q1)), f1, f2, rfl⟩))
    · split at e
      · rename_i p ps ep eps
        split at e
        · rename_i hs
          cases e
          rw [Bool.and_eq_true] at hs
          exact .inr (.inr (.inr ⟨p, ps, rc_dp ep ra, .lst (.inl (.inl q1)) (dpsS c.sub (toPs_ok eps q2)), hs.1, hs.2, rfl⟩))
        · cases e
      · cases e
  · split at e
    · rename_i v vs e1 e2
      cases e
      cases rb with
      | tup q1 q2 =>
        obtain ⟨rfl, f1⟩ := rc_fl e1 ra
        obtain ⟨rfl, f2⟩ := fls_ok e2 q2
        exact .inr (.inr (.inl ⟨_, _, rfl, .inr (Same.tup c.sub q1), f1, f2, rfl⟩))
    · cases e
  · split at e
    · rename_i v vs e1 e2
      cases e
      cases rb with
      | tux q1 hd q2 =>
        obtain ⟨rfl, f1⟩ := rc_fl e1 ra
        obtain ⟨rfl, f2⟩ := fls_ok e2 q2
        exact .inr (.inr (.inl ⟨_, _, rfl, .inr (.inl (.inr ⟨_, c.sub _ _ q1⟩)), f1, f2, rfl⟩))
    · cases e
  · cases e
end
end AM
set_option Elab.async false
set_option linter.all false
set_option maxRecDepth 100000
set_option maxHeartbeats 4000000
namespace AM
open PySem PySem.Spec PyProof.Rows L2 Bk
open PySem.W (Frag)
variable {K : Frag}
section
variable {X : Cx} {E : XK} {pos apos : Pos} {a b e o : Expr} {fa fb f : ME} {es : List Expr} {fs : MA}
theorem oa_in (hK : X.K = K) (hu : X.A.units + 65 < cLine) : OpR X (compareOp .In) (rA K E (aBin inD)) := by
  subst hK
  refine OpR.weak (OpR.or op_in_sign (OpR.or op_in_str (OpR.or op_in_seq (op_inD hu)))) fun u v H Q h => ?_
  replace h := aBin_of h
  obtain ⟨c, a, b, d, rfl, ra, rb, e, h⟩ := h
  unfold inD at e
  cases e2 : inDD a b with
  | none => rw [e2] at e; cases e
  | some r =>
    rw [e2] at e
    cases e
    rcases in_cases ra rb e2 with ⟨s, z, rfl, rfl, rfl⟩ | ⟨s, z, rfl, rfl, rfl⟩ | ⟨p, xs, rfl, h1, h2, h3, rfl⟩ | ⟨d, ds, h1, h2, h3, h4, rfl⟩
    · exact .inl ⟨_, _, rfl, rfl, h.bl⟩
    · exact .inr (.inl ⟨_, _, rfl, rfl, h.bl⟩)
    · exact .inr (.inr (.inl ⟨_, _, rfl, h1, h2, h3, h.bl⟩))
    · exact .inr (.inr (.inr ⟨_, _, h1, h2, h3, h4, h.bl⟩))
theorem oa_notIn (hK : X.K = K) (hu : X.A.units + 65 < cLine) : OpR X (compareOp .NotIn) (rA K E (aBin notInD)) := by
  subst hK
  refine OpR.weak (OpR.or op_notIn_sign (OpR.or op_notin_str (OpR.or op_notIn_seq (op_notInD hu)))) fun u v H Q h => ?_
  replace h := aBin_of h
  obtain ⟨c, a, b, d, rfl, ra, rb, e, h⟩ := h
  unfold notInD at e
  cases e2 : inDD a b with
  | none => rw [e2] at e; cases e
  | some r =>
    rw [e2] at e
    cases e
    rcases in_cases ra rb e2 with ⟨s, z, rfl, rfl, rfl⟩ | ⟨s, z, rfl, rfl, rfl⟩ | ⟨p, xs, rfl, h1, h2, h3, rfl⟩ | ⟨d, ds, h1, h2, h3, h4, rfl⟩
    · exact .inl ⟨_, _, rfl, rfl, h.bl⟩
    · exact .inr (.inl ⟨_, _, rfl, rfl, h.bl⟩)
    · exact .inr (.inr (.inl ⟨_, _, rfl, h1, h2, h3, h.bl⟩))
    · exact .inr (.inr (.inr ⟨_, _, h1, h2, h3, h4, h.bl⟩))
/-! ## isinstance -/
def kindOf : D → Option String
  | .non => some "NoneType" | .bl _ => some "bool" | .int _ => some "int" | .str _ => some "str" | .tup _ => some "tuple" | .lst _ => some "list" | .fl _ => some "list" | .dic _ => some "dict" | .tux _ => some "tuple" | _ => none
/-- own classes: what is known of them -/
def plainTys : List String := ["NoneType", "bool", "int", "str", "tuple", "list", "dict"]
def clsB (own : List Str) (K : Frag) : Bool := own.all fun C => insB C K && plainTys.all (fun T => decide (PySem.W.kitOne K (.type T) (.ref (He.ga K C)) = some false) && decide (PySem.W.kitOne K (.ref (He.ga K C)) (.type T) = some false) && PySem.W.notFirst K (He.ga K C) (.type T))
  && own.all fun D => decide (PySem.W.kitOne K (.ref (He.ga K C)) (.ref (He.ga K D)) = some (C == D)) && PySem.W.notFirst K (He.ga K C) (.ref (He.ga K D))
structure Own (K : Frag) (own : List Str) : Prop where
  cl : ∀ C ∈ own, Cls K (He.ga K C)
  b : clsB own K = true
theorem Own.ins {own : List Str} (w : Own K own) {C : Str} (h : C ∈ own) : insB C K = true := by
  have := List.all_eq_true.mp w.b C h
  simp only [Bool.and_eq_true] at this
  exact this.1.1
theorem Own.pt {own : List Str} (w : Own K own) {C : Str} (h : C ∈ own) {T : String} (hT : T ∈ plainTys) : PySem.W.kitOne K (.type T) (.ref (He.ga K C)) = some false ∧ PySem.W.kitOne K (.ref (He.ga K C)) (.type T) = some false ∧ PySem.W.notFirst K (He.ga K C) (.type T) = true := by
  have := List.all_eq_true.mp w.b C h
  simp only [Bool.and_eq_true] at this
  have := List.all_eq_true.mp this.1.2 T hT
  simp only [Bool.and_eq_true, decide_eq_true_eq] at this
  exact ⟨this.1.1, this.1.2, this.2⟩
theorem Own.pc {own : List Str} (w : Own K own) {C D : Str} (h : C ∈ own) (hD : D ∈ own) : PySem.W.kitOne K (.ref (He.ga K C)) (.ref (He.ga K D)) = some (C == D) ∧ PySem.W.notFirst K (He.ga K C) (.ref (He.ga K D)) = true := by
  have := List.all_eq_true.mp w.b C h
  simp only [Bool.and_eq_true] at this
  have := List.all_eq_true.mp this.2 D hD
  simp only [Bool.and_eq_true, decide_eq_true_eq] at this
  exact this
theorem tyL {H : Hp} {a : Addr} {xs : List V} (h : SqL K H a xs) : TyX K H (.ref a) (.type "list") := by
  rcases h with (h | ⟨o, h⟩) | ⟨o, its, n, h, hc, _⟩
  · exact .base (.lst h)
  · exact .base (.frz h)
  · exact .kList h hc
theorem tyT {H : Hp} {a : Addr} {xs : List V} (h : SqT K H a xs) : TyX K H (.ref a) (.type "tuple") := by
  rcases h with (h | ⟨o, h⟩) | ⟨o, its, n, h, hc, _⟩
  · exact .base (.tup h)
  · exact .fTuple h
  · exact .kTuple h hc
theorem kind_ty {c : Cfg K} {d : D} {T : String} {u : V} (h : kindOf d = some T) (r : Rc c d u) : TyX K c.H u (.type T) ∧ T ∈ plainTys := by
  cases d with
  | lst l => cases h; obtain ⟨a, xs, rfl, q1, _⟩ := r; exact ⟨.base (.lst q1), by decide⟩
  | obj C fs => cases h
  | ty n => cases h
  | cls C => cases h
  | dic l => cases h; obtain ⟨a, vs, rfl, q1, _⟩ := r; exact ⟨.base (.dK q1), by decide⟩
  | tux l => cases h; cases r with | tux h1 _ _ => exact ⟨tyT (.inl (.inr ⟨_, c.sub _ _ h1⟩)), by decide⟩
  | non => cases h; cases r; exact ⟨.base .non, by decide⟩
  | bl b => cases h; cases r; exact ⟨.base (.bl _), by decide⟩
  | int b => cases h; cases r; exact ⟨.base (.int _), by decide⟩
  | str b => cases h; cases r; exact ⟨.base (.str _), by decide⟩
  | tup l => cases h; cases r with | tup h1 _ => exact ⟨tyT (Same.tup c.sub h1), by decide⟩
  | fl l => cases h; cases r with | fl h1 _ => exact ⟨tyL (sqL_same c.sub h1), by decide⟩
def isiDD (own : List Str) (d : D) : D → Option Bool
  | .ty T => match kindOf d with
    | some k => kitB k T
    | none => match d with | .obj C _ => if C ∈ own ∧ T ∈ plainTys then some false else none | _ => none
  | .cls D => if D ∈ own then (match kindOf d with
    | some _ => some false
    | none => match d with | .obj C _ => if C ∈ own then some (C == D) else none | _ => none) else none
  | _ => none
def isiD (own : List Str) : List D → Option D
  | [d, c] => (isiDD own d c).map .bl
  | _ => none
theorem ca_isi {own : List Str} (hK : X.K = K) (w : Own K own) : CallR X (.builtin "isinstance") (rAs K E (aFn (isiD own))) := by
  subst hK
  refine CallR.weak call_isi fun u H Q h => ?_
  replace h := aFn_of h
  obtain ⟨c, l, d, rfl, r, e, h⟩ := h
  unfold isiD at e
  split at e
  · rename_i d cl
    replace r := rc2 r
    obtain ⟨u, u', rfl, r, r'⟩ := r
    cases e2 : isiDD own d cl with
    | none => rw [e2] at e; cases e
    | some b =>
      rw [e2] at e
      cases e
      unfold isiDD at e2
      split at e2
      · rename_i T
        cases r'
        split at e2
        · rename_i k hk
          obtain ⟨t1, t2⟩ := kind_ty hk r
          exact ⟨u, _, _, _, b, rfl, .ty T, t1, kit_ty e2, h.bl⟩
        · split at e2
          · split at e2
            · rename_i C fs hC
              cases e2
              obtain ⟨a, dx, gs, rfl, q1, _⟩ := r
              exact ⟨_, _, _, _, false, rfl, .ty T, .base (insB_ok (w.ins hC.1) (w.cl _ hC.1) q1), (w.pt hC.1 hC.2).2.1, h.bl⟩
            · cases e2
          · cases e2
      · rename_i D
        cases r'
        split at e2
        · rename_i hD
          split at e2
          · rename_i k hk
            cases e2
            obtain ⟨t1, t2⟩ := kind_ty hk r
            exact ⟨u, _, _, _, false, rfl, .own _, t1, (w.pt hD t2).1, h.bl⟩
          · split at e2
            · split at e2
              · rename_i C fs hC
                cases e2
                obtain ⟨a, dx, gs, rfl, q1, _⟩ := r
                exact ⟨_, _, _, _, _, rfl, .own _, .base (insB_ok (w.ins hC) (w.cl _ hC) q1), (w.pc hC hD).1, h.bl⟩
              · cases e2
            · cases e2
        · cases e2
      · cases e2
  · cases e
/-- a class as a value -/
theorem de_ty {x : Str} {n : String} (hg : Gl X x) (hm : X.mg x = none) (hv : bootBuiltins x = some (.type n)) (hn : x ≠ "__name__" := by decide) (hd : (x == ("__debug__" : Str)) = false := by decide) : PE X (.Name x pos) (aE K E (cC (.ty n))) :=
  (pe_bltn (v := .ty n) hg hm hv rfl hn hd).weak fun _ _ _ h => aE_c (fun _ => .ty n) h
theorem de_cls {x : Str} (hg : Gl X x) (hm : X.mg x = some (.ref (He.ga K x))) (hd : (x == ("__debug__" : Str)) = false := by decide) : PE X (.Name x pos) (aE K E (cC (.cls x))) :=
  (pe_glob (v := .ref (He.ga K x)) hg hm rfl hd).weak fun _ _ _ h => aE_c (fun _ => .cls x) h
/-- constants of the module -/
theorem de_gint {x : Str} {i : Int} (hg : Gl X x) (hm : ∃ t, X.mg x = some (.int i t)) (hd : (x == ("__debug__" : Str)) = false := by decide) : PE X (.Name x pos) (aE K E (cC (.int i))) := by
  obtain ⟨t, hm⟩ := hm
  exact (pe_glob (v := .int i) hg hm ⟨_, rfl⟩ hd).weak fun _ _ _ h => aE_c (fun _ => .int i) h
theorem de_gstr {x y : Str} (hg : Gl X x) (hm : ∃ t, X.mg x = some (.str y t)) (hy : y.length ≤ sizeLine := by decide +kernel) (hd : (x == ("__debug__" : Str)) = false := by decide) : PE X (.Name x pos) (aE K E (cC (.str y))) := by
  obtain ⟨t, hm⟩ := hm
  exact (pe_glob (v := .str y) hg hm ⟨_, rfl⟩ hd).weak fun _ _ _ h => aE_c (fun _ => .str y hy) h
/-! ## methods of texts -/
def cM1 (g : Str → D → Option D) (fa fb : ME) : ME := fun ε S => (fa ε S).bind fun x S => match x with
  | .val (.str s) => (fb ε S).bind fun y S => match view y S with
    | some d => match g s d with | some r => .ok (.val r) S | none => .bad
    | none => .bad
  | _ => .bad
def rM1 (K : Frag) (E : XK) (g : Str → D → Option D) : V → List V → Hp → VK → Prop := fun x xs H Q => ∃ (c : Cfg K) (s : Str) (d r : D) (y : V), c.H = H ∧ x = .str s ∧ s.length ≤ sizeLine ∧ xs = [y] ∧ Rc c d y ∧ g s d = some r ∧ AP c (.ok (.val r) c.S) Q E
theorem m1_of {g : Str → D → Option D} {σ : L2.St} {H : Hp} {Q : VK} (h : aE K E (cM1 g fa fb) σ H Q) : tM1 (rM1 K E g) (aE K E fa) (aE K E fb) σ H Q := by
  obtain ⟨c, ε, rfl, re, h⟩ := h
  refine ee re h fun c1 w1 u1 l1 r1 h1 => ?_
  split at h1
  · rename_i s
    cases r1 with
    | str _ hz =>
      refine ⟨⟨_, rfl⟩, ee (re.mono l1) h1 fun c2 w2 u2 l2 r2 h2 => ?_⟩
      split at h2
      · rename_i d ed
        split at h2
        · rename_i r er
          exact ⟨c2, s, d, r, u2, rfl, rfl, hz, rfl, view_ok ed r2, er, h2⟩
        · exact h2.elim
      · exact h2.elim
  · exact h1.elim
theorem MtR.weak {id : String} {r r' : V → List V → Hp → VK → Prop} (h : MtR X id r) (k : ∀ u v H Q, r' u v H Q → r u v H Q) : MtR X id r' := fun pins s σ H x xs v us Q I rx rs hw => h pins s σ H x xs v us Q I rx rs (k x xs H Q hw)
theorem de_m1 {id : String} {name : Str} {g : Str → D → Option D} (slot : Slot "str" name id) (ty : typeOf (.builtin id) = pure (.type "method_descriptor")) (rule : MtR X id (rM1 K E g)) (ho : PE X o (aE K E fa)) (he : PE X e (aE K E fb))
    (hs : starEach [e] X.env = [(false, eval e X.env)] := by rfl) (hbase : attributeBase o name X.env (eval o X.env) = eval o X.env := by rfl) (hline : (apos.endLine == pos.line) = true := by rfl) :
    PE X (.Call (.Attribute o name apos) [e] [] pos) (aE K E (cM1 g fa fb)) := (pe_m1 slot ty rule ho he hs hbase hline).weak fun _ _ _ h => m1_of h
theorem join_len (a : Str) : ∀ ys : List Str, (Str.join a ys).length ≤ (ys.map (·.length)).sum + ys.length * a.length
  | [] => Nat.zero_le _
  | [x] => by simp [Str.join]
  | x :: y :: r => by
    have ih := join_len a (y :: r)
    have e : Str.join a (x :: y :: r) = x ++ a ++ Str.join a (y :: r) := rfl
    rw [e, Str.length_append, Str.length_append, List.map_cons, List.sum_cons, List.length_cons, Nat.add_mul, Nat.one_mul]
    omega
def joinD (a : Str) : D → Option D
  | .lst l => match strsD l with
    | some ys => if (ys.map (·.length)).sum + ys.length * a.length ≤ 16777216 then some (.str (Str.join a ys)) else none
    | none => none
  | .tup l => match strsD l with
    | some ys => if (ys.map (·.length)).sum + ys.length * a.length ≤ 16777216 then some (.str (Str.join a ys)) else none
    | none => none
  | _ => none
theorem ma_join (hK : X.K = K) : MtR X "str.join" (rM1 K E joinD) := by
  subst hK
  refine MtR.weak mt_join fun x xs H Q h => ?_
  obtain ⟨c, a, d, r, y, rfl, rfl, hz, rfl, rc, e, h⟩ := h
  unfold joinD at e
  split at e
  · split at e
    · rename_i ys es
      split at e
      · rename_i hl
        cases e
        obtain ⟨p, xs, rfl, q1, q2⟩ := rc
        rw [strs_ok es q2] at q1
        refine ⟨a, p, ys, rfl, rfl, .inl (.inl (.inl q1)), hl, ?_⟩
        rw [TL.join_eq]
        exact h.str (Nat.le_trans (join_len a ys) hl)
      · cases e
    · cases e
  · split at e
    · rename_i ys es
      split at e
      · rename_i hl
        cases e
        cases rc with
        | tup q1 q2 =>
          rw [strs_ok es q2] at q1
          refine ⟨a, _, ys, rfl, rfl, .inr (Same.tup c.sub q1), hl, ?_⟩
          rw [TL.join_eq]
          exact h.str (Nat.le_trans (join_len a ys) hl)
      · cases e
    · cases e
  · cases e
theorem spl_len (S : List Nat) (N : Nat) : ∀ (l acc : List Nat) (k : Nat), acc.length + l.length ≤ N → ∀ p ∈ TL.spl S k acc l, p.length ≤ N
  | [], acc, k, h, p, hp => by rw [TL.spl_nil, List.mem_singleton] at hp; subst hp; simpa using h
  | c :: r, acc, 0, h, p, hp => by
    simp only [List.length_cons] at h
    by_cases hq : TL.pre S (c :: r) = true
    · rw [TL.spl_hit hq, List.mem_cons] at hp
      rcases hp with rfl | hp
      · omega
      · exact spl_len S N r [] _ (by simp only [List.length_nil]; omega) p hp
    · rw [TL.spl_miss (by simpa using hq)] at hp
      exact spl_len S N r _ 0 (by rw [List.length_append]; simp only [List.length_cons, List.length_nil]; omega) p hp
  | c :: r, acc, k + 1, h, p, hp => spl_len S N r acc k (by simp only [List.length_cons] at h; omega) p hp
def splitS (a b : Str) : List Str := (TL.spl (TL.tl b) 0 [] (TL.tl a)).map fun l => ⟨l.toArray⟩
def splitD (a : Str) : D → Option D
  | .str b => if b.length ≠ 0 ∧ b.cps.all (· < 256) = true ∧ a.length + 2 ≤ sizeLine then some (.lst ((splitS a b).map .str)) else none
  | _ => none
theorem rds_strs {G : Hp} : ∀ {ys : List Str}, (∀ y ∈ ys, y.length ≤ sizeLine) → Rds K G (ys.map .str) (ys.map V.str)
  | [], _ => .nil
  | y :: ys, h => .cons (.str y (h y List.mem_cons_self)) (rds_strs fun z hz => h z (List.mem_cons_of_mem _ hz))
theorem splitS_eq {a b : Str} (h1 : b.length ≠ 0) (h2 : b.cps.all (· < 256) = true) : Txt.split a b = splitS a b := by
  refine TL.map_tl_inj ?_
  rw [TL.split_spl a b (fun z => h1 (by rw [TL.len_tl, z]; rfl)) (TL.kind_ok h2)]
  unfold splitS
  rw [List.map_map]
  have : (TL.tl ∘ fun l : List Nat => (⟨l.toArray⟩ : Str)) = id := by funext l; rfl
  rw [this, List.map_id]
theorem splitS_len {a b y : Str} (h : y ∈ splitS a b) : y.length ≤ a.length := by
  obtain ⟨l, hl, rfl⟩ := List.mem_map.mp h
  have := spl_len (TL.tl b) (TL.tl a).length (TL.tl a) [] 0 (by simp) l hl
  rw [TL.len_tl a]
  show l.toArray.size ≤ _
  rw [List.size_toArray]
  exact this
theorem ma_split : MtR X "str.split" (rM1 K E splitD) := by
  refine MtR.weak mt_split fun x xs H Q h => ?_
  obtain ⟨c, a, d, r, y, rfl, rfl, hz, rfl, rc, e, h⟩ := h
  unfold splitD at e
  split at e
  · split at e
    · rename_i b hb
      cases e
      cases rc
      refine ⟨a, b, rfl, rfl, by simpa using hb.1, hb.2.2, fun p hp => ?_⟩
      rw [splitS_eq hb.1 hb.2.1]
      exact h.lst (rds_strs fun y hy => Nat.le_trans (splitS_len hy) hz) hp
    · cases e
  · cases e
theorem de_join (hK : X.K = K) (ho : PE X o (aE K E fa)) (he : PE X e (aE K E fb)) (hs : starEach [e] X.env = [(false, eval e X.env)] := by rfl) (hbase : attributeBase o "join" X.env (eval o X.env) = eval o X.env := by rfl) (hline : (apos.endLine == pos.line) = true := by rfl) :
    PE X (.Call (.Attribute o "join" apos) [e] [] pos) (aE K E (cM1 joinD fa fb)) := de_m1 F.slot_str_join F.type_str_join (ma_join hK) ho he hs hbase hline
theorem de_split (ho : PE X o (aE K E fa)) (he : PE X e (aE K E fb)) (hs : starEach [e] X.env = [(false, eval e X.env)] := by rfl) (hbase : attributeBase o "split" X.env (eval o X.env) = eval o X.env := by rfl) (hline : (apos.endLine == pos.line) = true := by rfl) :
    PE X (.Call (.Attribute o "split" apos) [e] [] pos) (aE K E (cM1 splitD fa fb)) := de_m1 F.slot_str_split F.type_str_split ma_split ho he hs hbase hline
/-! ## lists that change -/
def isLst (n : Nat) (S : Sto) : Bool := match S[n]? with | some (.lst _) => true | _ => false
/-- g: the list, the arguments; the answer and the list behind it -/
def cMut (g : List D → List D → Option (D × List D)) (fo : ME) (fs : MA) : ME := fun ε S => (fo ε S).bind fun w S => match w with
  | .ref n => if isLst n S then (fs ε S).bind fun ws S => match toDs ws S with
    | some (ds, S) => match S[n]? with
      | some (.lst l) => match g l ds with | some (r, l') => .ok (.val r) (S.set n (.lst l')) | none => .bad
      | _ => .bad
    | none => .bad
    else .bad
  | _ => .bad
def rMut (K : Frag) (E : XK) (g : List D → List D → Option (D × List D)) : V → List V → Hp → VK → Prop := fun x vs H Q => ∃ (c : Cfg K) (a : Addr) (l l' ds : List D) (xs : List V) (r : D), c.H = H ∧ x = .ref a ∧ H a = some (.lst xs) ∧ Rds K c.G l xs ∧ Rds K c.G ds vs ∧ g l ds = some (r, l') ∧
  ∀ xs', Rds K c.G l' xs' → ∀ u, Rd K c.G r u → Q u (upd H a (.lst xs'))
theorem mut_of {g : List D → List D → Option (D × List D)} {σ : L2.St} {H : Hp} {Q : VK} (h : aE K E (cMut g f fs) σ H Q) : tBM K "list" (rMut K E g) (aE K E f) (aA K E fs) σ H Q := by
  obtain ⟨c, ε, rfl, re, h⟩ := h
  refine ee re h fun c1 w1 u1 l1 r1 h1 => ?_
  split at h1
  · rename_i n
    split at h1
    · rename_i hn
      obtain ⟨a, e1, rfl⟩ := r1
      have ty : ∃ xs, SqL K c1.H a xs := by
        unfold isLst at hn
        split at hn
        · rename_i l el
          obtain ⟨xs, e2, _⟩ := c1.at_ n a _ e1 el
          exact ⟨xs, .inl (.inl e2)⟩
        · cases hn
      refine ⟨.inl ⟨rfl, ty⟩, ae (re.mono l1) h1 fun c2 ws us l2 r2 h2 => ?_⟩
      split at h2
      · rename_i ds S3 e3
        obtain ⟨c3, l3, s3, hh3, r3⟩ := toDs_ok e3 r2
        split at h2
        · rename_i l el
          split at h2
          · rename_i r l' eg
            rw [← s3] at el h2
            have em : c3.m[n]? = some a := pre_get l3.m (pre_get l2.m e1)
            obtain ⟨xs, ex, rx⟩ := c3.at_ n a _ em el
            refine ⟨c3, a, l, l', ds, xs, r, hh3, rfl, by rw [← hh3]; exact ex, rx, r3, eg, fun xs' rx' u ru => ?_⟩
            have := h2 (c3.put n a _ (.lst l') (.lst xs') em el (fun z => by cases z) ⟨xs', rfl, rx'⟩) (l3.tr Cfg.put_le) rfl u ru
            rw [← hh3]
            exact this
          · exact h2.elim
        · exact h2.elim
      · exact h2.elim
    · exact h1.elim
  · exact h1.elim
theorem de_mut {g : List D → List D → Option (D × List D)} {name : Str} {id : String} (hK : X.K = K) (slot : Slot "list" name id) (hty : typeOf (.builtin id) = pure (.type "method_descriptor")) (hm : MtR X id (rMut K E g)) (ho : PE X o (aE K E f)) (ha : PA X (e :: es) (aA K E fs))
    (hbase : attributeBase o name X.env (eval o X.env) = eval o X.env := by rfl)
    (hfew : ((backTo pos (starEach (e :: es) X.env)).all (fun x => !x.1) && (backToKw pos (keywordEach [] X.env)).all (fun x => x.1.isSome)
      && decide ((e :: es).length + ([] : List Keyword).length + (if ([] : List Keyword).isEmpty then 0 else 1) < 30)) = true := by rfl)
    (hline : (apos.endLine == pos.line) = true := by rfl) (hs : starEach (e :: es) X.env = (false, eval e X.env) :: starEach es X.env := by rfl) (hplain : (backTo pos (starEach es X.env)).any (·.1) = false := by rfl) :
    PE X (.Call (.Attribute o name apos) (e :: es) [] pos) (aE K E (cMut g f fs)) := by
  subst hK
  exact (pe_bm PySem.F.plainAttrs_list slot hty hm ho ha hbase hfew hline hs hplain).weak fun _ _ _ h => mut_of h
def gAppend : List D → List D → Option (D × List D) | l, [d] => if l.length < sizeLine then some (.non, l ++ [d]) else none | _, _ => none
theorem ma_append : MtR X "list.append" (rMut K E gAppend) := MtR.weak mt_append fun x vs H Q h => by
  obtain ⟨c, a, l, l', ds, xs, r, rfl, rfl, hx, rx, rd, eg, q⟩ := h
  unfold gAppend at eg
  split at eg
  · split at eg
    · rename_i hz
      cases eg
      cases rd with
      | cons r1 r2 =>
        cases r2
        exact ⟨a, xs, _, rfl, rfl, hx, by rw [← rx.length]; exact hz, q _ (rx.app (.cons r1 .nil)) _ .non⟩
    · cases eg
  · cases eg
def gExtend : List D → List D → Option (D × List D) | l, [.lst z] => if l.length + z.length ≤ sizeLine then some (.non, l ++ z) else none | _, _ => none
theorem ma_extend : MtR X "list.extend" (rMut K E gExtend) := MtR.weak mt_extend fun x vs H Q h => by
  obtain ⟨c, a, l, l', ds, xs, r, rfl, rfl, hx, rx, rd, eg, q⟩ := h
  unfold gExtend at eg
  split at eg
  · split at eg
    · rename_i hz
      cases eg
      cases rd with
      | cons r1 r2 =>
        cases r2
        cases r1 with
        | lst h1 r1 => exact ⟨a, _, xs, _, rfl, rfl, hx, c.sub _ _ h1, by rw [← rx.length, ← r1.length]; exact hz, q _ (rx.app r1) _ .non⟩
    · cases eg
  · cases eg
def gPopAt : List D → List D → Option (D × List D) | l, [.int i] => if -(2 ^ 63) ≤ i ∧ i < 2 ^ 63 then (seqIndex? i l.length).bind fun k => (l[k]?).map fun d => (d, l.eraseIdx k) else none | _, _ => none
theorem ma_popAt : MtR X "list.pop" (rMut K E gPopAt) := MtR.weak mt_popAt fun x vs H Q h => by
  obtain ⟨c, a, l, l', ds, xs, r, rfl, rfl, hx, rx, rd, eg, q⟩ := h
  unfold gPopAt at eg
  split at eg
  · split at eg
    · rename_i i hi
      cases rd with
      | cons r1 r2 =>
        cases r2
        cases r1
        cases ek : seqIndex? i l.length with
        | none => rw [ek] at eg; cases eg
        | some k =>
          rw [ek] at eg
          cases ed : l[k]? with
          | none => simp only [Option.bind_some, ed] at eg; cases eg
          | some d =>
            simp only [Option.bind_some, ed] at eg
            cases eg
            obtain ⟨v, ev, rv⟩ := rx.get ed
            exact ⟨a, xs, i, k, v, rfl, rfl, hx, hi.1, hi.2, by rw [← rx.length]; exact ek, ev, q _ (rx.erase k) _ rv⟩
    · cases eg
  · cases eg
/-- x[i] = v -/
def sSetIx (fo fi fv : ME) : MS := fun ε S => (fv ε S).bindT fun v S => (fo ε S).bindT fun w S => (fi ε S).bindT fun i S => match w, i with
  | .ref n, .val (.int k) => match toD v S with
    | some (d, S) => match S[n]? with
      | some (.lst l) => match ixN l.length k with | some j => .nx ε (S.set n (.lst (l.set j d))) | none => .bad
      | _ => .bad
    | none => .bad
  | _, _ => .bad
theorem ds_setIx {i v : Expr} {fi fv : ME} {tpos : Pos} (hv : PE X v (aE K E fv)) (ho : PE X o (aE K E f)) (hi : PE X i (aE K E fi)) (ha : ∀ v, assign (.Subscript o i tpos) X.env v = (do
      let ov ← holding [v] (eval o X.env)
      let iv ← holding [v, ov] (eval i X.env)
      standAt tpos
      holding [v, ov, iv] (setItem ov iv v)
      release [v, ov, iv] []) := by intro _; rfl) (hs : swapsWithSole [.Subscript o i tpos] v pos.line X.env = pure false := by rfl) (hw : swappedStores [.Subscript o i tpos] v X.env = pure none := by rfl)
    (h1 : (assignEach [.Subscript o i tpos] X.env).map (·.2) = [assign (.Subscript o i tpos) X.env] := by rfl) : PS X (.Assign [.Subscript o i tpos] v pos) (aS K E (sSetIx f fi fv)) :=
  (ps_asg hv (pg_sub ho hi set_list ha) hs hw h1).weak fun D σ H h => by
    obtain ⟨c, ε, rfl, re, h⟩ := h
    refine AM.es re h fun c1 w1 u1 l1 r1 h1 => ?_
    refine AM.es (re.mono l1) h1 fun c2 w2 u2 l2 r2 h2 => ?_
    refine AM.es ((re.mono l1).mono l2) h2 fun c3 w3 u3 l3 r3 h3 => ?_
    split at h3
    · rename_i n k
      obtain ⟨a, e2, rfl⟩ := r2
      cases r3
      split at h3
      · rename_i d S4 e4
        obtain ⟨c4, l4, s4, hh4, r4⟩ := toD_ok e4 ((r1.mono l2).mono l3)
        split at h3
        · rename_i l el
          split at h3
          · rename_i j ej
            rw [← s4] at el h3
            have em : c4.m[n]? = some a := pre_get l4.m (pre_get l3.m e2)
            obtain ⟨xs, ex, rx⟩ := c4.at_ n a _ em el
            refine ⟨a, xs, k, j, rfl, rfl, by rw [← hh4]; exact ex, by rw [← rx.length]; exact ej, ?_⟩
            have := h3 (c4.put n a _ (.lst (l.set j d)) (.lst (xs.set j u1)) em el (fun z => by cases z) ⟨_, rfl, rx.set r4 j⟩) (l4.tr Cfg.put_le) rfl σ (((((re.mono l1).mono l2).mono l3).mono l4).mono Cfg.put_le)
            rw [← hh4]
            exact this
          · exact h3.elim
        · exact h3.elim
      · exact h3.elim
    · exact h3.elim
/-- a new list that will change -/
def cLstM (fs : MA) : ME := fun ε S => (fs ε S).bind fun ws S => match toDs ws S with | some (ds, S) => if ds.length ≤ sizeLine then .ok (.ref S.length) (S ++ [.lst ds]) else .bad | none => .bad
theorem de_lstM (h : PA X es (aA K E fs)) : PE X (.List es pos) (aE K E (cLstM fs)) :=
  (pe_lst h).weak fun σ H Q h => by
    obtain ⟨c, ε, rfl, re, h⟩ := h
    refine ae re h fun c1 ws us l1 r1 h1 => ?_
    split at h1
    · rename_i ds S e
      obtain ⟨c2, l2, rfl, e2, r2⟩ := toDs_ok e r1
      split at h1
      · rename_i hz
        refine ⟨by rw [← r2.length]; exact hz, fun p hp => ?_⟩
        rw [← e2] at hp ⊢
        refine (h1.up l2) (c2.push p (.lst ds) (.lst us) hp ⟨us, rfl, r2⟩) ⟨Same.rfl', List.prefix_append _ _⟩ rfl _ ⟨p, ?_, rfl⟩
        show (c2.m ++ [p])[c2.S.length]? = some p
        rw [List.getElem?_append_right (by rw [c2.len]; exact Nat.le_refl _), c2.len, Nat.sub_self]
        rfl
      · exact h1.elim
    · exact h1.elim
end
end AM
set_option Elab.async false
set_option linter.all false
set_option maxRecDepth 100000
set_option maxHeartbeats 4000000
namespace AM
open PySem PySem.Spec PyProof.Rows L2 Bk
open PySem.W (Frag)
variable {K : Frag}
theorem num_len {i : Int} (h0 : 0 ≤ i) (h : i.natAbs.log2 < 1920) : (Str.ofString (toString i)).length ≤ sizeLine := by
  obtain ⟨n, rfl⟩ := Int.eq_ofNat_of_zero_le h0
  rw [TL.len_tl, TL.tl_num]
  have h1 : n < 2 ^ 1920 := by
    by_cases hz : n = 0
    · subst hz; exact Nat.two_pow_pos _
    · exact (Nat.log2_lt hz).mp (by simpa using h)
  have h2 : (2 : Nat) ^ 1920 ≤ 10 ^ 1000 := by decide +kernel
  have := TL.numL_len (n := n) (k := 1000) (by decide) (Nat.lt_of_lt_of_le h1 h2)
  exact Nat.le_trans this (by decide)
section
variable {X : Cx} {E : XK} {pos apos p : Pos} {a b e o : Expr} {fa fb f : ME} {es : List Expr} {fs : MA} {C : Str} {F : F1} {k : Nat} {ps : List Str}
def strD : List D → Option D
  | [.int i] => if 0 ≤ i ∧ i.natAbs.log2 < 1920 then some (.str (Str.ofString (toString i))) else none
  | _ => none
theorem ca_str : CallR X (.type "str") (rAs K E (aFn strD)) := CallR.weak call_str_int fun u H Q h => by
  replace h := aFn_of h
  obtain ⟨c, l, d, rfl, r, e, h⟩ := h
  unfold strD at e
  split at e
  · split at e
    · rename_i i hi
      cases e
      replace r := rc1 r
      obtain ⟨u, rfl, r⟩ := r
      cases r
      exact ⟨_, rfl, hi.2, h.str (num_len hi.1 hi.2)⟩
    · cases e
  · cases e
/-! ## f-strings -/
def fmtD : D → Option D
  | .str x => some (.str x)
  | .int i => if 0 ≤ i ∧ i.natAbs.log2 < 1920 then some (.str (Str.ofString (toString i))) else none
  | _ => none
theorem de_fmt (he : PE X e (aE K E f)) : PE X (.FormattedValue e (-1) none pos) (aE K E (cUn (aUn fmtD) f)) := (pe_fmt he).weak fun σ H Q h => by
  obtain ⟨c, ε, rfl, re, h⟩ := h
  refine ee re h fun c1 w1 u1 l1 r1 h1 => ?_
  unfold aUn at h1
  split at h1
  · rename_i d ed
    have rc := view_ok ed r1
    split at h1
    · rename_i r er
      unfold fmtD at er
      split at er
      · cases er
        cases rc with
        | str _ hz => exact .inl ⟨_, rfl, hz, h1.str hz⟩
      · split at er
        · rename_i i hi
          cases er
          cases rc
          exact .inr ⟨i, rfl, hi.2, h1.str (num_len hi.1 hi.2)⟩
        · cases er
      · cases er
    · exact h1.elim
  · exact h1.elim
def cJs : List ME → Str → Ev → Sto → Rs Str
  | [], acc, _, S => .ok acc S
  | f :: fs, acc, ε, S => (f ε S).bind fun w S => match w with
    | .val (.str y) => if (acc ++ y).length ≤ sizeLine then cJs fs (acc ++ y) ε S else .bad
    | _ => .bad
def cJoin (fs : List ME) : ME := fun ε S => (cJs fs Str.empty ε S).bind fun x S => .ok (.val (.str x)) S
inductive DJ (X : Cx) (K : Frag) (E : XK) : List Expr → List ME → Prop where
  | nil : DJ X K E [] []
  | cons {e : Expr} {f : ME} {es : List Expr} {fs : List ME} (h : PE X e (aE K E f)) (r : DJ X K E es fs) : DJ X K E (e :: es) (f :: fs)
theorem DJ.pj {es : List Expr} {fs : List ME} (h : DJ X K E es fs) : PJ X es (fs.map (aE K E)) := by
  induction h with
  | nil => exact .nil
  | cons h _ ih => exact .cons h ih
theorem js_of {ε : Ev} {σ : L2.St} {Q : VK} : ∀ (fs : List ME) (acc : Str) (c : Cfg K), acc.length ≤ sizeLine → Re c ε σ → AP c ((cJs fs acc ε c.S).bind fun x S => .ok (.val (.str x)) S) Q E → tJs (fs.map (aE K E)) acc σ c.H fun out H1 => Q (.str out) H1
  | [], acc, c, hz, re, h => h.str hz
  | f :: fs, acc, c, hz, re, h => by
    have h' : AP c ((f ε c.S).bind fun w S => (match w with | .val (.str y) => if (acc ++ y).length ≤ sizeLine then cJs fs (acc ++ y) ε S else .bad | _ => .bad : Rs Str).bind fun x S => .ok (.val (.str x)) S) Q E := by
      unfold cJs at h
      cases q : f ε c.S with
      | ok w S => rw [q] at h; exact h
      | ex C fs S => rw [q] at h; exact h
      | bad => rw [q] at h; exact h
    show aE K E f σ c.H _
    refine ee re h' fun c1 w1 u1 l1 r1 h1 => ?_
    split at h1
    · rename_i y
      cases r1
      split at h1
      · rename_i hy
        exact ⟨y, rfl, hy, js_of fs _ c1 hy (re.mono l1) h1⟩
      · exact h1.elim
    · exact h1.elim
theorem de_joinN {v1 v2 : Expr} {rest : List Expr} {fs : List ME} (h : DJ X K E (v1 :: v2 :: rest) fs) : PE X (.JoinedStr (v1 :: v2 :: rest) pos) (aE K E (cJoin fs)) := (pe_joined h.pj).weak fun σ H Q h => by
  obtain ⟨c, ε, rfl, re, h⟩ := h
  exact js_of fs _ c (Nat.zero_le _) re h
theorem de_join1 (he : PE X e (aE K E f)) : PE X (.JoinedStr [e] pos) (aE K E f) := pe_joined1 he
/-! ## *e in displays -/
def cStar (f : ME) (r : MA) : MA := fun ε S => (f ε S).bind fun w S => match view w S with
  | some (.tup l) => (r ε S).bind fun ws S => .ok (l.map .val ++ ws) S
  | some (.lst l) => (r ε S).bind fun ws S => .ok (l.map .val ++ ws) S
  | _ => .bad
theorem rws_map {c : Cfg K} : ∀ {l : List D} {xs : List V}, Rds K c.G l xs → Rws c (l.map .val) xs
  | _, _, .nil => .nil
  | _, _, .cons h r => .cons h (rws_map r)
theorem Rws.app {c : Cfg K} : ∀ {l l' : List W} {xs xs' : List V}, Rws c l xs → Rws c l' xs' → Rws c (l ++ l') (xs ++ xs')
  | _, _, _, _, .nil, s => s
  | _, _, _, _, .cons h r, s => .cons h (r.app s)
theorem da_star (hK : X.K = K) (he : PE X e (aE K E f)) (hr : PA X es (aA K E fs)) (hs : starEach (.Starred e p :: es) X.env = (true, eval e X.env) :: starEach es X.env := by rfl) : PA X (.Starred e p :: es) (aA K E (cStar f fs)) := by
  subst hK
  refine (StX.pa_star he hr hs).weak fun σ H Q h => ?_
  obtain ⟨c, ε, rfl, re, h⟩ := h
  refine ea re h fun c1 w1 u1 l1 r1 h1 => ?_
  split at h1
  · rename_i l el
    cases view_ok el r1 with
    | tup q1 q2 => exact ⟨_, _, rfl, .inl (Same.tup c1.sub q1), aa (re.mono l1) h1 fun c2 w2 u2 l2 r2 h2 => h2.ok ((rws_map (q2.mono l2.g)).app r2)⟩
  · rename_i l el
    obtain ⟨a, xs, rfl, q1, q2⟩ := view_ok el r1
    exact ⟨_, _, rfl, .inr (.inl (.inl q1)), aa (re.mono l1) h1 fun c2 w2 u2 l2 r2 h2 => h2.ok ((rws_map (q2.mono l2.g)).app r2)⟩
  · exact h1.elim
/-! ## fields -/
def cFld (C f : Str) (fo : ME) : ME := fun ε S => (fo ε S).bind fun w S => match view w S with
  | some (.obj C' fs) => if C' = C then (match fs.lookup f with | some d => .ok (.val d) S | none => .bad) else .bad
  | _ => .bad
theorem de_fld {g : Str} (hK : X.K = K) (he : PE X e (aE K E f)) (cl : Cls K (He.ga K C)) (na : NoAttr K (He.ga K C) g) (hb : attributeBase e g X.env (eval e X.env) = eval e X.env := by rfl) : PE X (.Attribute e g pos) (aE K E (cFld C g f)) := by
  subst hK
  refine (pe_fld he hb).weak fun σ H Q h => ?_
  obtain ⟨c, ε, rfl, re, h⟩ := h
  refine ee re h fun c1 w1 u1 l1 r1 h1 => ?_
  split at h1
  · rename_i C' gs el
    split at h1
    · rename_i hC
      subst hC
      split at h1
      · rename_i d ed
        obtain ⟨a, dx, vs, rfl, q1, q2⟩ := view_ok el r1
        obtain ⟨v, ev, rv⟩ := q2.look ed
        exact ⟨a, _, dx, vs, v, rfl, q1, cl, na, ev, h1.ok rv⟩
      · exact h1.elim
    · exact h1.elim
  · exact h1.elim
def putD (f : Str) (v : D) : List (Str × D) → List (Str × D)
  | [] => [(f, v)]
  | (g, x) :: r => if g = f then (g, v) :: r else (g, x) :: putD f v r
theorem Rfs.put {G : Hp} {f : Str} {d : D} {v : V} (h : Rd K G d v) : ∀ {l : List (Str × D)} {xs : List (Str × V)}, Rfs K G l xs → Rfs K G (putD f d l) (putF f v xs)
  | _, _, .nil => .cons h .nil
  | _, _, .cons (x := x) h1 r => by
    unfold putD putF
    split
    · exact .cons h r
    · exact .cons h1 (r.put h)
def sFldA (C f : Str) (fo fv : ME) : MS := fun ε S => (fv ε S).bindT fun v S => (fo ε S).bindT fun w S => match w with
  | .ref n => match toD v S with
    | some (d, S) => match S[n]? with
      | some (.ins C' fs) => if C' = C ∧ fs.length < 1000 then .nx ε (S.set n (.ins C (putD f d fs))) else .bad
      | _ => .bad
    | none => .bad
  | _ => .bad
theorem ds_fld {g : Str} {v : Expr} {pos' : Pos} {fv : ME} (hK : X.K = K) (ho : PE X o (aE K E f)) (hv : PE X v (aE K E fv)) (cl : Cls K (He.ga K C)) (na : NoAttr K (He.ga K C) g) (hs : swapsWith v (some (.Attribute o g pos')) pos.line X.env = pure false := by rfl) : PS X (.Assign [.Attribute o g pos'] v pos) (aS K E (sFldA C g f fv)) := by
  subst hK
  refine (ps_fld ho hv hs).weak fun D σ H h => ?_
  obtain ⟨c, ε, rfl, re, h⟩ := h
  refine AM.es re h fun c1 w1 u1 l1 r1 h1 => ?_
  refine AM.es (re.mono l1) h1 fun c2 w2 u2 l2 r2 h2 => ?_
  split at h2
  · rename_i n
    obtain ⟨a, e2, rfl⟩ := r2
    split at h2
    · rename_i d S4 e4
      obtain ⟨c4, l4, s4, hh4, r4⟩ := toD_ok e4 (r1.mono l2)
      split at h2
      · rename_i C' gs el
        split at h2
        · rename_i hC
          obtain ⟨hC, hl⟩ := hC
          subst hC
          rw [← s4] at el h2
          have em : c4.m[n]? = some a := pre_get l4.m e2
          obtain ⟨dx, vs, ex, rx⟩ := c4.at_ n a _ em el
          refine ⟨a, _, dx, vs, rfl, by rw [← hh4]; exact ex, cl, na, by rw [← rx.length]; exact hl, ?_⟩
          have := h2 (c4.put n a _ (.ins C' (putD g d gs)) (.ins (He.ga X.K C') dx (putF g u1 vs)) em el (fun z => by cases z) ⟨dx, _, rfl, rx.put r4⟩) (l4.tr Cfg.put_le) rfl σ ((((re.mono l1).mono l2).mono l4).mono Cfg.put_le)
          rw [← hh4]
          exact this
        · exact h2.elim
      · exact h2.elim
    · exact h2.elim
  · exact h2.elim
/-! ## methods, properties -/
def isObj (C : Str) (w : W) (S : Sto) : Option (List (Str × D)) := match view w S with | some (.obj C' fs) => if C' = C then some fs else none | _ => none
theorem isObj_ok {c : Cfg K} {w : W} {u : V} {gs : List (Str × D)} (h : isObj C w c.S = some gs) (r : Rw c w u) : ∃ a dx vs, u = .ref a ∧ c.H a = some (.ins (He.ga K C) dx vs) ∧ Rfs K c.G gs vs := by
  unfold isObj at h
  split at h
  · rename_i C' fs el
    split at h
    · rename_i hC
      subst hC
      cases h
      exact view_ok el r
    · cases h
  · cases h
def cProp (C : Str) (F : F1) (fo : ME) : ME := fun ε S => (fo ε S).bind fun w S => match isObj C w S with | some _ => (match F [w] S with | .ok r S => .ok r S | _ => .bad) | none => .bad
theorem de_prop {g : Str} (hK : X.K = K) (he : PE X e (aE K E f)) (c : Cls K (He.ga K C)) (hp : PropOf K (He.ga K C) g (He.ma K (He.ga K C) g) (He5.wf K (He.ga K C) "property" g))
    (Fo : MOk X.prog X.w K X.mg X.base k (He5.wf K (He.ga K C) "property" g) ps (aSp K F)) (hr : Room (k + 1) X.A)
    (hab : attributeBase e g X.env (eval e X.env) = eval e X.env := by rfl) : PE X (.Attribute e g pos) (aE K E (cProp C F f)) := by
  subst hK
  refine (pe_propM he c hp Fo hr hab).weak fun σ H Q h => ?_
  obtain ⟨c, ε, rfl, re, h⟩ := h
  refine ee re h fun c1 w1 u1 l1 r1 h1 => ?_
  split at h1
  · rename_i gs el
    obtain ⟨a, dx, vs, rfl, q1, q2⟩ := isObj_ok el r1
    refine ⟨a, dx, vs, rfl, q1, c1, [w1], rfl, .cons r1 .nil, ?_⟩
    cases q : F [w1] c1.S with
    | ok r S => rw [q] at h1; exact h1
    | ex D fs S => rw [q] at h1; exact h1.elim
    | bad => rw [q] at h1; exact h1.elim
  · exact h1.elim
def cMeth (C m : Str) (F : F1) (fo : ME) (fs : MA) : ME := fun ε S => (fo ε S).bind fun w S => match isObj C w S with
  | some gs => if (gs.lookup m).isNone then (fs ε S).bind fun ws S => F (w :: ws) S else .bad
  | none => .bad
theorem meth_of {m : Str} {σ : L2.St} {H : Hp} {Q : VK} (h : aE K E (cMeth C m F f fs) σ H Q) : tMeth (He.ga K C) m (aSp K F) [] E (aE K E f) (aA K E fs) σ H Q := by
  obtain ⟨c, ε, rfl, re, h⟩ := h
  refine ee re h fun c1 w1 u1 l1 r1 h1 => ?_
  split at h1
  · rename_i gs el
    split at h1
    · rename_i hm
      obtain ⟨a, dx, vs, rfl, q1, q2⟩ := isObj_ok el r1
      refine ⟨a, dx, vs, rfl, q1, q2.none (Option.isNone_iff_eq_none.mp hm), ae (re.mono l1) h1 fun c2 ws us l2 r2 h2 => ?_⟩
      rw [List.append_nil]
      exact ⟨c2, w1 :: ws, rfl, .cons (r1.mono l2) r2, h2⟩
    · exact h1.elim
  · exact h1.elim
theorem de_meth {pl : Sem Bool} {m : Str} {g : Addr} (hK : X.K = K) (he : PE X o (aE K E f)) (c : Cls K (He.ga K C)) (hm : Meth K (He.ga K C) m g) (Fo : MOk X.prog X.w K X.mg X.base k g ps (aSp K F)) (hr : Room k X.A) (hx : Passes (L2.CX X.prog X.w) X E) (ha : PA X (e :: es) (aA K E fs))
    (hst : starEach (e :: es) X.env = (false, eval e X.env) :: starEach es X.env := by rfl) (hpl : (backTo pos (starEach es X.env)).any (·.1) = false := by rfl)
    (ht : eval (.Call (.Attribute o m apos) (e :: es) [] pos) X.env = (do
      let ov ← eval o X.env
      standAt apos.atName
      let (f, first) ← holding [ov] (getMethod ov m pl)
      callWith pos f first (backTo pos (starEach (e :: es) X.env)) (backToKw pos (keywordEach [] X.env))) := by rfl) :
    PE X (.Call (.Attribute o m apos) (e :: es) [] pos) (aE K E (cMeth C m F f fs)) := by
  subst hK
  obtain ⟨⟨fd, F', b, _⟩, _⟩ := Fo
  exact (pe_meth he c hm F' hr b .nil hx ha hst hpl ht).weak fun _ _ _ h => meth_of h
theorem de_meth0 {pl : Sem Bool} {m : Str} {g : Addr} (hK : X.K = K) (he : PE X o (aE K E f)) (c : Cls K (He.ga K C)) (hm : Meth K (He.ga K C) m g) (Fo : MOk X.prog X.w K X.mg X.base k g ps (aSp K F)) (hr : Room k X.A) (hx : Passes (L2.CX X.prog X.w) X E)
    (ht : eval (.Call (.Attribute o m apos) [] [] pos) X.env = (do
      let ov ← eval o X.env
      standAt apos.atName
      let (f, first) ← holding [ov] (getMethod ov m pl)
      callWith pos f first (backTo pos (starEach [] X.env)) (backToKw pos (keywordEach [] X.env))) := by rfl) :
    PE X (.Call (.Attribute o m apos) [] [] pos) (aE K E (cMeth C m F f cNil)) := by
  subst hK
  obtain ⟨⟨fd, F', b, _⟩, _⟩ := Fo
  refine (pe_meth0 he c hm F' hr b .nil hx ht).weak fun σ H Q h => ?_
  have h' := meth_of h
  obtain ⟨c, ε, rfl, re, h'⟩ := h'
  refine ⟨c, ε, rfl, re, ?_⟩
  cases q : f ε c.S with
  | bad => rw [q] at h'; exact h'
  | ex C fs S => rw [q] at h'; exact h'
  | ok w S =>
    rw [q] at h'
    intro c1 l1 s1 u1 r1
    obtain ⟨a, dx, vs, e1, e2, e3, c2, ε2, e4, _, h2⟩ := h' c1 l1 s1 u1 r1
    refine ⟨a, dx, vs, e1, e2, e3, ?_⟩
    rw [← e4]
    exact h2 c2 .refl rfl [] .nil
/-! ## making -/
def Cfg.pushIns (c : Cfg K) (x dx : Addr) (C : Str) (h1 : c.H x = none) (h2 : c.H dx = none) (h3 : dx ≠ x) : Cfg K where
  G := c.G
  m := c.m ++ [x]
  S := c.S ++ [.ins C []]
  H := upd (upd c.H dx (.own x)) x (.ins (He.ga K C) dx [])
  sub := fun b u e => by
    rw [upd_ne (ne_of_none e (c.gnone h1)), upd_ne (ne_of_none e (c.gnone h2))]
    exact c.sub b u e
  len := by rw [List.length_append, List.length_append, c.len]; rfl
  nd := by
    rw [List.nodup_append]
    refine ⟨c.nd, by simp, fun a ha b hb => ?_⟩
    rw [List.mem_singleton] at hb
    subst hb
    exact fun z => c.notin h1 (by rw [← z]; exact ha)
  at_ := fun k b ob2 e1 e2 => by
    have hl := c.len
    by_cases hk : k < c.m.length
    · rw [List.getElem?_append_left hk] at e1
      rw [List.getElem?_append_left (by omega)] at e2
      rw [upd_ne (fun z => c.notin h1 (by rw [← z]; exact List.mem_of_getElem? e1)), upd_ne (fun z => c.notin h2 (by rw [← z]; exact List.mem_of_getElem? e1))]
      exact c.at_ k b ob2 e1 e2
    · rw [List.getElem?_append_right (by omega)] at e1 e2
      rw [List.getElem?_singleton] at e1 e2
      split at e1
      · rw [if_pos (by omega)] at e2
        cases e1; cases e2
        rw [upd_same]
        exact ⟨dx, [], rfl, .nil⟩
      · cases e1
  fr := fun k b ob2 e1 e2 e3 => by
    have hl := c.len
    by_cases hk : k < c.m.length
    · rw [List.getElem?_append_left hk] at e1
      rw [List.getElem?_append_left (by omega)] at e2
      exact c.fr k b ob2 e1 e2 e3
    · rw [List.getElem?_append_right (by omega)] at e1
      rw [List.getElem?_singleton] at e1
      split at e1
      · cases e1
        exact c.gnone h1
      · cases e1
def makeW (mu : Bool) (C : Str) (F : F1) (ws : List W) (S : Sto) : Rs W := match F (.ref S.length :: ws) (S ++ [.ins C []]) with
  | .ok (.val .non) S' => match S'[S.length]? with
    | some (.ins C' fs) => if mu then .ok (.ref S.length) (S'.take (S.length + 1)) else .ok (.val (.obj C' fs)) (S'.take S.length)
    | _ => .bad
  | .ex D fs S' => .ex D fs (S'.take S.length)
  | _ => .bad
def cMake (mu : Bool) (C : Str) (F : F1) (fs : MA) : ME := fun ε S => (fs ε S).bind fun ws S => makeW mu C F ws S
theorem make_ok {mu : Bool} {c : Cfg K} {ws : List W} {us : List V} {Q : VK} (r : Rws c ws us) (h : AP c (makeW mu C F ws c.S) Q E) {x dx : Addr} (h1 : c.H x = none) (h2 : c.H dx = none) (h3 : dx ≠ x) :
    aSp K F (.ref x :: us) (upd (upd c.H dx (.own x)) x (.ins (He.ga K C) dx [])) (fun v H2 => v = .non ∧ Q (.ref x) H2) E := by
  have lp : c.le (c.pushIns x dx C h1 h2 h3) := ⟨Same.rfl', List.prefix_append _ _⟩
  have em : (c.pushIns x dx C h1 h2 h3).m[c.S.length]? = some x := by
    show (c.m ++ [x])[c.S.length]? = some x
    rw [List.getElem?_append_right (by rw [c.len]; exact Nat.le_refl _), c.len, Nat.sub_self]
    rfl
  refine ⟨c.pushIns x dx C h1 h2 h3, .ref c.S.length :: ws, rfl, .cons ⟨x, em, rfl⟩ (r.mono lp), ?_⟩
  show AP _ (F (.ref c.S.length :: ws) (c.S ++ [.ins C []])) _ _
  unfold makeW at h
  cases q : F (.ref c.S.length :: ws) (c.S ++ [.ins C []]) with
  | bad => rw [q] at h; exact h
  | ex D fs S' =>
    rw [q] at h
    exact fun c' l es d gs hd rf => h (c'.take c.S.length) ((lp.tr l).take (Nat.le_refl _)) (by rw [← es]; rfl) d gs hd rf
  | ok w S' =>
    rw [q] at h
    intro c' l es u ru
    subst es
    split at h
    · rename_i hq
      cases hq
      cases ru
      refine ⟨rfl, ?_⟩
      have em' := pre_get l.m em
      split at h
      · rename_i C' gs e2
        cases mu with
        | true =>
          refine h (c'.take (c.S.length + 1)) ((lp.tr l).take (by omega)) rfl _ ⟨x, ?_, rfl⟩
          show (c'.m.take (c.S.length + 1))[c.S.length]? = some x
          rw [List.getElem?_take, if_pos (Nat.lt_succ_self _)]
          exact em'
        | false =>
          obtain ⟨dx', vs, e3, r3⟩ := c'.at_ _ x _ em' e2
          have sm : Same c'.G (upd c'.G x (.ins (He.ga K C') dx' vs)) := same_new (c'.fr _ x _ em' e2 (fun z => by cases z))
          have l4 : c'.le (c'.freeze _ x _ _ em' e2 (fun z => by cases z) e3) := ⟨sm, List.prefix_refl _⟩
          refine h ((c'.freeze _ x _ _ em' e2 (fun z => by cases z) e3).take c.S.length) (((lp.tr l).tr l4).take (Nat.le_refl _)) ?_ _ (Rd.obj (by show upd c'.G x _ x = _; rw [upd_same]) (r3.mono sm))
          show (c'.S.set _ .dead).take c.S.length = c'.S.take c.S.length
          rw [List.take_set_of_le (Nat.le_refl _)]
      · exact h.elim
    · rename_i hq; cases hq
    · exact h.elim
theorem make_of {mu : Bool} {σ : L2.St} {H : Hp} {Q : VK} (h : aE K E (cMake mu C F fs) σ H Q) : tMake (He.ga K C) (aSp K F) [] E (aA K E fs) σ H Q := by
  obtain ⟨c, ε, rfl, re, h⟩ := h
  refine ae re h fun c1 ws us l1 r1 h1 => ?_
  intro x dx e1 e2 e3
  rw [List.append_nil]
  exact make_ok r1 h1 e1 e2 e3
theorem de_make {mu : Bool} {g : Addr} (hK : X.K = K) (M : Mk K (He.ga K C) g) (Fo : MOk X.prog X.w K X.mg X.base k g ps (aSp K F)) (hr : Room (k + 1) X.A) (hg : Gl X C) (hm : X.mg C = some (.ref (He.ga K C))) (hx : Passes (L2.CX X.prog X.w) X E)
    (ha : PA X (e :: es) (aA K E fs)) (hdb : (C == ("__debug__" : Str)) = false := by decide) (he : starEach (e :: es) X.env = (false, eval e X.env) :: starEach es X.env := by rfl)
    (hpl : (backTo pos (starEach es X.env)).any (·.1) = false := by rfl) : PE X (.Call (.Name C p) (e :: es) [] pos) (aE K E (cMake mu C F fs)) := by
  subst hK
  exact (pe_makeM M Fo hr hg hm hx ha hdb he hpl).weak fun _ _ _ h => make_of h
/-! ## own __str__, __eq__, __repr__ -/
def strOwnW (C : Str) (F : F1) : List W → Sto → Rs W := fun ws S => match ws with
  | [w] => match isObj C w S with
    | some _ => match F [w] S with | .ok (.val (.str y)) S => .ok (.val (.str y)) S | .ex D fs S => .ex D fs S | _ => .bad
    | none => .bad
  | _ => .bad
theorem strOwn_of {us : List V} {H : Hp} {Q : VK} (h : rAs K E (strOwnW C F) us H Q) : rStrOwn (He.ga K C) (aSp K F) E us H Q := by
  obtain ⟨c, ws, rfl, r, h⟩ := h
  unfold strOwnW at h
  split at h
  · rename_i w
    cases r with
    | cons r1 r2 =>
      cases r2
      split at h
      · rename_i gs el
        obtain ⟨a, dx, vs, rfl, q1, q2⟩ := isObj_ok el r1
        refine ⟨a, dx, vs, rfl, q1, c, [w], rfl, .cons r1 .nil, ?_⟩
        cases q : F [w] c.S with
        | bad => rw [q] at h; exact h
        | ex D fs S => rw [q] at h; exact h
        | ok w S =>
          rw [q] at h
          intro c' l es u ru
          split at h
          · rename_i hq
            cases hq
            cases ru with
            | str _ hz => exact ⟨_, rfl, h c' l es _ (show Rd K _ _ _ from .str _ hz)⟩
          · rename_i hq; cases hq
          · exact h.elim
      · exact h.elim
  · exact h.elim
theorem ca_strOwn {g : Addr} (hK : X.K = K) (hm : Meth K (He.ga K C) "__str__" g) (Fo : MOk X.prog X.w K X.mg X.base k g ps (aSp K F)) (hr : Room (k + 2) X.A) (hx : Passes (L2.CX X.prog X.w) X E) : CallR X (.type "str") (rAs K E (strOwnW C F)) := by
  subst hK
  exact CallR.weak (call_strOwn hm Fo hr hx) fun _ _ _ h => strOwn_of h
theorem ca_reprOwn {g : Addr} (hK : X.K = K) (hm : Meth K (He.ga K C) "__repr__" g) (Fo : MOk X.prog X.w K X.mg X.base k g ps (aSp K F)) (hr : Room (k + 1) X.A) (hx : Passes (L2.CX X.prog X.w) X E) : CallR X (.builtin "repr") (rAs K E (strOwnW C F)) := by
  subst hK
  exact CallR.weak (call_reprOwn hm Fo hr hx) fun _ _ _ h => strOwn_of h
/-- what stands beside == is of a known kind -/
def knownW (own : List Str) (w : W) (S : Sto) : Bool := match view w S with
  | some d => match kindOf d with | some _ => true | none => match d with | .obj C _ => decide (C ∈ own) | _ => false
  | none => false
theorem known_ok {own : List Str} (O : Own K own) {c : Cfg K} {w : W} {u : V} (hC : C ∈ own) (h : knownW own w c.S = true) (r : Rw c w u) : ∃ t, TyX K c.H u t ∧ PySem.W.notFirst K (He.ga K C) t = true := by
  unfold knownW at h
  split at h
  · rename_i d ed
    have rc := view_ok ed r
    split at h
    · rename_i T hT
      obtain ⟨t1, t2⟩ := kind_ty hT rc
      exact ⟨_, t1, (O.pt hC t2).2.2⟩
    · split at h
      · rename_i D fs hk
        have hD : D ∈ own := of_decide_eq_true h
        obtain ⟨a, dx, gs, rfl, q1, _⟩ := rc
        exact ⟨_, .base (insB_ok (O.ins hD) (O.cl _ hD) q1), (O.pc hC hD).2⟩
      · cases h
  · cases h
def eqOwnW (own : List Str) (neg : Bool) (C : Str) (F : F1) : W → W → Sto → Rs W := fun x y S => match isObj C x S with
  | some _ => if knownW own y S then (match F [x, y] S with | .ok (.val (.bl b)) S => .ok (.val (.bl (if neg then !b else b))) S | .ex D fs S => .ex D fs S | _ => .bad) else .bad
  | none => .bad
theorem oa_eqOwn {own : List Str} {g : Addr} (hK : X.K = K) (O : Own K own) (hC : C ∈ own) (hm : Meth K (He.ga K C) "__eq__" g) (Fo : MOk X.prog X.w K X.mg X.base k g ps (aSp K F)) (hr : Room k X.A) (hx : Passes (L2.CX X.prog X.w) X E) : OpR X (compareOp .Eq) (rA K E (eqOwnW own false C F)) := by
  subst hK
  refine OpR.weak (op_eqOwn hm Fo hr hx) fun u v H Q h => ?_
  obtain ⟨c, x, y, rfl, rx, ry, h⟩ := h
  unfold eqOwnW at h
  split at h
  · rename_i gs el
    split at h
    · rename_i hk
      obtain ⟨a, dx, vs, rfl, q1, q2⟩ := isObj_ok el rx
      obtain ⟨t, t1, t2⟩ := known_ok O hC hk ry
      refine ⟨a, dx, vs, t, rfl, q1, t1, t2, c, [x, y], rfl, .cons rx (.cons ry .nil), ?_⟩
      cases q : F [x, y] c.S with
      | bad => rw [q] at h; exact h
      | ex D fs S => rw [q] at h; exact h
      | ok w S =>
        rw [q] at h
        intro c' l es u ru
        split at h
        · rename_i hq
          cases hq
          cases ru
          exact ⟨_, rfl, h c' l es _ (show Rd X.K _ _ _ from .bl _)⟩
        · rename_i hq; cases hq
        · exact h.elim
    · exact h.elim
  · exact h.elim
theorem oa_neOwn {own : List Str} {g : Addr} (hK : X.K = K) (O : Own K own) (hC : C ∈ own) (hm : Meth K (He.ga K C) "__eq__" g) (hne : PySem.W.findIn K (.ref (He.ga K C)) "__ne__" = some (some (.builtin "object.__ne__")))
    (Fo : MOk X.prog X.w K X.mg X.base k g ps (aSp K F)) (hr : Room (k + 1) X.A) (hx : Passes (L2.CX X.prog X.w) X E) : OpR X (compareOp .NotEq) (rA K E (eqOwnW own true C F)) := by
  subst hK
  refine OpR.weak (op_neOwn hm hne (insB_mro (O.ins hC)) Fo hr hx) fun u v H Q h => ?_
  obtain ⟨c, x, y, rfl, rx, ry, h⟩ := h
  unfold eqOwnW at h
  split at h
  · rename_i gs el
    split at h
    · rename_i hk
      obtain ⟨a, dx, vs, rfl, q1, q2⟩ := isObj_ok el rx
      obtain ⟨t, t1, t2⟩ := known_ok O hC hk ry
      refine ⟨a, dx, vs, t, rfl, q1, t1, t2, c, [x, y], rfl, .cons rx (.cons ry .nil), ?_⟩
      cases q : F [x, y] c.S with
      | bad => rw [q] at h; exact h
      | ex D fs S => rw [q] at h; exact h
      | ok w S =>
        rw [q] at h
        intro c' l es u ru
        split at h
        · rename_i hq
          cases hq
          cases ru
          exact ⟨_, rfl, h c' l es _ (show Rd X.K _ _ _ from .bl _)⟩
        · rename_i hq; cases hq
        · exact h.elim
    · exact h.elim
  · exact h.elim
end
end AM
set_option Elab.async false
set_option linter.all false
set_option maxRecDepth 100000
set_option maxHeartbeats 4000000
namespace AM
open PySem PySem.Spec PyProof.Rows L2 Bk
open PySem.W (Frag)
variable {K : Frag}
section
variable {X : Cx} {E : XK} {pos apos p : Pos} {a b c' e o : Expr} {fa fb fc f : ME} {es : List Expr} {fs : MA}
theorem dv (i : Nat) {x : Str} (hN : X.N[i]? = some x := by rfl) (hv : Vis X.env.scope x := by first | exact Or.inl rfl | exact Or.inr (Or.inl rfl) | exact Or.inr (Or.inr rfl)) (hd : (x == ("__debug__" : Str)) = false := by decide) (hcd : (x == ("__classdict__" : Str)) = false := by decide) : PE X (.Name x pos) (aE K E (cVar i)) := de_var hN hv hd hcd
/-- a < b < c -/
def cChain (g g' : W → W → Sto → Rs W) (fa fb fc : ME) : ME := fun ε S => (fa ε S).bind fun x S => (fb ε S).bind fun y S => (g x y S).bind fun r S => match r with
  | .val (.bl k) => if k = true then (fc ε S).bind fun z S => g' y z S else .ok (.val (.bl false)) S
  | _ => .bad
theorem chain_of {g g' : W → W → Sto → Rs W} {σ : L2.St} {H : Hp} {Q : VK} (h : aE K E (cChain g g' fa fb fc) σ H Q) : tChain (rA K E g) (rA K E g') (aE K E fa) (aE K E fb) (aE K E fc) σ H Q := by
  obtain ⟨c, ε, rfl, re, h⟩ := h
  refine ee re h fun c1 w1 u1 l1 r1 h1 => ?_
  refine ee (re.mono l1) h1 fun c2 w2 u2 l2 r2 h2 => ?_
  refine ⟨c2, w1, w2, rfl, r1.mono l2, r2, ?_⟩
  cases q : g w1 w2 c2.S with
  | bad => rw [q] at h2; exact h2
  | ex C fs S => rw [q] at h2; exact h2
  | ok r S =>
    rw [q] at h2
    simp only [Rs.bind] at h2
    intro c3 l3 s3 u3 r3
    split at h2
    · rename_i k
      cases r3
      cases k with
      | true =>
       refine ⟨true, rfl, ?_⟩
       rw [if_pos rfl] at h2 ⊢
       refine ee (c := c3) (((re.mono l1).mono l2).mono l3) (by rw [s3]; exact AP.up h2 l3) fun c4 w4 u4 l4 r4 h4 => ?_
       exact ⟨c4, w2, w4, rfl, (r2.mono l3).mono l4, r4, h4⟩
      | false =>
       refine ⟨false, rfl, ?_⟩
       rw [if_neg Bool.false_ne_true] at h2 ⊢
       exact h2 c3 l3 s3 _ (show Rd K _ _ _ from .bl false)
    · exact h2.elim
theorem de_chain {op op' : CmpOp} {g g' : W → W → Sto → Rs W} (ho : OpR X (compareOp op) (rA K E g)) (ho' : OpR X (compareOp op') (rA K E g')) (ha : PE X a (aE K E fa)) (hb : PE X b (aE K E fb)) (hc : PE X c' (aE K E fc))
    (hm : lastMarks [op, op'] [b, c'] = false := by with_unfolding_all rfl) : PE X (.Compare a [op, op'] [b, c'] pos) (aE K E (cChain g g' fa fb fc)) := (pe_chain ho ho' ha hb hc hm).weak fun _ _ _ h => chain_of h
theorem dt_chain {op op' : CmpOp} {g g' : W → W → Sto → Rs W} (ho : OpR X (compareOp op) (rA K E g)) (ho' : OpR X (compareOp op') (rA K E g')) (ha : PE X a (aE K E fa)) (hb : PE X b (aE K E fb)) (hc : PE X c' (aE K E fc))
    (hm : lastMarks [op, op'] [b, c'] = false := by with_unfolding_all rfl) : PT X (.Compare a [op, op'] [b, c'] pos) (aT K E (cTest (cChain g g' fa fb fc))) := (pt_chain ho ho' ha hb hc hm).weak fun σ H Q h => by
  obtain ⟨c, ε, rfl, re, h⟩ := h
  refine chain_of (et (f := cChain g g' fa fb fc) re h fun c1 w1 u1 l1 r1 h1 => ?_)
  split at h1
  · cases r1
    exact ⟨_, rfl, h1.ok⟩
  · exact h1.elim
/-- from here on the thing in a slot does not change any more -/
def sFrz (i : Nat) (s : MS) : MS := fun ε S => match ε[i]? with
  | some (some w) => match toD w S with | some (d, S) => s (ε.set i (some (.val d))) S | none => .bad
  | _ => .bad
theorem Re.frz {c : Cfg K} {ε : Ev} {σ : L2.St} {i : Nat} {d : D} {v : V} (re : Re c ε σ) (h : σ[i]? = some (some v)) (r : Rd K c.G d v) : Re c (ε.set i (some (.val d))) σ := by
  have := re.set i (w := .val d) (v := v) r
  have e : σ.set i (some v) = σ := by
    apply List.ext_getElem?
    intro j
    rw [List.getElem?_set]
    split
    · rename_i hj
      subst hj
      rw [h]
      split
      · rfl
      · rename_i hl
        rw [List.getElem?_eq_none (by omega)] at h
        cases h
    · rfl
  rw [e] at this
  exact this
theorem frz_of {i : Nat} {s : MS} {D : Ends} {σ : L2.St} {H : Hp} (h : aS K E (sFrz i s) D σ H) : aS K E s D σ H := by
  obtain ⟨c, ε, rfl, re, h⟩ := h
  unfold sFrz at h
  split at h
  · rename_i w ew
    obtain ⟨v, ev, rv⟩ := re.at_ i w ew
    split at h
    · rename_i d S ed
      obtain ⟨c2, l2, s2, h2, r2⟩ := toD_ok ed rv
      exact ⟨c2, _, h2, (re.mono l2).frz ev r2, by rw [s2]; exact APs.up h l2⟩
    · exact h.elim
  · exact h.elim
theorem ds_frz (i : Nat) {st : Stmt} {s : MS} (h : PS X st (aS K E s)) : PS X st (aS K E (sFrz i s)) := h.weak fun _ _ _ h => frz_of h
theorem dss_frz (i : Nat) {st : List Stmt} {s : MS} (h : PSs X st (aS K E s)) : PSs X st (aS K E (sFrz i s)) := h.weak fun _ _ _ h => frz_of h
theorem dss_bad {st : List Stmt} : PSs X st (aS K E sBad) := pss_never.weak fun D σ H h => by
  obtain ⟨c, ε, rfl, re, h⟩ := h
  exact h
/-! ## truth -/
def truD : D → Option Bool
  | .non => some false
  | .bl b => some b
  | .int i => some (i != 0)
  | .str y => some ((y.length : Int) != 0)
  | .lst l => some (!l.isEmpty)
  | .fl l => some (!l.isEmpty)
  | .tup l => some (!l.isEmpty)
  | _ => none
theorem tru_ok {c : Cfg K} {d : D} {u : V} {b : Bool} (h : truD d = some b) (r : Rc c d u) : TruV K u c.H b := by
  cases d with
  | lst l =>
    cases h
    obtain ⟨a, xs, rfl, q1, q2⟩ := r
    exact .inl ⟨xs, .inl (.inl q1), by cases q2 <;> rfl⟩
  | obj C fs => cases h
  | ty n => cases h
  | cls C => cases h
  | dic l => cases h
  | tux l => cases h
  | non => cases h; cases r; exact rfl
  | bl b => cases h; cases r; exact rfl
  | int b => cases h; cases r; exact rfl
  | str b => cases h; cases r with | str _ hz => exact ⟨hz, rfl⟩
  | tup l => cases h; cases r with | tup q1 q2 => exact .inr (.inl ⟨_, Same.tup c.sub q1, by cases q2 <;> rfl⟩)
  | fl l => cases h; cases r with | fl q1 q2 => exact .inl ⟨_, sqL_same c.sub q1, by cases q2 <;> rfl⟩
def cTruth (fa : ME) : MT := fun ε S => (fa ε S).bind fun x S => match view x S with
  | some d => match truD d with | some b => .ok b S | none => .bad
  | none => .bad
theorem dt_truth (hK : X.K = K) (ha : PE X a (aE K E fa)) (he : ∀ whole, isTrue a X.env whole = (do let v ← whole; standAt a.pos; holding [v] (truthy v)) := by intro _; rfl) : PT X a (aT K E (cTruth fa)) := by
  subst hK
  refine (pt_truth ha he).weak fun σ H Q h => ?_
  obtain ⟨c, ε, rfl, re, h⟩ := h
  refine et re h fun c1 w1 u1 l1 r1 h1 => ?_
  split at h1
  · rename_i d ed
    split at h1
    · rename_i b eb
      exact ⟨b, tru_ok eb (view_ok ed r1), h1.ok⟩
    · exact h1.elim
  · exact h1.elim
/-- bool(x) of an own object -/
def boolOwnW (C : Str) : List W → Sto → Rs W := fun ws S => match ws with
  | [w] => match isObj C w S with | some _ => .ok (.val (.bl true)) S | none => .bad
  | _ => .bad
theorem ca_boolOwn {C : Str} (hK : X.K = K) (hb : PySem.W.findIn K (.ref (He.ga K C)) "__bool__" = some none) (hl : PySem.W.findIn K (.ref (He.ga K C)) "__len__" = some none) : CallR X (.type "bool") (rAs K E (boolOwnW C)) := by
  subst hK
  refine CallR.weak (call_boolOwn hb hl) fun u H Q h => ?_
  obtain ⟨c, ws, rfl, r, h⟩ := h
  unfold boolOwnW at h
  split at h
  · cases r with
    | cons r1 r2 =>
      cases r2
      split at h
      · rename_i gs el
        obtain ⟨a, dx, vs, rfl, q1, q2⟩ := isObj_ok el r1
        exact ⟨a, dx, vs, rfl, q1, h.bl⟩
      · exact h.elim
  · exact h.elim
/-! ## data of the module -/
mutual
def datB (K : Frag) : D → Value → Bool
  | .non, .none => true
  | .bl b, .bool c => b == c
  | .int i, .int j _ => i == j
  | .str x, .str y _ => x == y && decide (x.length ≤ sizeLine)
  | .tup l, .ref a => match K.lookup a with
    | some ⟨.type "tuple", _, .seq its _, _⟩ => decide (its.size ≤ sizeLine) && datsB K l its.toList
    | _ => false
  | _, _ => false
def datsB (K : Frag) : List D → List Value → Bool
  | [], [] => true
  | d :: l, u :: us => datB K d u && datsB K l us
  | _, _ => false
end
mutual
theorem dat_ok {G : Hp} : ∀ {d : D} {u : Value}, datB K d u = true → ∃ v, RelV v u ∧ Rd K G d v
  | .non, .none, _ => ⟨.non, rfl, .non⟩
  | .bl b, .bool c, h => by
    unfold datB at h
    cases eq_of_beq h
    exact ⟨.bl b, rfl, .bl b⟩
  | .int i, .int j t, h => by
    unfold datB at h
    cases eq_of_beq h
    exact ⟨.int i, ⟨t, rfl⟩, .int i⟩
  | .str x, .str y t, h => by
    unfold datB at h
    rw [Bool.and_eq_true] at h
    cases eq_of_beq h.1
    exact ⟨.str x, ⟨t, rfl⟩, .str x (of_decide_eq_true h.2)⟩
  | .tup l, .ref a, h => by
    unfold datB at h
    split at h
    · rename_i od its n sl ho
      rw [Bool.and_eq_true] at h
      obtain ⟨vs, r1, r2⟩ := dats_ok (G := G) h.2
      exact ⟨.ref a, rfl, .tup (.inr ⟨_, its, n, ho, rfl, rfl, of_decide_eq_true h.1, r1⟩) r2⟩
    · cases h
theorem dats_ok {G : Hp} : ∀ {l : List D} {us : List Value}, datsB K l us = true → ∃ vs, Vals vs us ∧ Rds K G l vs
  | [], [], _ => ⟨[], .nil, .nil⟩
  | d :: l, u :: us, h => by
    unfold datsB at h
    rw [Bool.and_eq_true] at h
    obtain ⟨v, r1, r2⟩ := dat_ok (G := G) h.1
    obtain ⟨vs, r3, r4⟩ := dats_ok (G := G) h.2
    exact ⟨v :: vs, .cons r1 r3, .cons r2 r4⟩
end
def gdB (x : Str) (d : D) (K : Frag) : Bool := datB K d (.ref (He.ga K x))
theorem de_gdat {x : Str} {d : D} (hg : Gl X x) (hm : X.mg x = some (.ref (He.ga K x))) (h : gdB x d K = true) (hd : (x == ("__debug__" : Str)) = false := by decide) : PE X (.Name x pos) (aE K E (cC d)) :=
  (pe_glob (v := .ref (He.ga K x)) hg hm rfl hd).weak fun σ H Q hh => aE_c (fun G => by
    obtain ⟨v, r1, r2⟩ := dat_ok (G := G) (show datB K d (.ref (He.ga K x)) = true from h)
    have : v = .ref (He.ga K x) := by
      cases v <;> first | (obtain ⟨t, e⟩ := r1; cases e) | cases r1
      rfl
    rw [← this]
    exact r2) hh
end
end AM
set_option Elab.async false
set_option linter.all false
set_option maxRecDepth 100000
set_option maxHeartbeats 4000000
namespace AM
open PySem PySem.Spec PyProof.Rows L2 Bk
open PySem.W (Frag)
variable {K : Frag}
/-! ## keywords -/
def gI (idx : List Nat) {α : Type} (us its ws : List α) : List α := idx.filterMap fun i => (us ++ its ++ ws)[i]?
theorem paired_fm {α β : Type} {R : α → β → Prop} {l : List α} {m : List β} (h : Paired R l m) : ∀ idx : List Nat, Paired R (idx.filterMap fun i => l[i]?) (idx.filterMap fun i => m[i]?)
  | [] => .nil
  | i :: idx => by
    have ih := paired_fm h idx
    have key : ∀ {l : List α} {m : List β} (i : Nat), Paired R l m → (l[i]? = none ∧ m[i]? = none) ∨ ∃ a b, l[i]? = some a ∧ m[i]? = some b ∧ R a b := by
      intro l m i h
      induction h generalizing i with
      | nil => exact .inl ⟨by simp, by simp⟩
      | cons r t ih2 =>
        cases i with
        | zero => exact .inr ⟨_, _, rfl, rfl, r⟩
        | succ i => simpa using ih2 i
    rcases key i h with ⟨h1, h2⟩ | ⟨a, b, h1, h2, r⟩
    · rw [List.filterMap_cons, List.filterMap_cons, h1, h2]; exact ih
    · rw [List.filterMap_cons, List.filterMap_cons, h1, h2]; exact .cons r ih
theorem gI_vals (idx : List Nat) {vs ds zs : List V} {us its ws : List Value} (h1 : Vals vs us) (h2 : Vals ds its) (h3 : Vals zs ws) : Vals (gI idx vs ds zs) (gI idx us its ws) := paired_fm ((h1.append h2).append h3) idx
theorem rws_iff {c : Cfg K} : ∀ {ws : List W} {vs : List V}, Rws c ws vs → Paired (Rw c) ws vs
  | _, _, .nil => .nil
  | _, _, .cons h r => .cons h (rws_iff r)
theorem iff_rws {c : Cfg K} : ∀ {ws : List W} {vs : List V}, Paired (Rw c) ws vs → Rws c ws vs
  | _, _, .nil => .nil
  | _, _, .cons h r => .cons h (iff_rws r)
theorem gI_rws {c : Cfg K} (idx : List Nat) {us its ws : List W} {vs ds zs : List V} (h1 : Rws c us vs) (h2 : Rws c its ds) (h3 : Rws c ws zs) : Rws c (gI idx us its ws) (gI idx vs ds zs) :=
  iff_rws (paired_fm (rws_iff ((h1.app h2).app h3)) idx)
theorem etB_rd {f : Str × Option Str} {i : Nat} (h : etB f i K = true) (G : Hp) : Rd K G (.tup []) (.ref (He.dflAt f i K)) := by
  cases etB_ok h G with
  | tup h1 h2 => cases h2; exact .tup h1 .nil
section
variable {X : Cx} {E : XK} {pos apos p : Pos} {e o : Expr} {f : ME} {es : List Expr} {fs gs : MA} {C : Str} {F : F1} {k : Nat} {ps ks : List Str} {kws : List Keyword} {nm : Option Str} {kpos : Pos}
theorem PK.weak {t t' : TA} (h : PK X kws t) (k : ∀ σ H Q, t' σ H Q → t σ H Q) : PK X kws t' := ⟨fun pos pins s σ H Q I hw => h.run pos pins s σ H Q I (k σ H Q hw)⟩
theorem dk_nil : PK X [] (aA K E cNil) := PK.weak pk_nil fun σ H Q h => by
  obtain ⟨c, ε, rfl, re, h⟩ := h
  exact h.ok .nil
theorem dk_cons (ha : PE X e (aE K E f)) (hr : PK X kws (aA K E fs)) : PK X (⟨nm, e, kpos⟩ :: kws) (aA K E (cCons f fs)) := PK.weak (pk_cons ha hr) fun σ H Q h => by
  obtain ⟨c, ε, rfl, re, h⟩ := h
  refine ea re h fun c1 w1 u1 l1 r1 h1 => ?_
  refine aa (re.mono l1) h1 fun c2 w2 u2 l2 r2 h2 => ?_
  exact h2.ok (.cons (r1.mono l2) r2)
/-- C(k = v, ..): self is at 0, then the defaults, then the keywords -/
def makeKW (mu : Bool) (C : Str) (F : F1) (idx : List Nat) (dfl : List D) (ws : List W) (S : Sto) : Rs W := match F (gI idx [.ref S.length] (dfl.map .val) ws) (S ++ [.ins C []]) with
  | .ok (.val .non) S' => match S'[S.length]? with
    | some (.ins C' fs) => if mu then .ok (.ref S.length) (S'.take (S.length + 1)) else .ok (.val (.obj C' fs)) (S'.take S.length)
    | _ => .bad
  | .ex D fs S' => .ex D fs (S'.take S.length)
  | _ => .bad
def cMakeK (mu : Bool) (C : Str) (F : F1) (n : Nat) (idx : List Nat) (dfl : List D) (fs : MA) : ME := fun ε S => (fs ε S).bind fun ws S => if ws.length = n then makeKW mu C F idx dfl ws S else .bad
theorem makeG_ok {mu : Bool} {c : Cfg K} {args : W → List W} {ws : List W} {Q : VK} (h : AP c (match F (args (.ref c.S.length)) (c.S ++ [.ins C []]) with
  | .ok (.val .non) S' => match S'[c.S.length]? with
    | some (.ins C' fs) => if mu then .ok (.ref c.S.length) (S'.take (c.S.length + 1)) else .ok (.val (.obj C' fs)) (S'.take c.S.length)
    | _ => .bad
  | .ex D fs S' => .ex D fs (S'.take c.S.length)
  | _ => .bad) Q E) {x dx : Addr} (h1 : c.H x = none) (h2 : c.H dx = none) (h3 : dx ≠ x) {us : List V} (hr : ∀ c' : Cfg K, c.le c' → Rw c' (.ref c.S.length) (.ref x) → Rws c' (args (.ref c.S.length)) us) :
    aSp K F us (upd (upd c.H dx (.own x)) x (.ins (He.ga K C) dx [])) (fun v H2 => v = .non ∧ Q (.ref x) H2) E := by
  have lp : c.le (c.pushIns x dx C h1 h2 h3) := ⟨Same.rfl', List.prefix_append _ _⟩
  have em : (c.pushIns x dx C h1 h2 h3).m[c.S.length]? = some x := by
    show (c.m ++ [x])[c.S.length]? = some x
    rw [List.getElem?_append_right (by rw [c.len]; exact Nat.le_refl _), c.len, Nat.sub_self]
    rfl
  refine ⟨c.pushIns x dx C h1 h2 h3, args (.ref c.S.length), rfl, hr _ lp ⟨x, em, rfl⟩, ?_⟩
  show AP _ (F (args (.ref c.S.length)) (c.S ++ [.ins C []])) _ _
  cases q : F (args (.ref c.S.length)) (c.S ++ [.ins C []]) with
  | bad => rw [q] at h; exact h
  | ex D fs S' =>
    rw [q] at h
    exact fun c' l es d gs hd rf => h (c'.take c.S.length) ((lp.tr l).take (Nat.le_refl _)) (by rw [← es]; rfl) d gs hd rf
  | ok w S' =>
    rw [q] at h
    intro c' l es u ru
    subst es
    split at h
    · rename_i hq
      cases hq
      cases ru
      refine ⟨rfl, ?_⟩
      have em' := pre_get l.m em
      split at h
      · rename_i C' gs e2
        cases mu with
        | true =>
          refine h (c'.take (c.S.length + 1)) ((lp.tr l).take (by omega)) rfl _ ⟨x, ?_, rfl⟩
          show (c'.m.take (c.S.length + 1))[c.S.length]? = some x
          rw [List.getElem?_take, if_pos (Nat.lt_succ_self _)]
          exact em'
        | false =>
          obtain ⟨dx', vs, e3, r3⟩ := c'.at_ _ x _ em' e2
          have sm : Same c'.G (upd c'.G x (.ins (He.ga K C') dx' vs)) := same_new (c'.fr _ x _ em' e2 (fun z => by cases z))
          have l4 : c'.le (c'.freeze _ x _ _ em' e2 (fun z => by cases z) e3) := ⟨sm, List.prefix_refl _⟩
          refine h ((c'.freeze _ x _ _ em' e2 (fun z => by cases z) e3).take c.S.length) (((lp.tr l).tr l4).take (Nat.le_refl _)) ?_ _ (Rd.obj (by show upd c'.G x _ x = _; rw [upd_same]) (r3.mono sm))
          show (c'.S.set _ .dead).take c.S.length = c'.S.take c.S.length
          rw [List.take_set_of_le (Nat.le_refl _)]
      · exact h.elim
    · rename_i hq; cases hq
    · exact h.elim
theorem de_makeKw {mu : Bool} {g : Addr} {nx nq : Str} {params : Arguments} {body : List Stmt} {scope : Scope} {dvs : List V} {kws0 : List (Str × V)} (idx : List Nat) (dfl : List D) (ks : List Str) (hK : X.K = K) (M : Mk K (He.ga K C) g) (Fo : MOk X.prog X.w K X.mg X.base k g ps (aSp K F))
    (FD : ∃ fd, FunD K nx nq params body scope dvs kws0 g fd) (hd : dvs ≠ []) (hdf : ∀ G, Rds K G dfl dvs)
    (hb : ∀ (T : Addr) (kV doc pm : Value) (an : Option Addr) (cdv ct : Value) (us its ws : List Value), us.length = 1 → its.length = dvs.length → ws.length = ks.length →
      ∃ k, bindArgs (PySem.W.fnOf nx nq params body scope (.ref T) kV doc pm an cdv ct) ⟨us, ks.zip ws⟩ = seqItems? (.ref T) >>= k ∧ k (some its.toArray) = pure (ps.zip (gI idx us its ws)))
    (hr : Room (k + 1) X.A) (hg : Gl X C) (hm : X.mg C = some (.ref (He.ga K C))) (hx : Passes (L2.CX X.prog X.w) X E) (hkw : PK X kws (aA K E fs))
    (hall : (backToKw pos (keywordEach kws X.env)).all (·.1.isSome) = true := by rfl) (hks : (backToKw pos (keywordEach kws X.env)).filterMap (·.1) = ks := by rfl) (hdb : (C == ("__debug__" : Str)) = false := by decide)
    (hpl : ((backTo pos (starEach [] X.env)).any (·.1) || (backToKw pos (keywordEach kws X.env)).any (·.1.isNone)) = false := by rfl) :
    PE X (.Call (.Name C p) [] kws pos) (aE K E (cMakeK mu C F ks.length idx dfl fs)) := by
  subst hK
  refine (pe_makeKw ks (gI idx) M Fo FD hd (gI_vals idx) hb hr hg hm hx hkw hall hks hdb hpl).weak fun σ H Q h => ?_
  obtain ⟨c, ε, rfl, re, h⟩ := h
  refine ae re h fun c1 ws us l1 r1 h1 => ?_
  split at h1
  · rename_i hl
    refine ⟨rfl, by rw [← r1.length]; exact hl, fun x dx e1 e2 e3 => ?_⟩
    exact makeG_ok (ws := ws) (args := fun w => gI idx [w] (dfl.map .val) ws) h1 e1 e2 e3 fun c' l' rx => gI_rws idx (.cons rx .nil) (rws_map (hdf _)) (r1.mono l')
  · exact h1.elim
/-- C(e, ..) with defaults behind -/
def cMakeD (mu : Bool) (C : Str) (F : F1) (dfl : List D) (fs : MA) : ME := fun ε S => (fs ε S).bind fun ws S => makeW mu C F (ws ++ dfl.map .val) S
theorem de_makeDf {mu : Bool} {g : Addr} {nx nq : Str} {params : Arguments} {body : List Stmt} {scope : Scope} {dvs : List V} {kws0 : List (Str × V)} (n j : Nat) (dfl : List D) (hK : X.K = K) (M : Mk K (He.ga K C) g) (Fo : MOk X.prog X.w K X.mg X.base k g ps (aSp K F))
    (FD : ∃ fd, FunD K nx nq params body scope dvs kws0 g fd) (hd : dvs ≠ []) (hdf : ∀ G, Rds K G dfl (dvs.drop j)) (hn : n + (dvs.length - j) = ps.length)
    (hb : ∀ (T : Addr) (kV doc pm : Value) (an : Option Addr) (cdv ct : Value) (us its : List Value), us.length = n → its.length = dvs.length →
      ∃ k, bindArgs (PySem.W.fnOf nx nq params body scope (.ref T) kV doc pm an cdv ct) ⟨us, []⟩ = seqItems? (.ref T) >>= k ∧ k (some its.toArray) = pure (ps.zip (us ++ its.drop j)))
    (hr : Room (k + 1) X.A) (hg : Gl X C) (hm : X.mg C = some (.ref (He.ga K C))) (hx : Passes (L2.CX X.prog X.w) X E)
    (ha : PA X (e :: es) (aA K E fs)) (hdb : (C == ("__debug__" : Str)) = false := by decide) (he : starEach (e :: es) X.env = (false, eval e X.env) :: starEach es X.env := by rfl)
    (hpl : (backTo pos (starEach es X.env)).any (·.1) = false := by rfl) : PE X (.Call (.Name C p) (e :: es) [] pos) (aE K E (cMakeD mu C F dfl fs)) := by
  subst hK
  refine (pe_makeDf n j M Fo FD hd hn hb hr hg hm hx ha hdb he hpl).weak fun σ H Q h => ?_
  obtain ⟨c, ε, rfl, re, h⟩ := h
  refine ae re h fun c1 ws us l1 r1 h1 => ?_
  intro x dx e1 e2 e3
  exact make_ok (r1.app (rws_map (hdf _))) h1 e1 e2 e3
end
end AM
set_option Elab.async false
set_option linter.all false
set_option maxRecDepth 100000
set_option maxHeartbeats 4000000
namespace AM
open PySem PySem.Spec PyProof.Rows L2 Bk RZ
open PySem.W (Frag)
variable {K : Frag}
section
variable {X : Cx} {E : XK} {pos p : Pos} {a b c' e e2 : Expr} {fs : MA}
def sPar3 (i j l : Nat) (fs : MA) : MS := fun ε S => (fs ε S).bindT fun ws S => match ws with | [u, v, w] => .nx (((ε.set i (some u)).set j (some v)).set l (some w)) S | _ => .bad
theorem ds_par3 {i j l : Nat} {x y z : Str} {px py pz pt : Pos} {kt k2 pt2} (hc : X.calm = true) (hN : X.N.Nodup) (hi : X.N[i]? = some x) (hj : X.N[j]? = some y) (hl : X.N[l]? = some z) (hij : i ≠ j) (hil : i ≠ l) (hjl : j ≠ l)
    (hx : X.env.scope.names.lookup x = some .local) (hy : X.env.scope.names.lookup y = some .local) (hz : X.env.scope.names.lookup z = some .local) (ha : PA X [a, b, c'] (aA K E fs))
    (hw : swappedStores [.Tuple [.Name x px, .Name y py, .Name z pz] kt pt] (.Tuple [a, b, c'] k2 pt2) X.env = pure (some [x, y, z]))
    (hs : swapsWithSole [.Tuple [.Name x px, .Name y py, .Name z pz] kt pt] (.Tuple [a, b, c'] k2 pt2) pos.line X.env = pure false := by rfl) :
    PS X (.Assign [.Tuple [.Name x px, .Name y py, .Name z pz] kt pt] (.Tuple [a, b, c'] k2 pt2) pos) (aS K E (sPar3 i j l fs)) := (ps_par3 hc hN hi hj hl hij hil hjl hx hy hz ha hw hs).weak fun D σ H h => by
  obtain ⟨c, ε, rfl, re, h⟩ := h
  refine as re h fun c1 ws us l1 r1 h1 => ?_
  split at h1
  · cases r1 with
    | cons r1 r2 => cases r2 with
      | cons r2 r3 => cases r3 with
        | cons r3 r4 =>
          cases r4
          exact ⟨_, _, _, rfl, h1 c1 .refl rfl _ ((((re.mono l1).set i r1).set j r2).set l r3)⟩
  · exact h1.elim
def zipD : List D → List D → List D
  | x :: l, y :: r => .tup [x, y] :: zipD l r
  | _, _ => []
theorem zipD_len : ∀ l r : List D, (zipD l r).length = min l.length r.length
  | [], _ => by simp [zipD]
  | _ :: _, [] => by simp [zipD]
  | x :: l, y :: r => by
    rw [zipD, List.length_cons, zipD_len, List.length_cons, List.length_cons]
    omega
theorem zipD_get : ∀ {l r : List D} {i : Nat} {d : D}, (zipD l r)[i]? = some d → ∃ x y, l[i]? = some x ∧ r[i]? = some y ∧ d = .tup [x, y]
  | [], _, _, _, h => by simp [zipD] at h
  | _ :: _, [], _, _, h => by simp [zipD] at h
  | x :: l, y :: r, 0, d, h => by simp [zipD] at h; exact ⟨x, y, rfl, rfl, h.symm⟩
  | x :: l, y :: r, i + 1, d, h => by
    rw [zipD, List.getElem?_cons_succ] at h
    obtain ⟨x', y', h1, h2, h3⟩ := zipD_get h
    exact ⟨x', y', by simpa using h1, by simpa using h2, h3⟩
theorem walk_zipT {a b : Addr} {xs ys : List V} {n : Nat} (hn : n = min xs.length ys.length) : Walk (ItzT K a b) n (fun H => SqT K H a xs ∧ SqT K H b ys) (YPair (fun i => xs[i]?) (fun i => ys[i]?)) := by
  refine ⟨fun i H hi hg => ?_, fun H hg => ?_, fun i H x H' hi hg hy => ?_⟩
  · exact ⟨xs, ys, xs[i]'(by omega), ys[i]'(by omega), hg.1, hg.2, List.getElem?_eq_getElem _, List.getElem?_eq_getElem _⟩
  · exact ⟨xs, ys, hg.1, hg.2, by omega⟩
  · obtain ⟨T, x1, y1, h1, h2, h3, h4, h5⟩ := hy
    exact ⟨T, x1, y1, h1, h2, h3, h4 xs hg.1, h5 ys hg.2⟩
def cZip (fs : MA) : MI := fun ε S => (fs ε S).bind fun ws S => match ws with
  | [.val (.tup l), .val (.tup r)] => .ok (zipD l r) S
  | [.val (.lst l), .val (.lst r)] => .ok (zipD l r) S
  | _ => .bad
theorem ait_zip {c : Cfg K} {J : It} {Gd : Hp → Prop} {l r : List D} {xs ys : List V} (wk : Walk J (min xs.length ys.length) Gd (YPair (fun i => xs[i]?) (fun i => ys[i]?))) (rl : Rds K c.G l xs) (rr : Rds K c.G r ys) (hg : ∀ c2 : Cfg K, c.le c2 → Gd c2.H) : AIt c (zipD l r) J :=
  ait_pair wk (by rw [zipD_len, rl.length, rr.length]) hg fun c2 l2 i d x y e1 e2 e3 => by
    obtain ⟨p, q, h1, h2, rfl⟩ := zipD_get e1
    obtain ⟨v, ev, rv⟩ := rl.get h1
    obtain ⟨u, eu, ru⟩ := rr.get h2
    rw [e2] at ev
    rw [e3] at eu
    cases ev; cases eu
    exact ⟨p, q, rfl, rv.mono l2.g, ru.mono l2.g⟩
theorem di_zip {tpos : Pos} {elts : List Expr} {kk : Nat} (hK : X.K = K) (hg : Gl X "zip") (hm : X.mg "zip" = none) (ha : PA X [e, e2] (aA K E fs))
    (hs : starEach [e, e2] X.env = (false, eval e X.env) :: starEach [e2] X.env := by rfl) (hpl : (backTo pos (starEach [e2] X.env)).any (·.1) = false := by rfl) :
    PI X (.Tuple elts kk tpos) (.Call (.Name "zip" p) [e, e2] [] pos) (aI K E (cZip fs)) := by
  subst hK
  refine (pi_zipA hg hm ha hs hpl).weak fun σ H R h => ?_
  obtain ⟨c, ε, rfl, re, h⟩ := h
  refine ai re h fun c1 ws us l1 r1 h1 => ?_
  split at h1
  · cases r1 with
    | cons r1 r2 => cases r2 with
      | cons r2 r3 =>
        cases r3
        cases r1 with
        | tup q1 q2 => cases r2 with
          | tup q3 q4 => exact ⟨_, _, _, _, rfl, .inr ⟨Same.tup c1.sub q1, Same.tup c1.sub q3, h1 c1 .refl rfl _ (ait_zip (walk_zipT rfl) q2 q4 fun c2 l2 => ⟨Same.tup c2.sub (Same.tup l2.g q1), Same.tup c2.sub (Same.tup l2.g q3)⟩)⟩⟩
  · cases r1 with
    | cons r1 r2 => cases r2 with
      | cons r2 r3 =>
        cases r3
        cases r1 with
        | lst q1 q2 => cases r2 with
          | lst q3 q4 => exact ⟨_, _, _, _, rfl, .inl ⟨.inl (.inl (c1.sub _ _ q1)), .inl (.inl (c1.sub _ _ q3)), h1 c1 .refl rfl _ (ait_zip (walk_zip rfl) q2 q4 fun c2 l2 => ⟨.inl (.inl (c2.sub _ _ (l2.g _ _ q1))), .inl (.inl (c2.sub _ _ (l2.g _ _ q3)))⟩)⟩⟩
  · exact h1.elim
end
end AM
set_option Elab.async false
set_option linter.all false
set_option maxRecDepth 100000
set_option maxHeartbeats 4000000
namespace AM
open PySem PySem.Spec PyProof.Rows L2 Bk
open PySem.W (Frag)
variable {K : Frag}
/-- something is laid that nobody knows of -/
def Cfg.junk (c : Cfg K) (p : Addr) (o : HO) (h : c.H p = none) : Cfg K where
  G := c.G
  m := c.m
  S := c.S
  H := upd c.H p o
  sub := fun a u e => by
    rw [upd_ne (ne_of_none e (c.gnone h))]
    exact c.sub a u e
  len := c.len
  nd := c.nd
  at_ := fun n a ob e1 e2 => by
    have r := c.at_ n a ob e1 e2
    obtain ⟨u, hu⟩ := r.some
    rw [upd_ne (ne_of_none hu h)]
    exact r
  fr := c.fr
theorem Cfg.junk_le (c : Cfg K) {p : Addr} {o : HO} (h : c.H p = none) : c.le (c.junk p o h) := ⟨Same.rfl', List.prefix_refl _⟩
def setAll : Ev → List Nat → List W → Ev
  | ε, i :: is, w :: ws => setAll (ε.set i (some w)) is ws
  | ε, _, _ => ε
section
variable {X : Cx} {E : XK} {pos : Pos} {e : Expr} {es : List Expr} {fs : MA}
def aGn (K : Frag) (is : List Nat) : TGs := fun vs σ H Q => ∃ (c : Cfg K) (ε : Ev) (ws : List W), c.H = H ∧ Re c ε σ ∧ Rws c ws vs ∧ ws.length = is.length ∧ ∀ σ', Re c (setAll ε is ws) σ' → Q σ' H
theorem dgn_nil : PGs X [] (aGn K []) := PGs.weak pgs_nil fun vs σ H Q h => by
  obtain ⟨c, ε, ws, rfl, re, r, e, q⟩ := h
  cases r with
  | nil => exact ⟨rfl, q σ re⟩
  | cons _ _ => cases e
theorem dgn_cons {i : Nat} {is : List Nat} {x : Str} {p : Pos} (hN : X.N.Nodup) (hi : X.N[i]? = some x) (hx : Loc X.env.scope x) (h2 : PGs X es (aGn K is)) (hf : X.fn x = true ∨ X.env.scope.names.lookup x = some .local := by first | exact .inl rfl | exact .inr rfl | assumption)
    (hs : (assignEach (.Name x p :: es) X.env).map (·.2) = assign (.Name x p) X.env :: (assignEach es X.env).map (·.2) := by rfl) : PGs X (.Name x p :: es) (aGn K (i :: is)) := PGs.weak (pgs_cons (pg_name hN hi hx hf) h2 hs) fun vs σ H Q h => by
  obtain ⟨c, ε, ws, rfl, re, r, e, q⟩ := h
  cases r with
  | nil => cases e
  | cons h1 r1 =>
    rename_i w v ws vs
    exact ⟨v, vs, rfl, c, ε.set i (some w), ws, rfl, re.set i h1, r1, Nat.succ.inj e, q⟩
/-- a, b, .. = x, y, .. -/
def sParN (is : List Nat) (fs : MA) : MS := fun ε S => (fs ε S).bindT fun ws S => if ws.length = is.length ∧ ws.length ≤ sizeLine then .nx (setAll ε is ws) S else .bad
theorem ds_parN {is : List Nat} {ts : List Expr} {kt k2 : Nat} {pt pt2 : Pos} {n : Nat} (hK : X.K = K) (hc : X.calm = true) (hg : PGs X ts (aGn K is)) (ha : PA X es (aA K E fs)) (hn : (assignEach ts X.env).length = n := by rfl) (hni : n = is.length := by rfl) (hst : (assignEach ts X.env).findIdx? (·.1) = none := by rfl)
    (hs : swapsWithSole [.Tuple ts kt pt] (.Tuple es k2 pt2) pos.line X.env = pure false := by rfl) (hw : swappedStores [.Tuple ts kt pt] (.Tuple es k2 pt2) X.env = pure none := by rfl)
    (h1 : (assignEach [.Tuple ts kt pt] X.env).map (·.2) = [assign (.Tuple ts kt pt) X.env] := by rfl) : PS X (.Assign [.Tuple ts kt pt] (.Tuple es k2 pt2) pos) (aS K E (sParN is fs)) := by
  subst hK
  refine (ps_asg (pe_tup ha) (pg_tup hc hg hn hst) hs hw h1).weak fun D σ H h => ?_
  obtain ⟨c, ε, rfl, re, h⟩ := h
  refine as re h fun c1 ws us l1 r1 h1 => ?_
  split at h1
  · rename_i hl
    have e := r1.length
    refine ⟨by omega, fun p hp => ?_⟩
    refine ⟨p, us, rfl, .inl (.inl (by rw [upd_same])), by omega, c1.junk p _ hp, ε, ws, rfl, (re.mono l1).mono (c1.junk_le hp), r1.mono (c1.junk_le hp), hl.1, fun σ' re' => ?_⟩
    exact h1 (c1.junk p _ hp) (c1.junk_le hp) rfl σ' re'
  · exact h1.elim
end
end AM
set_option Elab.async false
set_option linter.all false
set_option maxRecDepth 100000
set_option maxHeartbeats 4000000
namespace AM
open PySem PySem.Spec PyProof.Rows L2 Bk
open PySem.W (Frag)
variable {K : Frag}
section
variable {X : Cx} {E : XK} {pos apos p1 : Pos} {a b e o : Expr} {fa fb f : ME} {es : List Expr} {fs : MA}
/-! ## a tuple known to have no dict: tuple(list) -/
theorem call_tupleX : CallR X (.type "tuple") (fun xs H Q => ∃ p ys, xs = [.ref p] ∧ SqL X.K H p ys ∧ ∀ l o, H l = none → o.dict = none → Q (.ref l) (upd H l (.frz o (.tup ys)))) := by
  intro pins s σ H xs us Q I r h
  obtain ⟨p, ys, rfl, hq, q⟩ := h
  obtain ⟨u, rfl, rx⟩ := vals1 r
  cases rx
  obtain ⟨its, r', pl, hz⟩ := I.list hq
  have hlen := r'.length
  refine call_tuple_list pl.isList (fun h' kp => ?_) (by simp only [List.size_toArray] <;> omega)
  have I1 : Inv X pins σ H { s with heap := h' } := I.kept (t' := s.toks) kp
  have I2 : Inv X pins σ (upd H h'.objs.size (.frz { cls := .type "tuple", data := .seq its.toArray } (.tup ys))) { s with heap := h'.push { cls := .type "tuple", data := .seq its.toArray } } :=
    I1.laid (t' := s.toks) (fun b o e => Heap.get?_push_of_some _ e) (Nat.le_refl _) (show ObjOk X.prog X.w _ _ _ (.frz _ (.tup ys)) from ⟨Heap.get?_push_at rfl rfl, hz, its, r', IsTup.new _ _⟩)
  exact ⟨.ref h'.objs.size, _, I2, rfl, q _ _ (I1.hok.fresh (Nat.le_refl _)) rfl⟩
theorem AP.tux {c : Cfg K} {l : List D} {xs : List V} {p : Addr} {o : Obj} {Q : VK} {E : XK} (h : AP c (.ok (.val (.tux l)) c.S) Q E) (r : Rds K c.G l xs) (hp : c.H p = none) (hd : o.dict = none) : Q (.ref p) (upd c.H p (.frz o (.tup xs))) :=
  h (c.lay p _ hp) (c.lay_le hp) rfl _ (show Rd K _ _ _ from Rd.tux (by show upd c.G p _ p = _; rw [upd_same]) hd (r.mono (same_new (c.gnone hp))))
def tupXD : List D → Option D | [.lst l] => some (.tux l) | _ => none
theorem ca_tupleX (hK : X.K = K) : CallR X (.type "tuple") (rAs K E (aFn tupXD)) := by
  subst hK
  refine CallR.weak call_tupleX fun u H Q h => ?_
  replace h := aFn_of h
  obtain ⟨c, l, d, rfl, r, e, h⟩ := h
  unfold tupXD at e
  split at e
  · cases e
    replace r := rc1 r
    obtain ⟨u, rfl, r⟩ := r
    obtain ⟨a, xs, rfl, q1, q2⟩ := r
    exact ⟨_, _, rfl, .inl (.inl q1), fun p o hp hd => h.tux q2 hp hd⟩
  · cases e
/-! ## index -/
def idxS (x : Str) (ys : List Str) : Option Nat := ys.findIdx? (· == x)
def cTIdx (fo fe : ME) : ME := fun ε S => (fo ε S).bind fun w S => match w with
  | .val (.tux l) => (fe ε S).bind fun y S => match y with
    | .val (.str z) => match strsD l with
      | some ys => match idxS z ys with | some j => .ok (.val (.int (j : Nat))) S | none => .bad
      | none => .bad
    | _ => .bad
  | _ => .bad
theorem idx_at {z : Str} : ∀ {ys : List Str} {j : Nat}, idxS z ys = some j → ys[j]? = some z ∧ ∀ m, m < j → ys[m]? ≠ some z := by
  intro ys j h
  unfold idxS at h
  rw [List.findIdx?_eq_some_iff_getElem] at h
  obtain ⟨hj, h1, h2⟩ := h
  refine ⟨by rw [List.getElem?_eq_getElem hj]; exact congrArg some (by simpa using h1), fun m hm z' => ?_⟩
  have hm' : m < ys.length := by omega
  rw [List.getElem?_eq_getElem hm'] at z'
  have := h2 m hm
  cases z'
  simp at this
theorem de_tidx (hK : X.K = K) (ho : PE X o (aE K E fa)) (he : PE X e (aE K E fb))
    (hbase : attributeBase o "index" X.env (eval o X.env) = eval o X.env := by rfl)
    (hfew : ((backTo pos (starEach [e] X.env)).all (fun x => !x.1) && (backToKw pos (keywordEach [] X.env)).all (fun x => x.1.isSome)
      && decide (([e] : List Expr).length + ([] : List Keyword).length + (if ([] : List Keyword).isEmpty then 0 else 1) < 30)) = true := by rfl)
    (hline : (apos.endLine == pos.line) = true := by rfl) (hs : starEach [e] X.env = (false, eval e X.env) :: starEach [] X.env := by rfl) (hplain : (backTo pos (starEach [] X.env)).any (·.1) = false := by rfl) :
    PE X (.Call (.Attribute o "index" apos) [e] [] pos) (aE K E (cTIdx fa fb)) := by
  subst hK
  have ha : PA X [e] (aA X.K E (cCons fb cNil)) := da_cons he da_nil hs
  refine ⟨fun pins s σ H Q I h => ?_⟩
  obtain ⟨c, ε, rfl, re, h⟩ := h
  have h0 : aE X.K E fa σ c.H (fun u H1 => ∃ c1 : Cfg X.K, c1.H = H1 ∧ c.le c1 ∧ ∃ l, Rd X.K c1.G (.tux l) u ∧ AP c1 ((fb ε c1.S).bind fun y S => match y with
    | .val (.str z) => match strsD l with
      | some ys => match idxS z ys with | some j => .ok (.val (.int (j : Nat))) S | none => .bad
      | none => .bad
    | _ => .bad) Q E) := by
    refine ee re h fun c1 w1 u1 l1 r1 h1 => ?_
    split at h1
    · exact ⟨c1, rfl, l1, _, r1, h1⟩
    · exact h1.elim
  refine wpAny_Call_method_late hbase hfew hline rfl (thn (ho.run pins s σ c.H _ I h0) fun v s1 ⟨x, H1, I1, r1, c1, e1, l1, l, rl, h1⟩ => ?_)
  subst e1
  cases rl with
  | @tux ad ob xs _ hg hd rs =>
    cases r1
    have okf := I1.hok _ _ (c1.sub _ _ hg)
    obtain ⟨hget, hobj⟩ : s1.heap.get? ad = some ob ∧ ObjOk X.prog X.w c1.H s1.heap ad (.tup xs) := okf
    obtain ⟨hz, its, rv, ob2, hg2, hc2, n2, hd2⟩ := hobj
    rw [hget] at hg2
    cases hg2
    refine ⟨"tuple", "tuple.index", PySem.F.plainAttrs_tuple, PySem.F.slot_tuple_index, PySem.F.type_tuple_index, ⟨ob, hget, hc2⟩, fun a ea => by cases ea; exact ⟨ob, hget, hd⟩, ?_⟩
    have hA := ha.run pos pins s1 σ c1.H (fun us H2 => ∃ c2 : Cfg X.K, c2.H = H2 ∧ c1.le c2 ∧ ∃ z ys j, us = [.str z] ∧ strsD l = some ys ∧ idxS z ys = some j ∧ AP c2 (.ok (.val (.int (j : Nat))) c2.S) Q E) I1 (by
      refine ⟨c1, ε, rfl, re.mono l1, ?_⟩
      unfold cCons cNil
      cases q : fb ε c1.S with
      | bad => rw [q] at h1; exact h1.elim
      | ex C fs S => rw [q] at h1; exact h1
      | ok w S =>
        rw [q] at h1
        simp only [Rs.bind] at h1 ⊢
        intro c2 l2 es us rws
        cases rws with
        | cons rw1 rw2 =>
          cases rw2
          split at h1
          · rename_i z
            split at h1
            · rename_i ys eys
              split at h1
              · rename_i j ej
                cases rw1
                refine ⟨c2, rfl, l2, z, ys, j, rfl, eys, ej, ?_⟩
                rw [es]
                exact AP.up h1 l2
              · exact h1.elim
            · exact h1.elim
          · exact h1.elim)
    rw [hs] at hA ⊢
    refine Calls.callWith_builtin (by show (false || (backTo pos (starEach [] X.env)).any (·.1)) = false; rw [hplain] <;> rfl) (Calls.evalArgs_plain ?_)
    refine thn hA fun us s2 ⟨vs, H2, I2, r2, c2, e2, l2, z, ys, j, ev, eys, ej, q2⟩ => ?_
    subst e2
    subst ev
    obtain ⟨a1, a2⟩ := idx_at ej
    refine mt_tup_index pins s2 σ c2.H (.ref ad) [.str z] (.ref ad) us Q I2 rfl r2 ⟨ad, ys, z, j, rfl, rfl, ?_, a1, a2, q2.int⟩
    rw [← strs_ok eys rs]
    exact .inl (.inr ⟨_, c2.sub _ _ (l2.g _ _ hg)⟩)
end
end AM
set_option Elab.async false
set_option linter.all false
set_option maxRecDepth 100000
set_option maxHeartbeats 4000000
namespace AM
open PySem PySem.Spec PyProof.Rows L2 Bk
open PySem.W (Frag)
variable {K : Frag}
theorem merge_nodup : ∀ (more acc : List (Key × V)), ((acc ++ more).map (·.1)).Nodup → mergeK acc more = acc ++ more
  | [], acc, _ => by rw [List.append_nil]; rfl
  | p :: r, acc, h => by
    have hp : (acc.any fun kv => decide (kv.1 = p.1)) = false := by
      rw [List.any_eq_false]
      intro kv hkv z
      rw [List.map_append, List.nodup_append] at h
      exact h.2.2 kv.1 (List.mem_map_of_mem hkv) p.1 (by simp) (by simpa using z)
    have e : putK acc p.1 p.2 = acc ++ [p] := by
      unfold putK
      rw [hp]
      rfl
    show mergeK (putK acc p.1 p.2) r = _
    rw [e, merge_nodup r (acc ++ [p]) (by rw [List.append_assoc]; exact h), List.append_assoc]
    rfl
theorem valV_keyS (z : Str) : ∀ vs : List (Str × V), valV (keyS vs) (Sum.inr z : Key) = vs.lookup z
  | [] => rfl
  | (k, v) :: vs => by
    have ih := valV_keyS z vs
    unfold valV keyS at ih ⊢
    rw [List.map_cons, List.find?_cons, List.lookup_cons]
    by_cases h : z = k
    · subst h
      simp
    · have h1 : (z == k) = false := by simpa using h
      have h2 : decide ((Sum.inr k : Key) = Sum.inr z) = false := by
        rw [decide_eq_false_iff_not]
        intro q
        exact h (Sum.inr.inj q).symm
      rw [h1]
      simp only [h2]
      exact ih
theorem rfs_zip {G : Hp} : ∀ {ks : List Str} {ds : List D} {us : List V}, Rds K G ds us → Rfs K G (ks.zip ds) (ks.zip us)
  | [], _, _, _ => .nil
  | _ :: _, _, _, .nil => .nil
  | _ :: _, _, _, .cons h r => .cons h (rfs_zip r)
section
variable {X : Cx} {E : XK} {pos apos p1 : Pos} {a b e o : Expr} {fa fb fc f : ME} {es : List Expr} {fs : MA}
/-- the pairs of a display whose keys are written texts -/
inductive DP (X : Cx) (K : Frag) (E : XK) : List (Option Expr) → List Expr → List Str → MA → Prop
  | nil : DP X K E [] [] [] cNil
  | cons {k : Str} {j : Nat} {p : Pos} {v : Expr} {ks : List (Option Expr)} {vs : List Expr} {zs : List Str} {f : ME} {fs : MA} (hk : k.length ≤ sizeLine) (hv : PE X v (aE K E f)) (r : DP X K E ks vs zs fs) : DP X K E (some (.Constant (.str k) j p) :: ks) (v :: vs) (k :: zs) (cCons f fs)
theorem DP.ok {ks : List (Option Expr)} {vs : List Expr} {zs : List Str} {fs : MA} (h : DP X K E ks vs zs fs) :
    ∃ trs, PPs X pos ks vs trs ∧ ∀ (c : Cfg K) (ε : Ev) (σ : L2.St) (Q : List (V × V) → Hp → Prop), Re c ε σ → APa c (fs ε c.S) (fun us H => us.length = zs.length → Q ((zs.zip us).map fun p => (V.str p.1, p.2)) H) E → tPairs trs σ c.H Q := by
  induction h with
  | nil =>
    refine ⟨[], pps_nil, fun c ε σ Qa re h => ?_⟩
    exact APa.ok h .nil rfl
  | @cons k j p v ks vs zs f fs hk hv r ih =>
    obtain ⟨trs, hp, ih⟩ := ih
    refine ⟨(aE K E (cC (.str k)), aE K E f) :: trs, pps_cons (de_str hk) hv hp, fun c ε σ Q re h => ?_⟩
    show aE K E (cC (.str k)) σ c.H fun x H1 => aE K E f σ H1 fun y H2 => tPairs trs σ H2 fun ps H3 => Q ((x, y) :: ps) H3
    refine ⟨c, ε, rfl, re, fun c0 l0 es0 u0 r0 => ?_⟩
    have r0' : Rd K c0.G (.str k) u0 := r0
    cases r0'
    have h' : APa c0 ((cCons f fs) ε c0.S) (fun us H => us.length = (k :: zs).length → Q (((k :: zs).zip us).map fun p => (V.str p.1, p.2)) H) E := by
      rw [es0]
      exact APa.up h l0
    refine ea (re.mono l0) h' fun c1 w1 u1 l1 r1 h1 => ?_
    refine ih c1 ε σ _ (re.mono (l0.tr l1)) ?_
    cases q : fs ε c1.S with
    | bad => rw [q] at h1; exact h1
    | ex C gs S => rw [q] at h1; exact h1
    | ok ws S =>
      rw [q] at h1
      exact fun c' l es us rs hl => h1 c' l es _ (.cons (r1.mono l) rs) (by rw [List.length_cons, List.length_cons, hl])
def isDic : D → Option (List (Str × D)) | .dic kvs => some kvs | _ => none
def isE (o : Option Ob) : Bool := match o with | some (.dic []) => true | _ => false
/-- {k: v, ..} with written texts as keys -/
def cDic (ks : List Str) (fs : MA) : ME := fun ε S => (fs ε (S ++ [.dic []])).bind fun ws S1 => match toDs ws S1 with
  | some (ds, S2) => if isE S2[S.length]? = true ∧ ds.length = ks.length then .ok (.val (.dic (ks.zip ds))) (S2.take S.length) else .bad
  | none => .bad
theorem isE_of {o : Option Ob} (h : isE o = true) : o = some (.dic []) := by
  unfold isE at h
  split at h
  · rfl
  · cases h
theorem de_dic {ks : List (Option Expr)} {vs : List Expr} {zs : List Str} (h : DP X K E ks vs zs fs) (hnd : zs.Nodup := by decide) (hall : ks.all (·.isSome) = true := by rfl) (hl : ks.length = vs.length := by rfl) (h0 : ks ≠ [] := by intro z; cases z)
    (h15 : ks.length ≤ 15 := by decide) (hz15 : zs.length ≤ 15 := by decide) : PE X (.Dict ks vs pos) (aE K E (cDic zs fs)) := by
  obtain ⟨trs, hp, hr⟩ := DP.ok (pos := pos) h
  refine (pe_disp hp hall hl h0 h15).weak fun σ H Q h => ?_
  obtain ⟨c, ε, rfl, re, h⟩ := h
  intro p hpn
  let c1 := c.push p (.dic []) (.dK []) hpn ⟨[], rfl, .nil⟩
  have l1 : c.le c1 := ⟨Same.rfl', List.prefix_append _ _⟩
  refine hr c1 ε σ _ (re.mono l1) ?_
  show APa c1 (fs ε (c.S ++ [.dic []])) _ E
  unfold cDic at h
  cases q : fs ε (c.S ++ [.dic []]) with
  | bad => rw [q] at h; exact h.elim
  | ex C gs S => rw [q] at h; exact fun c' l => h c' (l1.tr l)
  | ok ws S1 =>
    rw [q] at h
    simp only [Rs.bind] at h
    intro c' l es us rs hlen
    split at h
    · rename_i ds S2 e2
      split at h
      · rename_i hc
        obtain ⟨hc1, hc2⟩ := hc
        replace hc1 := isE_of hc1
        rw [← es] at e2
        obtain ⟨c2, l2, s2, hh2, r2⟩ := toDs_ok e2 rs
        rw [← hh2]
        have em : c2.m[c.S.length]? = some p := by
          refine pre_get (l.tr l2).m ?_
          show (c.m ++ [p])[c.S.length]? = some p
          rw [← c.len, List.getElem?_append_right (Nat.le_refl _), Nat.sub_self]
          rfl
        rw [← s2] at hc1
        obtain ⟨vs0, e0, r0⟩ := c2.at_ _ _ _ em hc1
        cases r0
        refine ⟨e0, (zs.zip us).map (fun p => (Sum.inr p.1, p.2)), ?_, ?_, ?_⟩
        · rw [List.map_map]; rfl
        · rw [List.length_map, List.length_zip]; omega
        · rw [merge_nodup _ []]
          · let c3 := c2.put c.S.length p (.dic []) (.dic (zs.zip ds)) (.dK (keyS (zs.zip us))) em hc1 (fun z => by cases z) ⟨zs.zip us, rfl, rfs_zip r2⟩
            have hlt : c.S.length < c2.S.length := (List.getElem?_eq_some_iff.mp hc1).1
            have e3 : toD (.ref c.S.length) c3.S = some (.dic (zs.zip ds), (c2.S.set c.S.length (.dic (zs.zip ds))).set c.S.length .dead) := by
              show toD (.ref c.S.length) (c2.S.set c.S.length (.dic (zs.zip ds))) = _
              have : (c2.S.set c.S.length (Ob.dic (zs.zip ds)))[c.S.length]? = some (Ob.dic (zs.zip ds)) := List.getElem?_set_self hlt
              simp only [toD, this]
            obtain ⟨c4, l4, s4, hh4, r4⟩ := toD_ok (c := c3) (u := .ref p) e3 ⟨p, em, rfl⟩
            have hS : (c4.take c.S.length).S = S2.take c.S.length := by
              show c4.S.take _ = _
              rw [s4, ← s2]
              simp [List.take_set_of_le]
            have := h (c4.take c.S.length) (Cfg.le.take (l1.tr (l.tr (l2.tr (Cfg.put_le.tr l4)))) (Nat.le_refl _)) hS (.ref p) r4
            have eh : (c4.take c.S.length).H = upd c2.H p (.dK (keyS (zs.zip us))) := hh4
            rw [eh] at this
            exact this
          · rw [List.nil_append, List.map_map]
            have : ((fun x : Key × V => x.1) ∘ fun p : Str × V => ((Sum.inr p.1 : Key), p.2)) = (fun s => (Sum.inr s : Key)) ∘ Prod.fst := rfl
            rw [this, ← List.map_map, List.map_fst_zip (by omega)]
            exact List.Pairwise.map _ (fun a b h z => h (Sum.inr.inj z)) hnd
      · exact h.elim
    · exact h.elim
theorem de_dic0 : PE X (.Dict [] [] pos) (aE K E (cC (.dic []))) := pe_dnewK.weak fun σ H Q h => by
  obtain ⟨c, ε, rfl, re, h⟩ := h
  intro p hp
  exact h (c.lay p (.dK []) hp) (c.lay_le hp) rfl _ (show Rd K _ _ _ from Rd.dic (vs := []) (by show upd c.G p _ p = _; rw [upd_same]; rfl) .nil)
def dicOf (w : W) (S : Sto) : Option (List (Str × D)) := (view w S).bind isDic
theorem dicOf_ok {c : Cfg K} {w : W} {u : V} {kvs : List (Str × D)} (h : dicOf w c.S = some kvs) (r : Rw c w u) : ∃ a vs, u = .ref a ∧ c.H a = some (.dK (keyS vs)) ∧ Rfs K c.G kvs vs := by
  unfold dicOf at h
  cases e : view w c.S with
  | none => rw [e] at h; cases h
  | some d =>
    rw [e] at h
    cases d with
    | dic k => cases h; exact view_ok e r
    | _ => cases h
def cDGet1 (fd fk : ME) : ME := fun ε S => (fd ε S).bind fun w S => if (dicOf w S).isSome then (fk ε S).bind fun y S => match y, dicOf w S with
  | .val (.str z), some kvs => .ok (.val ((kvs.lookup z).getD .non)) S
  | _, _ => .bad else .bad
def cDGet2 (fd fk fx : ME) : ME := fun ε S => (fd ε S).bind fun w S => if (dicOf w S).isSome then (fk ε S).bind fun y S => (fx ε S).bind fun v S => match y, dicOf w S, v with
  | .val (.str z), some kvs, .val d => .ok (.val ((kvs.lookup z).getD d)) S
  | _, _, _ => .bad else .bad
theorem look_rd {G : Hp} {kvs : List (Str × D)} {vs : List (Str × V)} {z : Str} {d0 : D} {v0 : V} (r : Rfs K G kvs vs) (h0 : Rd K G d0 v0) : Rd K G ((kvs.lookup z).getD d0) ((vs.lookup z).getD v0) := by
  cases e : kvs.lookup z with
  | none => rw [r.none e]; exact h0
  | some d =>
    obtain ⟨v, e2, r2⟩ := r.look e
    rw [e2]
    exact r2
theorem de_dget1 (hu : X.A.units + 1 < cLine) (ho : PE X o (aE K E fa)) (he : PE X e (aE K E fb)) (m : M1 X o "get" apos e pos := by exact ⟨rfl, rfl, rfl, rfl⟩) : PE X (.Call (.Attribute o "get" apos) [e] [] pos) (aE K E (cDGet1 fa fb)) :=
  (pe_dget1 hu ho he m).weak fun σ H Q h => by
    obtain ⟨c, ε, rfl, re, h⟩ := h
    refine ee re h fun c1 w1 u1 l1 r1 h1 => ?_
    split at h1
    · rename_i hs
      obtain ⟨kvs, hk⟩ := Option.isSome_iff_exists.mp hs
      obtain ⟨a, vs, rfl, q1, q2⟩ := dicOf_ok hk r1
      refine ⟨a, rfl, .inl ⟨_, .inl q1⟩, ?_⟩
      refine ee (re.mono l1) h1 fun c2 w2 u2 l2 r2 h2 => ?_
      split at h2
      · rename_i z kvs2 hk2
        cases r2
        obtain ⟨a', vs2, ea, q3, q4⟩ := dicOf_ok hk2 (r1.mono l2)
        cases ea
        exact ⟨vs2.lookup z, .inl ⟨_, Sum.inr z, .inl q3, rfl, (valV_keyS z vs2).symm⟩, h2.ok (show Rd K _ _ _ from look_rd q4 .non)⟩
      · exact h2.elim
    · exact h1.elim
theorem de_dget2 {e2 : Expr} (hu : X.A.units + 1 < cLine) (ho : PE X o (aE K E fa)) (he : PE X e (aE K E fb)) (hx : PE X e2 (aE K E fc)) (m : M2 X o "get" apos e e2 pos := by exact ⟨rfl, rfl, rfl, rfl⟩) : PE X (.Call (.Attribute o "get" apos) [e, e2] [] pos) (aE K E (cDGet2 fa fb fc)) :=
  (pe_dget2 hu ho he hx m).weak fun σ H Q h => by
    obtain ⟨c, ε, rfl, re, h⟩ := h
    refine ee re h fun c1 w1 u1 l1 r1 h1 => ?_
    split at h1
    · rename_i hs
      obtain ⟨kvs, hk⟩ := Option.isSome_iff_exists.mp hs
      obtain ⟨a, vs, rfl, q1, q2⟩ := dicOf_ok hk r1
      refine ⟨a, rfl, .inl ⟨_, .inl q1⟩, ?_⟩
      refine ee (re.mono l1) h1 fun c2 w2 u2 l2 r2 h2 => ?_
      refine ee (re.mono (l1.tr l2)) h2 fun c3 w3 u3 l3 r3 h3 => ?_
      split at h3
      · rename_i z kvs2 d hk2
        cases r2
        obtain ⟨a', vs2, ea, q3, q4⟩ := dicOf_ok hk2 (r1.mono (l2.tr l3))
        cases ea
        exact ⟨vs2.lookup z, .inl ⟨_, Sum.inr z, .inl q3, rfl, (valV_keyS z vs2).symm⟩, h3.ok (show Rd K _ _ _ from look_rd q4 r3)⟩
      · exact h3.elim
    · exact h1.elim
/-! ## list(range(..)) -/
def cLstRg1 (f : ME) : ME := fun ε S => (f ε S).bind fun w S => match w with
  | .val (.int j) => if 0 ≤ j ∧ j ≤ 16777216 then .ok (.val (.lst (rangeD 0 j.toNat))) S else .bad
  | _ => .bad
theorem rds_rg {G : Hp} (n : Nat) : ∀ lo : Int, Rds K G (rangeD lo n) ((List.range n).map fun i => V.int (lo + (i : Nat))) := by
  intro lo
  unfold rangeD
  induction (List.range n) with
  | nil => exact .nil
  | cons a l ih => exact .cons (.int _) ih
theorem de_lstRg1 {p0 p1 p2 : Pos} (hc : X.calm = true) (hgr : Gl X "range") (hmr : X.mg "range" = none) (hg : Gl X "list") (hm : X.mg "list" = none) (he : PE X e (aE K E f))
    (na : starEach [e] X.env = (false, eval e X.env) :: starEach [] X.env := by rfl) (nb : starEach [.Call (.Name "range" p0) [e] [] p1] X.env = (false, eval (.Call (.Name "range" p0) [e] [] p1) X.env) :: starEach [] X.env := by rfl) :
    PE X (.Call (.Name "list" p2) [.Call (.Name "range" p0) [e] [] p1] [] pos) (aE K E (cLstRg1 f)) :=
  (pe_listRg hc hg hm (prg_1 hgr hmr he na) nb).weak fun σ H Q h => by
    obtain ⟨c, ε, rfl, re, h⟩ := h
    refine ee re h fun c1 w1 u1 l1 r1 h1 => ?_
    split at h1
    · rename_i j
      split at h1
      · rename_i hj
        cases r1
        refine ⟨j, rfl, RgOk.of_le (Int.le_refl _) hj.2 (by omega) hj.1, fun q hq => ?_⟩
        have e0 : rgV 0 j = (List.range j.toNat).map fun i => V.int (0 + (i : Nat)) := by unfold rgV; rw [Int.sub_zero]
        rw [e0]
        exact h1.lst (rds_rg j.toNat 0) hq
      · exact h1.elim
    · exact h1.elim
end
end AM
set_option Elab.async false
set_option linter.all false
set_option maxRecDepth 100000
set_option maxHeartbeats 4000000
namespace AM
open PySem PySem.Spec PyProof.Rows L2 Bk
open PySem.W (Frag)
variable {K : Frag}
theorem relV_uniq {a b : V} {u : Value} (h1 : L2.RelV a u) (h2 : L2.RelV b u) : a = b := by
  cases u <;> cases a <;> cases b <;> simp_all [L2.RelV]
/-! ## a dict of the module: texts as keys, data as values -/
def entB (K : Frag) : List DictEntry → List (Str × D) → Bool
  | [], [] => true
  | ⟨_, .str k _, v⟩ :: es, (z, d) :: kvs => k == z && (datB K d v && entB K es kvs)
  | _, _ => false
def gdicB (x : Str) (kvs : List (Str × D)) (K : Frag) : Bool := match K.lookup (He.ga K x) with
  | some ⟨.type "dict", none, .dict es _, sl⟩ => sl.isEmpty && (entB K es.toList kvs && !(He.ga K x == sysModules))
  | _ => false
def gdHs (x : Str) (K : Frag) : List Int := match K.lookup (He.ga K x) with
  | some ⟨_, _, .dict es _, _⟩ => es.toList.map (·.hash)
  | _ => []
structure GDic (K : Frag) (w : World) (x : Str) (kvs : List (Str × D)) : Prop where
  b : gdicB x kvs K = true
  h : gdHs x K = kvs.map fun p => hashStr w p.1
theorem ent_find : ∀ {es : List DictEntry} {kvs : List (Str × D)}, entB K es kvs = true → ∀ z, match kvs.lookup z with
    | some d => ∃ u, (es.find? fun e => Value.isStrOf z e.key).map (·.val) = some u ∧ datB K d u = true
    | none => (es.find? fun e => Value.isStrOf z e.key).map (·.val) = none
  | [], [], _, z => rfl
  | ⟨hh, .str k t, v⟩ :: es, (y, d) :: kvs, h, z => by
    unfold entB at h
    rw [Bool.and_eq_true, Bool.and_eq_true] at h
    obtain ⟨h1, h2, h3⟩ := h
    cases eq_of_beq h1
    have ih := ent_find h3 z
    rw [List.lookup_cons, List.find?_cons]
    by_cases hz : z = k
    · subst hz
      have e1 : Value.isStrOf z (.str z t) = true := by show (z == z) = true; exact beq_self_eq_true z
      rw [beq_self_eq_true]
      simp only [e1]
      exact ⟨v, rfl, h2⟩
    · have e1 : Value.isStrOf z (.str k t) = false := by
        show (k == z) = false
        simpa using fun q => hz q.symm
      have e2 : (z == k) = false := by simpa using hz
      rw [e2]
      simp only [e1]
      exact ih
theorem ent_keys {P : Program} {w : World} : ∀ {es : List DictEntry} {kvs : List (Str × D)}, entB K es kvs = true → (es.map (·.hash)) = kvs.map (fun p => hashStr w p.1) → ∀ e ∈ es, ∃ k, (strKind P w).is k e.key = true ∧ e.hash = (strKind P w).hash k
  | [], _, _, _, e, he => nomatch he
  | ⟨hh, .str k t, v⟩ :: es, (y, d) :: kvs, h, hs, e, he => by
    unfold entB at h
    rw [Bool.and_eq_true, Bool.and_eq_true] at h
    obtain ⟨h1, h2, h3⟩ := h
    cases eq_of_beq h1
    rw [List.map_cons, List.map_cons, List.cons.injEq] at hs
    rcases List.mem_cons.mp he with rfl | he
    · exact ⟨k, by show (k == k) = true; exact beq_self_eq_true k, hs.1⟩
    · exact ent_keys h3 hs.2 e he
theorem GDic.map {P : Program} {w : World} {x : Str} {kvs : List (Str × D)} (g : GDic K w x kvs) {h : Heap} (KX : K.In h) :
    (He.ga K x == sysModules) = false ∧ ∃ f, h.MapOf (strKind P w) (He.ga K x) f ∧ ∀ z, match kvs.lookup z with | some d => ∃ u, f z = some u ∧ datB K d u = true | none => f z = none := by
  obtain ⟨b, hh⟩ := g
  unfold gdicB at b
  unfold gdHs at hh
  split at b
  · rename_i es ep sl ho
    rw [ho] at hh
    simp only [Bool.and_eq_true, Bool.not_eq_true'] at b
    obtain ⟨b1, b2, b3⟩ := b
    refine ⟨b3, findBy (strKind P w).is es, ⟨_, es, ep, KX _ _ ho, ⟨rfl, rfl, Array.isEmpty_iff.mp b1⟩, rfl, fun e he => ent_keys b2 hh e (by simpa using he), fun k => rfl⟩, fun z => ?_⟩
    have := ent_find b2 z
    unfold findBy
    rw [← Array.find?_toList]
    exact this
  · cases b
section
variable {X : Cx} {E : XK} {pos apos p1 : Pos} {a b e o : Expr} {fa fb fc f : ME} {es : List Expr} {fs : MA}
def inGD (neg : Bool) (x : Str) (kvs : List (Str × D)) : D → D → Option D
  | .str z, .cls y => if y = x then some (.bl (if neg then !(kvs.lookup z).isSome else (kvs.lookup z).isSome)) else none
  | _, _ => none
theorem GDic.some_ {P : Program} {w : World} {x : Str} {kvs : List (Str × D)} {f : Str → Option Value} {z : Str} (h : match kvs.lookup z with | some d => ∃ u, f z = some u ∧ datB K d u = true | none => f z = none) : (f z).isSome = (kvs.lookup z).isSome := by
  cases e : kvs.lookup z with
  | none => rw [e] at h; rw [h]; rfl
  | some d => rw [e] at h; obtain ⟨u, h1, _⟩ := h; rw [h1]; rfl
theorem oa_inG {x : Str} {kvs : List (Str × D)} (hK : X.K = K) (g : GDic K X.w x kvs) : OpR X (compareOp .In) (rA K E (aBin (inGD false x kvs))) := by
  subst hK
  intro pins s σ H u v vu vv Q I ru rv h
  replace h := aBin_of h
  obtain ⟨c, da, db, d, rfl, ra, rb, e, h⟩ := h
  unfold inGD at e
  split at e
  · rename_i z y
    split at e
    · rename_i hy
      subst hy
      cases e
      cases ra
      cases rb
      obtain ⟨t, rfl⟩ := ru
      cases rv
      obtain ⟨h1, f, h2, h3⟩ := g.map (P := X.prog) I.kIn
      refine wpAny_in_of (knd := strKind X.prog X.w) (k := z) (by show (z == z) = true; exact beq_self_eq_true z) h1 h2 ?_
      rw [GDic.some_ (P := X.prog) (w := X.w) (x := y) (h3 z)]
      exact ⟨.bl _, c.H, I.tok _, rfl, h.bl⟩
    · cases e
  · cases e
theorem oa_notInG {x : Str} {kvs : List (Str × D)} (hK : X.K = K) (g : GDic K X.w x kvs) : OpR X (compareOp .NotIn) (rA K E (aBin (inGD true x kvs))) := by
  subst hK
  intro pins s σ H u v vu vv Q I ru rv h
  replace h := aBin_of h
  obtain ⟨c, da, db, d, rfl, ra, rb, e, h⟩ := h
  unfold inGD at e
  split at e
  · rename_i z y
    split at e
    · rename_i hy
      subst hy
      cases e
      cases ra
      cases rb
      obtain ⟨t, rfl⟩ := ru
      cases rv
      obtain ⟨h1, f, h2, h3⟩ := g.map (P := X.prog) I.kIn
      refine wpAny_notIn_of (knd := strKind X.prog X.w) (k := z) (by show (z == z) = true; exact beq_self_eq_true z) h1 h2 ?_
      rw [GDic.some_ (P := X.prog) (w := X.w) (x := y) (h3 z)]
      exact ⟨.bl _, c.H, I.tok _, rfl, h.bl⟩
    · cases e
  · cases e
/-- FORMS[e] -/
def cGIx (x : Str) (kvs : List (Str × D)) (f : ME) : ME := fun ε S => (f ε S).bind fun w S => match w with
  | .val (.str z) => match kvs.lookup z with | some d => .ok (.val d) S | none => .bad
  | _ => .bad
theorem de_gix {x : Str} {kvs : List (Str × D)} (hK : X.K = K) (g : GDic K X.w x kvs) (hg : Gl X x) (hm : X.mg x = some (.ref (He.ga K x))) (he : PE X e (aE K E f)) (hs : NoSl e := by intro _ _; rfl) (hd : (x == ("__debug__" : Str)) = false := by decide) :
    PE X (.Subscript (.Name x p1) e pos) (aE K E (cGIx x kvs f)) := by
  subst hK
  have hn : PE X (.Name x p1) (aE X.K E (cC (.cls x))) := de_cls hg hm hd
  refine ⟨fun pins s σ H Q I h => ?_⟩
  obtain ⟨c, ε, rfl, re, h⟩ := h
  have h0 : aE X.K E (cC (.cls x)) σ c.H (fun u H1 => u = .ref (He.ga X.K x) ∧ aE X.K E f σ H1 (fun y H2 => ∃ z d, y = .str z ∧ kvs.lookup z = some d ∧ ∀ u, (∀ G, Rd X.K G d u) → Q u H2)) := by
    refine ⟨c, ε, rfl, re, fun c0 l0 es0 u0 r0 => ?_⟩
    have r0' : Rd X.K c0.G (.cls x) u0 := r0
    cases r0'
    refine ⟨rfl, ?_⟩
    have h' : AP c0 (cGIx x kvs f ε c0.S) Q E := by rw [es0]; exact AP.up h l0
    refine ee (re.mono l0) h' fun c1 w1 u1 l1 r1 h1 => ?_
    split at h1
    · rename_i z
      split at h1
      · rename_i d ed
        cases r1
        exact ⟨z, d, rfl, ed, fun u ru => h1.ok (show Rd X.K _ _ _ from ru _)⟩
      · exact h1.elim
    · exact h1.elim
  refine subD_of PySem.F.slot_dict_getitem.lookup hs (thn (hn.run pins s σ c.H _ I h0) fun u s1 ⟨y0, H1, I1, rx, ey, q1⟩ => thn (he.run pins s1 σ H1 _ I1 q1) fun iv s2 ⟨y, H2, I2, ry, z, d, e1, e2, q2⟩ => ?_)
  subst ey
  subst e1
  obtain rfl : u = Value.ref (He.ga X.K x) := rx
  obtain ⟨t, rfl⟩ := ry
  obtain ⟨h1, f', h2, h3⟩ := g.map (P := X.prog) I2.kIn
  have h4 := h3 z
  rw [e2] at h4
  obtain ⟨uv, e4, e5⟩ := h4
  refine ⟨h2.typeIs, wpAny_getItem_of (knd := strKind X.prog X.w) (k := z) (by show (z == z) = true; exact beq_self_eq_true z) h2 e4 ?_⟩
  obtain ⟨v0, rv0, _⟩ := dat_ok (K := X.K) (G := c.H) e5
  refine ⟨v0, H2, I2.tok _, rv0, q2 v0 fun G => ?_⟩
  obtain ⟨v1, rv1, rd1⟩ := dat_ok (K := X.K) (G := G) e5
  have : v1 = v0 := relV_uniq rv1 rv0
  rw [← this]
  exact rd1
def isBD : D → D → Option D | .bl a, .bl b => some (.bl (decide (a = b))) | _, _ => none
def notBD : D → D → Option D | .bl a, .bl b => some (.bl (!decide (a = b))) | _, _ => none
theorem oa_isB : OpR X (compareOp .Is) (rA K E (aBin isBD)) := OpR.weak op_isBl fun u v H Q h => by
  replace h := aBin_of h
  obtain ⟨c, a, b, d, rfl, ra, rb, e, h⟩ := h
  unfold isBD at e
  split at e
  · cases e; cases ra; cases rb
    exact ⟨_, _, rfl, rfl, h.bl⟩
  · cases e
theorem oa_notB : OpR X (compareOp .IsNot) (rA K E (aBin notBD)) := OpR.weak op_notBl fun u v H Q h => by
  replace h := aBin_of h
  obtain ⟨c, a, b, d, rfl, ra, rb, e, h⟩ := h
  unfold notBD at e
  split at e
  · cases e; cases ra; cases rb
    exact ⟨_, _, rfl, rfl, h.bl⟩
  · cases e
end
end AM
set_option Elab.async false
set_option linter.all false
set_option maxRecDepth 100000
set_option maxHeartbeats 4000000
namespace AM
open PySem PySem.Spec PyProof.Rows L2 Bk
open PySem.W (Frag)
variable {K : Frag}
section
variable {X : Cx} {E : XK} {pos apos p1 : Pos} {a b e o : Expr} {fa fb fc f : ME} {es : List Expr} {fs : MA} {F : F1} {C x : Str} {k : Nat} {ps ks : List Str} {kws : List Keyword} {idx : List Nat} {nx nq : Str} {params : Arguments} {body : List Stmt} {scope : Scope} {kw0 : List (Str × V)}
theorem kb_of {g : Addr} {fd : FuncData} {n : Nat} (lk : ∃ oc od osl, K.lookup g = some ⟨oc, od, .func fd, osl⟩) (FD : ∃ fd, FunD K nx nq params body scope [] kw0 g fd)
    (hbk : ∀ (kV doc pm : Value) (an : Option Addr) (cdv ct : Value) (us ws : List Value), us.length = n → ws.length = ks.length → bindArgs (PySem.W.fnOf nx nq params body scope .none kV doc pm an cdv ct) ⟨us, ks.zip ws⟩ = pure (ps.zip (gI idx us [] ws)))
    (s : Shared) (us ws : List Value) (h1 : us.length = n) (h2 : ws.length = ks.length) : BindsTo s fd ⟨us, ks.zip ws⟩ (ps.zip (gI idx us [] ws)) := by
  obtain ⟨oc, od, osl, lk⟩ := lk
  obtain ⟨fd2, FD⟩ := FD
  obtain ⟨oc2, od2, dV, kV, doc, pm, an, cdv, ct, osl2, e2, lk2, _, hD, _⟩ := FD.ex
  have edV : dV = .none := by
    rcases hD with ⟨_, z⟩ | ⟨z, _⟩
    · exact z
    · exact absurd rfl z
  subst edV
  rw [lk] at lk2
  cases lk2
  rw [e2]
  exact .of_eq (hbk kV doc pm an cdv ct us ws h1 h2)
theorem run_k {CX : CXT} {g : Addr} {fd : FuncData} {sp : Sp} {pins : List (Addr × Obj)} {σ : L2.St} {H : Hp} {s : Shared} {Q : VK} {us us' : List Value} {kv : List (Str × Value)} {vs : List V} (Fo : FnOk X.prog X.w X.K X.mg X.base CX k g fd ps sp) (hr : Room k X.A) (hx : Passes CX X E)
    (I : L2.Inv X pins σ H s) (bt : BindsTo s fd ⟨us, kv⟩ (ps.zip us')) (r2 : Vals vs us') (h : sp vs H Q E) : wpAny (model X.prog X.w) X.A (call (.ref g) us kv) (EP X pins σ Q) X.xe s := by
  refine wpAny_call (codeAny_mono (Fo.run X.A X.stack s H ⟨us, kv⟩ us' vs Q E hr I.env0 bt r2 h) fun r s' hq => ?_)
  cases r with
  | error e => exact hx pins σ H s e s' I hq
  | ok fl =>
    cases fl with
    | ret u => exact I.after hq
    | next => exact False.elim hq
    | brk => exact False.elim hq
    | cont => exact False.elim hq
/-- f(k = v, ..) -/
def cCallK (F : F1) (n : Nat) (idx : List Nat) (fs : MA) : ME := fun ε S => (fs ε S).bind fun ws S => if ws.length = n then F (gI idx [] [] ws) S else .bad
theorem de_callK (ks : List Str) (idx : List Nat) (D : DOk X.prog X.w X.K X.mg X.base k x ps (aSp K F)) (hK : X.K = K) (FD : ∃ fd, FunD K nx nq params body scope [] kw0 (He.ga K x) fd)
    (hbk : ∀ (kV doc pm : Value) (an : Option Addr) (cdv ct : Value) (us ws : List Value), us.length = 0 → ws.length = ks.length → bindArgs (PySem.W.fnOf nx nq params body scope .none kV doc pm an cdv ct) ⟨us, ks.zip ws⟩ = pure (ps.zip (gI idx us [] ws)))
    (hr : Room k X.A) (hg : Gl X x) (hx : Passes (L2.CX X.prog X.w) X E) (hkw : PK X kws (aA K E fs))
    (hall : (backToKw pos (keywordEach kws X.env)).all (·.1.isSome) = true := by rfl) (hks : (backToKw pos (keywordEach kws X.env)).filterMap (·.1) = ks := by rfl) (hdb : (x == ("__debug__" : Str)) = false := by decide)
    (hpl : ((backTo pos (starEach [] X.env)).any (·.1) || (backToKw pos (keywordEach kws X.env)).any (·.1.isNone)) = false := by rfl) :
    PE X (.Call (.Name x p1) [] kws pos) (aE K E (cCallK F ks.length idx fs)) := by
  subst hK
  obtain ⟨⟨fd, Fo, _, lk⟩, hm, hkp⟩ := D
  refine ⟨fun pins s σ H Q I h => ?_⟩
  obtain ⟨c, ε, rfl, re, h⟩ := h
  have h0 : aA X.K E fs σ c.H (fun us H1 => ∃ c1 : Cfg X.K, c1.H = H1 ∧ ∃ ws, Rws c1 ws us ∧ ws.length = ks.length ∧ AP c1 (F (gI idx [] [] ws) c1.S) Q E) := by
    refine ae re h fun c1 ws us l1 r1 h1 => ?_
    split at h1
    · rename_i hl
      exact ⟨c1, rfl, ws, r1, hl, h1⟩
    · exact h1.elim
  refine wpAny_Call_Name_kw (ld_glob I hg hm ?_ hdb)
  refine PySem.W.callWith_KW0 (h₀ := X.base) I.ok.mod.kin hkp hall (thn (hkw.run pos pins s σ c.H _ I h0) ?_) hpl
  rintro us s2 ⟨vs, H2, I2, rz, c1, e1, ws, rws, hl, q⟩
  subst e1
  refine ⟨I2.kIn, ?_⟩
  rw [hks]
  have hl2 : us.length = ks.length := by rw [← rz.length, ← rws.length, hl]
  exact run_k (us' := gI idx [] [] us) (vs := gI idx [] [] vs) Fo hr hx I2 (kb_of lk FD hbk s2 [] us rfl hl2) (gI_vals idx .nil .nil rz) ⟨c1, _, rfl, gI_rws idx .nil .nil rws, q⟩
/-- o.m(k = v, ..) -/
def cMethK (C m : Str) (F : F1) (n : Nat) (idx : List Nat) (fo : ME) (fs : MA) : ME := fun ε S => (fo ε S).bind fun w S => match isObj C w S with
  | some gs => if (gs.lookup m).isNone then (fs ε S).bind fun ws S => (if ws.length = n then F (gI idx [w] [] ws) S else .bad) else .bad
  | none => .bad
theorem de_methK {pl : Sem Bool} {m : Str} {g : Addr} (ks : List Str) (idx : List Nat) (hK : X.K = K) (he : PE X o (aE K E f)) (c : Cls K (He.ga K C)) (hm : Meth K (He.ga K C) m g) (Fo : MOk X.prog X.w K X.mg X.base k g ps (aSp K F)) (FD : ∃ fd, FunD K nx nq params body scope [] kw0 g fd)
    (hbk : ∀ (kV doc pm : Value) (an : Option Addr) (cdv ct : Value) (us ws : List Value), us.length = 1 → ws.length = ks.length → bindArgs (PySem.W.fnOf nx nq params body scope .none kV doc pm an cdv ct) ⟨us, ks.zip ws⟩ = pure (ps.zip (gI idx us [] ws)))
    (hr : Room k X.A) (hx : Passes (L2.CX X.prog X.w) X E) (hkw : PK X kws (aA K E fs))
    (hall : (backToKw pos (keywordEach kws X.env)).all (·.1.isSome) = true := by rfl) (hks : (backToKw pos (keywordEach kws X.env)).filterMap (·.1) = ks := by rfl)
    (hpl : ((backTo pos (starEach [] X.env)).any (·.1) || (backToKw pos (keywordEach kws X.env)).any (·.1.isNone)) = false := by rfl)
    (ht : eval (.Call (.Attribute o m apos) [] kws pos) X.env = (do
      let ov ← eval o X.env
      standAt apos.atName
      let (f, first) ← holding [ov] (getMethod ov m pl)
      callWith pos f first (backTo pos (starEach [] X.env)) (backToKw pos (keywordEach kws X.env))) := by rfl) :
    PE X (.Call (.Attribute o m apos) [] kws pos) (aE K E (cMethK C m F ks.length idx f fs)) := by
  subst hK
  obtain ⟨⟨fd, Fo, _, lk⟩, hkp⟩ := Fo
  refine ⟨fun pins s σ H Q I h => ?_⟩
  obtain ⟨c0, ε, rfl, re, h⟩ := h
  have h0 : aE X.K E f σ c0.H (fun u H1 => ∃ a dx vs, u = .ref a ∧ H1 a = some (.ins (He.ga X.K C) dx vs) ∧ vs.lookup m = none ∧ aA X.K E fs σ H1 (fun us H2 => ∃ c2 : Cfg X.K, c2.H = H2 ∧ ∃ ws w, Rw c2 w (.ref a) ∧ Rws c2 ws us ∧ ws.length = ks.length ∧ AP c2 (F (gI idx [w] [] ws) c2.S) Q E)) := by
    refine ee re h fun c1 w1 u1 l1 r1 h1 => ?_
    split at h1
    · rename_i gs el
      split at h1
      · rename_i hmn
        obtain ⟨a, dx, vs, rfl, q1, q2⟩ := isObj_ok el r1
        refine ⟨a, dx, vs, rfl, q1, q2.none (Option.isNone_iff_eq_none.mp hmn), ae (re.mono l1) h1 fun c2 ws us l2 r2 h2 => ?_⟩
        split at h2
        · rename_i hl
          exact ⟨c2, rfl, ws, w1, r1.mono l2, r2, hl, h2⟩
        · exact h2.elim
      · exact h1.elim
    · exact h1.elim
  refine PySem.W.methodCall_KW (pl := pl) (thn (he.run pins s σ c0.H _ I h0) fun u s1 ⟨x, H1, I1, rx, a, dx, fs', ex, ea, l, q⟩ => ?_) ht
  subst ex
  obtain rfl : u = Value.ref a := rx
  refine getmeth_ok I1 ea c hm l ?_
  refine PySem.W.callWith_KW0 (first := [.ref a]) (h₀ := X.base) I.ok.mod.kin hm.kp hall (thn (hkw.run pos pins s1 σ H1 _ I1 q) ?_) hpl
  rintro us s2 ⟨vs, H2, I2, rz, c2, e2, ws, w, rw_, rws, hl, q2⟩
  subst e2
  refine ⟨I2.kIn, ?_⟩
  rw [hks]
  have hl2 : us.length = ks.length := by rw [← rz.length, ← rws.length, hl]
  exact run_k (us' := gI idx [.ref a] [] us) (vs := gI idx [.ref a] [] vs) Fo hr hx I2 (kb_of lk FD hbk s2 [.ref a] us rfl hl2) (gI_vals idx (.cons rfl .nil) .nil rz) ⟨c2, _, rfl, gI_rws idx (.cons rw_ .nil) .nil rws, q2⟩
end
end AM
set_option Elab.async false
set_option linter.all false
set_option maxRecDepth 100000
set_option maxHeartbeats 4000000
namespace Bk
open PySem PySem.Spec PyProof.Rows L2 PySem.NumText
open PySem.W (Frag)
/-! ## the head's facts, with dicts of the module -/
abbrev AlE : Type := AlC × List (List Int)
abbrev DicL := List (Str × List (Str × AM.D))
def obsE (file : Str) (ex : Frag → Bool) (fn : List He5.DefA) (fx : List DefX) (dn : DicL) (K : Frag) : AlE := (obsC file ex fn fx K, dn.map fun d => AM.gdHs d.1 K)
def valE (fn : List He5.DefA) (fx : List DefX) (dn : DicL) (w : World) : AlE := (valC fn fx, dn.map fun d => d.2.map fun p => hashStr w p.1)
def SaysE (file : Str) (ex : Frag → Bool) (fn : List He5.DefA) (fx : List DefX) (dn : DicL) (w : World) (K : Frag) : Prop := obsE file ex fn fx dn K = valE fn fx dn w
def obsEG (n : Nat) (file : Str) (ex : Frag → Bool) (fn : List He5.DefA) (fx : List DefX) (dn : DicL) (g : Addr → Option Obj) : AlE := obsE file ex fn fx dn (He.frG g (List.range n))
def hookE (n : Nat) (file : Str) (ex : Frag → Bool) (fn : List He5.DefA) (fx : List DefX) (dn : DicL) : PySem.W.Hook where
  α := AlE
  obs s := obsEG n file ex fn fx dn s.heap.get?
  val w := valE fn fx dn w
  says w h := ∃ K : Frag, K.In h ∧ SaysE file ex fn fx dn w K
  of _ _ e := ⟨_, He.frG_in, e⟩
  keeps _ _ _ z k := let ⟨K, hK, c⟩ := z; ⟨K, Frag.In.keeps hK k, c⟩
theorem obsEG_eq {n : Nat} {file : Str} {ex : Frag → Bool} {fn : List He5.DefA} {fx : List DefX} {dn : DicL} {g : Addr → Option Obj} {s : Shared}
    (h : ∀ a, g a = s.heap.get? a) : obsEG n file ex fn fx dn g = (hookE n file ex fn fx dn).obs s := by
  obtain rfl : g = s.heap.get? := funext h
  rfl
section
variable {file : Str} {xk : Frag → Bool} {fn : List He5.DefA} {fx : List DefX} {dn : DicL} {w : World} {K : Frag}
theorem SaysE.toC (c : SaysE file xk fn fx dn w K) : SaysC file xk fn fx K := congrArg Prod.fst c
theorem SaysE.dic (c : SaysE file xk fn fx dn w K) (i : Nat) {x : Str} {kvs : List (Str × AM.D)} (h : dn[i]? = some (x, kvs)) (hb : AM.gdicB x kvs K = true) : AM.GDic K w x kvs := by
  have e : (dn.map fun d => AM.gdHs d.1 K)[i]? = (dn.map fun d => d.2.map fun p => hashStr w p.1)[i]? := congrArg (fun z : AlE => z.2[i]?) c
  rw [List.getElem?_map, List.getElem?_map, h] at e
  exact ⟨hb, Option.some.inj e⟩
end
end Bk
namespace AM
open PySem PySem.Spec PyProof.Rows L2 Bk
open PySem.W (Frag)
theorem units1 {A : Around} {n : Nat} (h : A.units + 64 < n) : A.units + 1 < n := by omega
variable {K : Frag}
section
variable {X : Cx} {E : XK} {pos apos p1 : Pos} {a b e o : Expr} {fa fb fc f : ME} {es : List Expr} {fs : MA}
/-- a + b, list(a): a list that will change -/
def catM : W → W → Sto → Rs W := fun x y S => match view x S, view y S with
  | some (.lst l), some (.lst r) => if l.length + r.length ≤ sizeLine then .ok (.ref S.length) (S ++ [.lst (l ++ r)]) else .bad
  | _, _ => .bad
theorem AP.newL {c : Cfg K} {l : List D} {xs : List V} {p : Addr} {Q : VK} {E : XK} (h : AP c (.ok (.ref c.S.length) (c.S ++ [.lst l])) Q E) (r : Rds K c.G l xs) (hp : c.H p = none) : Q (.ref p) (upd c.H p (.lst xs)) :=
  h (c.push p (.lst l) (.lst xs) hp ⟨xs, rfl, r⟩) ⟨Same.rfl', List.prefix_append _ _⟩ rfl (.ref p) ⟨p, by
    show (c.m ++ [p])[c.S.length]? = some p
    rw [← c.len, List.getElem?_append_right (Nat.le_refl _), Nat.sub_self]
    rfl, rfl⟩
theorem oa_catM (hK : X.K = K) : OpR X (binaryOp .Add) (rA K E catM) := by
  subst hK
  refine OpR.weak op_cat fun u v H Q h => ?_
  obtain ⟨c, x, y, rfl, rx, ry, h⟩ := h
  unfold catM at h
  split at h
  · rename_i l r el er
    split at h
    · rename_i hl
      obtain ⟨a1, xs, rfl, q1, q2⟩ := view_ok el rx
      obtain ⟨a2, ys, rfl, q3, q4⟩ := view_ok er ry
      exact ⟨_, _, xs, ys, rfl, rfl, q1, q3, by rw [← q2.length, ← q4.length]; exact hl, fun z hz => h.newL (q2.app q4) hz⟩
    · exact h.elim
  · exact h.elim
def listM : List W → Sto → Rs W := fun ws S => match views ws S with
  | some [.lst l] => .ok (.ref S.length) (S ++ [.lst l])
  | some [.tup l] => .ok (.ref S.length) (S ++ [.lst l])
  | some [.fl l] => .ok (.ref S.length) (S ++ [.lst l])
  | _ => .bad
theorem ca_listM (hK : X.K = K) : CallR X (.type "list") (rAs K E listM) := by
  subst hK
  refine CallR.weak call_list_of fun u H Q h => ?_
  obtain ⟨c, x, rfl, rx, h⟩ := h
  unfold listM at h
  split at h
  · rename_i l el
    have r := rc1 (views_ok el rx)
    obtain ⟨u, rfl, r⟩ := r
    obtain ⟨a, xs, rfl, q1, q2⟩ := r
    exact ⟨_, _, rfl, .inl (.inl (.inl q1)), fun p hp => h.newL q2 hp⟩
  · rename_i l el
    have r := rc1 (views_ok el rx)
    obtain ⟨u, rfl, r⟩ := r
    cases r with
    | tup q1 q2 => exact ⟨_, _, rfl, .inr (Same.tup c.sub q1), fun p hp => h.newL q2 hp⟩
  · rename_i l el
    have r := rc1 (views_ok el rx)
    obtain ⟨u, rfl, r⟩ := r
    cases r with
    | fl q1 q2 => exact ⟨_, _, rfl, .inl (sqL_same c.sub q1), fun p hp => h.newL q2 hp⟩
  · exact h.elim
/-- s.split(t): a list that will change -/
def cSplitM (fa fb : ME) : ME := fun ε S => (fa ε S).bind fun x S => match x with
  | .val (.str s) => (fb ε S).bind fun y S => match y with
    | .val (.str b) => if b.length ≠ 0 ∧ b.cps.all (· < 256) = true ∧ s.length + 2 ≤ sizeLine then .ok (.ref S.length) (S ++ [.lst ((splitS s b).map .str)]) else .bad
    | _ => .bad
  | _ => .bad
def rSplitM (K : Frag) (E : XK) : V → List V → Hp → VK → Prop := fun x xs H Q => ∃ (c : Cfg K) (s b : Str), c.H = H ∧ x = .str s ∧ s.length ≤ sizeLine ∧ xs = [.str b] ∧ (b.length ≠ 0 ∧ b.cps.all (· < 256) = true ∧ s.length + 2 ≤ sizeLine) ∧ AP c (.ok (.ref c.S.length) (c.S ++ [.lst ((splitS s b).map .str)])) Q E
theorem ma_splitM : MtR X "str.split" (rSplitM K E) := by
  refine MtR.weak mt_split fun x xs H Q h => ?_
  obtain ⟨c, a, b, rfl, rfl, hz, rfl, hb, h⟩ := h
  refine ⟨a, b, rfl, rfl, by simpa using hb.1, hb.2.2, fun p hp => ?_⟩
  rw [splitS_eq hb.1 hb.2.1]
  exact h.newL (rds_strs fun y hy => Nat.le_trans (splitS_len hy) hz) hp
theorem de_splitM (ho : PE X o (aE K E fa)) (he : PE X e (aE K E fb)) (hs : starEach [e] X.env = [(false, eval e X.env)] := by rfl) (hbase : attributeBase o "split" X.env (eval o X.env) = eval o X.env := by rfl) (hline : (apos.endLine == pos.line) = true := by rfl) :
    PE X (.Call (.Attribute o "split" apos) [e] [] pos) (aE K E (cSplitM fa fb)) := (pe_m1 F.slot_str_split F.type_str_split (ma_splitM (K := K) (E := E)) ho he hs hbase hline).weak fun σ H Q h => by
  obtain ⟨c, ε, rfl, re, h⟩ := h
  refine ee re h fun c1 w1 u1 l1 r1 h1 => ?_
  split at h1
  · rename_i s
    cases r1 with
    | str _ hz =>
      refine ⟨⟨_, rfl⟩, ee (re.mono l1) h1 fun c2 w2 u2 l2 r2 h2 => ?_⟩
      split at h2
      · rename_i b
        split at h2
        · rename_i hb
          cases r2
          exact ⟨c2, s, b, rfl, rfl, hz, rfl, hb, h2⟩
        · exact h2.elim
      · exact h2.elim
  · exact h1.elim
theorem de_callD0 {p : Pos} {k : Nat} {x : Str} {ps : List Str} {F : F1} (D : DOk X.prog X.w X.K X.mg X.base k x ps (aSp K F)) (hr : Room k X.A) (hg : Gl X x) (hx : Passes (L2.CX X.prog X.w) X E) (hdb : (x == ("__debug__" : Str)) = false := by decide) :
    PE X (.Call (.Name x p) [] [] pos) (aE K E (cCall F cNil)) := by
  obtain ⟨⟨fd, Fo, b, _⟩, hm, hkp⟩ := D
  refine (pe_call0 Fo hr hg hm hkp b .nil hx hdb).weak fun σ H Q h => ?_
  obtain ⟨c, ε, rfl, re, h⟩ := h
  exact ⟨c, [], rfl, .nil, h⟩
end
end AM
set_option Elab.async false
set_option linter.all false
set_option maxRecDepth 100000
set_option maxHeartbeats 4000000
/-! zip of a tuple and a list -/
namespace ZM
open PySem PySem.Spec PyProof.Rows L2
def itM (K : PySem.W.Frag) (a b : Addr) : It where
  go i H := ∃ (xs ys : List V) (x y : V), (SqT K H a xs ∧ SqL K H b ys) ∧ (xs[i]? = some x ∧ ys[i]? = some y)
  yld i H v H' := ∃ T x y, (v = .ref T ∧ H T = none) ∧ H' = upd H T (.tup [x, y]) ∧ ((∀ xs, SqT K H a xs → xs[i]? = some x) ∧ ∀ ys, SqL K H b ys → ys[i]? = some y)
  stop i H := ∃ xs ys : List V, (SqT K H a xs ∧ SqL K H b ys) ∧ (i ≤ xs.length ∧ i ≤ ys.length) ∧ (xs.length = i ∨ ys.length = i)
theorem sqL_inj {X : Cx} {pins : List (Addr × Obj)} {σ : L2.St} {H : Hp} {s : Shared} (I : L2.Inv X pins σ H s) {a : Addr} {xs ys : List V} (h1 : SqL X.K H a xs) (h2 : SqL X.K H a ys) : xs = ys := by first | exact I.list_inj h1 h2 | exact (I.list_inj h1 h2).symm
structure Ap (z TI TO i1 i2 a b : Addr) : Prop where
  s : ZipSep2 z TI TO i1 i2 [i1, a] [i2, b]
  ha : a ≠ i1
  hb : b ≠ i2
theorem ap_nat (N a b : Nat) (la : a < N) (lb : b < N) : Ap (N + 4) (N + 2) (N + 3) N (N + 1) a b := by
  have n2 : ∀ {x y z : Nat}, x ≠ y → x ≠ z → x ∉ [y, z] := fun h1 h2 h => by
    rcases List.mem_cons.mp h with h | h
    · exact h1 h
    · exact h2 (List.mem_singleton.mp h)
  have ne : ∀ {x y : Nat}, x < y ∨ y < x → x ≠ y := fun h => by omega
  exact ⟨⟨ne (by omega), ne (by omega), ne (by omega), ne (by omega), List.mem_cons_self, n2 (ne (by omega)) (ne (by omega)), n2 (ne (by omega)) (ne (by omega)), ne (by omega), List.mem_cons_self, n2 (ne (by omega)) (ne (by omega)), n2 (ne (by omega)) (ne (by omega)), n2 (ne (by omega)) (ne (by omega)), n2 (ne (by omega)) (ne (by omega))⟩, ne (by omega), ne (by omega)⟩
abbrev tnM (z TI TO i1 i2 a b : Addr) (i : Nat) (h : Heap) : Prop := (IsZip h z TI TO .none ∧ IsTupOf2 h TI (.ref i1) (.ref i2)) ∧ (∃ x y, IsTupOf2 h TO x y) ∧ (h.IsTupleIter i1 a i ∧ h.IsListIter i2 b i)
theorem mem5 {c z TI TO i1 i2 : Addr} (h : c ∈ [z, TI, TO, i1, i2]) : c = z ∨ c = TI ∨ c = TO ∨ c = i1 ∨ c = i2 := by simpa using h
theorem turnM {P : Program} {w : World} {K : PySem.W.Frag} {elts : List Expr} {kk : Nat} {tpos : Pos} {a b z TI TO i1 i2 : Addr} (D : Ap z TI TO i1 i2 a b) :
    Turn P w K (.Tuple elts kk tpos) (itM K a b) [z, TI, TO, i1, i2] z (tnM z TI TO i1 i2 a b) where
  mem := List.mem_cons_self
  obj i h st c hc := by
    obtain ⟨⟨hz, hTI⟩, ⟨x, y, hTO⟩, ⟨o1, e1, _, d1⟩, o2, e2, _, d2⟩ := st
    rcases mem5 hc with rfl | rfl | rfl | rfl | rfl
    · exact ⟨_, hz, nofun⟩
    · exact ⟨_, hTI, nofun⟩
    · exact ⟨_, hTO, nofun⟩
    · exact ⟨o1, e1, fun v q => by rw [d1] at q; cases q⟩
    · exact ⟨o2, e2, fun v q => by rw [d2] at q; cases q⟩
  keep i h h' st k := by
    obtain ⟨⟨hz, hTI⟩, ⟨x, y, hTO⟩, h1, h2⟩ := st
    refine ⟨⟨k z (by simp) _ hz, k TI (by simp) _ hTI⟩, ⟨x, y, k TO (by simp) _ hTO⟩, ?_, ?_⟩
    · exact h1.at fun o => k i1 (by simp) o
    · exact h2.at fun o => k i2 (by simp) o
  item X hP hw hK hc i pins s σ H E I hf st hg := by
    cases hP; cases hw; cases hK
    obtain ⟨⟨hz, hTI⟩, ⟨x0, y0, hTO⟩, h1, h2⟩ := st
    obtain ⟨xs, ys, x, y, ⟨qx, qy⟩, hx, hy⟩ := hg
    obtain ⟨its, rv, p, _⟩ := I.tuple qx
    obtain ⟨its2, rv2, p2, _⟩ := I.list qy
    obtain ⟨u, hu, ru⟩ := rv.get hx
    obtain ⟨u2, hu2, ru2⟩ := rv2.get hy
    have hzl : z < s.heap.objs.size := Heap.lt_size hz
    have hd : X.A.in1.handled = none := I.ok.hd hc
    have D1 := Draws.tuple (prog := X.prog) (w := X.w) hd i1 a D.ha its.toArray
    have D2 := Draws.list (prog := X.prog) (w := X.w) hd i2 b D.hb its2.toArray
    have b1 : i < its.toArray.size := by have := (List.getElem?_eq_some_iff.mp hu).1; simpa using this
    have b2 : i < its2.toArray.size := by have := (List.getElem?_eq_some_iff.mp hu2).1; simpa using this
    refine wpAny_pyNext_zipD2_item D.s D1 D2 hz hTI hTO ⟨h1, p⟩ ⟨h2, p2.isList⟩ b1 b2 fun v1 v2 h' tk y1 y2 z' TO' s1' s2' hT hsz hk => ⟨_, rfl, ?_⟩
    have ev1 : v1 = u := by
      have e : its.toArray[i]? = some v1 := y1
      rw [List.getElem?_toArray, hu] at e
      exact (Option.some.inj e).symm
    have ev2 : v2 = u2 := by
      have e : its2.toArray[i]? = some v2 := y2
      rw [List.getElem?_toArray, hu2] at e
      exact (Option.some.inj e).symm
    subst ev1 ev2
    refine wpAny_letOwnedTupleGo_zip (s := { s with heap := h', toks := tk }) z' fun h'' z'' sb => ?_
    have nz : s.heap.objs.size ≠ z := Nat.ne_of_gt hzl
    have hT2 : h''.get? s.heap.objs.size = some { cls := .type "tuple", data := .seq #[v1, v2] } := (sb.2 _ nz).trans hT
    have ok : ObjOk X.prog X.w (upd H s.heap.objs.size (.tup [x, y])) h'' s.heap.objs.size (.tup [x, y]) := ⟨show 2 ≤ sizeLine by decide, [v1, v2], .cons ru (.cons ru2 .nil), _, hT2, rfl, _, rfl⟩
    have kk2 : ∀ c o, c ∉ [z, TI, TO, i1, i2] → s.heap.get? c = some o → h''.get? c = some o := fun c o nc q => by
      have n1 : c ≠ z := fun e => nc (by simp [e])
      have n2 : c ≠ TO := fun e => nc (by simp [e])
      have n3 : c ≠ i1 := fun e => nc (by simp [e])
      have n4 : c ≠ i2 := fun e => nc (by simp [e])
      exact (sb.2 c n1).trans (hk c o n1 n2 n3 n4 q)
    have J := I.turnedNew (t' := tk) kk2 hf (Nat.le_refl _) ok
    refine ⟨.ref s.heap.objs.size, _, J, rfl, ⟨_, x, y, ⟨rfl, I.hok.fresh (Nat.le_refl _)⟩, rfl, fun l hl => ?_, fun l hl => ?_⟩, ⟨⟨z'', ?_⟩, ⟨v1, v2, ?_⟩, ?_, ?_⟩, fun c hcm => ?_⟩
    · rw [I.tuple_inj hl qx]; exact hx
    · rw [sqL_inj I hl qy]; exact hy
    · exact (sb.2 _ D.s.TIz).trans (hk _ _ D.s.TIz D.s.TITO D.s.TIi1 D.s.TIi2 hTI)
    · exact (sb.2 _ D.s.TOz).trans TO'
    · exact s1'.1.at fun o q => (sb.2 _ D.s.zi1.symm).trans q
    · exact s2'.1.at fun o q => (sb.2 _ D.s.zi2.symm).trans q
    · have hlt : c < s.heap.objs.size := by
        rcases mem5 hcm with rfl | rfl | rfl | rfl | rfl
        · exact hzl
        · exact Heap.lt_size hTI
        · exact Heap.lt_size hTO
        · obtain ⟨_, e, _⟩ := h1; exact Heap.lt_size e
        · obtain ⟨_, e, _⟩ := h2; exact Heap.lt_size e
      rw [upd_ne (Nat.ne_of_lt hlt)]
      exact (hf c hcm).1
  done X hP hw hK hc i pins s σ H E I hf st hg := by
    cases hP; cases hw; cases hK
    obtain ⟨⟨hz, hTI⟩, ⟨x0, y0, hTO⟩, h1, h2⟩ := st
    obtain ⟨xs, ys, ⟨qx, qy⟩, ⟨le1, le2⟩, hend⟩ := hg
    obtain ⟨its, rv, p, _⟩ := I.tuple qx
    obtain ⟨its2, rv2, p2, _⟩ := I.list qy
    have l1 : its.toArray.size = xs.length := by rw [rv.length]; simp
    have l2 : its2.toArray.size = ys.length := by rw [rv2.length]; simp
    have hd : X.A.in1.handled = none := I.ok.hd hc
    refine wpAny_pyNext_zipD2_end D.s (Draws.tuple (prog := X.prog) (w := X.w) hd i1 a D.ha its.toArray) (Draws.list (prog := X.prog) (w := X.w) hd i2 b D.hb its2.toArray) hz hTI hTO ⟨h1, p⟩ ⟨h2, p2.isList⟩ (by omega) (by omega) (by omega) fun h' tk hk => ⟨rfl, ?_⟩
    refine I.turnedL (t' := tk) (fun c o nc q => ?_) hf
    exact hk c o (fun e => nc (by simp [e])) (fun e => nc (by simp [e])) (fun e => nc (by simp [e])) (fun e => nc (by simp [e])) q
  self A i s Q E st h := wpAny_pyIter_zip st.1.1 h
section
abbrev mH1 (h : Heap) (l : Addr) : Heap := h.push { cls := .type "tuple_iterator", data := .fields #[.ref l, .int 0 0] }
abbrev mH2 (h : Heap) (l r : Addr) : Heap := (mH1 h l).push { cls := .type "list_iterator", data := .fields #[.ref r, .int 0 0] }
abbrev mH3 (h : Heap) (l r : Addr) : Heap := (mH2 h l r).push { cls := .type "tuple", data := .seq #[.ref h.objs.size, .ref (mH1 h l).objs.size] }
abbrev mH4 (h : Heap) (l r : Addr) : Heap := (mH3 h l r).push { cls := .type "tuple", data := .seq #[.none, .none] }
abbrev mH5 (h : Heap) (l r : Addr) : Heap := (mH4 h l r).push { cls := .type "zip", data := .fields #[.none, .bool false, .bool false, .ref (mH2 h l r).objs.size, .ref (mH3 h l r).objs.size] }
theorem meetsM (l r : Addr) (xs ys : Array Value) :
    Meets (Builtin.«zip.__new__» ⟨[.type "zip", .ref l, .ref r], []⟩) (fun _ R s => (s.heap.IsTuple l xs ∧ s.heap.IsList r ys) ∧ R (.ok (.ret (.ref (mH4 s.heap l r).objs.size))) { s with heap := mH5 s.heap l r }) :=
  .of_wp fun prog w A R s h => by
    obtain ⟨hp, g, d, tk, os⟩ := s
    obtain ⟨⟨t1, t2⟩, h⟩ := h
    have hsub := sub_zip
    have u1 : Heap.IsTuple (Shared.heap ⟨hp, g, d, tk, os⟩) l xs := t1
    have u2 : Heap.IsList (Shared.heap ⟨hp.push { cls := .type "tuple_iterator", data := .fields #[.ref l, .int 0 0] }, g, d, tk, os⟩) r ys := t2.push _
    wp_walk using wpAny_pyIter_tuple u1, wpAny_pyIter_list u2
    exact ⟨_, rfl, h⟩
variable {prog : Program} {w : World} {A : Around} {E : Value → Shared → Prop} {s : Shared}
theorem callM {l r : Addr} {xs ys : Array Value} {Q : Value → Shared → Prop} (t1 : s.heap.IsTuple l xs) (t2 : s.heap.IsList r ys)
    (h : ∀ h', tnM (s.heap.objs.size + 4) (s.heap.objs.size + 2) (s.heap.objs.size + 3) s.heap.objs.size (s.heap.objs.size + 1) l r 0 h' → (∀ c o, s.heap.get? c = some o → h'.get? c = some o) → Q (.ref (s.heap.objs.size + 4)) { s with heap := h' }) :
    wpAny (model prog w) A (call (.type "zip") [.ref l, .ref r]) Q E s := by
  refine callType_new F.called_zip (by decide) (F.typeCall_zip_2 _ _) (F.newCall_zip_2 _ _) (fun obj => F.args_object_init_3 obj _ _) F.entry_zip_new (meetsM l r xs ys) ⟨⟨t1, t2⟩, ?_⟩
  have k1 : (mH1 s.heap l).objs.size = s.heap.objs.size + 1 := Heap.size_push ..
  have k2 : (mH2 s.heap l r).objs.size = s.heap.objs.size + 2 := by rw [Heap.size_push, k1]
  have k3 : (mH3 s.heap l r).objs.size = s.heap.objs.size + 3 := by rw [Heap.size_push, k2]
  have k4 : (mH4 s.heap l r).objs.size = s.heap.objs.size + 4 := by rw [Heap.size_push, k3]
  have up : ∀ {h : Heap} {o o' : Obj} {c : Addr}, h.get? c = some o → (h.push o').get? c = some o := fun e => Heap.get?_push_of_some _ e
  have j5 : (mH5 s.heap l r).get? (mH4 s.heap l r).objs.size = some _ := Heap.get?_push_size _ rfl
  have j4 : (mH5 s.heap l r).get? (mH3 s.heap l r).objs.size = some _ := up (Heap.get?_push_size _ rfl)
  have j3 : (mH5 s.heap l r).get? (mH2 s.heap l r).objs.size = some _ := up (up (Heap.get?_push_size _ rfl))
  have j2 : (mH5 s.heap l r).get? (mH1 s.heap l).objs.size = some _ := up (up (up (Heap.get?_push_size _ rfl)))
  have j1 : (mH5 s.heap l r).get? s.heap.objs.size = some _ := up (up (up (up (Heap.get?_push_size _ rfl))))
  show _ ∧ _
  rw [k2, k3, k4] at j5
  rw [k1, k2] at j3
  rw [k3] at j4
  rw [k1] at j2
  rw [k4]
  exact ⟨⟨_, j5, rfl⟩, h _ ⟨⟨j5, j3⟩, ⟨_, _, j4⟩, ⟨_, j1, rfl, rfl⟩, ⟨_, j2, rfl, rfl⟩⟩ fun c o x => up (up (up (up (up x))))⟩
end
def iM (K : PySem.W.Frag) (ta : TA) : TI := fun σ H R => ta σ H fun vs H1 => ∃ a b xs ys, vs = [.ref a, .ref b] ∧ (SqT K H1 a xs ∧ SqL K H1 b ys) ∧ R (itM K a b) H1
theorem pi_zipM {X : Cx} {e e2 : Expr} {ta : TA} {p pos tpos : Pos} {elts : List Expr} {kk : Nat} (hg : Gl X "zip") (hm : X.mg "zip" = none) (ha : PA X [e, e2] ta)
    (hs : starEach [e, e2] X.env = (false, eval e X.env) :: starEach [e2] X.env) (hpl : (backTo pos (starEach [e2] X.env)).any (·.1) = false) :
    PI X (.Tuple elts kk tpos) (.Call (.Name "zip" p) [e, e2] [] pos) (iM X.K ta) := ⟨fun pins s σ H R I h => by
  refine Call_ (ld_blt I hg hm PyProof.Rows.boot_zip (PyProof.Rows.callWith_type1 (thn (ha.run pos pins s σ H _ I h) ?_) hs hpl))
  rintro us s1 ⟨vs, H1, I1, r1, a, b, xs, ys, rfl, ⟨qx, qy⟩, q⟩
  obtain ⟨u1, u2, rfl, ra, rb⟩ : ∃ u1 u2, us = [u1, u2] ∧ L2.RelV (.ref a) u1 ∧ L2.RelV (.ref b) u2 := by
    cases r1 with
    | cons r rr => cases rr with
      | cons r' rr => cases rr; exact ⟨_, _, rfl, r, r'⟩
  cases ra; cases rb
  obtain ⟨its, rv, p1, _⟩ := I1.tuple qx
  obtain ⟨its2, rv2, p2, _⟩ := I1.list qy
  have la : a < s1.heap.objs.size := by obtain ⟨o, ho, _⟩ := id p1; exact Heap.lt_size ho
  have lb : b < s1.heap.objs.size := p2.lt
  refine callM (show s1.heap.IsTuple a its.toArray from p1) p2.isList fun h' st hk => wpAny_pyIter_zip st.1.1 ?_
  have I2 : L2.Inv X pins σ H1 { s1 with heap := h' } := I1.kept (t' := s1.toks) hk
  have D := ap_nat s1.heap.objs.size a b la lb
  refine ⟨_, _, _, _, H1, rfl, I2, turnM D, st, fun c hc => ?_, q⟩
  have hle : s1.heap.objs.size ≤ c := by
    rcases mem5 hc with q | q | q | q | q <;> rw [q] <;> first | exact Nat.le_add_right _ _ | exact Nat.le_refl _
  exact I1.fpOk hle (I1.hok.fresh hle)⟩
theorem walkM {K : PySem.W.Frag} {a b : Addr} {xs ys : List V} {n : Nat} (hn : n = min xs.length ys.length) : Walk (itM K a b) n (fun H => SqT K H a xs ∧ SqL K H b ys) (YPair (fun i => xs[i]?) (fun i => ys[i]?)) := by
  refine ⟨fun i H hi hg => ?_, fun H hg => ?_, fun i H x H' hi hg hy => ?_⟩
  · exact ⟨xs, ys, xs[i]'(by omega), ys[i]'(by omega), hg, List.getElem?_eq_getElem _, List.getElem?_eq_getElem _⟩
  · exact ⟨xs, ys, hg, by omega, by omega⟩
  · obtain ⟨T, x1, y1, ⟨h1, h2⟩, h3, h4, h5⟩ := hy
    exact ⟨T, x1, y1, h1, h2, h3, h4 xs hg.1, h5 ys hg.2⟩
end ZM
namespace AM
open PySem PySem.Spec PyProof.Rows L2 Bk
open PySem.W (Frag)
variable {K : Frag}
section
variable {X : Cx} {E : XK} {pos p : Pos} {e e2 : Expr} {fs : MA}
def cZipM (fs : MA) : MI := fun ε S => (fs ε S).bind fun ws S => match ws with
  | [.val (.tup l), .val (.lst r)] => .ok (zipD l r) S
  | _ => .bad
theorem di_zipM {tpos : Pos} {elts : List Expr} {kk : Nat} (hK : X.K = K) (hg : Gl X "zip") (hm : X.mg "zip" = none) (ha : PA X [e, e2] (aA K E fs))
    (hs : starEach [e, e2] X.env = (false, eval e X.env) :: starEach [e2] X.env := by rfl) (hpl : (backTo pos (starEach [e2] X.env)).any (·.1) = false := by rfl) :
    PI X (.Tuple elts kk tpos) (.Call (.Name "zip" p) [e, e2] [] pos) (aI K E (cZipM fs)) := by
  subst hK
  refine (ZM.pi_zipM hg hm ha hs hpl).weak fun σ H R h => ?_
  obtain ⟨c, ε, rfl, re, h⟩ := h
  refine ai re h fun c1 ws us l1 r1 h1 => ?_
  split at h1
  · cases r1 with
    | cons r1 r2 => cases r2 with
      | cons r2 r3 =>
        cases r3
        cases r1 with
        | tup q1 q2 => cases r2 with
          | lst q3 q4 =>
            exact ⟨_, _, _, _, rfl, ⟨Same.tup c1.sub q1, .inl (.inl (c1.sub _ _ q3))⟩, h1 c1 .refl rfl _ (ait_zip (ZM.walkM rfl) q2 q4 fun c2 l2 => ⟨Same.tup c2.sub (Same.tup l2.g q1), .inl (.inl (c2.sub _ _ (l2.g _ _ q3)))⟩)⟩
  · exact h1.elim
end
end AM
set_option Elab.async false
set_option linter.all false
set_option maxRecDepth 100000
set_option maxHeartbeats 4000000
/-! plain lemmas over the abstract machine -/
namespace AM
open PySem
theorem kb_NoneType_int : L2.kitB "NoneType" "int" = some false := by decide +kernel
theorem kb_NoneType_str : L2.kitB "NoneType" "str" = some false := by decide +kernel
theorem kb_NoneType_bool : L2.kitB "NoneType" "bool" = some false := by decide +kernel
theorem kb_NoneType_tuple : L2.kitB "NoneType" "tuple" = some false := by decide +kernel
theorem kb_NoneType_list : L2.kitB "NoneType" "list" = some false := by decide +kernel
theorem kb_NoneType_dict : L2.kitB "NoneType" "dict" = some false := by decide +kernel
theorem kb_bool_int : L2.kitB "bool" "int" = some true := by decide +kernel
theorem kb_bool_str : L2.kitB "bool" "str" = some false := by decide +kernel
theorem kb_bool_bool : L2.kitB "bool" "bool" = some true := by decide +kernel
theorem kb_bool_tuple : L2.kitB "bool" "tuple" = some false := by decide +kernel
theorem kb_bool_list : L2.kitB "bool" "list" = some false := by decide +kernel
theorem kb_bool_dict : L2.kitB "bool" "dict" = some false := by decide +kernel
theorem kb_int_int : L2.kitB "int" "int" = some true := by decide +kernel
theorem kb_int_str : L2.kitB "int" "str" = some false := by decide +kernel
theorem kb_int_bool : L2.kitB "int" "bool" = some false := by decide +kernel
theorem kb_int_tuple : L2.kitB "int" "tuple" = some false := by decide +kernel
theorem kb_int_list : L2.kitB "int" "list" = some false := by decide +kernel
theorem kb_int_dict : L2.kitB "int" "dict" = some false := by decide +kernel
theorem kb_str_int : L2.kitB "str" "int" = some false := by decide +kernel
theorem kb_str_str : L2.kitB "str" "str" = some true := by decide +kernel
theorem kb_str_bool : L2.kitB "str" "bool" = some false := by decide +kernel
theorem kb_str_tuple : L2.kitB "str" "tuple" = some false := by decide +kernel
theorem kb_str_list : L2.kitB "str" "list" = some false := by decide +kernel
theorem kb_str_dict : L2.kitB "str" "dict" = some false := by decide +kernel
theorem kb_tuple_int : L2.kitB "tuple" "int" = some false := by decide +kernel
theorem kb_tuple_str : L2.kitB "tuple" "str" = some false := by decide +kernel
theorem kb_tuple_bool : L2.kitB "tuple" "bool" = some false := by decide +kernel
theorem kb_tuple_tuple : L2.kitB "tuple" "tuple" = some true := by decide +kernel
theorem kb_tuple_list : L2.kitB "tuple" "list" = some false := by decide +kernel
theorem kb_tuple_dict : L2.kitB "tuple" "dict" = some false := by decide +kernel
theorem kb_list_int : L2.kitB "list" "int" = some false := by decide +kernel
theorem kb_list_str : L2.kitB "list" "str" = some false := by decide +kernel
theorem kb_list_bool : L2.kitB "list" "bool" = some false := by decide +kernel
theorem kb_list_tuple : L2.kitB "list" "tuple" = some false := by decide +kernel
theorem kb_list_list : L2.kitB "list" "list" = some true := by decide +kernel
theorem kb_list_dict : L2.kitB "list" "dict" = some false := by decide +kernel
theorem kb_dict_int : L2.kitB "dict" "int" = some false := by decide +kernel
theorem kb_dict_str : L2.kitB "dict" "str" = some false := by decide +kernel
theorem kb_dict_bool : L2.kitB "dict" "bool" = some false := by decide +kernel
theorem kb_dict_tuple : L2.kitB "dict" "tuple" = some false := by decide +kernel
theorem kb_dict_list : L2.kitB "dict" "list" = some false := by decide +kernel
theorem kb_dict_dict : L2.kitB "dict" "dict" = some true := by decide +kernel
theorem filter_yes {α : Type} (l : List α) : l.filter (fun _ => true) = l := List.filter_eq_self.mpr fun _ _ => rfl
theorem szl : sizeLine = 16777216 := by decide
/-! ## comprehensions whose element changes nothing -/
section
variable {g : MG} {ft : MT} {fe : ME} {ε : Ev} {n : Nat} {h : D → D} {p : D → Bool}
theorem lcL_pure : ∀ (ds : List D) (S : Sto) (acc : List D), S[n]? = some (.lst acc) → (∀ d ∈ ds, ∃ ε1, g (.val d) ε = some ε1 ∧ ∀ T, ft ε1 T = .ok (p d) T ∧ (p d = true → fe ε1 T = .ok (.val (h d)) T)) → acc.length + ds.length ≤ sizeLine →
    lcL n g ft fe ε ds S = some (S.set n (.lst (acc ++ (ds.filter p).map h)))
  | [], S, acc, hn, _, _ => by
    have : S.set n (.lst acc) = S := by
      apply List.ext_getElem?
      intro j
      rw [List.getElem?_set]
      split
      · rename_i hj
        subst hj
        rw [hn, if_pos (List.getElem?_eq_some_iff.mp hn).1]
      · rfl
    simp [lcL, this]
  | d :: ds, S, acc, hn, hd, hl => by
    obtain ⟨ε1, e1, e2⟩ := hd d List.mem_cons_self
    have hd' := fun x hx => hd x (List.mem_cons_of_mem _ hx)
    simp only [List.length_cons] at hl
    obtain ⟨e3, e4⟩ := e2 S
    cases hp : p d with
    | true =>
      rw [hp] at e3
      simp only [lcL, e1, e3, e4 hp, toD, hn]
      rw [if_pos (by omega), lcL_pure ds _ (acc ++ [h d]) (by rw [List.getElem?_set, if_pos rfl, if_pos (List.getElem?_eq_some_iff.mp hn).1]) hd' (by rw [List.length_append]; simp only [List.length_cons, List.length_nil]; omega)]
      rw [List.set_set, List.filter_cons_of_pos hp, List.map_cons, List.append_assoc]
      rfl
    | false =>
      rw [hp] at e3
      simp only [lcL, e1, e3]
      rw [lcL_pure ds S acc hn hd' (by omega), List.filter_cons_of_neg (by rw [hp]; exact Bool.false_ne_true)]
theorem cLc_filter {vs : List Nat} {fi : MI} {S : Sto} {ds : List D} (hi : fi ε S = .ok ds S) (hd : ∀ d ∈ ds, ∃ ε1, g (.val d) (wipeE ε vs) = some ε1 ∧ ∀ T, ft ε1 T = .ok (p d) T ∧ (p d = true → fe ε1 T = .ok (.val (h d)) T)) (hl : ds.length ≤ sizeLine) :
    cLc false vs g fi ft fe ε S = .ok (.val (.lst ((ds.filter p).map h))) S := by
  unfold cLc
  rw [hi]
  simp only [Rs.bind]
  rw [lcL_pure (n := S.length) (p := p) (h := h) ds (S ++ [Ob.lst []]) [] (by rw [List.getElem?_append_right (Nat.le_refl _), Nat.sub_self]; rfl) hd (by simpa using hl)]
  simp only [List.nil_append]
  rw [List.getElem?_set, if_pos rfl, if_pos (by rw [List.length_append]; simp)]
  simp
theorem cLc_map {vs : List Nat} {fi : MI} {S : Sto} {ds : List D} (hi : fi ε S = .ok ds S) (hd : ∀ d ∈ ds, ∃ ε1, g (.val d) (wipeE ε vs) = some ε1 ∧ ∀ T, fe ε1 T = .ok (.val (h d)) T) (hl : ds.length ≤ sizeLine) :
    cLc false vs g fi tYesM fe ε S = .ok (.val (.lst (ds.map h))) S := by
  have := cLc_filter (g := g) (ft := tYesM) (fe := fe) (ε := ε) (h := h) (p := fun _ => true) (vs := vs) (fi := fi) hi (fun d hd' => by
    obtain ⟨ε1, e1, e2⟩ := hd d hd'
    exact ⟨ε1, e1, fun T => ⟨rfl, fun _ => e2 T⟩⟩) hl
  rw [filter_yes] at this
  exact this
theorem cLc_mapM {vs : List Nat} {fi : MI} {S : Sto} {ds : List D} (hi : fi ε S = .ok ds S) (hd : ∀ d ∈ ds, ∃ ε1, g (.val d) (wipeE ε vs) = some ε1 ∧ ∀ T, fe ε1 T = .ok (.val (h d)) T) (hl : ds.length ≤ sizeLine) :
    cLc true vs g fi tYesM fe ε S = .ok (.ref S.length) (S ++ [.lst (ds.map h)]) := by
  unfold cLc
  rw [hi]
  simp only [Rs.bind]
  rw [lcL_pure (n := S.length) (p := fun _ => true) (h := h) ds (S ++ [Ob.lst []]) [] (by rw [List.getElem?_append_right (Nat.le_refl _), Nat.sub_self]; rfl) (fun d hd' => by
    obtain ⟨ε1, e1, e2⟩ := hd d hd'
    exact ⟨ε1, e1, fun T => ⟨rfl, fun _ => e2 T⟩⟩) (by simpa using hl)]
  simp only [List.nil_append]
  rw [List.getElem?_set, if_pos rfl, if_pos (by rw [List.length_append]; simp)]
  simp [filter_yes]
  try rw [List.take_of_length_le (by simp)]
end
/-! ## one source of draws -/
def Src (o : Ob) : Prop := ∃ a x n : Int, o = .lst [.int a, .int x, .int n]
/-- the answer is a value, the source at p has moved -/
def Dr (p : Nat) (S : Sto) (r : Rs W) (P : D → Prop) : Prop := ∃ d o, r = .ok (.val d) (S.set p o) ∧ Src o ∧ P d
theorem set_self {S : Sto} {p : Nat} {o : Ob} (h : S[p]? = some o) : S.set p o = S := by
  apply List.ext_getElem?
  intro j
  rw [List.getElem?_set]
  split
  · rename_i hj
    subst hj
    rw [h, if_pos (List.getElem?_eq_some_iff.mp h).1]
  · rfl
theorem get_set {S : Sto} {p : Nat} {o o' : Ob} (h : S[p]? = some o) : (S.set p o')[p]? = some o' := by
  rw [List.getElem?_set, if_pos rfl, if_pos (List.getElem?_eq_some_iff.mp h).1]
theorem get_set_ne {S : Sto} {p q : Nat} {o' : Ob} (h : q ≠ p) : (S.set p o')[q]? = S[q]? := by
  rw [List.getElem?_set, if_neg (Ne.symm h)]
theorem src_lt {S : Sto} {p : Nat} {o : Ob} (h : S[p]? = some o) : p < S.length := (List.getElem?_eq_some_iff.mp h).1
theorem set_app {S T : Sto} {p : Nat} {o : Ob} (h : p < S.length) : (S ++ T).set p o = S.set p o ++ T := by rw [List.set_append_left _ _ h]
theorem get_app {S T : Sto} {p : Nat} {o : Ob} (h : S[p]? = some o) : (S ++ T)[p]? = some o := by rw [List.getElem?_append_left (src_lt h)]; exact h
theorem take_set_app {S T : Sto} {p : Nat} {o : Ob} : (S.set p o ++ T).take S.length = S.set p o := by
  rw [List.take_append_of_le_length (by rw [List.length_set]; exact Nat.le_refl _), List.take_of_length_le (by rw [List.length_set]; exact Nat.le_refl _)]
end AM
namespace AM
open PySem
theorem blsD_map {α : Type} (f : α → Bool) : ∀ l : List α, blsD (l.map fun a => D.bl (f a)) = some (l.map f)
  | [] => rfl
  | a :: l => by rw [List.map_cons, blsD, blsD_map f l]; rfl
theorem intsD_map {α : Type} (f : α → Int) : ∀ l : List α, intsD (l.map fun a => D.int (f a)) = some (l.map f)
  | [] => rfl
  | a :: l => by rw [List.map_cons, intsD, intsD_map f l]; rfl
theorem strsD_map {α : Type} (f : α → Str) : ∀ l : List α, strsD (l.map fun a => D.str (f a)) = some (l.map f)
  | [] => rfl
  | a :: l => by rw [List.map_cons, strsD, strsD_map f l]; rfl
theorem strsD_strs (l : List Str) : strsD (l.map D.str) = some l := by
  have := strsD_map id l
  simpa using this
theorem allD_map {α : Type} (f : α → Bool) (l : List α) : allD' [.lst (l.map fun a => D.bl (f a))] = some (.bl (l.all f)) := by
  simp [allD', blsD_map, List.all_map]
theorem flsD_strs (l : List Str) : flsD (l.map D.str) = some (l.map L2.V.str) := by
  induction l with
  | nil => rfl
  | cons a l ih => simp [flsD, flD, ih]
theorem in_strs (x : Str) (l : List Str) : inDD (.str x) (.lst (l.map D.str)) = some (decide (x ∈ l)) := by
  simp only [inDD, flD, flsD_strs, Bk.inV_strs]
theorem in_strsT (x : Str) (l : List Str) : inDD (.str x) (.tup (l.map D.str)) = some (decide (x ∈ l)) := by
  simp only [inDD, flD, flsD_strs, Bk.inV_strs]
theorem in_strsX (x : Str) (l : List Str) : inDD (.str x) (.tux (l.map D.str)) = some (decide (x ∈ l)) := by
  simp only [inDD, flD, flsD_strs, Bk.inV_strs]
theorem in_sign (c : Nat) (z : Str) : inDD (.str ⟨#[c]⟩) (.str z) = some (decide (c ∈ z.cps.toList)) := by
  simp [inDD, Str.length]
def signOf : D → Nat | .str y => y.cps.getD 0 0 | _ => 0
theorem signs_all (f : Nat → Bool) (x : Str) : (signs x).all (fun d => f (signOf d)) = x.cps.toList.all f := by
  unfold signs
  rw [List.all_map]
  rfl
theorem signs_len (x : Str) : (signs x).length = x.length := by
  unfold signs
  rw [List.length_map, Array.length_toList]
  rfl
theorem atIn {α : Type} {l : List α} {i : Nat} {a : α} (h : l[i]? = some a) : L2.atI l (i : Int) = some a := by
  have hi := (List.getElem?_eq_some_iff.mp h).1
  unfold L2.atI L2.ixN
  rw [if_pos (Int.natCast_nonneg i), if_pos (by omega)]
  exact h
theorem atI0 {α : Type} (a : α) (l : List α) : L2.atI (a :: l) 0 = some a := atIn (i := 0) rfl
theorem atI1 {α : Type} (a b : α) (l : List α) : L2.atI (a :: b :: l) 1 = some b := atIn (i := 1) rfl
theorem atI2 {α : Type} (a b c : α) (l : List α) : L2.atI (a :: b :: c :: l) 2 = some c := atIn (i := 2) rfl
def enumFrom (k : Nat) : List D → List D
  | [] => []
  | d :: l => .tup [.int (k : Nat), d] :: enumFrom (k + 1) l
theorem enumFrom_len (l : List D) : ∀ k, (enumFrom k l).length = l.length := by
  induction l with
  | nil => intro _; rfl
  | cons a l ih => intro k; rw [enumFrom, List.length_cons, ih, List.length_cons]
theorem enumFrom_get : ∀ (l : List D) (k i : Nat) (d : D), l[i]? = some d → (enumFrom k l)[i]? = some (.tup [.int ((k + i : Nat) : Int), d])
  | [], _, _, _, h => by simp at h
  | a :: l, k, 0, d, h => by simp at h; subst h; rfl
  | a :: l, k, i + 1, d, h => by
    have := enumFrom_get l (k + 1) i d (by simpa using h)
    rw [enumFrom, List.getElem?_cons_succ, this]
    have e : k + 1 + i = k + (i + 1) := by omega
    rw [e]
theorem enumD_eq (l : List D) : enumD l = enumFrom 0 l := by
  apply List.ext_getElem?
  intro i
  by_cases hi : i < l.length
  · rw [enumD_get (List.getElem?_eq_getElem hi), enumFrom_get l 0 i _ (List.getElem?_eq_getElem hi), Nat.zero_add]
  · rw [List.getElem?_eq_none (by rw [enumD_len]; omega), List.getElem?_eq_none (by rw [enumFrom_len]; omega)]
theorem last_app {S : Sto} {o : Ob} : (S ++ [o])[S.length]? = some o := by rw [List.getElem?_append_right (Nat.le_refl _), Nat.sub_self]; rfl
theorem set_last {S : Sto} {o o' : Ob} : (S ++ [o]).set S.length o' = S ++ [o'] := by rw [List.set_append_right _ _ (Nat.le_refl _), Nat.sub_self]; rfl
theorem take_last {S : Sto} {o : Ob} : (S ++ [o]).take S.length = S := by rw [List.take_append_of_le_length (Nat.le_refl _), List.take_length]
section
variable {α : Type} {g : MG} {ft : MT} {fe : ME} {ε : Ev} {n : Nat} {enc f : α → D} {p : α → Bool}
theorem lcL_enc : ∀ (l : List α) (S : Sto) (acc : List D), S[n]? = some (.lst acc) → (∀ a ∈ l, ∃ ε1, g (.val (enc a)) ε = some ε1 ∧ ∀ T, ft ε1 T = .ok (p a) T ∧ (p a = true → fe ε1 T = .ok (.val (f a)) T)) → acc.length + l.length ≤ sizeLine →
    lcL n g ft fe ε (l.map enc) S = some (S.set n (.lst (acc ++ (l.filter p).map f)))
  | [], S, acc, hn, _, _ => by simp [lcL, set_self hn]
  | d :: ds, S, acc, hn, hd, hl => by
    obtain ⟨ε1, e1, e2⟩ := hd d List.mem_cons_self
    have hd' := fun x hx => hd x (List.mem_cons_of_mem _ hx)
    simp only [List.length_cons] at hl
    obtain ⟨e3, e4⟩ := e2 S
    cases hp : p d with
    | true =>
      rw [hp] at e3
      simp only [List.map_cons, lcL, e1, e3, e4 hp, toD, hn]
      rw [if_pos (by omega), lcL_enc ds _ (acc ++ [f d]) (get_set hn) hd' (by rw [List.length_append]; simp only [List.length_cons, List.length_nil]; omega)]
      rw [List.set_set, List.filter_cons_of_pos hp, List.map_cons, List.append_assoc]
      rfl
    | false =>
      rw [hp] at e3
      simp only [List.map_cons, lcL, e1, e3]
      rw [lcL_enc ds S acc hn hd' (by omega), List.filter_cons_of_neg (by rw [hp]; exact Bool.false_ne_true)]
theorem cLc_encF {vs : List Nat} {fi : MI} {S : Sto} (l : List α) (hi : fi ε S = .ok (l.map enc) S) (hd : ∀ a ∈ l, ∃ ε1, g (.val (enc a)) (wipeE ε vs) = some ε1 ∧ ∀ T, ft ε1 T = .ok (p a) T ∧ (p a = true → fe ε1 T = .ok (.val (f a)) T)) (hl : l.length ≤ sizeLine) :
    cLc false vs g fi ft fe ε S = .ok (.val (.lst ((l.filter p).map f))) S := by
  unfold cLc
  rw [hi]
  simp only [Rs.bind]
  rw [lcL_enc (n := S.length) (p := p) (f := f) l (S ++ [Ob.lst []]) [] last_app hd (by simpa using hl)]
  simp only [List.nil_append, set_last, last_app, take_last]
  rfl
theorem cLc_enc {vs : List Nat} {fi : MI} {S : Sto} (l : List α) (hi : fi ε S = .ok (l.map enc) S) (hd : ∀ a ∈ l, ∃ ε1, g (.val (enc a)) (wipeE ε vs) = some ε1 ∧ ∀ T, fe ε1 T = .ok (.val (f a)) T) (hl : l.length ≤ sizeLine) :
    cLc false vs g fi tYesM fe ε S = .ok (.val (.lst (l.map f))) S := by
  have := cLc_encF (g := g) (ft := tYesM) (fe := fe) (ε := ε) (enc := enc) (f := f) (p := fun _ => true) (vs := vs) (fi := fi) l hi (fun d hd' => by
    obtain ⟨ε1, e1, e2⟩ := hd d hd'
    exact ⟨ε1, e1, fun T => ⟨rfl, fun _ => e2 T⟩⟩) hl
  rw [filter_yes] at this
  exact this
end
theorem ne_slots_stands : (Str.ofString "_slots" = Str.ofString "_stands") = False := eq_false (by decide +kernel)
theorem ne_slots_standsb : (Str.ofString "_slots" == Str.ofString "_stands") = false := by decide +kernel
theorem ne_slots_roads : (Str.ofString "_slots" = Str.ofString "_roads") = False := eq_false (by decide +kernel)
theorem ne_slots_roadsb : (Str.ofString "_slots" == Str.ofString "_roads") = false := by decide +kernel
theorem ne_slots_names : (Str.ofString "_slots" = Str.ofString "_names") = False := eq_false (by decide +kernel)
theorem ne_slots_namesb : (Str.ofString "_slots" == Str.ofString "_names") = false := by decide +kernel
theorem ne_slots_town : (Str.ofString "_slots" = Str.ofString "_town") = False := eq_false (by decide +kernel)
theorem ne_slots_townb : (Str.ofString "_slots" == Str.ofString "_town") = false := by decide +kernel
theorem ne_slots_facts : (Str.ofString "_slots" = Str.ofString "_facts") = False := eq_false (by decide +kernel)
theorem ne_slots_factsb : (Str.ofString "_slots" == Str.ofString "_facts") = false := by decide +kernel
theorem ne_stands_slots : (Str.ofString "_stands" = Str.ofString "_slots") = False := eq_false (by decide +kernel)
theorem ne_stands_slotsb : (Str.ofString "_stands" == Str.ofString "_slots") = false := by decide +kernel
theorem ne_stands_roads : (Str.ofString "_stands" = Str.ofString "_roads") = False := eq_false (by decide +kernel)
theorem ne_stands_roadsb : (Str.ofString "_stands" == Str.ofString "_roads") = false := by decide +kernel
theorem ne_stands_names : (Str.ofString "_stands" = Str.ofString "_names") = False := eq_false (by decide +kernel)
theorem ne_stands_namesb : (Str.ofString "_stands" == Str.ofString "_names") = false := by decide +kernel
theorem ne_stands_town : (Str.ofString "_stands" = Str.ofString "_town") = False := eq_false (by decide +kernel)
theorem ne_stands_townb : (Str.ofString "_stands" == Str.ofString "_town") = false := by decide +kernel
theorem ne_stands_facts : (Str.ofString "_stands" = Str.ofString "_facts") = False := eq_false (by decide +kernel)
theorem ne_stands_factsb : (Str.ofString "_stands" == Str.ofString "_facts") = false := by decide +kernel
theorem ne_roads_slots : (Str.ofString "_roads" = Str.ofString "_slots") = False := eq_false (by decide +kernel)
theorem ne_roads_slotsb : (Str.ofString "_roads" == Str.ofString "_slots") = false := by decide +kernel
theorem ne_roads_stands : (Str.ofString "_roads" = Str.ofString "_stands") = False := eq_false (by decide +kernel)
theorem ne_roads_standsb : (Str.ofString "_roads" == Str.ofString "_stands") = false := by decide +kernel
theorem ne_roads_names : (Str.ofString "_roads" = Str.ofString "_names") = False := eq_false (by decide +kernel)
theorem ne_roads_namesb : (Str.ofString "_roads" == Str.ofString "_names") = false := by decide +kernel
theorem ne_roads_town : (Str.ofString "_roads" = Str.ofString "_town") = False := eq_false (by decide +kernel)
theorem ne_roads_townb : (Str.ofString "_roads" == Str.ofString "_town") = false := by decide +kernel
theorem ne_roads_facts : (Str.ofString "_roads" = Str.ofString "_facts") = False := eq_false (by decide +kernel)
theorem ne_roads_factsb : (Str.ofString "_roads" == Str.ofString "_facts") = false := by decide +kernel
theorem ne_names_slots : (Str.ofString "_names" = Str.ofString "_slots") = False := eq_false (by decide +kernel)
theorem ne_names_slotsb : (Str.ofString "_names" == Str.ofString "_slots") = false := by decide +kernel
theorem ne_names_stands : (Str.ofString "_names" = Str.ofString "_stands") = False := eq_false (by decide +kernel)
theorem ne_names_standsb : (Str.ofString "_names" == Str.ofString "_stands") = false := by decide +kernel
theorem ne_names_roads : (Str.ofString "_names" = Str.ofString "_roads") = False := eq_false (by decide +kernel)
theorem ne_names_roadsb : (Str.ofString "_names" == Str.ofString "_roads") = false := by decide +kernel
theorem ne_names_town : (Str.ofString "_names" = Str.ofString "_town") = False := eq_false (by decide +kernel)
theorem ne_names_townb : (Str.ofString "_names" == Str.ofString "_town") = false := by decide +kernel
theorem ne_names_facts : (Str.ofString "_names" = Str.ofString "_facts") = False := eq_false (by decide +kernel)
theorem ne_names_factsb : (Str.ofString "_names" == Str.ofString "_facts") = false := by decide +kernel
theorem ne_town_slots : (Str.ofString "_town" = Str.ofString "_slots") = False := eq_false (by decide +kernel)
theorem ne_town_slotsb : (Str.ofString "_town" == Str.ofString "_slots") = false := by decide +kernel
theorem ne_town_stands : (Str.ofString "_town" = Str.ofString "_stands") = False := eq_false (by decide +kernel)
theorem ne_town_standsb : (Str.ofString "_town" == Str.ofString "_stands") = false := by decide +kernel
theorem ne_town_roads : (Str.ofString "_town" = Str.ofString "_roads") = False := eq_false (by decide +kernel)
theorem ne_town_roadsb : (Str.ofString "_town" == Str.ofString "_roads") = false := by decide +kernel
theorem ne_town_names : (Str.ofString "_town" = Str.ofString "_names") = False := eq_false (by decide +kernel)
theorem ne_town_namesb : (Str.ofString "_town" == Str.ofString "_names") = false := by decide +kernel
theorem ne_town_facts : (Str.ofString "_town" = Str.ofString "_facts") = False := eq_false (by decide +kernel)
theorem ne_town_factsb : (Str.ofString "_town" == Str.ofString "_facts") = false := by decide +kernel
theorem ne_facts_slots : (Str.ofString "_facts" = Str.ofString "_slots") = False := eq_false (by decide +kernel)
theorem ne_facts_slotsb : (Str.ofString "_facts" == Str.ofString "_slots") = false := by decide +kernel
theorem ne_facts_stands : (Str.ofString "_facts" = Str.ofString "_stands") = False := eq_false (by decide +kernel)
theorem ne_facts_standsb : (Str.ofString "_facts" == Str.ofString "_stands") = false := by decide +kernel
theorem ne_facts_roads : (Str.ofString "_facts" = Str.ofString "_roads") = False := eq_false (by decide +kernel)
theorem ne_facts_roadsb : (Str.ofString "_facts" == Str.ofString "_roads") = false := by decide +kernel
theorem ne_facts_names : (Str.ofString "_facts" = Str.ofString "_names") = False := eq_false (by decide +kernel)
theorem ne_facts_namesb : (Str.ofString "_facts" == Str.ofString "_names") = false := by decide +kernel
theorem ne_facts_town : (Str.ofString "_facts" = Str.ofString "_town") = False := eq_false (by decide +kernel)
theorem ne_facts_townb : (Str.ofString "_facts" == Str.ofString "_town") = false := by decide +kernel
inductive AllJ (ε : Ev) (S : Sto) : List ME → List Str → Prop
  | nil : AllJ ε S [] []
  | cons {f : ME} {y : Str} {fs : List ME} {ys : List Str} (h : f ε S = .ok (.val (.str y)) S) (r : AllJ ε S fs ys) : AllJ ε S (f :: fs) (y :: ys)
theorem cJs_ok {ε : Ev} {S : Sto} {fs : List ME} {ys : List Str} (h : AllJ ε S fs ys) : ∀ acc : Str, acc.length + (ys.map (·.length)).sum ≤ sizeLine → cJs fs acc ε S = .ok (ys.foldl (· ++ ·) acc) S := by
  induction h with
  | nil => intro acc _; rfl
  | cons h r ih =>
    intro acc hl
    rw [List.map_cons, List.sum_cons] at hl
    rw [cJs, h]
    simp only [Rs.bind]
    rw [if_pos (by rw [Str.length_append]; omega), ih _ (by rw [Str.length_append]; omega)]
    rfl
theorem cJoin_ok {ε : Ev} {S : Sto} {fs : List ME} {ys : List Str} (h : AllJ ε S fs ys) (hl : (ys.map (·.length)).sum ≤ sizeLine) : cJoin fs ε S = .ok (.val (.str (ys.foldl (· ++ ·) Str.empty))) S := by
  unfold cJoin
  rw [cJs_ok h Str.empty (by show 0 + _ ≤ _; omega)]
  rfl
theorem joinD_ok {a : Str} {ys : List Str} (h : (ys.map (·.length)).sum + ys.length * a.length ≤ 16777216) : joinD a (.lst (ys.map .str)) = some (.str (Str.join a ys)) := by
  simp only [joinD, strsD_strs]
  rw [if_pos h]
theorem take_set {S : Sto} {p : Nat} {o : Ob} : (S.set p o).take S.length = S.set p o := List.take_of_length_le (by rw [List.length_set]; exact Nat.le_refl _)
section
variable {g : MG} {fe : ME} {ε : Ev} {n p : Nat} {P : D → Prop}
theorem lcL_src (hpn : p ≠ n) : ∀ (ds : List D) (S : Sto) (acc : List D) (o : Ob), S[n]? = some (.lst acc) → S[p]? = some o → Src o → (∀ d ∈ ds, ∃ ε1, g (.val d) ε = some ε1 ∧ ∀ T o, T[p]? = some o → Src o → Dr p T (fe ε1 T) P) → acc.length + ds.length ≤ sizeLine →
    ∃ l o', lcL n g tYesM fe ε ds S = some ((S.set p o').set n (.lst (acc ++ l))) ∧ Src o' ∧ l.length = ds.length ∧ ∀ x ∈ l, P x
  | [], S, acc, o, hn, hp, ho, _, _ => ⟨[], o, by
      rw [set_self hp, List.append_nil, set_self hn]
      rfl, ho, rfl, fun x hx => by cases hx⟩
  | d :: ds, S, acc, o, hn, hp, ho, hd, hl => by
    obtain ⟨ε1, e1, e2⟩ := hd d List.mem_cons_self
    obtain ⟨r, o1, e3, ho1, pr⟩ := e2 S o hp ho
    have hn1 : (S.set p o1)[n]? = some (.lst acc) := by rw [get_set_ne (Ne.symm hpn)]; exact hn
    simp only [List.length_cons] at hl
    obtain ⟨l, o2, e4, ho2, hl2, pl⟩ := lcL_src hpn ds ((S.set p o1).set n (.lst (acc ++ [r]))) (acc ++ [r]) o1 (get_set hn1) (by rw [get_set_ne hpn]; exact get_set hp) ho1 (fun x hx => hd x (List.mem_cons_of_mem _ hx)) (by rw [List.length_append]; simp only [List.length_cons, List.length_nil]; omega)
    refine ⟨r :: l, o2, ?_, ho2, by rw [List.length_cons, List.length_cons, hl2], fun x hx => by
      rcases List.mem_cons.mp hx with rfl | hx
      · exact pr
      · exact pl x hx⟩
    simp only [lcL, e1, tYesM, e3, toD, hn1]
    rw [if_pos (by omega), e4]
    have ec : ((((S.set p o1).set n (.lst (acc ++ [r]))).set p o2).set n (.lst (acc ++ [r] ++ l))) = (S.set p o2).set n (.lst (acc ++ r :: l)) := by
      rw [List.set_comm _ _ (Ne.symm hpn), List.set_set, List.set_set, List.append_assoc]
      rfl
    rw [ec]
theorem cLc_src {vs : List Nat} {fi : MI} {S S1 : Sto} {ds : List D} {o1 : Ob} (hi : fi ε S = .ok ds S1) (hp : S1[p]? = some o1) (ho : Src o1) (hd : ∀ d ∈ ds, ∃ ε1, g (.val d) (wipeE ε vs) = some ε1 ∧ ∀ T o, T[p]? = some o → Src o → Dr p T (fe ε1 T) P) (hl : ds.length ≤ sizeLine) :
    ∃ l o', cLc false vs g fi tYesM fe ε S = .ok (.val (.lst l)) (S1.set p o') ∧ Src o' ∧ l.length = ds.length ∧ ∀ x ∈ l, P x := by
  have hlt := src_lt hp
  obtain ⟨l, o', e, ho', hl', pl⟩ := lcL_src (n := S1.length) (p := p) (P := P) (by omega) ds (S1 ++ [Ob.lst []]) [] o1 last_app (get_app hp) ho hd (by simpa using hl)
  refine ⟨l, o', ?_, ho', hl', pl⟩
  unfold cLc
  rw [hi]
  simp only [Rs.bind]
  rw [e, set_app hlt]
  have el : (S1.set p o').length = S1.length := List.length_set ..
  have e1 : ((S1.set p o' ++ [Ob.lst []]).set S1.length (.lst ([] ++ l))) = S1.set p o' ++ [.lst l] := by
    rw [← el, set_last]
    rfl
  rw [e1]
  have e2 : (S1.set p o' ++ [Ob.lst l])[S1.length]? = some (.lst l) := by rw [← el, last_app]
  have e3 : (S1.set p o' ++ [Ob.lst l]).take S1.length = S1.set p o' := by rw [← el, take_last]
  simp only [e2, e3]
  rfl
end
section
variable {α : Type} {g : MG} {ft : MT} {fe : ME} {ε : Ev} {enc f : α → D} {p : α → Bool}
theorem lcL_at (S : Sto) : ∀ (l : List α) (acc : List D), (∀ a ∈ l, ∃ ε1, g (.val (enc a)) ε = some ε1 ∧ ∀ acc', ft ε1 (S ++ [.lst acc']) = .ok (p a) (S ++ [.lst acc']) ∧ (p a = true → fe ε1 (S ++ [.lst acc']) = .ok (.val (f a)) (S ++ [.lst acc']))) → acc.length + l.length ≤ sizeLine →
    lcL S.length g ft fe ε (l.map enc) (S ++ [.lst acc]) = some (S ++ [.lst (acc ++ (l.filter p).map f)])
  | [], acc, _, _ => by simp [lcL]
  | d :: ds, acc, hd, hl => by
    obtain ⟨ε1, e1, e2⟩ := hd d List.mem_cons_self
    have hd' := fun x hx => hd x (List.mem_cons_of_mem _ hx)
    simp only [List.length_cons] at hl
    obtain ⟨e3, e4⟩ := e2 acc
    cases hp : p d with
    | true =>
      rw [hp] at e3
      simp only [List.map_cons, lcL, e1, e3, e4 hp, toD, last_app]
      rw [if_pos (by omega), set_last, lcL_at S ds (acc ++ [f d]) hd' (by rw [List.length_append]; simp only [List.length_cons, List.length_nil]; omega)]
      rw [List.filter_cons_of_pos hp, List.map_cons, List.append_assoc]
      rfl
    | false =>
      rw [hp] at e3
      simp only [List.map_cons, lcL, e1, e3]
      rw [lcL_at S ds acc hd' (by omega), List.filter_cons_of_neg (by rw [hp]; exact Bool.false_ne_true)]
theorem cLc_atF {vs : List Nat} {fi : MI} {S S1 : Sto} (l : List α) (hi : fi ε S = .ok (l.map enc) S1) (hd : ∀ a ∈ l, ∃ ε1, g (.val (enc a)) (wipeE ε vs) = some ε1 ∧ ∀ acc', ft ε1 (S1 ++ [.lst acc']) = .ok (p a) (S1 ++ [.lst acc']) ∧ (p a = true → fe ε1 (S1 ++ [.lst acc']) = .ok (.val (f a)) (S1 ++ [.lst acc']))) (hl : l.length ≤ sizeLine) :
    cLc false vs g fi ft fe ε S = .ok (.val (.lst ((l.filter p).map f))) S1 := by
  unfold cLc
  rw [hi]
  simp only [Rs.bind]
  rw [lcL_at (p := p) (f := f) S1 l [] hd (by simpa using hl)]
  simp only [List.nil_append, last_app, take_last]
  rfl
theorem cLc_at {vs : List Nat} {fi : MI} {S S1 : Sto} (l : List α) (hi : fi ε S = .ok (l.map enc) S1) (hd : ∀ a ∈ l, ∃ ε1, g (.val (enc a)) (wipeE ε vs) = some ε1 ∧ ∀ acc', fe ε1 (S1 ++ [.lst acc']) = .ok (.val (f a)) (S1 ++ [.lst acc'])) (hl : l.length ≤ sizeLine) :
    cLc false vs g fi tYesM fe ε S = .ok (.val (.lst (l.map f))) S1 := by
  have := cLc_atF (g := g) (ft := tYesM) (fe := fe) (ε := ε) (enc := enc) (f := f) (p := fun _ => true) (vs := vs) (fi := fi) l hi (fun d hd' => by
    obtain ⟨ε1, e1, e2⟩ := hd d hd'
    exact ⟨ε1, e1, fun T => ⟨rfl, fun _ => e2 T⟩⟩) hl
  rw [filter_yes] at this
  exact this
end
theorem view_val (d : D) (S : Sto) : view (.val d) S = some d := rfl
theorem view_ref (n : Nat) (S : Sto) : view (.ref n) S = match S[n]? with | some (.lst l) => some (.lst l) | some (.ins C fs) => some (.obj C fs) | some (.dic kvs) => some (.dic kvs) | _ => none := rfl
theorem toD_val (d : D) (S : Sto) : toD (.val d) S = some (d, S) := rfl
theorem toD_ref (n : Nat) (S : Sto) : toD (.ref n) S = match S[n]? with | some (.lst l) => some (.lst l, S.set n .dead) | some (.ins C fs) => some (.obj C fs, S.set n .dead) | some (.dic kvs) => some (.dic kvs, S.set n .dead) | _ => none := rfl
theorem p62 : (2 : Int) ^ 62 = 4611686018427387904 := by decide +kernel
theorem p30 : (2 : Int) ^ 30 = 1073741824 := by decide +kernel
theorem rng62 {j : Int} (h0 : -1000000 ≤ j) (h1 : j ≤ 1000000) : -(2 ^ 62) ≤ j ∧ j < 2 ^ 62 := by rw [p62]; omega
theorem lt30 {j : Int} (h1 : j ≤ 1000000) : j < 2 ^ 30 := by rw [p30]; omega
end AM
set_option Elab.async false
set_option linter.all false
set_option maxRecDepth 100000
set_option maxHeartbeats 4000000
/-! steps: one combinator at a time -/
namespace AM
open PySem
section
variable {a b : MS} {f g0 : ME} {ε ε1 : Ev} {S S1 S2 : Sto} {w w1 : W} {r : Rt} {i n : Nat} {d : D}
theorem seqS (h1 : a ε S = .nx ε1 S1) (h2 : b ε1 S1 = r) : sSeq a b ε S = r := by simp only [sSeq, h1]; exact h2
theorem seqR (h1 : a ε S = .rt w S1) : sSeq a b ε S = .rt w S1 := by simp only [sSeq, h1]
theorem exprS (h : f ε S = .ok w S1) : sExpr f ε S = .nx ε S1 := by simp only [sExpr, h, Rs.bindT]
theorem asgS (h : f ε S = .ok w S1) : sAsg (gNm i) f ε S = .nx (ε.set i (some w)) S1 := by simp only [sAsg, h, Rs.bindT, gNm]
theorem retS (h : f ε S = .ok w S1) : sRet f ε S = .rt w S1 := by simp only [sRet, h, Rs.bindT]
theorem forS {g : MG} {fi : MI} {ds : List D} (h : fi ε S = .ok ds S1) (h2 : forL g b ds ε S1 = r) : sFor g fi b ε S = r := by simp only [sFor, h, Rs.bindT]; exact h2
theorem ifT {c : MT} (h : c ε S = .ok true S1) (h2 : a ε S1 = r) : sIf c a b ε S = r := by simp only [sIf, h, Rs.bindT, if_true]; exact h2
theorem ifF {c : MT} (h : c ε S = .ok false S1) (h2 : b ε S1 = r) : sIf c a b ε S = r := by simp only [sIf, h, Rs.bindT, Bool.false_eq_true, if_false]; exact h2
theorem varS (h : ε[i]? = some (some w)) : cVar i ε S = .ok w S := by simp only [cVar, h]
theorem callS {F : F1} {fs : MA} {ws : List W} {q : Rs W} (h : fs ε S = .ok ws S1) (h2 : F ws S1 = q) : cCall F fs ε S = q := by simp only [cCall, h, Rs.bind]; exact h2
theorem biS {g : List W → Sto → Rs W} {fs : MA} {ws : List W} {q : Rs W} (h : fs ε S = .ok ws S1) (h2 : g ws S1 = q) : cBi g fs ε S = q := by simp only [cBi, h, Rs.bind]; exact h2
theorem binS {g : W → W → Sto → Rs W} {q : Rs W} (h : f ε S = .ok w S1) (h1 : g0 ε S1 = .ok w1 S2) (h2 : g w w1 S2 = q) : cBin g f g0 ε S = q := by simp only [cBin, h, h1, Rs.bind]; exact h2
theorem consS {fs : MA} {ws : List W} (h : f ε S = .ok w S1) (h1 : fs ε S1 = .ok ws S2) : cCons f fs ε S = .ok (w :: ws) S2 := by simp only [cCons, h, h1, Rs.bind]
theorem testS {k : Bool} (h : f ε S = .ok (.val (.bl k)) S1) : cTest f ε S = .ok k S1 := by simp only [cTest, h, Rs.bind]
theorem cifT {c : MT} {q : Rs W} (h : c ε S = .ok true S1) (h2 : f ε S1 = q) : cIf c f g0 ε S = q := by simp only [cIf, h, Rs.bind, if_true]; exact h2
theorem cifF {c : MT} {q : Rs W} (h : c ε S = .ok false S1) (h2 : g0 ε S1 = q) : cIf c f g0 ε S = q := by simp only [cIf, h, Rs.bind, Bool.false_eq_true, if_false]; exact h2
theorem mutS {g : List D → List D → Option (D × List D)} {xs l' : List D} (h0 : ε[i]? = some (some (.ref n))) (hl : isLst n S = true) (h : f ε S = .ok (.val d) S1) (h1 : S1[n]? = some (.lst xs)) {r : D} (hg : g xs [d] = some (r, l')) :
    cMut g (cVar i) (cCons f cNil) ε S = .ok (.val r) (S1.set n (.lst l')) := by
  simp only [cMut, cVar, h0, Rs.bind, hl, if_true, cCons, cNil, h, toDs, toD_val, Option.bind_some, Option.map_some, h1, hg]
theorem appS {xs : List D} (h0 : ε[i]? = some (some (.ref n))) (hl : isLst n S = true) (h : f ε S = .ok (.val d) S1) (h1 : S1[n]? = some (.lst xs)) (hx : xs.length < sizeLine) :
    sExpr (cMut gAppend (cVar i) (cCons f cNil)) ε S = .nx ε (S1.set n (.lst (xs ++ [d]))) := exprS (mutS h0 hl h h1 (by rw [gAppend, if_pos hx]))
theorem extS {xs z : List D} (h0 : ε[i]? = some (some (.ref n))) (hl : isLst n S = true) (h : f ε S = .ok (.val (.lst z)) S1) (h1 : S1[n]? = some (.lst xs)) (hx : xs.length + z.length ≤ sizeLine) :
    sExpr (cMut gExtend (cVar i) (cCons f cNil)) ε S = .nx ε (S1.set n (.lst (xs ++ z))) := exprS (mutS h0 hl h h1 (by rw [gExtend, if_pos hx]))
theorem aBinS {g : D → D → Option D} {x y z : D} (hx : view w S = some x) (hy : view w1 S = some y) (hz : g x y = some z) : aBin g w w1 S = .ok (.val z) S := by simp only [aBin, hx, hy, hz]
theorem range1S {fs : MA} {m : Nat} (h : fs ε S = .ok [.val (.int (m : Int))] S1) (hm : m < 1000000) : cRange1 fs ε S = .ok ((List.range m).map fun (j : Nat) => D.int (0 + (j : Int))) S1 := by
  simp only [cRange1, h, Rs.bind]
  rw [if_pos (rng62 (by omega) (by omega))]
  rfl
end
end AM
namespace AM
open PySem
section
variable {ε : Ev} {S S1 S2 S3 : Sto} {f g h : ME} {a b c : D}
theorem tup2S (h1 : f ε S = .ok (.val a) S1) (h2 : g ε S1 = .ok (.val b) S2) : cTup (cCons f (cCons g cNil)) ε S = .ok (.val (.tup [a, b])) S2 := by
  simp only [cTup, cCons, cNil, h1, h2, Rs.bind, toDs, toD_val, Option.bind_some, Option.map_some, List.length_cons, List.length_nil]
  rw [if_pos (by rw [szl]; decide)]
theorem tup3S (h1 : f ε S = .ok (.val a) S1) (h2 : g ε S1 = .ok (.val b) S2) (h3 : h ε S2 = .ok (.val c) S3) : cTup (cCons f (cCons g (cCons h cNil))) ε S = .ok (.val (.tup [a, b, c])) S3 := by
  simp only [cTup, cCons, cNil, h1, h2, h3, Rs.bind, toDs, toD_val, Option.bind_some, Option.map_some, List.length_cons, List.length_nil]
  rw [if_pos (by rw [szl]; decide)]
end
end AM
namespace AM
open PySem
section
variable {g : MG} {body : MS}
theorem forL_inv (P : Nat → Ev → Sto → Prop) : ∀ (ds : List D) (k : Nat) (ε : Ev) (S : Sto), P k ε S → (∀ i d ε S, ds[i]? = some d → P (k + i) ε S → ∃ ε1 ε2 S2, g (.val d) ε = some ε1 ∧ body ε1 S = .nx ε2 S2 ∧ P (k + i + 1) ε2 S2) →
    ∃ ε2 S2, forL g body ds ε S = .nx ε2 S2 ∧ P (k + ds.length) ε2 S2
  | [], k, ε, S, h, _ => ⟨ε, S, rfl, h⟩
  | d :: ds, k, ε, S, h, hs => by
    obtain ⟨ε1, ε2, S2, e1, e2, h2⟩ := hs 0 d ε S rfl h
    obtain ⟨ε3, S3, e3, h3⟩ := forL_inv P ds (k + 1) ε2 S2 h2 (fun i d ε S hd hP => by
      have ek : k + 1 + i = k + (i + 1) := by omega
      have := hs (i + 1) d ε S (by rw [List.getElem?_cons_succ]; exact hd) (by rw [← ek]; exact hP)
      rw [ek]
      exact this)
    refine ⟨ε3, S3, ?_, ?_⟩
    · rw [forL, e1]
      simp only [e2]
      exact e3
    · have ek : k + 1 + ds.length = k + (ds.length + 1) := by omega
      rw [List.length_cons, ← ek]
      exact h3
theorem forL_range (P : Nat → Ev → Sto → Prop) {n : Nat} {ε : Ev} {S : Sto} (h0 : P 0 ε S) (hs : ∀ i ε S, i < n → P i ε S → ∃ ε1 ε2 S2, g (.val (.int (0 + (i : Int)))) ε = some ε1 ∧ body ε1 S = .nx ε2 S2 ∧ P (i + 1) ε2 S2) :
    ∃ ε2 S2, forL g body ((List.range n).map fun (j : Nat) => D.int (0 + (j : Int))) ε S = .nx ε2 S2 ∧ P n ε2 S2 := by
  obtain ⟨ε2, S2, e, h⟩ := forL_inv (g := g) (body := body) P ((List.range n).map fun (j : Nat) => D.int (0 + (j : Int))) 0 ε S h0 (fun i d ε S hd hP => by
    rw [List.getElem?_map] at hd
    by_cases hi : i < n
    · rw [List.getElem?_range hi] at hd
      cases hd
      rw [Nat.zero_add] at hP ⊢
      exact hs i ε S hi hP
    · rw [List.getElem?_eq_none (by rw [List.length_range]; omega)] at hd
      cases hd)
  rw [List.length_map, List.length_range, Nat.zero_add] at h
  exact ⟨ε2, S2, e, h⟩
theorem forL_list {α : Type} (enc : α → D) (P : Nat → Ev → Sto → Prop) {l : List α} {ε : Ev} {S : Sto} (h0 : P 0 ε S) (hs : ∀ i a ε S, l[i]? = some a → P i ε S → ∃ ε1 ε2 S2, g (.val (enc a)) ε = some ε1 ∧ body ε1 S = .nx ε2 S2 ∧ P (i + 1) ε2 S2) :
    ∃ ε2 S2, forL g body (l.map enc) ε S = .nx ε2 S2 ∧ P l.length ε2 S2 := by
  obtain ⟨ε2, S2, e, h⟩ := forL_inv (g := g) (body := body) P (l.map enc) 0 ε S h0 (fun i d ε S hd hP => by
    rw [List.getElem?_map] at hd
    cases ha : l[i]? with
    | none => rw [ha] at hd; cases hd
    | some a =>
      rw [ha] at hd
      cases hd
      rw [Nat.zero_add] at hP ⊢
      exact hs i a ε S ha hP)
  rw [List.length_map, Nat.zero_add] at h
  exact ⟨ε2, S2, e, h⟩
end
end AM
namespace AM
open PySem
theorem callV {mu : Bool} {N np : Nat} {body : MS} {ws : List W} {S S1 S2 : Sto} {d : D} (hl : ws.length = np) (h : body (ws.map some ++ List.replicate (N - np) none) S = .rt (.val d) S1) (ht : S1.take S.length = S2) : callF mu N np body ws S = .ok (.val d) S2 := by
  unfold callF
  rw [if_pos hl, h, ← ht]
  rfl
theorem callE {mu : Bool} {N np : Nat} {body : MS} {ws : List W} {S : Sto} {d : D} (hl : ws.length = np) (h : body (ws.map some ++ List.replicate (N - np) none) S = .rt (.val d) S) : callF mu N np body ws S = .ok (.val d) S :=
  callV hl h (List.take_length)
theorem ixS {ε : Ev} {S S1 S2 : Sto} {f g : ME} {l : List D} {i : Int} {x : D} (hf : f ε S = .ok (.val (.tup l)) S1) (hg : g ε S1 = .ok (.val (.int i)) S2) (h : L2.atI l i = some x) : cBin (aBin ixD) f g ε S = .ok (.val x) S2 :=
  binS hf hg (aBinS rfl rfl h)
theorem cS {d : D} {ε : Ev} {S : Sto} : cC d ε S = .ok (.val d) S := rfl
theorem iterS {ε : Ev} {S S1 : Sto} {f : ME} {l : List D} (hf : f ε S = .ok (.val (.tup l)) S1) : cIter f ε S = .ok l S1 := by simp only [cIter, hf, Rs.bind, iterD]
theorem iterSL {ε : Ev} {S S1 : Sto} {f : ME} {l : List D} (hf : f ε S = .ok (.val (.lst l)) S1) : cIter f ε S = .ok l S1 := by simp only [cIter, hf, Rs.bind, iterD]
theorem bi1S {ε : Ev} {S S1 : Sto} {f : ME} {g : List D → Option D} {d r : D} (hf : f ε S = .ok (.val d) S1) (hg : g [d] = some r) : cBi (aFn g) (cCons f cNil) ε S = .ok (.val r) S1 :=
  biS (consS hf rfl) (by simp only [aFn, views, view_val, Option.bind_some, Option.map_some, hg])
theorem bi2S {ε : Ev} {S S1 S2 : Sto} {f f2 : ME} {g : List D → Option D} {d d2 r : D} (hf : f ε S = .ok (.val d) S1) (hf2 : f2 ε S1 = .ok (.val d2) S2) (hg : g [d, d2] = some r) : cBi (aFn g) (cCons f (cCons f2 cNil)) ε S = .ok (.val r) S2 :=
  biS (consS hf (consS hf2 rfl)) (by simp only [aFn, views, view_val, Option.bind_some, Option.map_some, hg])
theorem binD {ε : Ev} {S S1 S2 : Sto} {f f2 : ME} {g : D → D → Option D} {d d2 r : D} (hf : f ε S = .ok (.val d) S1) (hf2 : f2 ε S1 = .ok (.val d2) S2) (hg : g d d2 = some r) : cBin (aBin g) f f2 ε S = .ok (.val r) S2 :=
  binS hf hf2 (aBinS rfl rfl hg)
theorem call1S {ε : Ev} {S S1 : Sto} {f : ME} {F : F1} {d : D} {q : Rs W} (hf : f ε S = .ok (.val d) S1) (h : F [.val d] S1 = q) : cCall F (cCons f cNil) ε S = q := callS (consS hf rfl) h
theorem m1S {ε : Ev} {S S1 S2 : Sto} {f f2 : ME} {g : Str → D → Option D} {x : Str} {d r : D} (hf : f ε S = .ok (.val (.str x)) S1) (hf2 : f2 ε S1 = .ok (.val d) S2) (hg : g x d = some r) : cM1 g f f2 ε S = .ok (.val r) S2 := by
  simp only [cM1, hf, hf2, Rs.bind, view_val, hg]
end AM
namespace AM
open PySem
theorem propS {C : Str} {F : F1} {f : ME} {ε : Ev} {S S1 S2 : Sto} {fs : List (Str × D)} {r : W} (hf : f ε S = .ok (.val (.obj C fs)) S1) (h : F [.val (.obj C fs)] S1 = .ok r S2) : cProp C F f ε S = .ok r S2 := by
  simp only [cProp, hf, Rs.bind, isObj, view_val, if_true, h]
theorem strOwnS {C : Str} {F : F1} {f : ME} {ε : Ev} {S S1 S2 : Sto} {fs : List (Str × D)} {y : Str} (hf : f ε S = .ok (.val (.obj C fs)) S1) (h : F [.val (.obj C fs)] S1 = .ok (.val (.str y)) S2) : cBi (strOwnW C F) (cCons f cNil) ε S = .ok (.val (.str y)) S2 :=
  biS (consS hf rfl) (by simp only [strOwnW, isObj, view_val, if_true, h])
theorem boolOwnS {C : Str} {f : ME} {ε : Ev} {S S1 : Sto} {fs : List (Str × D)} (hf : f ε S = .ok (.val (.obj C fs)) S1) : cBi (boolOwnW C) (cCons f cNil) ε S = .ok (.val (.bl true)) S1 :=
  biS (consS hf rfl) (by simp only [boolOwnW, isObj, view_val, if_true])
/-- arguments that are all values -/
inductive ArgsV (ε : Ev) : Sto → MA → List D → Sto → Prop
  | nil {S : Sto} : ArgsV ε S cNil [] S
  | cons {S S1 S2 : Sto} {f : ME} {fs : MA} {d : D} {ds : List D} (h : f ε S = .ok (.val d) S1) (r : ArgsV ε S1 fs ds S2) : ArgsV ε S (cCons f fs) (d :: ds) S2
theorem toDs_vals (S : Sto) : ∀ ds : List D, toDs (ds.map W.val) S = some (ds, S)
  | [] => rfl
  | d :: ds => by simp only [List.map_cons, toDs, toD_val, Option.bind_some, toDs_vals S ds, Option.map_some]
theorem ArgsV.ok {ε : Ev} {S S1 : Sto} {fs : MA} {ds : List D} (h : ArgsV ε S fs ds S1) : fs ε S = .ok (ds.map W.val) S1 := by
  induction h with
  | nil => rfl
  | cons h r ih => exact consS h ih
theorem lstS {ε : Ev} {S S1 : Sto} {fs : MA} {ds : List D} (h : ArgsV ε S fs ds S1) (hl : ds.length ≤ 1000) : cLst fs ε S = .ok (.val (.lst ds)) S1 := by
  simp only [cLst, h.ok, Rs.bind, toDs_vals]
  rw [if_pos (by rw [szl]; omega)]
theorem tupV {ε : Ev} {S S1 : Sto} {fs : MA} {ds : List D} (h : ArgsV ε S fs ds S1) (hl : ds.length ≤ 1000) : cTup fs ε S = .ok (.val (.tup ds)) S1 := by
  simp only [cTup, h.ok, Rs.bind, toDs_vals]
  rw [if_pos (by rw [szl]; omega)]
theorem toPs_map {α : Type} (f : α → D) (g : α → PyData) (h : ∀ a, toP (f a) = some (g a)) : ∀ l : List α, toPs (l.map f) = some (l.map g)
  | [] => rfl
  | a :: l => by
    rw [List.map_cons, toPs, h a]
    simp only [toPs_map f g h l, Option.bind_some, Option.map_some, List.map_cons]
end AM
namespace AM
theorem parS {i j : Nat} {fs : MA} {ε : Ev} {S S1 : Sto} {v w : W} (h : fs ε S = .ok [v, w] S1) : sPar i j fs ε S = .nx ((ε.set i (some v)).set j (some w)) S1 := by simp only [sPar, h, Rs.bindT]
theorem par3S {i j l : Nat} {fs : MA} {ε : Ev} {S S1 : Sto} {v w x : W} (h : fs ε S = .ok [v, w, x] S1) : sPar3 i j l fs ε S = .nx (((ε.set i (some v)).set j (some w)).set l (some x)) S1 := by simp only [sPar3, h, Rs.bindT]
theorem parNS {is : List Nat} {fs : MA} {ε : Ev} {S S1 : Sto} {ws : List W} (h : fs ε S = .ok ws S1) (hl : ws.length = is.length) (hs : ws.length ≤ 1000) : sParN is fs ε S = .nx (setAll ε is ws) S1 := by
  simp only [sParN, h, Rs.bindT]
  rw [if_pos ⟨hl, by rw [szl]; omega⟩]
theorem tupA2S {f : ME} {ε : Ev} {S S1 : Sto} {i j : Nat} {a b : D} (h : f ε S = .ok (.val (.tup [a, b])) S1) : sAsg (gTupA 2 (gConsA (gNm i) (gConsA (gNm j) gNilA))) f ε S = .nx ((ε.set i (some (.val a))).set j (some (.val b))) S1 := by
  simp only [sAsg, h, Rs.bindT, gTupA, List.length_cons, List.length_nil, if_true, gConsA, gNm, gNilA, Option.bind_some]
theorem tupA3S {f : ME} {ε : Ev} {S S1 : Sto} {i j l : Nat} {a b c : D} (h : f ε S = .ok (.val (.tup [a, b, c])) S1) : sAsg (gTupA 3 (gConsA (gNm i) (gConsA (gNm j) (gConsA (gNm l) gNilA)))) f ε S = .nx (((ε.set i (some (.val a))).set j (some (.val b))).set l (some (.val c))) S1 := by
  simp only [sAsg, h, Rs.bindT, gTupA, List.length_cons, List.length_nil, if_true, gConsA, gNm, gNilA, Option.bind_some]
end AM
namespace AM
open PySem
section
variable {α : Type} {g : MG} {fe : ME} {ε : Ev} {enc f : α → D}
/-- an element may leave things behind it in the store -/
theorem lcL_grow (S0 : Sto) : ∀ (l : List α) (acc : List D) (J : Sto), (∀ a ∈ l, ∃ ε1, g (.val (enc a)) ε = some ε1 ∧ ∀ T, ∃ X, fe ε1 T = .ok (.val (f a)) (T ++ X)) → acc.length + l.length ≤ sizeLine →
    ∃ J', lcL S0.length g tYesM fe ε (l.map enc) (S0 ++ .lst acc :: J) = some (S0 ++ .lst (acc ++ l.map f) :: J')
  | [], acc, J, _, _ => ⟨J, by simp [lcL]⟩
  | d :: ds, acc, J, hd, hl => by
    obtain ⟨ε1, e1, e2⟩ := hd d List.mem_cons_self
    obtain ⟨X, e3⟩ := e2 (S0 ++ .lst acc :: J)
    simp only [List.length_cons] at hl
    obtain ⟨J', e4⟩ := lcL_grow S0 ds (acc ++ [f d]) (J ++ X) (fun x hx => hd x (List.mem_cons_of_mem _ hx)) (by rw [List.length_append]; simp only [List.length_cons, List.length_nil]; omega)
    refine ⟨J', ?_⟩
    have g0 : (S0 ++ Ob.lst acc :: (J ++ X))[S0.length]? = some (Ob.lst acc) := by rw [List.getElem?_append_right (Nat.le_refl _), Nat.sub_self]; rfl
    have s0 : (S0 ++ Ob.lst acc :: (J ++ X)).set S0.length (Ob.lst (acc ++ [f d])) = S0 ++ Ob.lst (acc ++ [f d]) :: (J ++ X) := by rw [List.set_append_right _ _ (Nat.le_refl _), Nat.sub_self]; rfl
    simp only [List.map_cons, lcL, e1, tYesM, e3, toD, List.append_assoc, List.cons_append, g0]
    rw [if_pos (by omega), s0, e4]
    simp [List.append_assoc]
theorem cLc_grow {vs : List Nat} {fi : MI} {S S1 : Sto} (l : List α) (hi : fi ε S = .ok (l.map enc) S1) (hd : ∀ a ∈ l, ∃ ε1, g (.val (enc a)) (wipeE ε vs) = some ε1 ∧ ∀ T, ∃ X, fe ε1 T = .ok (.val (f a)) (T ++ X)) (hl : l.length ≤ sizeLine) :
    cLc false vs g fi tYesM fe ε S = .ok (.val (.lst (l.map f))) S1 := by
  unfold cLc
  rw [hi]
  simp only [Rs.bind]
  obtain ⟨J', e⟩ := lcL_grow (g := g) (fe := fe) (f := f) S1 l [] [] hd (by simpa using hl)
  rw [e]
  have g0 : (S1 ++ Ob.lst ([] ++ l.map f) :: J')[S1.length]? = some (Ob.lst (l.map f)) := by rw [List.getElem?_append_right (Nat.le_refl _), Nat.sub_self]; rfl
  simp only [g0]
  simp
end
end AM
set_option Elab.async false
set_option linter.all false
set_option maxRecDepth 100000
set_option maxHeartbeats 4000000
namespace Bk
open PySem
def ownC : List Str := ["Town", "Log"]
def gc_PLAIN : AM.D := .tup [.str "count", .str "bikes", .str "left", .str "came", .str "rides", .str "van"]
def gc_WHOLE : AM.D := .tup [.str "all rides", .str "all vans"]
def gc_HEADS : AM.D := .tup [.str "slots", .str "stand", .str "road"]
def gv_FORMS : List (Str × AM.D) := [("count", .tup [.str "stand", .str "moment"]), ("bikes", .tup []), ("way", .tup [.str "moment"]), ("left", .tup [.str "stand", .str "slot"]), ("came", .tup [.str "stand", .str "slot"]), ("rides", .tup [.str "stand", .str "stand", .str "slot"]), ("van", .tup [.str "slot"]), ("road", .tup [.str "stand", .str "stand"]), ("from", .tup [.str "stand"]), ("to", .tup [.str "stand"])]
def m__law_cell : AM.MS := (AM.sSeq (AM.sIf (AM.cTest (AM.cBin (AM.aBin AM.ltD) (AM.cVar 1) (AM.cBi (AM.aFn AM.lenD) (AM.cCons (AM.cVar 0) AM.cNil)))) (AM.sRet (AM.cBin (AM.aBin AM.ixD) (AM.cVar 0) (AM.cVar 1))) AM.sNil) (AM.sSeq (AM.sAsg (AM.gNm 2) (AM.cBin (AM.aBin AM.addD) (AM.cC (.int 910573)) (AM.cBin (AM.aBin AM.mulD) (AM.cC (.int 30341)) (AM.cVar 1)))) (AM.sSeq (AM.sFor (AM.gNm 3) (AM.cIter (AM.cSl (AM.cVar 0) AM.oNone (AM.oSome (AM.cC (.int 5))))) (AM.sAsg (AM.gNm 2) (AM.cBin (AM.aBin AM.modD) (AM.cBi (AM.aFn AM.intFD) (AM.cCons (AM.cBin (AM.aBin AM.addD) (AM.cBin (AM.aBin AM.addD) (AM.cBin (AM.aBin AM.mulD) (AM.cVar 2) (AM.cC (.int 75227))) (AM.cBin (AM.aBin AM.mulD) (AM.cVar 3) (AM.cC (.int 1013)))) (AM.cVar 1)) AM.cNil)) (AM.cC (.int 2147483563))))) (AM.sRet (AM.cVar 2)))))
def F__law_cell : AM.F1 := AM.callF false 4 2 m__law_cell
def m_Town_road_time : AM.MS := (AM.sSeq (AM.sFor (AM.gNm 3) (AM.cIter (AM.cFld "Town" "_roads" (AM.cVar 0))) (AM.sIf (AM.cTest (AM.cBin (AM.aBin AM.eqD) (AM.cSl (AM.cVar 3) AM.oNone (AM.oSome (AM.cC (.int 2)))) (AM.cTup (AM.cCons (AM.cVar 1) (AM.cCons (AM.cVar 2) AM.cNil))))) (AM.sRet (AM.cBin (AM.aBin AM.ixD) (AM.cVar 3) (AM.cC (.int 2)))) AM.sNil)) (AM.sRet (AM.cC .non)))
def F_Town_road_time : AM.F1 := AM.callF false 4 3 m_Town_road_time
def m_Town_names : AM.MS := (AM.sRet (AM.cFld "Town" "_names" (AM.cVar 0)))
def F_Town_names : AM.F1 := AM.callF false 1 1 m_Town_names
def m_Town_slots : AM.MS := (AM.sRet (AM.cFld "Town" "_slots" (AM.cVar 0)))
def F_Town_slots : AM.F1 := AM.callF false 1 1 m_Town_slots
def m_number_of : AM.MS := (AM.sSeq (AM.sIf (AM.cOrT (AM.cTest (AM.cBin (AM.aBin AM.eqD) (AM.cVar 0) (AM.cC (.str "")))) (AM.cOrT (AM.cTest (AM.cBin (AM.aBin AM.gtD) (AM.cBi (AM.aFn AM.lenD) (AM.cCons (AM.cVar 0) AM.cNil)) (AM.cBi (AM.aFn AM.lenD) (AM.cCons (AM.cBi (AM.aFn AM.strD) (AM.cCons (AM.cC (.int 9999)) AM.cNil)) AM.cNil)))) (AM.cNotT (AM.cTest (AM.cBi (AM.aFn AM.allD') (AM.cCons (AM.cLc false [1] (AM.gNm 1) (AM.cIter (AM.cVar 0)) AM.tYesM (AM.cBin (AM.aBin AM.inD) (AM.cVar 1) (AM.cC (.str "0123456789")))) AM.cNil)))))) (AM.sRet (AM.cC .non)) AM.sNil) (AM.sSeq (AM.sIf (AM.cAndT (AM.cTest (AM.cBin (AM.aBin AM.eqD) (AM.cBin (AM.aBin AM.ixD) (AM.cVar 0) (AM.cC (.int 0))) (AM.cC (.str "0")))) (AM.cTest (AM.cBin (AM.aBin AM.neD) (AM.cVar 0) (AM.cC (.str "0"))))) (AM.sRet (AM.cC .non)) AM.sNil) (AM.sRet (AM.cBi (AM.aFn AM.intFD) (AM.cCons (AM.cVar 0) AM.cNil)))))
def F_number_of : AM.F1 := AM.callF false 2 1 m_number_of
def m_told_by : AM.MS := (AM.sSeq (AM.sIf (AM.cTest (AM.cBin (AM.aBin AM.eqD) (AM.cVar 1) (AM.cC (.str "stand")))) (AM.sRet (AM.cIf (AM.cTest (AM.cBin (AM.aBin AM.inD) (AM.cVar 2) (AM.cProp "Town" F_Town_names (AM.cVar 0)))) (AM.cTIdx (AM.cProp "Town" F_Town_names (AM.cVar 0)) (AM.cVar 2)) (AM.cC .non))) AM.sNil) (AM.sSeq (AM.sAsg (AM.gNm 3) (AM.cCall F_number_of (AM.cCons (AM.cVar 2) AM.cNil))) (AM.sSeq (AM.sAsg (AM.gNm 4) (AM.cIf (AM.cTest (AM.cBin (AM.aBin AM.eqD) (AM.cVar 1) (AM.cC (.str "moment")))) (AM.cProp "Town" F_Town_slots (AM.cVar 0)) (AM.cBin (AM.aBin AM.subD) (AM.cProp "Town" F_Town_slots (AM.cVar 0)) (AM.cC (.int 1))))) (AM.sRet (AM.cIf (AM.cAndT (AM.cTest (AM.cBin (AM.aBin AM.notND) (AM.cVar 3) (AM.cC .non))) (AM.cTest (AM.cBin (AM.aBin AM.leD) (AM.cVar 3) (AM.cVar 4)))) (AM.cVar 3) (AM.cC .non))))))
def F_told_by : AM.F1 := AM.callF false 5 3 m_told_by
def m_read_ask : AM.MS := (AM.sSeq (AM.sIf (AM.cNotT (AM.cTest (AM.cBi (AM.aFn (AM.isiD ownC)) (AM.cCons (AM.cVar 1) (AM.cCons (AM.cC (.ty "str")) AM.cNil))))) (AM.sRet (AM.cC .non)) AM.sNil) (AM.sSeq (AM.sIf (AM.cTest (AM.cBin (AM.aBin AM.inD) (AM.cVar 1) (AM.cC gc_WHOLE))) (AM.sRet (AM.cTup (AM.cCons (AM.cVar 1) AM.cNil))) AM.sNil) (AM.sSeq (AM.sAsg (AM.gNm 2) (AM.cM1 AM.splitD (AM.cVar 1) (AM.cC (.str " ")))) (AM.sSeq (AM.sIf (AM.cOrT (AM.cTest (AM.cBin (AM.aBin (AM.inGD true "FORMS" gv_FORMS)) (AM.cBin (AM.aBin AM.ixD) (AM.cVar 2) (AM.cC (.int 0))) (AM.cC (.cls "FORMS")))) (AM.cTest (AM.cBin (AM.aBin AM.neD) (AM.cBi (AM.aFn AM.lenD) (AM.cCons (AM.cVar 2) AM.cNil)) (AM.cBin (AM.aBin AM.addD) (AM.cC (.int 1)) (AM.cBi (AM.aFn AM.lenD) (AM.cCons (AM.cGIx "FORMS" gv_FORMS (AM.cBin (AM.aBin AM.ixD) (AM.cVar 2) (AM.cC (.int 0)))) AM.cNil)))))) (AM.sRet (AM.cC .non)) AM.sNil) (AM.sSeq (AM.sAsg (AM.gNm 3) (AM.cLc false [4, 5] (AM.gTupA 2 (AM.gConsA (AM.gNm 4) (AM.gConsA (AM.gNm 5) AM.gNilA))) (AM.cZip (AM.cCons (AM.cGIx "FORMS" gv_FORMS (AM.cBin (AM.aBin AM.ixD) (AM.cVar 2) (AM.cC (.int 0)))) (AM.cCons (AM.cSl (AM.cVar 2) (AM.oSome (AM.cC (.int 1))) AM.oNone) AM.cNil))) AM.tYesM (AM.cCall F_told_by (AM.cCons (AM.cVar 0) (AM.cCons (AM.cVar 4) (AM.cCons (AM.cVar 5) AM.cNil)))))) (AM.sSeq (AM.sIf (AM.cTest (AM.cBin (AM.aBin AM.inD) (AM.cC .non) (AM.cVar 3))) (AM.sRet (AM.cC .non)) AM.sNil) (AM.sSeq (AM.sIf (AM.cAndT (AM.cTest (AM.cBin (AM.aBin AM.inD) (AM.cBin (AM.aBin AM.ixD) (AM.cVar 2) (AM.cC (.int 0))) (AM.cTup (AM.cCons (AM.cC (.str "rides")) (AM.cCons (AM.cC (.str "road")) AM.cNil))))) (AM.cTest (AM.cBin (AM.aBin AM.isND) (AM.cMeth "Town" "road_time" F_Town_road_time (AM.cVar 0) (AM.cCons (AM.cBin (AM.aBin AM.ixD) (AM.cVar 2) (AM.cC (.int 1))) (AM.cCons (AM.cBin (AM.aBin AM.ixD) (AM.cVar 2) (AM.cC (.int 2))) AM.cNil))) (AM.cC .non)))) (AM.sRet (AM.cC .non)) AM.sNil) (AM.sRet (AM.cTup (AM.cCons (AM.cBin (AM.aBin AM.ixD) (AM.cVar 2) (AM.cC (.int 0))) (AM.cStar (AM.cVar 3) AM.cNil)))))))))))
def F_read_ask : AM.F1 := AM.callF false 6 2 m_read_ask
def m_read_bounds : AM.MS := (AM.sSeq (AM.sAsg (AM.gNm 1) (AM.cLc false [2] (AM.gNm 2) (AM.cIter (AM.cVar 0)) AM.tYesM (AM.cCall F_number_of (AM.cCons (AM.cVar 2) AM.cNil)))) (AM.sSeq (AM.sIf (AM.cAndT (AM.cTest (AM.cBin (AM.aBin AM.eqD) (AM.cBi (AM.aFn AM.lenD) (AM.cCons (AM.cVar 0) AM.cNil)) (AM.cC (.int 2)))) (AM.cTest (AM.cBin (AM.aBin AM.notND) (AM.cBin (AM.aBin AM.ixD) (AM.cVar 1) (AM.cC (.int 1))) (AM.cC .non)))) (AM.sSeq (AM.sAsg (AM.gNm 3) (AM.cDic ["is", "least", "most"] (AM.cCons (AM.cTup (AM.cCons (AM.cBin (AM.aBin AM.ixD) (AM.cVar 1) (AM.cC (.int 1))) (AM.cCons (AM.cBin (AM.aBin AM.ixD) (AM.cVar 1) (AM.cC (.int 1))) AM.cNil))) (AM.cCons (AM.cTup (AM.cCons (AM.cBin (AM.aBin AM.ixD) (AM.cVar 1) (AM.cC (.int 1))) (AM.cCons (AM.cC .non) AM.cNil))) (AM.cCons (AM.cTup (AM.cCons (AM.cC .non) (AM.cCons (AM.cBin (AM.aBin AM.ixD) (AM.cVar 1) (AM.cC (.int 1))) AM.cNil))) AM.cNil))))) (AM.sRet (AM.cDGet1 (AM.cVar 3) (AM.cBin (AM.aBin AM.ixD) (AM.cVar 0) (AM.cC (.int 0)))))) AM.sNil) (AM.sSeq (AM.sIf (AM.cOrT (AM.cTest (AM.cBin (AM.aBin AM.neD) (AM.cBi (AM.aFn AM.lenD) (AM.cCons (AM.cVar 0) AM.cNil)) (AM.cC (.int 4)))) (AM.cOrT (AM.cTest (AM.cBin (AM.aBin AM.neD) (AM.cBin (AM.aBin AM.ixD) (AM.cVar 0) (AM.cC (.int 0))) (AM.cC (.str "from")))) (AM.cOrT (AM.cTest (AM.cBin (AM.aBin AM.neD) (AM.cBin (AM.aBin AM.ixD) (AM.cVar 0) (AM.cC (.int 2))) (AM.cC (.str "to")))) (AM.cOrT (AM.cTest (AM.cBin (AM.aBin AM.isND) (AM.cBin (AM.aBin AM.ixD) (AM.cVar 1) (AM.cC (.int 1))) (AM.cC .non))) (AM.cTest (AM.cBin (AM.aBin AM.isND) (AM.cBin (AM.aBin AM.ixD) (AM.cVar 1) (AM.cC (.int 3))) (AM.cC .non))))))) (AM.sRet (AM.cC .non)) AM.sNil) (AM.sRet (AM.cIf (AM.cTest (AM.cBin (AM.aBin AM.leD) (AM.cBin (AM.aBin AM.ixD) (AM.cVar 1) (AM.cC (.int 1))) (AM.cBin (AM.aBin AM.ixD) (AM.cVar 1) (AM.cC (.int 3))))) (AM.cTup (AM.cCons (AM.cBin (AM.aBin AM.ixD) (AM.cVar 1) (AM.cC (.int 1))) (AM.cCons (AM.cBin (AM.aBin AM.ixD) (AM.cVar 1) (AM.cC (.int 3))) AM.cNil))) (AM.cC .non))))))
def F_read_bounds : AM.F1 := AM.callF false 4 1 m_read_bounds
def m_read_fact : AM.MS := (AM.sSeq (AM.sIf (AM.cNotT (AM.cTest (AM.cBi (AM.aFn (AM.isiD ownC)) (AM.cCons (AM.cVar 1) (AM.cCons (AM.cC (.ty "str")) AM.cNil))))) (AM.sRet (AM.cC .non)) AM.sNil) (AM.sSeq (AM.sAsg (AM.gNm 2) (AM.cM1 AM.splitD (AM.cVar 1) (AM.cC (.str " ")))) (AM.sSeq (AM.sIf (AM.cTest (AM.cBin (AM.aBin AM.notInD) (AM.cBin (AM.aBin AM.ixD) (AM.cVar 2) (AM.cC (.int 0))) (AM.cC gc_PLAIN))) (AM.sRet (AM.cC .non)) AM.sNil) (AM.sSeq (AM.sAsg (AM.gNm 3) (AM.cBin (AM.aBin AM.addD) (AM.cC (.int 1)) (AM.cBi (AM.aFn AM.lenD) (AM.cCons (AM.cGIx "FORMS" gv_FORMS (AM.cBin (AM.aBin AM.ixD) (AM.cVar 2) (AM.cC (.int 0)))) AM.cNil)))) (AM.sSeq (AM.sAsg (AM.gNm 4) (AM.cM1 AM.joinD (AM.cC (.str " ")) (AM.cSl (AM.cVar 2) AM.oNone (AM.oSome (AM.cVar 3))))) (AM.sSeq (AM.sPar 5 6 (AM.cCons (AM.cCall F_read_ask (AM.cCons (AM.cVar 0) (AM.cCons (AM.cVar 4) AM.cNil))) (AM.cCons (AM.cCall F_read_bounds (AM.cCons (AM.cSl (AM.cVar 2) (AM.oSome (AM.cVar 3)) AM.oNone) AM.cNil)) AM.cNil))) (AM.sSeq (AM.sIf (AM.cOrT (AM.cTest (AM.cBin (AM.aBin AM.isND) (AM.cVar 5) (AM.cC .non))) (AM.cTest (AM.cBin (AM.aBin AM.isND) (AM.cVar 6) (AM.cC .non)))) (AM.sRet (AM.cC .non)) AM.sNil) (AM.sRet (AM.cTup (AM.cCons (AM.cVar 4) (AM.cCons (AM.cVar 5) (AM.cCons (AM.cBin (AM.aBin AM.ixD) (AM.cVar 6) (AM.cC (.int 0))) (AM.cCons (AM.cBin (AM.aBin AM.ixD) (AM.cVar 6) (AM.cC (.int 1))) AM.cNil)))))))))))))
def F_read_fact : AM.F1 := AM.callF false 7 2 m_read_fact
def m_Town_is_fact : AM.MS := (AM.sRet (AM.cBin (AM.aBin AM.notND) (AM.cCall F_read_fact (AM.cCons (AM.cVar 0) (AM.cCons (AM.cVar 1) AM.cNil))) (AM.cC .non)))
def F_Town_is_fact : AM.F1 := AM.callF false 2 2 m_Town_is_fact
def m_check_facts : AM.MS := (AM.sSeq (AM.sIf (AM.cNotT (AM.cTest (AM.cBi (AM.aFn (AM.isiD ownC)) (AM.cCons (AM.cVar 1) (AM.cCons (AM.cC (.ty "tuple")) AM.cNil))))) AM.sBad AM.sNil) (AM.sFor (AM.gTupA 2 (AM.gConsA (AM.gNm 2) (AM.gConsA (AM.gNm 3) AM.gNilA))) (AM.cEnum (AM.cCons (AM.cVar 1) AM.cNil)) (AM.sIf (AM.cOrT (AM.cTest (AM.cBin (AM.aBin AM.eqD) (AM.cVar 2) (AM.cC (.int 12)))) (AM.cNotT (AM.cTest (AM.cMeth "Town" "is_fact" F_Town_is_fact (AM.cVar 0) (AM.cCons (AM.cVar 3) AM.cNil))))) AM.sBad AM.sNil)))
def F_check_facts : AM.F1 := AM.callF false 4 2 m_check_facts
def m_check_town : AM.MS := (AM.sIf (AM.cNotT (AM.cTest (AM.cBi (AM.aFn (AM.isiD ownC)) (AM.cCons (AM.cVar 0) (AM.cCons (AM.cC (.cls "Town")) AM.cNil))))) AM.sBad AM.sNil)
def F_check_town : AM.F1 := AM.callF false 1 1 m_check_town
def m_Log___init__ : AM.MS := (AM.sSeq (AM.sExpr (AM.cCall F_check_town (AM.cCons (AM.cVar 1) AM.cNil))) (AM.sSeq (AM.sExpr (AM.cCall F_check_facts (AM.cCons (AM.cVar 1) (AM.cCons (AM.cVar 2) AM.cNil)))) (AM.sSeq (AM.sFldA "Log" "_town" (AM.cVar 0) (AM.cVar 1)) (AM.sFldA "Log" "_facts" (AM.cVar 0) (AM.cVar 2)))))
def F_Log___init__ : AM.F1 := AM.callF false 3 3 m_Log___init__
def m_Town_roads : AM.MS := (AM.sRet (AM.cFld "Town" "_roads" (AM.cVar 0)))
def F_Town_roads : AM.F1 := AM.callF false 1 1 m_Town_roads
def m_Town_stands : AM.MS := (AM.sRet (AM.cFld "Town" "_stands" (AM.cVar 0)))
def F_Town_stands : AM.F1 := AM.callF false 1 1 m_Town_stands
def m_lines_of : AM.MS := (AM.sSeq (AM.sAsg (AM.gNm 1) (AM.cLstM (AM.cCons (AM.cJoin [(AM.cC (.str "slots ")), (AM.cUn (AM.aUn AM.fmtD) (AM.cProp "Town" F_Town_slots (AM.cVar 0)))]) AM.cNil))) (AM.sSeq (AM.sExpr (AM.cMut AM.gExtend (AM.cVar 1) (AM.cCons (AM.cLc false [2, 3] (AM.gTupA 2 (AM.gConsA (AM.gNm 2) (AM.gConsA (AM.gNm 3) AM.gNilA))) (AM.cIter (AM.cProp "Town" F_Town_stands (AM.cVar 0))) AM.tYesM (AM.cJoin [(AM.cC (.str "stand ")), (AM.cUn (AM.aUn AM.fmtD) (AM.cVar 2)), (AM.cC (.str " ")), (AM.cUn (AM.aUn AM.fmtD) (AM.cVar 3))])) AM.cNil))) (AM.sSeq (AM.sExpr (AM.cMut AM.gExtend (AM.cVar 1) (AM.cCons (AM.cLc false [4, 5, 6] (AM.gTupA 3 (AM.gConsA (AM.gNm 4) (AM.gConsA (AM.gNm 5) (AM.gConsA (AM.gNm 6) AM.gNilA)))) (AM.cIter (AM.cProp "Town" F_Town_roads (AM.cVar 0))) AM.tYesM (AM.cJoin [(AM.cC (.str "road ")), (AM.cUn (AM.aUn AM.fmtD) (AM.cVar 4)), (AM.cC (.str " ")), (AM.cUn (AM.aUn AM.fmtD) (AM.cVar 5)), (AM.cC (.str " ")), (AM.cUn (AM.aUn AM.fmtD) (AM.cVar 6))])) AM.cNil))) (AM.sRet (AM.cVar 1)))))
def F_lines_of : AM.F1 := AM.callF false 7 1 m_lines_of
def m_Town___str__ : AM.MS := (AM.sRet (AM.cM1 AM.joinD (AM.cC (.str "\n")) (AM.cCall F_lines_of (AM.cCons (AM.cVar 0) AM.cNil))))
def F_Town___str__ : AM.F1 := AM.callF false 1 1 m_Town___str__
def m_Town___eq__ : AM.MS := (AM.sRet (AM.cAndV (AM.cBi (AM.aFn (AM.isiD ownC)) (AM.cCons (AM.cVar 1) (AM.cCons (AM.cC (.cls "Town")) AM.cNil))) (AM.cBin (AM.aBin AM.eqD) (AM.cBi (AM.strOwnW "Town" F_Town___str__) (AM.cCons (AM.cVar 0) AM.cNil)) (AM.cBi (AM.strOwnW "Town" F_Town___str__) (AM.cCons (AM.cVar 1) AM.cNil)))))
def F_Town___eq__ : AM.F1 := AM.callF false 2 2 m_Town___eq__
def m_is_among : AM.MS := (AM.sRet (AM.cAndV (AM.cBi (AM.aFn (AM.isiD ownC)) (AM.cCons (AM.cVar 1) (AM.cCons (AM.cC (.ty "str")) AM.cNil))) (AM.cBin (AM.aBin AM.inD) (AM.cVar 1) (AM.cVar 0))))
def F_is_among : AM.F1 := AM.callF false 2 2 m_is_among
def m_is_integer : AM.MS := (AM.sRet (AM.cAndV (AM.cBi (AM.aFn (AM.isiD ownC)) (AM.cCons (AM.cVar 0) (AM.cCons (AM.cC (.ty "int")) AM.cNil))) (AM.cNotV (AM.cBi (AM.aFn (AM.isiD ownC)) (AM.cCons (AM.cVar 0) (AM.cCons (AM.cC (.ty "bool")) AM.cNil))))))
def F_is_integer : AM.F1 := AM.callF false 1 1 m_is_integer
def m_is_between : AM.MS := (AM.sRet (AM.cAndV (AM.cCall F_is_integer (AM.cCons (AM.cVar 0) AM.cNil)) (AM.cChain (AM.aBin AM.leD) (AM.aBin AM.leD) (AM.cVar 1) (AM.cVar 0) (AM.cVar 2))))
def F_is_between : AM.F1 := AM.callF false 3 3 m_is_between
def m_is_road : AM.MS := (AM.sSeq (AM.sIf (AM.cOrT (AM.cNotT (AM.cTest (AM.cBi (AM.aFn (AM.isiD ownC)) (AM.cCons (AM.cVar 1) (AM.cCons (AM.cC (.ty "tuple")) AM.cNil))))) (AM.cTest (AM.cBin (AM.aBin AM.neD) (AM.cBi (AM.aFn AM.lenD) (AM.cCons (AM.cVar 1) AM.cNil)) (AM.cC (.int 3))))) (AM.sRet (AM.cC (.bl false))) AM.sNil) (AM.sRet (AM.cAndV (AM.cCall F_is_among (AM.cCons (AM.cVar 0) (AM.cCons (AM.cBin (AM.aBin AM.ixD) (AM.cVar 1) (AM.cC (.int 0))) AM.cNil))) (AM.cAndV (AM.cCall F_is_among (AM.cCons (AM.cVar 0) (AM.cCons (AM.cBin (AM.aBin AM.ixD) (AM.cVar 1) (AM.cC (.int 1))) AM.cNil))) (AM.cCall F_is_between (AM.cCons (AM.cBin (AM.aBin AM.ixD) (AM.cVar 1) (AM.cC (.int 2))) (AM.cCons (AM.cC (.int 1)) (AM.cCons (AM.cC (.int 3)) AM.cNil))))))))
def F_is_road : AM.F1 := AM.callF false 2 2 m_is_road
def m_check_roads : AM.MS := (AM.sSeq (AM.sIf (AM.cNotT (AM.cTest (AM.cBi (AM.aFn (AM.isiD ownC)) (AM.cCons (AM.cVar 1) (AM.cCons (AM.cC (.ty "tuple")) AM.cNil))))) AM.sBad AM.sNil) (AM.sSeq (AM.sAsg (AM.gNm 2) (AM.cLstM AM.cNil)) (AM.sFor (AM.gTupA 2 (AM.gConsA (AM.gNm 3) (AM.gConsA (AM.gNm 4) AM.gNilA))) (AM.cEnum (AM.cCons (AM.cVar 1) AM.cNil)) (AM.sSeq (AM.sIf (AM.cOrT (AM.cTest (AM.cBin (AM.aBin AM.eqD) (AM.cVar 3) (AM.cC (.int 12)))) (AM.cOrT (AM.cNotT (AM.cTest (AM.cCall F_is_road (AM.cCons (AM.cVar 0) (AM.cCons (AM.cVar 4) AM.cNil))))) (AM.cTest (AM.cBin (AM.aBin AM.inD) (AM.cSl (AM.cVar 4) AM.oNone (AM.oSome (AM.cC (.int 2)))) (AM.cVar 2))))) AM.sBad AM.sNil) (AM.sExpr (AM.cMut AM.gAppend (AM.cVar 2) (AM.cCons (AM.cSl (AM.cVar 4) AM.oNone (AM.oSome (AM.cC (.int 2)))) AM.cNil)))))))
def F_check_roads : AM.F1 := AM.callF false 5 2 m_check_roads
def m_is_name : AM.MS := (AM.sRet (AM.cAndV (AM.cBi (AM.aFn (AM.isiD ownC)) (AM.cCons (AM.cVar 0) (AM.cCons (AM.cC (.ty "str")) AM.cNil))) (AM.cAndV (AM.cChain (AM.aBin AM.ltD) (AM.aBin AM.ltD) (AM.cC (.int 0)) (AM.cBi (AM.aFn AM.lenD) (AM.cCons (AM.cVar 0) AM.cNil)) (AM.cC (.int 9))) (AM.cBi (AM.aFn AM.allD') (AM.cCons (AM.cLc false [1] (AM.gNm 1) (AM.cIter (AM.cVar 0)) AM.tYesM (AM.cBin (AM.aBin AM.inD) (AM.cVar 1) (AM.cC (.str "abcdefghijklmnopqrstuvwxyz")))) AM.cNil)))))
def F_is_name : AM.F1 := AM.callF false 2 1 m_is_name
def m_is_stand : AM.MS := (AM.sSeq (AM.sIf (AM.cOrT (AM.cNotT (AM.cTest (AM.cBi (AM.aFn (AM.isiD ownC)) (AM.cCons (AM.cVar 0) (AM.cCons (AM.cC (.ty "tuple")) AM.cNil))))) (AM.cTest (AM.cBin (AM.aBin AM.neD) (AM.cBi (AM.aFn AM.lenD) (AM.cCons (AM.cVar 0) AM.cNil)) (AM.cC (.int 2))))) (AM.sRet (AM.cC (.bl false))) AM.sNil) (AM.sRet (AM.cAndV (AM.cCall F_is_name (AM.cCons (AM.cBin (AM.aBin AM.ixD) (AM.cVar 0) (AM.cC (.int 0))) AM.cNil)) (AM.cCall F_is_between (AM.cCons (AM.cBin (AM.aBin AM.ixD) (AM.cVar 0) (AM.cC (.int 1))) (AM.cCons (AM.cC (.int 1)) (AM.cCons (AM.cC (.int 40)) AM.cNil)))))))
def F_is_stand : AM.F1 := AM.callF false 1 1 m_is_stand
def m_check_stands : AM.MS := (AM.sSeq (AM.sIf (AM.cOrT (AM.cNotT (AM.cTest (AM.cBi (AM.aFn (AM.isiD ownC)) (AM.cCons (AM.cVar 0) (AM.cCons (AM.cC (.ty "tuple")) AM.cNil))))) (AM.cTest (AM.cBin (AM.aBin AM.eqD) (AM.cBi (AM.aFn AM.lenD) (AM.cCons (AM.cVar 0) AM.cNil)) (AM.cC (.int 0))))) AM.sBad AM.sNil) (AM.sSeq (AM.sAsg (AM.gNm 1) (AM.cLstM AM.cNil)) (AM.sFor (AM.gTupA 2 (AM.gConsA (AM.gNm 2) (AM.gConsA (AM.gNm 3) AM.gNilA))) (AM.cEnum (AM.cCons (AM.cVar 0) AM.cNil)) (AM.sSeq (AM.sIf (AM.cOrT (AM.cTest (AM.cBin (AM.aBin AM.eqD) (AM.cVar 2) (AM.cC (.int 5)))) (AM.cOrT (AM.cNotT (AM.cTest (AM.cCall F_is_stand (AM.cCons (AM.cVar 3) AM.cNil)))) (AM.cTest (AM.cBin (AM.aBin AM.inD) (AM.cBin (AM.aBin AM.ixD) (AM.cVar 3) (AM.cC (.int 0))) (AM.cVar 1))))) AM.sBad AM.sNil) (AM.sExpr (AM.cMut AM.gAppend (AM.cVar 1) (AM.cCons (AM.cBin (AM.aBin AM.ixD) (AM.cVar 3) (AM.cC (.int 0))) AM.cNil)))))))
def F_check_stands : AM.F1 := AM.callF false 4 1 m_check_stands
def m_Town___init__ : AM.MS := (AM.sSeq (AM.sIf (AM.cNotT (AM.cTest (AM.cCall F_is_between (AM.cCons (AM.cVar 1) (AM.cCons (AM.cC (.int 1)) (AM.cCons (AM.cC (.int 8)) AM.cNil)))))) AM.sBad AM.sNil) (AM.sSeq (AM.sExpr (AM.cCall F_check_stands (AM.cCons (AM.cVar 2) AM.cNil))) (AM.sSeq (AM.sAsg (AM.gNm 4) (AM.cBi (AM.aFn AM.tupXD) (AM.cCons (AM.cLc false [5, 6] (AM.gTupA 2 (AM.gConsA (AM.gNm 5) (AM.gConsA (AM.gNm 6) AM.gNilA))) (AM.cIter (AM.cVar 2)) AM.tYesM (AM.cVar 5)) AM.cNil))) (AM.sSeq (AM.sExpr (AM.cCall F_check_roads (AM.cCons (AM.cVar 4) (AM.cCons (AM.cVar 3) AM.cNil)))) (AM.sSeq (AM.sFldA "Town" "_slots" (AM.cVar 0) (AM.cVar 1)) (AM.sSeq (AM.sFldA "Town" "_stands" (AM.cVar 0) (AM.cVar 2)) (AM.sSeq (AM.sFldA "Town" "_roads" (AM.cVar 0) (AM.cVar 3)) (AM.sFldA "Town" "_names" (AM.cVar 0) (AM.cVar 4)))))))))
def F_Town___init__ : AM.F1 := AM.callF false 7 4 m_Town___init__
def m_Town___repr__ : AM.MS := (AM.sRet (AM.cJoin [(AM.cC (.str "Town of ")), (AM.cUn (AM.aUn AM.fmtD) (AM.cBi (AM.aFn AM.lenD) (AM.cCons (AM.cFld "Town" "_stands" (AM.cVar 0)) AM.cNil))), (AM.cC (.str " stands"))]))
def F_Town___repr__ : AM.F1 := AM.callF false 1 1 m_Town___repr__
def m__law_named : AM.MS := (AM.sRet (AM.cBi (AM.aFn AM.tupFD) (AM.cCons (AM.cLc false [1] (AM.gNm 1) (AM.cIter (AM.cBin (AM.aBin AM.ixD) (AM.cVar 0) (AM.cC (.int 2)))) AM.tYesM (AM.cTup (AM.cCons (AM.cBin (AM.aBin AM.ixD) (AM.cBin (AM.aBin AM.ixD) (AM.cBin (AM.aBin AM.ixD) (AM.cVar 0) (AM.cC (.int 1))) (AM.cBin (AM.aBin AM.ixD) (AM.cVar 1) (AM.cC (.int 0)))) (AM.cC (.int 0))) (AM.cCons (AM.cBin (AM.aBin AM.ixD) (AM.cBin (AM.aBin AM.ixD) (AM.cBin (AM.aBin AM.ixD) (AM.cVar 0) (AM.cC (.int 1))) (AM.cBin (AM.aBin AM.ixD) (AM.cVar 1) (AM.cC (.int 1)))) (AM.cC (.int 0))) (AM.cCons (AM.cBin (AM.aBin AM.ixD) (AM.cVar 1) (AM.cC (.int 2))) AM.cNil))))) AM.cNil)))
def F__law_named : AM.F1 := AM.callF false 2 1 m__law_named
def m__law_draw : AM.MS := (AM.sSeq (AM.sSetIx (AM.cVar 0) (AM.cC (.int 2)) (AM.cBin (AM.aBin AM.addD) (AM.cBin (AM.aBin AM.ixD) (AM.cVar 0) (AM.cC (.int 2))) (AM.cC (.int 1)))) (AM.sSeq (AM.sAsg (AM.gNm 2) (AM.cBin (AM.aBin AM.modD) (AM.cBi (AM.aFn AM.intFD) (AM.cCons (AM.cBin (AM.aBin AM.addD) (AM.cBin (AM.aBin AM.ixD) (AM.cVar 0) (AM.cC (.int 1))) (AM.cBin (AM.aBin AM.mulD) (AM.cC (.int 611953)) (AM.cBin (AM.aBin AM.ixD) (AM.cVar 0) (AM.cC (.int 2))))) AM.cNil)) (AM.cC (.int 2147483587)))) (AM.sSeq (AM.sSetIx (AM.cVar 0) (AM.cC (.int 1)) (AM.cBin (AM.aBin AM.modD) (AM.cBi (AM.aFn AM.intFD) (AM.cCons (AM.cBin (AM.aBin AM.addD) (AM.cBin (AM.aBin AM.addD) (AM.cBin (AM.aBin AM.mulD) (AM.cVar 2) (AM.cVar 2)) (AM.cBin (AM.aBin AM.mulD) (AM.cC (.int 3266489)) (AM.cVar 2))) (AM.cC (.int 374761))) AM.cNil)) (AM.cC (.int 2147483587)))) (AM.sSeq (AM.sIf (AM.cTest (AM.cBin (AM.aBin AM.eqD) (AM.cBin (AM.aBin AM.ixD) (AM.cVar 0) (AM.cC (.int 0))) (AM.cC (.int 0)))) (AM.sRet (AM.cBin (AM.aBin AM.modD) (AM.cBi (AM.aFn AM.intFD) (AM.cCons (AM.cBin (AM.aBin AM.fdivD) (AM.cBin (AM.aBin AM.ixD) (AM.cVar 0) (AM.cC (.int 1))) (AM.cC (.int 101))) AM.cNil)) (AM.cVar 1))) AM.sNil) (AM.sSeq (AM.sAsg (AM.gTupA 2 (AM.gConsA (AM.gNm 3) (AM.gConsA (AM.gNm 4) AM.gNilA))) (AM.cBi (AM.aFn AM.divmodD) (AM.cCons (AM.cBin (AM.aBin AM.ixD) (AM.cVar 0) (AM.cC (.int 0))) (AM.cCons (AM.cVar 1) AM.cNil)))) (AM.sSeq (AM.sSetIx (AM.cVar 0) (AM.cC (.int 0)) (AM.cVar 3)) (AM.sRet (AM.cVar 4))))))))
def F__law_draw : AM.F1 := AM.callF false 5 2 m__law_draw
def m__law_word : AM.MS := (AM.sSeq (AM.sAsg (AM.gNm 2) (AM.cC (.str "abcdefghijklmnopqrstuvwxyz"))) (AM.sSeq (AM.sAsg (AM.gNm 3) (AM.cLst (AM.cCons (AM.cC (.str "count")) (AM.cCons (AM.cC (.str "bikes")) (AM.cCons (AM.cC (.str "left")) (AM.cCons (AM.cC (.str "came")) (AM.cCons (AM.cC (.str "rides")) (AM.cCons (AM.cC (.str "van")) (AM.cCons (AM.cC (.str "way")) (AM.cCons (AM.cC (.str "road")) (AM.cCons (AM.cC (.str "stand")) (AM.cCons (AM.cC (.str "slots")) (AM.cCons (AM.cC (.str "from")) (AM.cCons (AM.cC (.str "to")) (AM.cCons (AM.cC (.str "is")) AM.cNil))))))))))))))) (AM.sSeq (AM.sAsg (AM.gNm 3) (AM.cBin (AM.aBin AM.addD) (AM.cVar 3) (AM.cLst (AM.cCons (AM.cC (.str "least")) (AM.cCons (AM.cC (.str "most")) (AM.cCons (AM.cC (.str "all")) (AM.cCons (AM.cC (.str "vans")) AM.cNil))))))) (AM.sSeq (AM.sAsg (AM.gNm 4) (AM.cCall F__law_draw (AM.cCons (AM.cVar 0) (AM.cCons (AM.cC (.int 4)) AM.cNil)))) (AM.sSeq (AM.sIf (AM.cTest (AM.cBin (AM.aBin AM.eqD) (AM.cVar 4) (AM.cC (.int 0)))) (AM.sAsg (AM.gNm 5) (AM.cBin (AM.aBin AM.ixD) (AM.cVar 3) (AM.cCall F__law_draw (AM.cCons (AM.cVar 0) (AM.cCons (AM.cBi (AM.aFn AM.lenD) (AM.cCons (AM.cVar 3) AM.cNil)) AM.cNil))))) (AM.sSeq (AM.sAsg (AM.gNm 6) (AM.cIf (AM.cTest (AM.cBin (AM.aBin AM.eqD) (AM.cVar 4) (AM.cC (.int 1)))) (AM.cC (.str "ab")) (AM.cVar 2))) (AM.sAsg (AM.gNm 5) (AM.cM1 AM.joinD (AM.cC (.str "")) (AM.cLc false [7] (AM.gNm 7) (AM.cRange1 (AM.cCons (AM.cBin (AM.aBin AM.addD) (AM.cC (.int 1)) (AM.cCall F__law_draw (AM.cCons (AM.cVar 0) (AM.cCons (AM.cC (.int 8)) AM.cNil)))) AM.cNil)) AM.tYesM (AM.cBin (AM.aBin AM.ixD) (AM.cVar 6) (AM.cCall F__law_draw (AM.cCons (AM.cVar 0) (AM.cCons (AM.cBi (AM.aFn AM.lenD) (AM.cCons (AM.cVar 6) AM.cNil)) AM.cNil))))))))) (AM.sSeq (AM.sAsg (AM.gNm 8) (AM.cBin (AM.aBin AM.addD) (AM.cLst (AM.cCons (AM.cVar 5) AM.cNil)) (AM.cLc false [9] (AM.gNm 9) (AM.cIter (AM.cVar 2)) AM.tYesM (AM.cBin (AM.aBin AM.addD) (AM.cSl (AM.cVar 5) AM.oNone (AM.oSome (AM.cUn (AM.aUn AM.negD) (AM.cC (.int 1))))) (AM.cVar 9))))) (AM.sRet (AM.cBin (AM.aBin AM.ixD) (AM.cLc false [10] (AM.gNm 10) (AM.cIter (AM.cVar 8)) (AM.cTest (AM.cBin (AM.aBin AM.notInD) (AM.cVar 10) (AM.cVar 1))) (AM.cVar 10)) (AM.cC (.int 0))))))))))
def F__law_word : AM.F1 := AM.callF false 11 2 m__law_word
def m__law_otherwise : AM.MS := (AM.sSeq (AM.sAsg (AM.gTupA 3 (AM.gConsA (AM.gNm 2) (AM.gConsA (AM.gNm 3) (AM.gConsA (AM.gNm 4) AM.gNilA)))) (AM.cVar 1)) (AM.sSeq (AM.sParN [5, 6, 7] (AM.cCons (AM.cCall F__law_draw (AM.cCons (AM.cVar 0) (AM.cCons (AM.cC (.int 7)) AM.cNil))) (AM.cCons (AM.cCall F__law_draw (AM.cCons (AM.cVar 0) (AM.cCons (AM.cBi (AM.aFn AM.lenD) (AM.cCons (AM.cVar 3) AM.cNil)) AM.cNil))) (AM.cCons (AM.cBin (AM.aBin AM.subD) (AM.cBi (AM.aFn AM.lenD) (AM.cCons (AM.cVar 3) AM.cNil)) (AM.cC (.int 1))) AM.cNil)))) (AM.sSeq (AM.sAsg (AM.gTupA 2 (AM.gConsA (AM.gNm 8) (AM.gConsA (AM.gNm 9) AM.gNilA))) (AM.cBin (AM.aBin AM.ixD) (AM.cVar 3) (AM.cVar 6))) (AM.sSeq (AM.sIf (AM.cTest (AM.cBin (AM.aBin AM.eqD) (AM.cVar 5) (AM.cC (.int 1)))) (AM.sRet (AM.cTup (AM.cCons (AM.cVar 2) (AM.cCons (AM.cBin (AM.aBin AM.addD) (AM.cBin (AM.aBin AM.addD) (AM.cSl (AM.cVar 3) AM.oNone (AM.oSome (AM.cVar 6))) (AM.cTup (AM.cCons (AM.cTup (AM.cCons (AM.cVar 8) (AM.cCons (AM.cBin (AM.aBin AM.addD) (AM.cBin (AM.aBin AM.modD) (AM.cBi (AM.aFn AM.intFD) (AM.cCons (AM.cVar 9) AM.cNil)) (AM.cC (.int 40))) (AM.cC (.int 1))) AM.cNil))) AM.cNil))) (AM.cSl (AM.cVar 3) (AM.oSome (AM.cBin (AM.aBin AM.addD) (AM.cVar 6) (AM.cC (.int 1)))) AM.oNone)) (AM.cCons (AM.cVar 4) AM.cNil))))) AM.sNil) (AM.sSeq (AM.sIf (AM.cTest (AM.cBin (AM.aBin AM.eqD) (AM.cVar 5) (AM.cC (.int 2)))) (AM.sSeq (AM.sAsg (AM.gNm 10) (AM.cCall F__law_word (AM.cCons (AM.cVar 0) (AM.cCons (AM.cLc false [11] (AM.gNm 11) (AM.cIter (AM.cVar 3)) AM.tYesM (AM.cBin (AM.aBin AM.ixD) (AM.cVar 11) (AM.cC (.int 0)))) AM.cNil)))) (AM.sRet (AM.cTup (AM.cCons (AM.cVar 2) (AM.cCons (AM.cBin (AM.aBin AM.addD) (AM.cBin (AM.aBin AM.addD) (AM.cSl (AM.cVar 3) AM.oNone (AM.oSome (AM.cVar 6))) (AM.cTup (AM.cCons (AM.cTup (AM.cCons (AM.cVar 10) (AM.cCons (AM.cVar 9) AM.cNil))) AM.cNil))) (AM.cSl (AM.cVar 3) (AM.oSome (AM.cBin (AM.aBin AM.addD) (AM.cVar 6) (AM.cC (.int 1)))) AM.oNone)) (AM.cCons (AM.cVar 4) AM.cNil)))))) AM.sNil) (AM.sSeq (AM.sIf (AM.cAndT (AM.cTest (AM.cBin (AM.aBin AM.eqD) (AM.cVar 5) (AM.cC (.int 3)))) (AM.cTest (AM.cBin (AM.aBin AM.gtD) (AM.cVar 7) (AM.cC (.int 0))))) (AM.sRet (AM.cTup (AM.cCons (AM.cVar 2) (AM.cCons (AM.cRev (AM.cVar 3)) (AM.cCons (AM.cBi (AM.aFn AM.tupFD) (AM.cCons (AM.cLc false [12] (AM.gNm 12) (AM.cIter (AM.cVar 4)) AM.tYesM (AM.cTup (AM.cCons (AM.cBin (AM.aBin AM.subD) (AM.cVar 7) (AM.cBin (AM.aBin AM.ixD) (AM.cVar 12) (AM.cC (.int 0)))) (AM.cCons (AM.cBin (AM.aBin AM.subD) (AM.cVar 7) (AM.cBin (AM.aBin AM.ixD) (AM.cVar 12) (AM.cC (.int 1)))) (AM.cCons (AM.cBin (AM.aBin AM.ixD) (AM.cVar 12) (AM.cC (.int 2))) AM.cNil))))) AM.cNil)) AM.cNil))))) AM.sNil) (AM.sSeq (AM.sIf (AM.cAndT (AM.cTest (AM.cBin (AM.aBin AM.eqD) (AM.cVar 5) (AM.cC (.int 4)))) (AM.cTest (AM.cBin (AM.aBin AM.gtD) (AM.cBi (AM.aFn AM.lenD) (AM.cCons (AM.cVar 4) AM.cNil)) (AM.cC (.int 1))))) (AM.sRet (AM.cTup (AM.cCons (AM.cVar 2) (AM.cCons (AM.cVar 3) (AM.cCons (AM.cRev (AM.cVar 4)) AM.cNil))))) AM.sNil) (AM.sSeq (AM.sIf (AM.cAndT (AM.cTest (AM.cBin (AM.aBin AM.gtD) (AM.cVar 5) (AM.cC (.int 4)))) (AM.cTest (AM.cBin (AM.aBin AM.neD) (AM.cVar 4) (AM.cTup AM.cNil)))) (AM.sSeq (AM.sAsg (AM.gNm 13) (AM.cCall F__law_draw (AM.cCons (AM.cVar 0) (AM.cCons (AM.cBi (AM.aFn AM.lenD) (AM.cCons (AM.cVar 4) AM.cNil)) AM.cNil)))) (AM.sSeq (AM.sAsg (AM.gTupA 3 (AM.gConsA (AM.gNm 14) (AM.gConsA (AM.gNm 15) (AM.gConsA (AM.gNm 16) AM.gNilA)))) (AM.cBin (AM.aBin AM.ixD) (AM.cVar 4) (AM.cVar 13))) (AM.sSeq (AM.sAsg (AM.gNm 10) (AM.cIf (AM.cTest (AM.cBin (AM.aBin AM.eqD) (AM.cVar 5) (AM.cC (.int 5)))) (AM.cTup (AM.cCons (AM.cTup (AM.cCons (AM.cVar 14) (AM.cCons (AM.cVar 15) (AM.cCons (AM.cBin (AM.aBin AM.addD) (AM.cBin (AM.aBin AM.modD) (AM.cBi (AM.aFn AM.intFD) (AM.cCons (AM.cVar 16) AM.cNil)) (AM.cC (.int 3))) (AM.cC (.int 1))) AM.cNil)))) AM.cNil)) (AM.cTup AM.cNil))) (AM.sRet (AM.cTup (AM.cCons (AM.cVar 2) (AM.cCons (AM.cVar 3) (AM.cCons (AM.cBin (AM.aBin AM.addD) (AM.cBin (AM.aBin AM.addD) (AM.cSl (AM.cVar 4) AM.oNone (AM.oSome (AM.cVar 13))) (AM.cVar 10)) (AM.cSl (AM.cVar 4) (AM.oSome (AM.cBin (AM.aBin AM.addD) (AM.cVar 13) (AM.cC (.int 1)))) AM.oNone)) AM.cNil)))))))) AM.sNil) (AM.sRet (AM.cTup (AM.cCons (AM.cBin (AM.aBin AM.addD) (AM.cBin (AM.aBin AM.modD) (AM.cBi (AM.aFn AM.intFD) (AM.cCons (AM.cVar 2) AM.cNil)) (AM.cC (.int 8))) (AM.cC (.int 1))) (AM.cCons (AM.cVar 3) (AM.cCons (AM.cVar 4) AM.cNil)))))))))))))
def F__law_otherwise : AM.F1 := AM.callF false 17 2 m__law_otherwise
def m__law_plan : AM.MS := (AM.sSeq (AM.sParN [5, 6, 7, 8] (AM.cCons (AM.cLstM AM.cNil) (AM.cCons (AM.cLstM AM.cNil) (AM.cCons (AM.cLstM AM.cNil) (AM.cCons (AM.cLstM AM.cNil) AM.cNil))))) (AM.sSeq (AM.sAsg (AM.gNm 9) (AM.cBin (AM.aBin AM.addD) (AM.cC (.int 1)) (AM.cCall F__law_draw (AM.cCons (AM.cVar 0) (AM.cCons (AM.cVar 2) AM.cNil))))) (AM.sSeq (AM.sFor (AM.gNm 10) (AM.cRange1 (AM.cCons (AM.cVar 9) AM.cNil)) (AM.sSeq (AM.sExpr (AM.cMut AM.gAppend (AM.cVar 5) (AM.cCons (AM.cCall F__law_word (AM.cCons (AM.cVar 0) (AM.cCons (AM.cVar 5) AM.cNil))) AM.cNil))) (AM.sSeq (AM.sAsg (AM.gNm 11) (AM.cCall F__law_draw (AM.cCons (AM.cVar 0) (AM.cCons (AM.cC (.int 3)) AM.cNil)))) (AM.sSeq (AM.sAsg (AM.gNm 12) (AM.cBi (AM.aFn AM.min2D) (AM.cCons (AM.cC (.int 3)) (AM.cCons (AM.cVar 3) AM.cNil)))) (AM.sSeq (AM.sExpr (AM.cMut AM.gAppend (AM.cVar 6) (AM.cCons (AM.cTup (AM.cCons (AM.cBin (AM.aBin AM.ixD) (AM.cVar 5) (AM.cVar 10)) (AM.cCons (AM.cIf (AM.cTest (AM.cBin (AM.aBin AM.eqD) (AM.cVar 11) (AM.cC (.int 0)))) (AM.cBin (AM.aBin AM.addD) (AM.cC (.int 1)) (AM.cCall F__law_draw (AM.cCons (AM.cVar 0) (AM.cCons (AM.cVar 12) AM.cNil)))) (AM.cBin (AM.aBin AM.addD) (AM.cC (.int 1)) (AM.cCall F__law_draw (AM.cCons (AM.cVar 0) (AM.cCons (AM.cVar 3) AM.cNil))))) AM.cNil))) AM.cNil))) (AM.sExpr (AM.cMut AM.gExtend (AM.cVar 7) (AM.cCons (AM.cLc false [13] (AM.gNm 13) (AM.cRange1 (AM.cCons (AM.cVar 9) AM.cNil)) AM.tYesM (AM.cTup (AM.cCons (AM.cVar 10) (AM.cCons (AM.cVar 13) AM.cNil)))) AM.cNil)))))))) (AM.sSeq (AM.sFor (AM.gNm 10) (AM.cRange1 (AM.cCons (AM.cCall F__law_draw (AM.cCons (AM.cVar 0) (AM.cCons (AM.cBin (AM.aBin AM.addD) (AM.cBi (AM.aFn AM.min2D) (AM.cCons (AM.cVar 4) (AM.cCons (AM.cBi (AM.aFn AM.lenD) (AM.cCons (AM.cVar 7) AM.cNil)) AM.cNil))) (AM.cC (.int 1))) AM.cNil))) AM.cNil)) (AM.sSeq (AM.sAsg (AM.gNm 14) (AM.cMut AM.gPopAt (AM.cVar 7) (AM.cCons (AM.cCall F__law_draw (AM.cCons (AM.cVar 0) (AM.cCons (AM.cBi (AM.aFn AM.lenD) (AM.cCons (AM.cVar 7) AM.cNil)) AM.cNil))) AM.cNil))) (AM.sExpr (AM.cMut AM.gAppend (AM.cVar 8) (AM.cCons (AM.cTup (AM.cCons (AM.cBin (AM.aBin AM.ixD) (AM.cVar 14) (AM.cC (.int 0))) (AM.cCons (AM.cBin (AM.aBin AM.ixD) (AM.cVar 14) (AM.cC (.int 1))) (AM.cCons (AM.cBin (AM.aBin AM.addD) (AM.cC (.int 1)) (AM.cCall F__law_draw (AM.cCons (AM.cVar 0) (AM.cCons (AM.cC (.int 3)) AM.cNil)))) AM.cNil)))) AM.cNil))))) (AM.sRet (AM.cTup (AM.cCons (AM.cBin (AM.aBin AM.addD) (AM.cC (.int 1)) (AM.cCall F__law_draw (AM.cCons (AM.cVar 0) (AM.cCons (AM.cVar 1) AM.cNil)))) (AM.cCons (AM.cBi (AM.aFn AM.tupFD) (AM.cCons (AM.cVar 6) AM.cNil)) (AM.cCons (AM.cBi (AM.aFn AM.tupFD) (AM.cCons (AM.cVar 8) AM.cNil)) AM.cNil)))))))))
def F__law_plan : AM.F1 := AM.callF false 15 5 m__law_plan
def m__law_lines : AM.MS := (AM.sSeq (AM.sAsg (AM.gNm 1) (AM.cBin (AM.aBin AM.addD) (AM.cLst (AM.cCons (AM.cBin (AM.aBin AM.addD) (AM.cC (.str "slots ")) (AM.cBi (AM.aFn AM.strD) (AM.cCons (AM.cBin (AM.aBin AM.ixD) (AM.cVar 0) (AM.cC (.int 0))) AM.cNil))) AM.cNil)) (AM.cLc false [2] (AM.gNm 2) (AM.cIter (AM.cBin (AM.aBin AM.ixD) (AM.cVar 0) (AM.cC (.int 1)))) AM.tYesM (AM.cBin (AM.aBin AM.addD) (AM.cBin (AM.aBin AM.addD) (AM.cBin (AM.aBin AM.addD) (AM.cC (.str "stand ")) (AM.cBin (AM.aBin AM.ixD) (AM.cVar 2) (AM.cC (.int 0)))) (AM.cC (.str " "))) (AM.cBi (AM.aFn AM.strD) (AM.cCons (AM.cBin (AM.aBin AM.ixD) (AM.cVar 2) (AM.cC (.int 1))) AM.cNil)))))) (AM.sRet (AM.cBin (AM.aBin AM.addD) (AM.cVar 1) (AM.cLc false [3] (AM.gNm 3) (AM.cIter (AM.cCall F__law_named (AM.cCons (AM.cVar 0) AM.cNil))) AM.tYesM (AM.cBin (AM.aBin AM.addD) (AM.cBin (AM.aBin AM.addD) (AM.cBin (AM.aBin AM.addD) (AM.cBin (AM.aBin AM.addD) (AM.cBin (AM.aBin AM.addD) (AM.cC (.str "road ")) (AM.cBin (AM.aBin AM.ixD) (AM.cVar 3) (AM.cC (.int 0)))) (AM.cC (.str " "))) (AM.cBin (AM.aBin AM.ixD) (AM.cVar 3) (AM.cC (.int 1)))) (AM.cC (.str " "))) (AM.cBi (AM.aFn AM.strD) (AM.cCons (AM.cBin (AM.aBin AM.ixD) (AM.cVar 3) (AM.cC (.int 2))) AM.cNil)))))))
def F__law_lines : AM.F1 := AM.callF false 4 1 m__law_lines
def m__law_text : AM.MS := (AM.sRet (AM.cM1 AM.joinD (AM.cC (.str "\n")) (AM.cCall F__law_lines (AM.cCons (AM.cVar 0) AM.cNil))))
def F__law_text : AM.F1 := AM.callF false 1 1 m__law_text
def m__law_shown_right : AM.MS := (AM.sSeq (AM.sPar 2 3 (AM.cCons (AM.cBi (AM.aFn AM.tupFD) (AM.cCons (AM.cLc false [4] (AM.gNm 4) (AM.cIter (AM.cBin (AM.aBin AM.ixD) (AM.cVar 1) (AM.cC (.int 1)))) AM.tYesM (AM.cBin (AM.aBin AM.ixD) (AM.cVar 4) (AM.cC (.int 0)))) AM.cNil)) (AM.cCons (AM.cBi (AM.aFn AM.lenD) (AM.cCons (AM.cBin (AM.aBin AM.ixD) (AM.cVar 1) (AM.cC (.int 1))) AM.cNil)) AM.cNil))) (AM.sSeq (AM.sAsg (AM.gNm 5) (AM.cLst (AM.cCons (AM.cProp "Town" F_Town_slots (AM.cVar 0)) (AM.cCons (AM.cProp "Town" F_Town_stands (AM.cVar 0)) (AM.cCons (AM.cProp "Town" F_Town_roads (AM.cVar 0)) (AM.cCons (AM.cProp "Town" F_Town_names (AM.cVar 0)) (AM.cCons (AM.cBi (AM.strOwnW "Town" F_Town___str__) (AM.cCons (AM.cVar 0) AM.cNil)) (AM.cCons (AM.cBi (AM.strOwnW "Town" F_Town___repr__) (AM.cCons (AM.cVar 0) AM.cNil)) (AM.cCons (AM.cBi (AM.boolOwnW "Town") (AM.cCons (AM.cVar 0) AM.cNil)) AM.cNil))))))))) (AM.sSeq (AM.sAsg (AM.gNm 6) (AM.cLst (AM.cCons (AM.cBin (AM.aBin AM.ixD) (AM.cVar 1) (AM.cC (.int 0))) (AM.cCons (AM.cBin (AM.aBin AM.ixD) (AM.cVar 1) (AM.cC (.int 1))) (AM.cCons (AM.cCall F__law_named (AM.cCons (AM.cVar 1) AM.cNil)) (AM.cCons (AM.cVar 2) (AM.cCons (AM.cCall F__law_text (AM.cCons (AM.cVar 1) AM.cNil)) (AM.cCons (AM.cBin (AM.aBin AM.addD) (AM.cBin (AM.aBin AM.addD) (AM.cC (.str "Town of ")) (AM.cBi (AM.aFn AM.strD) (AM.cCons (AM.cVar 3) AM.cNil))) (AM.cC (.str " stands"))) (AM.cCons (AM.cC (.bl true)) AM.cNil))))))))) (AM.sRet (AM.cBin (AM.aBin AM.eqD) (AM.cBi (AM.aFn AM.reprD) (AM.cCons (AM.cVar 5) AM.cNil)) (AM.cBi (AM.aFn AM.reprD) (AM.cCons (AM.cVar 6) AM.cNil)))))))
def F__law_shown_right : AM.F1 := AM.callF false 7 2 m__law_shown_right
def m__law_town : AM.MS := (AM.sRet (AM.cMake false "Town" F_Town___init__ (AM.cCons (AM.cBin (AM.aBin AM.ixD) (AM.cVar 0) (AM.cC (.int 0))) (AM.cCons (AM.cBin (AM.aBin AM.ixD) (AM.cVar 0) (AM.cC (.int 1))) (AM.cCons (AM.cCall F__law_named (AM.cCons (AM.cVar 0) AM.cNil)) AM.cNil)))))
def F__law_town : AM.F1 := AM.callF false 1 1 m__law_town
def m__law_right : AM.MS := (AM.sSeq (AM.sAsg (AM.gNm 1) (AM.cCall F__law_plan (AM.cCons (AM.cVar 0) (AM.cCons (AM.cC (.int 8)) (AM.cCons (AM.cC (.int 5)) (AM.cCons (AM.cC (.int 40)) (AM.cCons (AM.cC (.int 12)) AM.cNil))))))) (AM.sSeq (AM.sAsg (AM.gNm 2) (AM.cCall F__law_otherwise (AM.cCons (AM.cVar 0) (AM.cCons (AM.cVar 1) AM.cNil)))) (AM.sSeq (AM.sAsg (AM.gNm 3) (AM.cCall F__law_named (AM.cCons (AM.cVar 1) AM.cNil))) (AM.sSeq (AM.sAsg (AM.gNm 4) (AM.cLst (AM.cCons (AM.cMake false "Town" F_Town___init__ (AM.cCons (AM.cBin (AM.aBin AM.ixD) (AM.cVar 1) (AM.cC (.int 0))) (AM.cCons (AM.cBin (AM.aBin AM.ixD) (AM.cVar 1) (AM.cC (.int 1))) (AM.cCons (AM.cVar 3) AM.cNil)))) (AM.cCons (AM.cMakeK false "Town" F_Town___init__ 3 [0, 3, 4, 2] [.tup []] (AM.cCons (AM.cVar 3) (AM.cCons (AM.cBin (AM.aBin AM.ixD) (AM.cVar 1) (AM.cC (.int 0))) (AM.cCons (AM.cBin (AM.aBin AM.ixD) (AM.cVar 1) (AM.cC (.int 1))) AM.cNil)))) AM.cNil)))) (AM.sSeq (AM.sIf (AM.cTest (AM.cBin (AM.aBin AM.eqD) (AM.cVar 3) (AM.cTup AM.cNil))) (AM.sAsg (AM.gNm 4) (AM.cBin (AM.aBin AM.addD) (AM.cVar 4) (AM.cLst (AM.cCons (AM.cMakeD false "Town" F_Town___init__ [.tup []] (AM.cCons (AM.cBin (AM.aBin AM.ixD) (AM.cVar 1) (AM.cC (.int 0))) (AM.cCons (AM.cBin (AM.aBin AM.ixD) (AM.cVar 1) (AM.cC (.int 1))) AM.cNil))) (AM.cCons (AM.cMakeK false "Town" F_Town___init__ 2 [0, 3, 2, 1] [.tup []] (AM.cCons (AM.cBin (AM.aBin AM.ixD) (AM.cVar 1) (AM.cC (.int 1))) (AM.cCons (AM.cBin (AM.aBin AM.ixD) (AM.cVar 1) (AM.cC (.int 0))) AM.cNil))) AM.cNil))))) AM.sNil) (AM.sSeq (AM.sAsg (AM.gNm 5) (AM.cCall F__law_town (AM.cCons (AM.cVar 2) AM.cNil))) (AM.sSeq (AM.sIf (AM.cOrT (AM.cTest (AM.cBin (AM.aBin AM.eqD) (AM.cCall F__law_text (AM.cCons (AM.cVar 2) AM.cNil)) (AM.cCall F__law_text (AM.cCons (AM.cVar 1) AM.cNil)))) (AM.cNotT (AM.cTest (AM.cCall F__law_shown_right (AM.cCons (AM.cVar 5) (AM.cCons (AM.cVar 2) AM.cNil)))))) (AM.sRet (AM.cC (.bl false))) AM.sNil) (AM.sSeq (AM.sFor (AM.gNm 6) (AM.cIter (AM.cVar 4)) (AM.sSeq (AM.sIf (AM.cOrT (AM.cNotT (AM.cTest (AM.cCall F__law_shown_right (AM.cCons (AM.cVar 6) (AM.cCons (AM.cVar 1) AM.cNil))))) (AM.cTest (AM.cBin (AM.aBin AM.neD) (AM.cBi (AM.aFn AM.reprD) (AM.cCons (AM.cLst (AM.cCons (AM.cBin (AM.eqOwnW ownC false "Town" F_Town___eq__) (AM.cVar 6) (AM.cVar 5)) (AM.cCons (AM.cBin (AM.eqOwnW ownC false "Town" F_Town___eq__) (AM.cVar 5) (AM.cVar 6)) (AM.cCons (AM.cBin (AM.eqOwnW ownC true "Town" F_Town___eq__) (AM.cVar 6) (AM.cVar 5)) AM.cNil)))) AM.cNil)) (AM.cC (.str "[False, False, True]"))))) (AM.sRet (AM.cC (.bl false))) AM.sNil) (AM.sSeq (AM.sAsg (AM.gNm 7) (AM.cBin (AM.aBin AM.addD) (AM.cLc false [8] (AM.gNm 8) (AM.cIter (AM.cVar 4)) AM.tYesM (AM.cBin (AM.eqOwnW ownC false "Town" F_Town___eq__) (AM.cVar 6) (AM.cVar 8))) (AM.cLc false [8] (AM.gNm 8) (AM.cIter (AM.cVar 4)) AM.tYesM (AM.cBin (AM.eqOwnW ownC true "Town" F_Town___eq__) (AM.cVar 6) (AM.cVar 8))))) (AM.sSeq (AM.sIf (AM.cTest (AM.cBin (AM.aBin AM.neD) (AM.cBi (AM.aFn AM.reprD) (AM.cCons (AM.cVar 7) AM.cNil)) (AM.cBi (AM.aFn AM.reprD) (AM.cCons (AM.cBin (AM.aBin AM.addD) (AM.cLc false [8] (AM.gNm 8) (AM.cIter (AM.cVar 4)) AM.tYesM (AM.cC (.bl true))) (AM.cLc false [8] (AM.gNm 8) (AM.cIter (AM.cVar 4)) AM.tYesM (AM.cC (.bl false)))) AM.cNil)))) (AM.sRet (AM.cC (.bl false))) AM.sNil) (AM.sFor (AM.gNm 9) (AM.cIter (AM.cLst (AM.cCons (AM.cBi (AM.strOwnW "Town" F_Town___str__) (AM.cCons (AM.cVar 6) AM.cNil)) (AM.cCons (AM.cBin (AM.aBin AM.ixD) (AM.cVar 1) (AM.cC (.int 1))) (AM.cCons (AM.cC .non) (AM.cCons (AM.cC (.int 0)) (AM.cCons (AM.cC (.bl true)) (AM.cCons (AM.cMakeD false "Log" F_Log___init__ [.tup []] (AM.cCons (AM.cVar 6) AM.cNil)) (AM.cCons (AM.cLst (AM.cCons (AM.cVar 6) AM.cNil)) (AM.cCons (AM.cTup (AM.cCons (AM.cVar 6) AM.cNil)) (AM.cCons (AM.cProp "Town" F_Town_names (AM.cVar 6)) (AM.cCons (AM.cBi (AM.strOwnW "Town" F_Town___repr__) (AM.cCons (AM.cVar 6) AM.cNil)) AM.cNil)))))))))))) (AM.sIf (AM.cTest (AM.cBin (AM.aBin AM.neD) (AM.cBi (AM.aFn AM.reprD) (AM.cCons (AM.cLst (AM.cCons (AM.cBin (AM.eqOwnW ownC false "Town" F_Town___eq__) (AM.cVar 6) (AM.cVar 9)) (AM.cCons (AM.cBin (AM.eqOwnW ownC true "Town" F_Town___eq__) (AM.cVar 6) (AM.cVar 9)) AM.cNil))) AM.cNil)) (AM.cC (.str "[False, True]")))) (AM.sRet (AM.cC (.bl false))) AM.sNil)))))) (AM.sRet (AM.cBi (AM.aFn AM.allD') (AM.cCons (AM.cLc false [6] (AM.gNm 6) (AM.cIter (AM.cVar 4)) AM.tYesM (AM.cCall F__law_shown_right (AM.cCons (AM.cVar 6) (AM.cCons (AM.cVar 1) AM.cNil)))) AM.cNil)))))))))))
def F__law_right : AM.F1 := AM.callF false 10 1 m__law_right
def m__law_source : AM.MS := (AM.sSeq (AM.sAsg (AM.gNm 1) (AM.cC (.int 0))) (AM.sSeq (AM.sIf (AM.cOrT (AM.cTest (AM.cBin (AM.aBin AM.ltD) (AM.cVar 0) (AM.cC (.int 0)))) (AM.cTest (AM.cBin (AM.aBin AM.geD) (AM.cVar 0) (AM.cBin (AM.aBin AM.powD) (AM.cC (.int 10)) (AM.cC (.int 18)))))) (AM.sAsg (AM.gNm 1) (AM.cBi (AM.aFn AM.absD) (AM.cCons (AM.cVar 0) AM.cNil))) AM.sNil) (AM.sRet (AM.cLst (AM.cCons (AM.cVar 1) (AM.cCons (AM.cBin (AM.aBin AM.modD) (AM.cBi (AM.aFn AM.intFD) (AM.cCons (AM.cVar 0) AM.cNil)) (AM.cC (.int 2147483587))) (AM.cCons (AM.cC (.int 0)) AM.cNil)))))))
def F__law_source : AM.F1 := AM.callF false 2 1 m__law_source
def m__law_source_M : AM.MS := (AM.sSeq (AM.sAsg (AM.gNm 1) (AM.cC (.int 0))) (AM.sSeq (AM.sIf (AM.cOrT (AM.cTest (AM.cBin (AM.aBin AM.ltD) (AM.cVar 0) (AM.cC (.int 0)))) (AM.cTest (AM.cBin (AM.aBin AM.geD) (AM.cVar 0) (AM.cBin (AM.aBin AM.powD) (AM.cC (.int 10)) (AM.cC (.int 18)))))) (AM.sAsg (AM.gNm 1) (AM.cBi (AM.aFn AM.absD) (AM.cCons (AM.cVar 0) AM.cNil))) AM.sNil) (AM.sRet (AM.cLstM (AM.cCons (AM.cVar 1) (AM.cCons (AM.cBin (AM.aBin AM.modD) (AM.cBi (AM.aFn AM.intFD) (AM.cCons (AM.cVar 0) AM.cNil)) (AM.cC (.int 2147483587))) (AM.cCons (AM.cC (.int 0)) AM.cNil)))))))
def F__law_source_M : AM.F1 := AM.callF true 2 1 m__law_source_M
def m_law : AM.MS := (AM.sRet (AM.cBi (AM.aFn AM.allD') (AM.cCons (AM.cLc false [1] (AM.gNm 1) (AM.cRange1 (AM.cCons (AM.cBi (AM.aFn AM.max2D) (AM.cCons (AM.cC (.int 2)) (AM.cCons (AM.cBi (AM.aFn AM.min2D) (AM.cCons (AM.cBi (AM.aFn AM.lenD) (AM.cCons (AM.cVar 0) AM.cNil)) (AM.cCons (AM.cC (.int 8)) AM.cNil))) AM.cNil))) AM.cNil)) AM.tYesM (AM.cCall F__law_right (AM.cCons (AM.cCall F__law_source_M (AM.cCons (AM.cCall F__law_cell (AM.cCons (AM.cVar 0) (AM.cCons (AM.cVar 1) AM.cNil))) AM.cNil)) AM.cNil))) AM.cNil)))
def F_law : AM.F1 := AM.callF false 2 1 m_law
end Bk
set_option Elab.async false
set_option linter.all false
set_option maxRecDepth 100000
set_option maxHeartbeats 4000000
namespace Bk
open PySem AM
/-- data, or an object of a known class -/
def Kn (d : D) : Prop := kindOf d ≠ none ∨ ∃ C fs, d = .obj C fs ∧ C ∈ ownC
def integerD : D → Bool | .int _ => true | _ => false
def betweenD (lo hi : Int) : D → Bool | .int i => decide (lo ≤ i) && decide (i ≤ hi) | _ => false
def nameD : D → Bool | .str x => nameOk x | _ => false
def standD : D → Bool | .tup [a, b] => nameD a && betweenD 1 40 b | _ => false
def amongD (ns : List Str) : D → Bool | .str x => decide (x ∈ ns) | _ => false
def roadD (ns : List Str) : D → Bool | .tup [a, b, c] => amongD ns a && amongD ns b && betweenD 1 3 c | _ => false
theorem is_integer_eq {d : D} {S : Sto} (h : Kn d) : F_is_integer [.val d] S = .ok (.val (.bl (integerD d))) S := by
  rcases h with h | ⟨C, fs, rfl, hC⟩
  · cases d <;> first | (exact absurd rfl h) | simp [F_is_integer, m_is_integer, AM.callF, AM.exitF, AM.exitW, AM.sNil, AM.sSeq, AM.sExpr, AM.sRet, AM.sRetN, AM.sIf, AM.sAsg, AM.sPar, AM.sPar3, AM.sParN, AM.setAll, AM.sFor, AM.sFrz, AM.sSetIx, AM.sFldA, AM.gNm, AM.gNilA, AM.gConsA, AM.gTupA, AM.cVar, AM.cC, AM.cBin, AM.cUn, AM.aBin, AM.aUn, AM.aFn, AM.cBi, AM.cCall, AM.cTest, AM.cTruth, AM.cAndT, AM.cOrT, AM.cNotT, AM.cAndV, AM.cOrV, AM.cNotV, AM.cIf, AM.cNil, AM.cCons, AM.cStar, AM.cTup, AM.cLst, AM.cLstM, AM.cSl, AM.oNone, AM.oSome, AM.cRev, AM.cRevL, AM.cIter, AM.iterD, AM.cRange1, AM.cRange2, AM.cEnum, AM.cZip, AM.cChain, AM.cMut, AM.isLst, AM.cM1, AM.cFld, AM.cProp, AM.cMeth, AM.isObj, AM.cMake, AM.makeW, AM.cMakeD, AM.cMakeK, AM.makeKW, AM.strOwnW, AM.eqOwnW, AM.boolOwnW, AM.knownW, AM.view_val, AM.view_ref, AM.views, AM.toD_val, AM.toD_ref, AM.toDs, AM.Rs.bind, AM.Rs.bindT, AM.tYesM, AM.putD, AM.gI, AM.wipeE, AM.cJoin, AM.cJs, Option.bind_some, Option.bind_none, Option.map_some, Option.map_none, List.map_cons, List.map_nil, List.length_cons, List.length_nil, List.replicate, List.append_eq, List.cons_append, List.nil_append, List.getElem?_cons_zero, List.getElem?_cons_succ, List.set_cons_zero, List.set_cons_succ, List.take_length, AM.take_set, Nat.reduceAdd, Nat.reduceSub, Nat.reduceLeDiff, Nat.reduceLT, if_true, if_false, ite_true, ite_false, reduceIte, AM.sBad, Bool.not_true, Bool.not_false, Bool.false_eq_true, Bool.true_and, Bool.and_true, Bool.false_and, Bool.and_false, Bool.true_or, Bool.or_true, Bool.false_or, Bool.or_false, not_true_eq_false, not_false_eq_true, decide_true, decide_false, and_self, true_and, and_true, isiD, isiDD, kindOf, integerD, AM.kb_NoneType_int, AM.kb_NoneType_str, AM.kb_NoneType_bool, AM.kb_NoneType_tuple, AM.kb_NoneType_list, AM.kb_NoneType_dict, AM.kb_bool_int, AM.kb_bool_str, AM.kb_bool_bool, AM.kb_bool_tuple, AM.kb_bool_list, AM.kb_bool_dict, AM.kb_int_int, AM.kb_int_str, AM.kb_int_bool, AM.kb_int_tuple, AM.kb_int_list, AM.kb_int_dict, AM.kb_str_int, AM.kb_str_str, AM.kb_str_bool, AM.kb_str_tuple, AM.kb_str_list, AM.kb_str_dict, AM.kb_tuple_int, AM.kb_tuple_str, AM.kb_tuple_bool, AM.kb_tuple_tuple, AM.kb_tuple_list, AM.kb_tuple_dict, AM.kb_list_int, AM.kb_list_str, AM.kb_list_bool, AM.kb_list_tuple, AM.kb_list_list, AM.kb_list_dict, AM.kb_dict_int, AM.kb_dict_str, AM.kb_dict_bool, AM.kb_dict_tuple, AM.kb_dict_list, AM.kb_dict_dict]
  · simp [F_is_integer, m_is_integer, AM.callF, AM.exitF, AM.exitW, AM.sNil, AM.sSeq, AM.sExpr, AM.sRet, AM.sRetN, AM.sIf, AM.sAsg, AM.sPar, AM.sPar3, AM.sParN, AM.setAll, AM.sFor, AM.sFrz, AM.sSetIx, AM.sFldA, AM.gNm, AM.gNilA, AM.gConsA, AM.gTupA, AM.cVar, AM.cC, AM.cBin, AM.cUn, AM.aBin, AM.aUn, AM.aFn, AM.cBi, AM.cCall, AM.cTest, AM.cTruth, AM.cAndT, AM.cOrT, AM.cNotT, AM.cAndV, AM.cOrV, AM.cNotV, AM.cIf, AM.cNil, AM.cCons, AM.cStar, AM.cTup, AM.cLst, AM.cLstM, AM.cSl, AM.oNone, AM.oSome, AM.cRev, AM.cRevL, AM.cIter, AM.iterD, AM.cRange1, AM.cRange2, AM.cEnum, AM.cZip, AM.cChain, AM.cMut, AM.isLst, AM.cM1, AM.cFld, AM.cProp, AM.cMeth, AM.isObj, AM.cMake, AM.makeW, AM.cMakeD, AM.cMakeK, AM.makeKW, AM.strOwnW, AM.eqOwnW, AM.boolOwnW, AM.knownW, AM.view_val, AM.view_ref, AM.views, AM.toD_val, AM.toD_ref, AM.toDs, AM.Rs.bind, AM.Rs.bindT, AM.tYesM, AM.putD, AM.gI, AM.wipeE, AM.cJoin, AM.cJs, Option.bind_some, Option.bind_none, Option.map_some, Option.map_none, List.map_cons, List.map_nil, List.length_cons, List.length_nil, List.replicate, List.append_eq, List.cons_append, List.nil_append, List.getElem?_cons_zero, List.getElem?_cons_succ, List.set_cons_zero, List.set_cons_succ, List.take_length, AM.take_set, Nat.reduceAdd, Nat.reduceSub, Nat.reduceLeDiff, Nat.reduceLT, if_true, if_false, ite_true, ite_false, reduceIte, AM.sBad, Bool.not_true, Bool.not_false, Bool.false_eq_true, Bool.true_and, Bool.and_true, Bool.false_and, Bool.and_false, Bool.true_or, Bool.or_true, Bool.false_or, Bool.or_false, not_true_eq_false, not_false_eq_true, decide_true, decide_false, and_self, true_and, and_true, isiD, isiDD, kindOf, integerD, AM.kb_NoneType_int, AM.kb_NoneType_str, AM.kb_NoneType_bool, AM.kb_NoneType_tuple, AM.kb_NoneType_list, AM.kb_NoneType_dict, AM.kb_bool_int, AM.kb_bool_str, AM.kb_bool_bool, AM.kb_bool_tuple, AM.kb_bool_list, AM.kb_bool_dict, AM.kb_int_int, AM.kb_int_str, AM.kb_int_bool, AM.kb_int_tuple, AM.kb_int_list, AM.kb_int_dict, AM.kb_str_int, AM.kb_str_str, AM.kb_str_bool, AM.kb_str_tuple, AM.kb_str_list, AM.kb_str_dict, AM.kb_tuple_int, AM.kb_tuple_str, AM.kb_tuple_bool, AM.kb_tuple_tuple, AM.kb_tuple_list, AM.kb_tuple_dict, AM.kb_list_int, AM.kb_list_str, AM.kb_list_bool, AM.kb_list_tuple, AM.kb_list_list, AM.kb_list_dict, AM.kb_dict_int, AM.kb_dict_str, AM.kb_dict_bool, AM.kb_dict_tuple, AM.kb_dict_list, AM.kb_dict_dict, hC, plainTys]
theorem is_between_eq {d : D} {S : Sto} {lo hi : Int} (h : Kn d) : F_is_between [.val d, .val (.int lo), .val (.int hi)] S = .ok (.val (.bl (betweenD lo hi d))) S := by
  simp only [F_is_between, m_is_between, AM.callF, AM.exitF, AM.exitW, AM.sNil, AM.sSeq, AM.sExpr, AM.sRet, AM.sRetN, AM.sIf, AM.sAsg, AM.sPar, AM.sPar3, AM.sParN, AM.setAll, AM.sFor, AM.sFrz, AM.sSetIx, AM.sFldA, AM.gNm, AM.gNilA, AM.gConsA, AM.gTupA, AM.cVar, AM.cC, AM.cBin, AM.cUn, AM.aBin, AM.aUn, AM.aFn, AM.cBi, AM.cCall, AM.cTest, AM.cTruth, AM.cAndT, AM.cOrT, AM.cNotT, AM.cAndV, AM.cOrV, AM.cNotV, AM.cIf, AM.cNil, AM.cCons, AM.cStar, AM.cTup, AM.cLst, AM.cLstM, AM.cSl, AM.oNone, AM.oSome, AM.cRev, AM.cRevL, AM.cIter, AM.iterD, AM.cRange1, AM.cRange2, AM.cEnum, AM.cZip, AM.cChain, AM.cMut, AM.isLst, AM.cM1, AM.cFld, AM.cProp, AM.cMeth, AM.isObj, AM.cMake, AM.makeW, AM.cMakeD, AM.cMakeK, AM.makeKW, AM.strOwnW, AM.eqOwnW, AM.boolOwnW, AM.knownW, AM.view_val, AM.view_ref, AM.views, AM.toD_val, AM.toD_ref, AM.toDs, AM.Rs.bind, AM.Rs.bindT, AM.tYesM, AM.putD, AM.gI, AM.wipeE, AM.cJoin, AM.cJs, Option.bind_some, Option.bind_none, Option.map_some, Option.map_none, List.map_cons, List.map_nil, List.length_cons, List.length_nil, List.replicate, List.append_eq, List.cons_append, List.nil_append, List.getElem?_cons_zero, List.getElem?_cons_succ, List.set_cons_zero, List.set_cons_succ, List.take_length, AM.take_set, Nat.reduceAdd, Nat.reduceSub, Nat.reduceLeDiff, Nat.reduceLT, if_true, if_false, ite_true, ite_false, reduceIte, AM.sBad, Bool.not_true, Bool.not_false, Bool.false_eq_true, Bool.true_and, Bool.and_true, Bool.false_and, Bool.and_false, Bool.true_or, Bool.or_true, Bool.false_or, Bool.or_false, not_true_eq_false, not_false_eq_true, decide_true, decide_false, and_self, true_and, and_true, is_integer_eq h]
  cases d <;> simp [integerD, betweenD, leD, cmpD, AM.callF, AM.exitF, AM.exitW, AM.sNil, AM.sSeq, AM.sExpr, AM.sRet, AM.sRetN, AM.sIf, AM.sAsg, AM.sPar, AM.sPar3, AM.sParN, AM.setAll, AM.sFor, AM.sFrz, AM.sSetIx, AM.sFldA, AM.gNm, AM.gNilA, AM.gConsA, AM.gTupA, AM.cVar, AM.cC, AM.cBin, AM.cUn, AM.aBin, AM.aUn, AM.aFn, AM.cBi, AM.cCall, AM.cTest, AM.cTruth, AM.cAndT, AM.cOrT, AM.cNotT, AM.cAndV, AM.cOrV, AM.cNotV, AM.cIf, AM.cNil, AM.cCons, AM.cStar, AM.cTup, AM.cLst, AM.cLstM, AM.cSl, AM.oNone, AM.oSome, AM.cRev, AM.cRevL, AM.cIter, AM.iterD, AM.cRange1, AM.cRange2, AM.cEnum, AM.cZip, AM.cChain, AM.cMut, AM.isLst, AM.cM1, AM.cFld, AM.cProp, AM.cMeth, AM.isObj, AM.cMake, AM.makeW, AM.cMakeD, AM.cMakeK, AM.makeKW, AM.strOwnW, AM.eqOwnW, AM.boolOwnW, AM.knownW, AM.view_val, AM.view_ref, AM.views, AM.toD_val, AM.toD_ref, AM.toDs, AM.Rs.bind, AM.Rs.bindT, AM.tYesM, AM.putD, AM.gI, AM.wipeE, AM.cJoin, AM.cJs, Option.bind_some, Option.bind_none, Option.map_some, Option.map_none, List.map_cons, List.map_nil, List.length_cons, List.length_nil, List.replicate, List.append_eq, List.cons_append, List.nil_append, List.getElem?_cons_zero, List.getElem?_cons_succ, List.set_cons_zero, List.set_cons_succ, List.take_length, AM.take_set, Nat.reduceAdd, Nat.reduceSub, Nat.reduceLeDiff, Nat.reduceLT, if_true, if_false, ite_true, ite_false, reduceIte, AM.sBad, Bool.not_true, Bool.not_false, Bool.false_eq_true, Bool.true_and, Bool.and_true, Bool.false_and, Bool.and_false, Bool.true_or, Bool.or_true, Bool.false_or, Bool.or_false, not_true_eq_false, not_false_eq_true, decide_true, decide_false, and_self, true_and, and_true]
  rename_i i
  by_cases h1 : lo ≤ i <;> simp [h1]
theorem is_name_eq {d : D} {S : Sto} (h : Kn d) : F_is_name [.val d] S = .ok (.val (.bl (nameD d))) S := by
  rcases h with h | ⟨C, fs, rfl, hC⟩
  · cases d with
    | str x =>
      have lc : x.length < 9 → ∀ S : Sto, cLc false [1] (gNm 1) (cIter (cVar 0)) tYesM (cBin (aBin inD) (cVar 1) (cC (.str "abcdefghijklmnopqrstuvwxyz"))) [some (.val (.str x)), none] S = .ok (.val (.lst ((signs x).map fun d => .bl (letter (signOf d))))) S := by
        intro hx S
        refine cLc_map (ds := signs x) (by simp [AM.callF, AM.exitF, AM.exitW, AM.sNil, AM.sSeq, AM.sExpr, AM.sRet, AM.sRetN, AM.sIf, AM.sAsg, AM.sPar, AM.sPar3, AM.sParN, AM.setAll, AM.sFor, AM.sFrz, AM.sSetIx, AM.sFldA, AM.gNm, AM.gNilA, AM.gConsA, AM.gTupA, AM.cVar, AM.cC, AM.cBin, AM.cUn, AM.aBin, AM.aUn, AM.aFn, AM.cBi, AM.cCall, AM.cTest, AM.cTruth, AM.cAndT, AM.cOrT, AM.cNotT, AM.cAndV, AM.cOrV, AM.cNotV, AM.cIf, AM.cNil, AM.cCons, AM.cStar, AM.cTup, AM.cLst, AM.cLstM, AM.cSl, AM.oNone, AM.oSome, AM.cRev, AM.cRevL, AM.cIter, AM.iterD, AM.cRange1, AM.cRange2, AM.cEnum, AM.cZip, AM.cChain, AM.cMut, AM.isLst, AM.cM1, AM.cFld, AM.cProp, AM.cMeth, AM.isObj, AM.cMake, AM.makeW, AM.cMakeD, AM.cMakeK, AM.makeKW, AM.strOwnW, AM.eqOwnW, AM.boolOwnW, AM.knownW, AM.view_val, AM.view_ref, AM.views, AM.toD_val, AM.toD_ref, AM.toDs, AM.Rs.bind, AM.Rs.bindT, AM.tYesM, AM.putD, AM.gI, AM.wipeE, AM.cJoin, AM.cJs, Option.bind_some, Option.bind_none, Option.map_some, Option.map_none, List.map_cons, List.map_nil, List.length_cons, List.length_nil, List.replicate, List.append_eq, List.cons_append, List.nil_append, List.getElem?_cons_zero, List.getElem?_cons_succ, List.set_cons_zero, List.set_cons_succ, List.take_length, AM.take_set, Nat.reduceAdd, Nat.reduceSub, Nat.reduceLeDiff, Nat.reduceLT, if_true, if_false, ite_true, ite_false, reduceIte, AM.sBad, Bool.not_true, Bool.not_false, Bool.false_eq_true, Bool.true_and, Bool.and_true, Bool.false_and, Bool.and_false, Bool.true_or, Bool.or_true, Bool.false_or, Bool.or_false, not_true_eq_false, not_false_eq_true, decide_true, decide_false, and_self, true_and, and_true]) (fun d hd => ?_) (by rw [signs_len, szl]; omega)
        obtain ⟨c, _, rfl⟩ := List.mem_map.mp hd
        refine ⟨_, rfl, fun T => ?_⟩
        simp only [AM.callF, AM.exitF, AM.exitW, AM.sNil, AM.sSeq, AM.sExpr, AM.sRet, AM.sRetN, AM.sIf, AM.sAsg, AM.sPar, AM.sPar3, AM.sParN, AM.setAll, AM.sFor, AM.sFrz, AM.sSetIx, AM.sFldA, AM.gNm, AM.gNilA, AM.gConsA, AM.gTupA, AM.cVar, AM.cC, AM.cBin, AM.cUn, AM.aBin, AM.aUn, AM.aFn, AM.cBi, AM.cCall, AM.cTest, AM.cTruth, AM.cAndT, AM.cOrT, AM.cNotT, AM.cAndV, AM.cOrV, AM.cNotV, AM.cIf, AM.cNil, AM.cCons, AM.cStar, AM.cTup, AM.cLst, AM.cLstM, AM.cSl, AM.oNone, AM.oSome, AM.cRev, AM.cRevL, AM.cIter, AM.iterD, AM.cRange1, AM.cRange2, AM.cEnum, AM.cZip, AM.cChain, AM.cMut, AM.isLst, AM.cM1, AM.cFld, AM.cProp, AM.cMeth, AM.isObj, AM.cMake, AM.makeW, AM.cMakeD, AM.cMakeK, AM.makeKW, AM.strOwnW, AM.eqOwnW, AM.boolOwnW, AM.knownW, AM.view_val, AM.view_ref, AM.views, AM.toD_val, AM.toD_ref, AM.toDs, AM.Rs.bind, AM.Rs.bindT, AM.tYesM, AM.putD, AM.gI, AM.wipeE, AM.cJoin, AM.cJs, Option.bind_some, Option.bind_none, Option.map_some, Option.map_none, List.map_cons, List.map_nil, List.length_cons, List.length_nil, List.replicate, List.append_eq, List.cons_append, List.nil_append, List.getElem?_cons_zero, List.getElem?_cons_succ, List.set_cons_zero, List.set_cons_succ, List.take_length, AM.take_set, Nat.reduceAdd, Nat.reduceSub, Nat.reduceLeDiff, Nat.reduceLT, if_true, if_false, ite_true, ite_false, reduceIte, AM.sBad, Bool.not_true, Bool.not_false, Bool.false_eq_true, Bool.true_and, Bool.and_true, Bool.false_and, Bool.and_false, Bool.true_or, Bool.or_true, Bool.false_or, Bool.or_false, not_true_eq_false, not_false_eq_true, decide_true, decide_false, and_self, true_and, and_true, inD, in_sign, letters_mem]
        rfl
      by_cases h0 : 0 < x.length
      · by_cases h1 : x.length < 9
        · have h1q : (x.length : Int) < 9 := by omega
          simp only [F_is_name, m_is_name, AM.callF, AM.exitF, AM.exitW, AM.sNil, AM.sSeq, AM.sExpr, AM.sRet, AM.sRetN, AM.sIf, AM.sAsg, AM.sPar, AM.sPar3, AM.sParN, AM.setAll, AM.sFor, AM.sFrz, AM.sSetIx, AM.sFldA, AM.gNm, AM.gNilA, AM.gConsA, AM.gTupA, AM.cVar, AM.cC, AM.cBin, AM.cUn, AM.aBin, AM.aUn, AM.aFn, AM.cBi, AM.cCall, AM.cTest, AM.cTruth, AM.cAndT, AM.cOrT, AM.cNotT, AM.cAndV, AM.cOrV, AM.cNotV, AM.cIf, AM.cNil, AM.cCons, AM.cStar, AM.cTup, AM.cLst, AM.cLstM, AM.cSl, AM.oNone, AM.oSome, AM.cRev, AM.cRevL, AM.cIter, AM.iterD, AM.cRange1, AM.cRange2, AM.cEnum, AM.cZip, AM.cChain, AM.cMut, AM.isLst, AM.cM1, AM.cFld, AM.cProp, AM.cMeth, AM.isObj, AM.cMake, AM.makeW, AM.cMakeD, AM.cMakeK, AM.makeKW, AM.strOwnW, AM.eqOwnW, AM.boolOwnW, AM.knownW, AM.view_val, AM.view_ref, AM.views, AM.toD_val, AM.toD_ref, AM.toDs, AM.Rs.bind, AM.Rs.bindT, AM.tYesM, AM.putD, AM.gI, AM.wipeE, AM.cJoin, AM.cJs, Option.bind_some, Option.bind_none, Option.map_some, Option.map_none, List.map_cons, List.map_nil, List.length_cons, List.length_nil, List.replicate, List.append_eq, List.cons_append, List.nil_append, List.getElem?_cons_zero, List.getElem?_cons_succ, List.set_cons_zero, List.set_cons_succ, List.take_length, AM.take_set, Nat.reduceAdd, Nat.reduceSub, Nat.reduceLeDiff, Nat.reduceLT, if_true, if_false, ite_true, ite_false, reduceIte, AM.sBad, Bool.not_true, Bool.not_false, Bool.false_eq_true, Bool.true_and, Bool.and_true, Bool.false_and, Bool.and_false, Bool.true_or, Bool.or_true, Bool.false_or, Bool.or_false, not_true_eq_false, not_false_eq_true, decide_true, decide_false, and_self, true_and, and_true, lc h1, allD_map, signs_all]
          simp [AM.callF, AM.exitF, AM.exitW, AM.sNil, AM.sSeq, AM.sExpr, AM.sRet, AM.sRetN, AM.sIf, AM.sAsg, AM.sPar, AM.sPar3, AM.sParN, AM.setAll, AM.sFor, AM.sFrz, AM.sSetIx, AM.sFldA, AM.gNm, AM.gNilA, AM.gConsA, AM.gTupA, AM.cVar, AM.cC, AM.cBin, AM.cUn, AM.aBin, AM.aUn, AM.aFn, AM.cBi, AM.cCall, AM.cTest, AM.cTruth, AM.cAndT, AM.cOrT, AM.cNotT, AM.cAndV, AM.cOrV, AM.cNotV, AM.cIf, AM.cNil, AM.cCons, AM.cStar, AM.cTup, AM.cLst, AM.cLstM, AM.cSl, AM.oNone, AM.oSome, AM.cRev, AM.cRevL, AM.cIter, AM.iterD, AM.cRange1, AM.cRange2, AM.cEnum, AM.cZip, AM.cChain, AM.cMut, AM.isLst, AM.cM1, AM.cFld, AM.cProp, AM.cMeth, AM.isObj, AM.cMake, AM.makeW, AM.cMakeD, AM.cMakeK, AM.makeKW, AM.strOwnW, AM.eqOwnW, AM.boolOwnW, AM.knownW, AM.view_val, AM.view_ref, AM.views, AM.toD_val, AM.toD_ref, AM.toDs, AM.Rs.bind, AM.Rs.bindT, AM.tYesM, AM.putD, AM.gI, AM.wipeE, AM.cJoin, AM.cJs, Option.bind_some, Option.bind_none, Option.map_some, Option.map_none, List.map_cons, List.map_nil, List.length_cons, List.length_nil, List.replicate, List.append_eq, List.cons_append, List.nil_append, List.getElem?_cons_zero, List.getElem?_cons_succ, List.set_cons_zero, List.set_cons_succ, List.take_length, AM.take_set, Nat.reduceAdd, Nat.reduceSub, Nat.reduceLeDiff, Nat.reduceLT, if_true, if_false, ite_true, ite_false, reduceIte, AM.sBad, Bool.not_true, Bool.not_false, Bool.false_eq_true, Bool.true_and, Bool.and_true, Bool.false_and, Bool.and_false, Bool.true_or, Bool.or_true, Bool.false_or, Bool.or_false, not_true_eq_false, not_false_eq_true, decide_true, decide_false, and_self, true_and, and_true, isiD, isiDD, kindOf, AM.kb_NoneType_int, AM.kb_NoneType_str, AM.kb_NoneType_bool, AM.kb_NoneType_tuple, AM.kb_NoneType_list, AM.kb_NoneType_dict, AM.kb_bool_int, AM.kb_bool_str, AM.kb_bool_bool, AM.kb_bool_tuple, AM.kb_bool_list, AM.kb_bool_dict, AM.kb_int_int, AM.kb_int_str, AM.kb_int_bool, AM.kb_int_tuple, AM.kb_int_list, AM.kb_int_dict, AM.kb_str_int, AM.kb_str_str, AM.kb_str_bool, AM.kb_str_tuple, AM.kb_str_list, AM.kb_str_dict, AM.kb_tuple_int, AM.kb_tuple_str, AM.kb_tuple_bool, AM.kb_tuple_tuple, AM.kb_tuple_list, AM.kb_tuple_dict, AM.kb_list_int, AM.kb_list_str, AM.kb_list_bool, AM.kb_list_tuple, AM.kb_list_list, AM.kb_list_dict, AM.kb_dict_int, AM.kb_dict_str, AM.kb_dict_bool, AM.kb_dict_tuple, AM.kb_dict_list, AM.kb_dict_dict, ltD, cmpD, lenD, nameD, nameOk, h0, h1, h1q]
        · have : ¬ (x.length : Int) < 9 := by omega
          simp [F_is_name, m_is_name, AM.callF, AM.exitF, AM.exitW, AM.sNil, AM.sSeq, AM.sExpr, AM.sRet, AM.sRetN, AM.sIf, AM.sAsg, AM.sPar, AM.sPar3, AM.sParN, AM.setAll, AM.sFor, AM.sFrz, AM.sSetIx, AM.sFldA, AM.gNm, AM.gNilA, AM.gConsA, AM.gTupA, AM.cVar, AM.cC, AM.cBin, AM.cUn, AM.aBin, AM.aUn, AM.aFn, AM.cBi, AM.cCall, AM.cTest, AM.cTruth, AM.cAndT, AM.cOrT, AM.cNotT, AM.cAndV, AM.cOrV, AM.cNotV, AM.cIf, AM.cNil, AM.cCons, AM.cStar, AM.cTup, AM.cLst, AM.cLstM, AM.cSl, AM.oNone, AM.oSome, AM.cRev, AM.cRevL, AM.cIter, AM.iterD, AM.cRange1, AM.cRange2, AM.cEnum, AM.cZip, AM.cChain, AM.cMut, AM.isLst, AM.cM1, AM.cFld, AM.cProp, AM.cMeth, AM.isObj, AM.cMake, AM.makeW, AM.cMakeD, AM.cMakeK, AM.makeKW, AM.strOwnW, AM.eqOwnW, AM.boolOwnW, AM.knownW, AM.view_val, AM.view_ref, AM.views, AM.toD_val, AM.toD_ref, AM.toDs, AM.Rs.bind, AM.Rs.bindT, AM.tYesM, AM.putD, AM.gI, AM.wipeE, AM.cJoin, AM.cJs, Option.bind_some, Option.bind_none, Option.map_some, Option.map_none, List.map_cons, List.map_nil, List.length_cons, List.length_nil, List.replicate, List.append_eq, List.cons_append, List.nil_append, List.getElem?_cons_zero, List.getElem?_cons_succ, List.set_cons_zero, List.set_cons_succ, List.take_length, AM.take_set, Nat.reduceAdd, Nat.reduceSub, Nat.reduceLeDiff, Nat.reduceLT, if_true, if_false, ite_true, ite_false, reduceIte, AM.sBad, Bool.not_true, Bool.not_false, Bool.false_eq_true, Bool.true_and, Bool.and_true, Bool.false_and, Bool.and_false, Bool.true_or, Bool.or_true, Bool.false_or, Bool.or_false, not_true_eq_false, not_false_eq_true, decide_true, decide_false, and_self, true_and, and_true, isiD, isiDD, kindOf, AM.kb_NoneType_int, AM.kb_NoneType_str, AM.kb_NoneType_bool, AM.kb_NoneType_tuple, AM.kb_NoneType_list, AM.kb_NoneType_dict, AM.kb_bool_int, AM.kb_bool_str, AM.kb_bool_bool, AM.kb_bool_tuple, AM.kb_bool_list, AM.kb_bool_dict, AM.kb_int_int, AM.kb_int_str, AM.kb_int_bool, AM.kb_int_tuple, AM.kb_int_list, AM.kb_int_dict, AM.kb_str_int, AM.kb_str_str, AM.kb_str_bool, AM.kb_str_tuple, AM.kb_str_list, AM.kb_str_dict, AM.kb_tuple_int, AM.kb_tuple_str, AM.kb_tuple_bool, AM.kb_tuple_tuple, AM.kb_tuple_list, AM.kb_tuple_dict, AM.kb_list_int, AM.kb_list_str, AM.kb_list_bool, AM.kb_list_tuple, AM.kb_list_list, AM.kb_list_dict, AM.kb_dict_int, AM.kb_dict_str, AM.kb_dict_bool, AM.kb_dict_tuple, AM.kb_dict_list, AM.kb_dict_dict, ltD, cmpD, lenD, nameD, nameOk, h0, h1, this]
      · simp [F_is_name, m_is_name, AM.callF, AM.exitF, AM.exitW, AM.sNil, AM.sSeq, AM.sExpr, AM.sRet, AM.sRetN, AM.sIf, AM.sAsg, AM.sPar, AM.sPar3, AM.sParN, AM.setAll, AM.sFor, AM.sFrz, AM.sSetIx, AM.sFldA, AM.gNm, AM.gNilA, AM.gConsA, AM.gTupA, AM.cVar, AM.cC, AM.cBin, AM.cUn, AM.aBin, AM.aUn, AM.aFn, AM.cBi, AM.cCall, AM.cTest, AM.cTruth, AM.cAndT, AM.cOrT, AM.cNotT, AM.cAndV, AM.cOrV, AM.cNotV, AM.cIf, AM.cNil, AM.cCons, AM.cStar, AM.cTup, AM.cLst, AM.cLstM, AM.cSl, AM.oNone, AM.oSome, AM.cRev, AM.cRevL, AM.cIter, AM.iterD, AM.cRange1, AM.cRange2, AM.cEnum, AM.cZip, AM.cChain, AM.cMut, AM.isLst, AM.cM1, AM.cFld, AM.cProp, AM.cMeth, AM.isObj, AM.cMake, AM.makeW, AM.cMakeD, AM.cMakeK, AM.makeKW, AM.strOwnW, AM.eqOwnW, AM.boolOwnW, AM.knownW, AM.view_val, AM.view_ref, AM.views, AM.toD_val, AM.toD_ref, AM.toDs, AM.Rs.bind, AM.Rs.bindT, AM.tYesM, AM.putD, AM.gI, AM.wipeE, AM.cJoin, AM.cJs, Option.bind_some, Option.bind_none, Option.map_some, Option.map_none, List.map_cons, List.map_nil, List.length_cons, List.length_nil, List.replicate, List.append_eq, List.cons_append, List.nil_append, List.getElem?_cons_zero, List.getElem?_cons_succ, List.set_cons_zero, List.set_cons_succ, List.take_length, AM.take_set, Nat.reduceAdd, Nat.reduceSub, Nat.reduceLeDiff, Nat.reduceLT, if_true, if_false, ite_true, ite_false, reduceIte, AM.sBad, Bool.not_true, Bool.not_false, Bool.false_eq_true, Bool.true_and, Bool.and_true, Bool.false_and, Bool.and_false, Bool.true_or, Bool.or_true, Bool.false_or, Bool.or_false, not_true_eq_false, not_false_eq_true, decide_true, decide_false, and_self, true_and, and_true, isiD, isiDD, kindOf, AM.kb_NoneType_int, AM.kb_NoneType_str, AM.kb_NoneType_bool, AM.kb_NoneType_tuple, AM.kb_NoneType_list, AM.kb_NoneType_dict, AM.kb_bool_int, AM.kb_bool_str, AM.kb_bool_bool, AM.kb_bool_tuple, AM.kb_bool_list, AM.kb_bool_dict, AM.kb_int_int, AM.kb_int_str, AM.kb_int_bool, AM.kb_int_tuple, AM.kb_int_list, AM.kb_int_dict, AM.kb_str_int, AM.kb_str_str, AM.kb_str_bool, AM.kb_str_tuple, AM.kb_str_list, AM.kb_str_dict, AM.kb_tuple_int, AM.kb_tuple_str, AM.kb_tuple_bool, AM.kb_tuple_tuple, AM.kb_tuple_list, AM.kb_tuple_dict, AM.kb_list_int, AM.kb_list_str, AM.kb_list_bool, AM.kb_list_tuple, AM.kb_list_list, AM.kb_list_dict, AM.kb_dict_int, AM.kb_dict_str, AM.kb_dict_bool, AM.kb_dict_tuple, AM.kb_dict_list, AM.kb_dict_dict, ltD, cmpD, lenD, nameD, nameOk, h0]
    | _ => first | (exact absurd rfl h) | simp [F_is_name, m_is_name, AM.callF, AM.exitF, AM.exitW, AM.sNil, AM.sSeq, AM.sExpr, AM.sRet, AM.sRetN, AM.sIf, AM.sAsg, AM.sPar, AM.sPar3, AM.sParN, AM.setAll, AM.sFor, AM.sFrz, AM.sSetIx, AM.sFldA, AM.gNm, AM.gNilA, AM.gConsA, AM.gTupA, AM.cVar, AM.cC, AM.cBin, AM.cUn, AM.aBin, AM.aUn, AM.aFn, AM.cBi, AM.cCall, AM.cTest, AM.cTruth, AM.cAndT, AM.cOrT, AM.cNotT, AM.cAndV, AM.cOrV, AM.cNotV, AM.cIf, AM.cNil, AM.cCons, AM.cStar, AM.cTup, AM.cLst, AM.cLstM, AM.cSl, AM.oNone, AM.oSome, AM.cRev, AM.cRevL, AM.cIter, AM.iterD, AM.cRange1, AM.cRange2, AM.cEnum, AM.cZip, AM.cChain, AM.cMut, AM.isLst, AM.cM1, AM.cFld, AM.cProp, AM.cMeth, AM.isObj, AM.cMake, AM.makeW, AM.cMakeD, AM.cMakeK, AM.makeKW, AM.strOwnW, AM.eqOwnW, AM.boolOwnW, AM.knownW, AM.view_val, AM.view_ref, AM.views, AM.toD_val, AM.toD_ref, AM.toDs, AM.Rs.bind, AM.Rs.bindT, AM.tYesM, AM.putD, AM.gI, AM.wipeE, AM.cJoin, AM.cJs, Option.bind_some, Option.bind_none, Option.map_some, Option.map_none, List.map_cons, List.map_nil, List.length_cons, List.length_nil, List.replicate, List.append_eq, List.cons_append, List.nil_append, List.getElem?_cons_zero, List.getElem?_cons_succ, List.set_cons_zero, List.set_cons_succ, List.take_length, AM.take_set, Nat.reduceAdd, Nat.reduceSub, Nat.reduceLeDiff, Nat.reduceLT, if_true, if_false, ite_true, ite_false, reduceIte, AM.sBad, Bool.not_true, Bool.not_false, Bool.false_eq_true, Bool.true_and, Bool.and_true, Bool.false_and, Bool.and_false, Bool.true_or, Bool.or_true, Bool.false_or, Bool.or_false, not_true_eq_false, not_false_eq_true, decide_true, decide_false, and_self, true_and, and_true, isiD, isiDD, kindOf, nameD, AM.kb_NoneType_int, AM.kb_NoneType_str, AM.kb_NoneType_bool, AM.kb_NoneType_tuple, AM.kb_NoneType_list, AM.kb_NoneType_dict, AM.kb_bool_int, AM.kb_bool_str, AM.kb_bool_bool, AM.kb_bool_tuple, AM.kb_bool_list, AM.kb_bool_dict, AM.kb_int_int, AM.kb_int_str, AM.kb_int_bool, AM.kb_int_tuple, AM.kb_int_list, AM.kb_int_dict, AM.kb_str_int, AM.kb_str_str, AM.kb_str_bool, AM.kb_str_tuple, AM.kb_str_list, AM.kb_str_dict, AM.kb_tuple_int, AM.kb_tuple_str, AM.kb_tuple_bool, AM.kb_tuple_tuple, AM.kb_tuple_list, AM.kb_tuple_dict, AM.kb_list_int, AM.kb_list_str, AM.kb_list_bool, AM.kb_list_tuple, AM.kb_list_list, AM.kb_list_dict, AM.kb_dict_int, AM.kb_dict_str, AM.kb_dict_bool, AM.kb_dict_tuple, AM.kb_dict_list, AM.kb_dict_dict]
  · simp [F_is_name, m_is_name, AM.callF, AM.exitF, AM.exitW, AM.sNil, AM.sSeq, AM.sExpr, AM.sRet, AM.sRetN, AM.sIf, AM.sAsg, AM.sPar, AM.sPar3, AM.sParN, AM.setAll, AM.sFor, AM.sFrz, AM.sSetIx, AM.sFldA, AM.gNm, AM.gNilA, AM.gConsA, AM.gTupA, AM.cVar, AM.cC, AM.cBin, AM.cUn, AM.aBin, AM.aUn, AM.aFn, AM.cBi, AM.cCall, AM.cTest, AM.cTruth, AM.cAndT, AM.cOrT, AM.cNotT, AM.cAndV, AM.cOrV, AM.cNotV, AM.cIf, AM.cNil, AM.cCons, AM.cStar, AM.cTup, AM.cLst, AM.cLstM, AM.cSl, AM.oNone, AM.oSome, AM.cRev, AM.cRevL, AM.cIter, AM.iterD, AM.cRange1, AM.cRange2, AM.cEnum, AM.cZip, AM.cChain, AM.cMut, AM.isLst, AM.cM1, AM.cFld, AM.cProp, AM.cMeth, AM.isObj, AM.cMake, AM.makeW, AM.cMakeD, AM.cMakeK, AM.makeKW, AM.strOwnW, AM.eqOwnW, AM.boolOwnW, AM.knownW, AM.view_val, AM.view_ref, AM.views, AM.toD_val, AM.toD_ref, AM.toDs, AM.Rs.bind, AM.Rs.bindT, AM.tYesM, AM.putD, AM.gI, AM.wipeE, AM.cJoin, AM.cJs, Option.bind_some, Option.bind_none, Option.map_some, Option.map_none, List.map_cons, List.map_nil, List.length_cons, List.length_nil, List.replicate, List.append_eq, List.cons_append, List.nil_append, List.getElem?_cons_zero, List.getElem?_cons_succ, List.set_cons_zero, List.set_cons_succ, List.take_length, AM.take_set, Nat.reduceAdd, Nat.reduceSub, Nat.reduceLeDiff, Nat.reduceLT, if_true, if_false, ite_true, ite_false, reduceIte, AM.sBad, Bool.not_true, Bool.not_false, Bool.false_eq_true, Bool.true_and, Bool.and_true, Bool.false_and, Bool.and_false, Bool.true_or, Bool.or_true, Bool.false_or, Bool.or_false, not_true_eq_false, not_false_eq_true, decide_true, decide_false, and_self, true_and, and_true, isiD, isiDD, kindOf, nameD, AM.kb_NoneType_int, AM.kb_NoneType_str, AM.kb_NoneType_bool, AM.kb_NoneType_tuple, AM.kb_NoneType_list, AM.kb_NoneType_dict, AM.kb_bool_int, AM.kb_bool_str, AM.kb_bool_bool, AM.kb_bool_tuple, AM.kb_bool_list, AM.kb_bool_dict, AM.kb_int_int, AM.kb_int_str, AM.kb_int_bool, AM.kb_int_tuple, AM.kb_int_list, AM.kb_int_dict, AM.kb_str_int, AM.kb_str_str, AM.kb_str_bool, AM.kb_str_tuple, AM.kb_str_list, AM.kb_str_dict, AM.kb_tuple_int, AM.kb_tuple_str, AM.kb_tuple_bool, AM.kb_tuple_tuple, AM.kb_tuple_list, AM.kb_tuple_dict, AM.kb_list_int, AM.kb_list_str, AM.kb_list_bool, AM.kb_list_tuple, AM.kb_list_list, AM.kb_list_dict, AM.kb_dict_int, AM.kb_dict_str, AM.kb_dict_bool, AM.kb_dict_tuple, AM.kb_dict_list, AM.kb_dict_dict, hC, plainTys]
theorem kn_str (x : Str) : Kn (.str x) := .inl (by simp [kindOf])
theorem kn_int (x : Int) : Kn (.int x) := .inl (by simp [kindOf])
theorem kn_tup (x : List D) : Kn (.tup x) := .inl (by simp [kindOf])
theorem is_stand_eq {d : D} {S : Sto} (hx : ∀ l, d ≠ .tux l) (h : Kn d) (hk : ∀ l, d = .tup l → ∀ x ∈ l, Kn x) : F_is_stand [.val d] S = .ok (.val (.bl (standD d))) S := by
  rcases h with h | ⟨C, fs, rfl, hC⟩
  · cases d with
    | tup l =>
      have hl := hk l rfl
      match l, hl with
      | [], _ => simp [F_is_stand, m_is_stand, AM.callF, AM.exitF, AM.exitW, AM.sNil, AM.sSeq, AM.sExpr, AM.sRet, AM.sRetN, AM.sIf, AM.sAsg, AM.sPar, AM.sPar3, AM.sParN, AM.setAll, AM.sFor, AM.sFrz, AM.sSetIx, AM.sFldA, AM.gNm, AM.gNilA, AM.gConsA, AM.gTupA, AM.cVar, AM.cC, AM.cBin, AM.cUn, AM.aBin, AM.aUn, AM.aFn, AM.cBi, AM.cCall, AM.cTest, AM.cTruth, AM.cAndT, AM.cOrT, AM.cNotT, AM.cAndV, AM.cOrV, AM.cNotV, AM.cIf, AM.cNil, AM.cCons, AM.cStar, AM.cTup, AM.cLst, AM.cLstM, AM.cSl, AM.oNone, AM.oSome, AM.cRev, AM.cRevL, AM.cIter, AM.iterD, AM.cRange1, AM.cRange2, AM.cEnum, AM.cZip, AM.cChain, AM.cMut, AM.isLst, AM.cM1, AM.cFld, AM.cProp, AM.cMeth, AM.isObj, AM.cMake, AM.makeW, AM.cMakeD, AM.cMakeK, AM.makeKW, AM.strOwnW, AM.eqOwnW, AM.boolOwnW, AM.knownW, AM.view_val, AM.view_ref, AM.views, AM.toD_val, AM.toD_ref, AM.toDs, AM.Rs.bind, AM.Rs.bindT, AM.tYesM, AM.putD, AM.gI, AM.wipeE, AM.cJoin, AM.cJs, Option.bind_some, Option.bind_none, Option.map_some, Option.map_none, List.map_cons, List.map_nil, List.length_cons, List.length_nil, List.replicate, List.append_eq, List.cons_append, List.nil_append, List.getElem?_cons_zero, List.getElem?_cons_succ, List.set_cons_zero, List.set_cons_succ, List.take_length, AM.take_set, Nat.reduceAdd, Nat.reduceSub, Nat.reduceLeDiff, Nat.reduceLT, if_true, if_false, ite_true, ite_false, reduceIte, AM.sBad, Bool.not_true, Bool.not_false, Bool.false_eq_true, Bool.true_and, Bool.and_true, Bool.false_and, Bool.and_false, Bool.true_or, Bool.or_true, Bool.false_or, Bool.or_false, not_true_eq_false, not_false_eq_true, decide_true, decide_false, and_self, true_and, and_true, isiD, isiDD, kindOf, AM.kb_NoneType_int, AM.kb_NoneType_str, AM.kb_NoneType_bool, AM.kb_NoneType_tuple, AM.kb_NoneType_list, AM.kb_NoneType_dict, AM.kb_bool_int, AM.kb_bool_str, AM.kb_bool_bool, AM.kb_bool_tuple, AM.kb_bool_list, AM.kb_bool_dict, AM.kb_int_int, AM.kb_int_str, AM.kb_int_bool, AM.kb_int_tuple, AM.kb_int_list, AM.kb_int_dict, AM.kb_str_int, AM.kb_str_str, AM.kb_str_bool, AM.kb_str_tuple, AM.kb_str_list, AM.kb_str_dict, AM.kb_tuple_int, AM.kb_tuple_str, AM.kb_tuple_bool, AM.kb_tuple_tuple, AM.kb_tuple_list, AM.kb_tuple_dict, AM.kb_list_int, AM.kb_list_str, AM.kb_list_bool, AM.kb_list_tuple, AM.kb_list_list, AM.kb_list_dict, AM.kb_dict_int, AM.kb_dict_str, AM.kb_dict_bool, AM.kb_dict_tuple, AM.kb_dict_list, AM.kb_dict_dict, neD, eqDD, scE, lenD, standD]
      | [_], _ => simp [F_is_stand, m_is_stand, AM.callF, AM.exitF, AM.exitW, AM.sNil, AM.sSeq, AM.sExpr, AM.sRet, AM.sRetN, AM.sIf, AM.sAsg, AM.sPar, AM.sPar3, AM.sParN, AM.setAll, AM.sFor, AM.sFrz, AM.sSetIx, AM.sFldA, AM.gNm, AM.gNilA, AM.gConsA, AM.gTupA, AM.cVar, AM.cC, AM.cBin, AM.cUn, AM.aBin, AM.aUn, AM.aFn, AM.cBi, AM.cCall, AM.cTest, AM.cTruth, AM.cAndT, AM.cOrT, AM.cNotT, AM.cAndV, AM.cOrV, AM.cNotV, AM.cIf, AM.cNil, AM.cCons, AM.cStar, AM.cTup, AM.cLst, AM.cLstM, AM.cSl, AM.oNone, AM.oSome, AM.cRev, AM.cRevL, AM.cIter, AM.iterD, AM.cRange1, AM.cRange2, AM.cEnum, AM.cZip, AM.cChain, AM.cMut, AM.isLst, AM.cM1, AM.cFld, AM.cProp, AM.cMeth, AM.isObj, AM.cMake, AM.makeW, AM.cMakeD, AM.cMakeK, AM.makeKW, AM.strOwnW, AM.eqOwnW, AM.boolOwnW, AM.knownW, AM.view_val, AM.view_ref, AM.views, AM.toD_val, AM.toD_ref, AM.toDs, AM.Rs.bind, AM.Rs.bindT, AM.tYesM, AM.putD, AM.gI, AM.wipeE, AM.cJoin, AM.cJs, Option.bind_some, Option.bind_none, Option.map_some, Option.map_none, List.map_cons, List.map_nil, List.length_cons, List.length_nil, List.replicate, List.append_eq, List.cons_append, List.nil_append, List.getElem?_cons_zero, List.getElem?_cons_succ, List.set_cons_zero, List.set_cons_succ, List.take_length, AM.take_set, Nat.reduceAdd, Nat.reduceSub, Nat.reduceLeDiff, Nat.reduceLT, if_true, if_false, ite_true, ite_false, reduceIte, AM.sBad, Bool.not_true, Bool.not_false, Bool.false_eq_true, Bool.true_and, Bool.and_true, Bool.false_and, Bool.and_false, Bool.true_or, Bool.or_true, Bool.false_or, Bool.or_false, not_true_eq_false, not_false_eq_true, decide_true, decide_false, and_self, true_and, and_true, isiD, isiDD, kindOf, AM.kb_NoneType_int, AM.kb_NoneType_str, AM.kb_NoneType_bool, AM.kb_NoneType_tuple, AM.kb_NoneType_list, AM.kb_NoneType_dict, AM.kb_bool_int, AM.kb_bool_str, AM.kb_bool_bool, AM.kb_bool_tuple, AM.kb_bool_list, AM.kb_bool_dict, AM.kb_int_int, AM.kb_int_str, AM.kb_int_bool, AM.kb_int_tuple, AM.kb_int_list, AM.kb_int_dict, AM.kb_str_int, AM.kb_str_str, AM.kb_str_bool, AM.kb_str_tuple, AM.kb_str_list, AM.kb_str_dict, AM.kb_tuple_int, AM.kb_tuple_str, AM.kb_tuple_bool, AM.kb_tuple_tuple, AM.kb_tuple_list, AM.kb_tuple_dict, AM.kb_list_int, AM.kb_list_str, AM.kb_list_bool, AM.kb_list_tuple, AM.kb_list_list, AM.kb_list_dict, AM.kb_dict_int, AM.kb_dict_str, AM.kb_dict_bool, AM.kb_dict_tuple, AM.kb_dict_list, AM.kb_dict_dict, neD, eqDD, scE, lenD, standD]
      | [a, b], hl =>
        have ha := hl a (by simp)
        have hb := hl b (by simp)
        simp [F_is_stand, m_is_stand, AM.callF, AM.exitF, AM.exitW, AM.sNil, AM.sSeq, AM.sExpr, AM.sRet, AM.sRetN, AM.sIf, AM.sAsg, AM.sPar, AM.sPar3, AM.sParN, AM.setAll, AM.sFor, AM.sFrz, AM.sSetIx, AM.sFldA, AM.gNm, AM.gNilA, AM.gConsA, AM.gTupA, AM.cVar, AM.cC, AM.cBin, AM.cUn, AM.aBin, AM.aUn, AM.aFn, AM.cBi, AM.cCall, AM.cTest, AM.cTruth, AM.cAndT, AM.cOrT, AM.cNotT, AM.cAndV, AM.cOrV, AM.cNotV, AM.cIf, AM.cNil, AM.cCons, AM.cStar, AM.cTup, AM.cLst, AM.cLstM, AM.cSl, AM.oNone, AM.oSome, AM.cRev, AM.cRevL, AM.cIter, AM.iterD, AM.cRange1, AM.cRange2, AM.cEnum, AM.cZip, AM.cChain, AM.cMut, AM.isLst, AM.cM1, AM.cFld, AM.cProp, AM.cMeth, AM.isObj, AM.cMake, AM.makeW, AM.cMakeD, AM.cMakeK, AM.makeKW, AM.strOwnW, AM.eqOwnW, AM.boolOwnW, AM.knownW, AM.view_val, AM.view_ref, AM.views, AM.toD_val, AM.toD_ref, AM.toDs, AM.Rs.bind, AM.Rs.bindT, AM.tYesM, AM.putD, AM.gI, AM.wipeE, AM.cJoin, AM.cJs, Option.bind_some, Option.bind_none, Option.map_some, Option.map_none, List.map_cons, List.map_nil, List.length_cons, List.length_nil, List.replicate, List.append_eq, List.cons_append, List.nil_append, List.getElem?_cons_zero, List.getElem?_cons_succ, List.set_cons_zero, List.set_cons_succ, List.take_length, AM.take_set, Nat.reduceAdd, Nat.reduceSub, Nat.reduceLeDiff, Nat.reduceLT, if_true, if_false, ite_true, ite_false, reduceIte, AM.sBad, Bool.not_true, Bool.not_false, Bool.false_eq_true, Bool.true_and, Bool.and_true, Bool.false_and, Bool.and_false, Bool.true_or, Bool.or_true, Bool.false_or, Bool.or_false, not_true_eq_false, not_false_eq_true, decide_true, decide_false, and_self, true_and, and_true, isiD, isiDD, kindOf, AM.kb_NoneType_int, AM.kb_NoneType_str, AM.kb_NoneType_bool, AM.kb_NoneType_tuple, AM.kb_NoneType_list, AM.kb_NoneType_dict, AM.kb_bool_int, AM.kb_bool_str, AM.kb_bool_bool, AM.kb_bool_tuple, AM.kb_bool_list, AM.kb_bool_dict, AM.kb_int_int, AM.kb_int_str, AM.kb_int_bool, AM.kb_int_tuple, AM.kb_int_list, AM.kb_int_dict, AM.kb_str_int, AM.kb_str_str, AM.kb_str_bool, AM.kb_str_tuple, AM.kb_str_list, AM.kb_str_dict, AM.kb_tuple_int, AM.kb_tuple_str, AM.kb_tuple_bool, AM.kb_tuple_tuple, AM.kb_tuple_list, AM.kb_tuple_dict, AM.kb_list_int, AM.kb_list_str, AM.kb_list_bool, AM.kb_list_tuple, AM.kb_list_list, AM.kb_list_dict, AM.kb_dict_int, AM.kb_dict_str, AM.kb_dict_bool, AM.kb_dict_tuple, AM.kb_dict_list, AM.kb_dict_dict, neD, eqDD, scE, lenD, standD, ixD, atI0, atI1, is_name_eq ha, is_between_eq hb]
        cases nameD a <;> simp
      | _ :: _ :: _ :: l, _ =>
        have : ¬ ((l.length : Int) + 1 + 1 + 1 = 2) := by omega
        simp [F_is_stand, m_is_stand, AM.callF, AM.exitF, AM.exitW, AM.sNil, AM.sSeq, AM.sExpr, AM.sRet, AM.sRetN, AM.sIf, AM.sAsg, AM.sPar, AM.sPar3, AM.sParN, AM.setAll, AM.sFor, AM.sFrz, AM.sSetIx, AM.sFldA, AM.gNm, AM.gNilA, AM.gConsA, AM.gTupA, AM.cVar, AM.cC, AM.cBin, AM.cUn, AM.aBin, AM.aUn, AM.aFn, AM.cBi, AM.cCall, AM.cTest, AM.cTruth, AM.cAndT, AM.cOrT, AM.cNotT, AM.cAndV, AM.cOrV, AM.cNotV, AM.cIf, AM.cNil, AM.cCons, AM.cStar, AM.cTup, AM.cLst, AM.cLstM, AM.cSl, AM.oNone, AM.oSome, AM.cRev, AM.cRevL, AM.cIter, AM.iterD, AM.cRange1, AM.cRange2, AM.cEnum, AM.cZip, AM.cChain, AM.cMut, AM.isLst, AM.cM1, AM.cFld, AM.cProp, AM.cMeth, AM.isObj, AM.cMake, AM.makeW, AM.cMakeD, AM.cMakeK, AM.makeKW, AM.strOwnW, AM.eqOwnW, AM.boolOwnW, AM.knownW, AM.view_val, AM.view_ref, AM.views, AM.toD_val, AM.toD_ref, AM.toDs, AM.Rs.bind, AM.Rs.bindT, AM.tYesM, AM.putD, AM.gI, AM.wipeE, AM.cJoin, AM.cJs, Option.bind_some, Option.bind_none, Option.map_some, Option.map_none, List.map_cons, List.map_nil, List.length_cons, List.length_nil, List.replicate, List.append_eq, List.cons_append, List.nil_append, List.getElem?_cons_zero, List.getElem?_cons_succ, List.set_cons_zero, List.set_cons_succ, List.take_length, AM.take_set, Nat.reduceAdd, Nat.reduceSub, Nat.reduceLeDiff, Nat.reduceLT, if_true, if_false, ite_true, ite_false, reduceIte, AM.sBad, Bool.not_true, Bool.not_false, Bool.false_eq_true, Bool.true_and, Bool.and_true, Bool.false_and, Bool.and_false, Bool.true_or, Bool.or_true, Bool.false_or, Bool.or_false, not_true_eq_false, not_false_eq_true, decide_true, decide_false, and_self, true_and, and_true, isiD, isiDD, kindOf, AM.kb_NoneType_int, AM.kb_NoneType_str, AM.kb_NoneType_bool, AM.kb_NoneType_tuple, AM.kb_NoneType_list, AM.kb_NoneType_dict, AM.kb_bool_int, AM.kb_bool_str, AM.kb_bool_bool, AM.kb_bool_tuple, AM.kb_bool_list, AM.kb_bool_dict, AM.kb_int_int, AM.kb_int_str, AM.kb_int_bool, AM.kb_int_tuple, AM.kb_int_list, AM.kb_int_dict, AM.kb_str_int, AM.kb_str_str, AM.kb_str_bool, AM.kb_str_tuple, AM.kb_str_list, AM.kb_str_dict, AM.kb_tuple_int, AM.kb_tuple_str, AM.kb_tuple_bool, AM.kb_tuple_tuple, AM.kb_tuple_list, AM.kb_tuple_dict, AM.kb_list_int, AM.kb_list_str, AM.kb_list_bool, AM.kb_list_tuple, AM.kb_list_list, AM.kb_list_dict, AM.kb_dict_int, AM.kb_dict_str, AM.kb_dict_bool, AM.kb_dict_tuple, AM.kb_dict_list, AM.kb_dict_dict, neD, eqDD, scE, lenD, standD, this]
    | tux l => exact absurd rfl (hx l)
    | _ => first | (exact absurd rfl h) | simp [F_is_stand, m_is_stand, AM.callF, AM.exitF, AM.exitW, AM.sNil, AM.sSeq, AM.sExpr, AM.sRet, AM.sRetN, AM.sIf, AM.sAsg, AM.sPar, AM.sPar3, AM.sParN, AM.setAll, AM.sFor, AM.sFrz, AM.sSetIx, AM.sFldA, AM.gNm, AM.gNilA, AM.gConsA, AM.gTupA, AM.cVar, AM.cC, AM.cBin, AM.cUn, AM.aBin, AM.aUn, AM.aFn, AM.cBi, AM.cCall, AM.cTest, AM.cTruth, AM.cAndT, AM.cOrT, AM.cNotT, AM.cAndV, AM.cOrV, AM.cNotV, AM.cIf, AM.cNil, AM.cCons, AM.cStar, AM.cTup, AM.cLst, AM.cLstM, AM.cSl, AM.oNone, AM.oSome, AM.cRev, AM.cRevL, AM.cIter, AM.iterD, AM.cRange1, AM.cRange2, AM.cEnum, AM.cZip, AM.cChain, AM.cMut, AM.isLst, AM.cM1, AM.cFld, AM.cProp, AM.cMeth, AM.isObj, AM.cMake, AM.makeW, AM.cMakeD, AM.cMakeK, AM.makeKW, AM.strOwnW, AM.eqOwnW, AM.boolOwnW, AM.knownW, AM.view_val, AM.view_ref, AM.views, AM.toD_val, AM.toD_ref, AM.toDs, AM.Rs.bind, AM.Rs.bindT, AM.tYesM, AM.putD, AM.gI, AM.wipeE, AM.cJoin, AM.cJs, Option.bind_some, Option.bind_none, Option.map_some, Option.map_none, List.map_cons, List.map_nil, List.length_cons, List.length_nil, List.replicate, List.append_eq, List.cons_append, List.nil_append, List.getElem?_cons_zero, List.getElem?_cons_succ, List.set_cons_zero, List.set_cons_succ, List.take_length, AM.take_set, Nat.reduceAdd, Nat.reduceSub, Nat.reduceLeDiff, Nat.reduceLT, if_true, if_false, ite_true, ite_false, reduceIte, AM.sBad, Bool.not_true, Bool.not_false, Bool.false_eq_true, Bool.true_and, Bool.and_true, Bool.false_and, Bool.and_false, Bool.true_or, Bool.or_true, Bool.false_or, Bool.or_false, not_true_eq_false, not_false_eq_true, decide_true, decide_false, and_self, true_and, and_true, isiD, isiDD, kindOf, standD, AM.kb_NoneType_int, AM.kb_NoneType_str, AM.kb_NoneType_bool, AM.kb_NoneType_tuple, AM.kb_NoneType_list, AM.kb_NoneType_dict, AM.kb_bool_int, AM.kb_bool_str, AM.kb_bool_bool, AM.kb_bool_tuple, AM.kb_bool_list, AM.kb_bool_dict, AM.kb_int_int, AM.kb_int_str, AM.kb_int_bool, AM.kb_int_tuple, AM.kb_int_list, AM.kb_int_dict, AM.kb_str_int, AM.kb_str_str, AM.kb_str_bool, AM.kb_str_tuple, AM.kb_str_list, AM.kb_str_dict, AM.kb_tuple_int, AM.kb_tuple_str, AM.kb_tuple_bool, AM.kb_tuple_tuple, AM.kb_tuple_list, AM.kb_tuple_dict, AM.kb_list_int, AM.kb_list_str, AM.kb_list_bool, AM.kb_list_tuple, AM.kb_list_list, AM.kb_list_dict, AM.kb_dict_int, AM.kb_dict_str, AM.kb_dict_bool, AM.kb_dict_tuple, AM.kb_dict_list, AM.kb_dict_dict]
  · simp [F_is_stand, m_is_stand, AM.callF, AM.exitF, AM.exitW, AM.sNil, AM.sSeq, AM.sExpr, AM.sRet, AM.sRetN, AM.sIf, AM.sAsg, AM.sPar, AM.sPar3, AM.sParN, AM.setAll, AM.sFor, AM.sFrz, AM.sSetIx, AM.sFldA, AM.gNm, AM.gNilA, AM.gConsA, AM.gTupA, AM.cVar, AM.cC, AM.cBin, AM.cUn, AM.aBin, AM.aUn, AM.aFn, AM.cBi, AM.cCall, AM.cTest, AM.cTruth, AM.cAndT, AM.cOrT, AM.cNotT, AM.cAndV, AM.cOrV, AM.cNotV, AM.cIf, AM.cNil, AM.cCons, AM.cStar, AM.cTup, AM.cLst, AM.cLstM, AM.cSl, AM.oNone, AM.oSome, AM.cRev, AM.cRevL, AM.cIter, AM.iterD, AM.cRange1, AM.cRange2, AM.cEnum, AM.cZip, AM.cChain, AM.cMut, AM.isLst, AM.cM1, AM.cFld, AM.cProp, AM.cMeth, AM.isObj, AM.cMake, AM.makeW, AM.cMakeD, AM.cMakeK, AM.makeKW, AM.strOwnW, AM.eqOwnW, AM.boolOwnW, AM.knownW, AM.view_val, AM.view_ref, AM.views, AM.toD_val, AM.toD_ref, AM.toDs, AM.Rs.bind, AM.Rs.bindT, AM.tYesM, AM.putD, AM.gI, AM.wipeE, AM.cJoin, AM.cJs, Option.bind_some, Option.bind_none, Option.map_some, Option.map_none, List.map_cons, List.map_nil, List.length_cons, List.length_nil, List.replicate, List.append_eq, List.cons_append, List.nil_append, List.getElem?_cons_zero, List.getElem?_cons_succ, List.set_cons_zero, List.set_cons_succ, List.take_length, AM.take_set, Nat.reduceAdd, Nat.reduceSub, Nat.reduceLeDiff, Nat.reduceLT, if_true, if_false, ite_true, ite_false, reduceIte, AM.sBad, Bool.not_true, Bool.not_false, Bool.false_eq_true, Bool.true_and, Bool.and_true, Bool.false_and, Bool.and_false, Bool.true_or, Bool.or_true, Bool.false_or, Bool.or_false, not_true_eq_false, not_false_eq_true, decide_true, decide_false, and_self, true_and, and_true, isiD, isiDD, kindOf, standD, AM.kb_NoneType_int, AM.kb_NoneType_str, AM.kb_NoneType_bool, AM.kb_NoneType_tuple, AM.kb_NoneType_list, AM.kb_NoneType_dict, AM.kb_bool_int, AM.kb_bool_str, AM.kb_bool_bool, AM.kb_bool_tuple, AM.kb_bool_list, AM.kb_bool_dict, AM.kb_int_int, AM.kb_int_str, AM.kb_int_bool, AM.kb_int_tuple, AM.kb_int_list, AM.kb_int_dict, AM.kb_str_int, AM.kb_str_str, AM.kb_str_bool, AM.kb_str_tuple, AM.kb_str_list, AM.kb_str_dict, AM.kb_tuple_int, AM.kb_tuple_str, AM.kb_tuple_bool, AM.kb_tuple_tuple, AM.kb_tuple_list, AM.kb_tuple_dict, AM.kb_list_int, AM.kb_list_str, AM.kb_list_bool, AM.kb_list_tuple, AM.kb_list_list, AM.kb_list_dict, AM.kb_dict_int, AM.kb_dict_str, AM.kb_dict_bool, AM.kb_dict_tuple, AM.kb_dict_list, AM.kb_dict_dict, hC, plainTys]
theorem is_among_eq {ns : List Str} {d : D} {S : Sto} (h : Kn d) : F_is_among [.val (.tux (ns.map D.str)), .val d] S = .ok (.val (.bl (amongD ns d))) S := by
  rcases h with h | ⟨C, fs, rfl, hC⟩
  · cases d with
    | str x => simp [F_is_among, m_is_among, AM.callF, AM.exitF, AM.exitW, AM.sNil, AM.sSeq, AM.sExpr, AM.sRet, AM.sRetN, AM.sIf, AM.sAsg, AM.sPar, AM.sPar3, AM.sParN, AM.setAll, AM.sFor, AM.sFrz, AM.sSetIx, AM.sFldA, AM.gNm, AM.gNilA, AM.gConsA, AM.gTupA, AM.cVar, AM.cC, AM.cBin, AM.cUn, AM.aBin, AM.aUn, AM.aFn, AM.cBi, AM.cCall, AM.cTest, AM.cTruth, AM.cAndT, AM.cOrT, AM.cNotT, AM.cAndV, AM.cOrV, AM.cNotV, AM.cIf, AM.cNil, AM.cCons, AM.cStar, AM.cTup, AM.cLst, AM.cLstM, AM.cSl, AM.oNone, AM.oSome, AM.cRev, AM.cRevL, AM.cIter, AM.iterD, AM.cRange1, AM.cRange2, AM.cEnum, AM.cZip, AM.cChain, AM.cMut, AM.isLst, AM.cM1, AM.cFld, AM.cProp, AM.cMeth, AM.isObj, AM.cMake, AM.makeW, AM.cMakeD, AM.cMakeK, AM.makeKW, AM.strOwnW, AM.eqOwnW, AM.boolOwnW, AM.knownW, AM.view_val, AM.view_ref, AM.views, AM.toD_val, AM.toD_ref, AM.toDs, AM.Rs.bind, AM.Rs.bindT, AM.tYesM, AM.putD, AM.gI, AM.wipeE, AM.cJoin, AM.cJs, Option.bind_some, Option.bind_none, Option.map_some, Option.map_none, List.map_cons, List.map_nil, List.length_cons, List.length_nil, List.replicate, List.append_eq, List.cons_append, List.nil_append, List.getElem?_cons_zero, List.getElem?_cons_succ, List.set_cons_zero, List.set_cons_succ, List.take_length, AM.take_set, Nat.reduceAdd, Nat.reduceSub, Nat.reduceLeDiff, Nat.reduceLT, if_true, if_false, ite_true, ite_false, reduceIte, AM.sBad, Bool.not_true, Bool.not_false, Bool.false_eq_true, Bool.true_and, Bool.and_true, Bool.false_and, Bool.and_false, Bool.true_or, Bool.or_true, Bool.false_or, Bool.or_false, not_true_eq_false, not_false_eq_true, decide_true, decide_false, and_self, true_and, and_true, isiD, isiDD, kindOf, AM.kb_NoneType_int, AM.kb_NoneType_str, AM.kb_NoneType_bool, AM.kb_NoneType_tuple, AM.kb_NoneType_list, AM.kb_NoneType_dict, AM.kb_bool_int, AM.kb_bool_str, AM.kb_bool_bool, AM.kb_bool_tuple, AM.kb_bool_list, AM.kb_bool_dict, AM.kb_int_int, AM.kb_int_str, AM.kb_int_bool, AM.kb_int_tuple, AM.kb_int_list, AM.kb_int_dict, AM.kb_str_int, AM.kb_str_str, AM.kb_str_bool, AM.kb_str_tuple, AM.kb_str_list, AM.kb_str_dict, AM.kb_tuple_int, AM.kb_tuple_str, AM.kb_tuple_bool, AM.kb_tuple_tuple, AM.kb_tuple_list, AM.kb_tuple_dict, AM.kb_list_int, AM.kb_list_str, AM.kb_list_bool, AM.kb_list_tuple, AM.kb_list_list, AM.kb_list_dict, AM.kb_dict_int, AM.kb_dict_str, AM.kb_dict_bool, AM.kb_dict_tuple, AM.kb_dict_list, AM.kb_dict_dict, inD, in_strsX, amongD]
    | _ => first | (exact absurd rfl h) | simp [F_is_among, m_is_among, AM.callF, AM.exitF, AM.exitW, AM.sNil, AM.sSeq, AM.sExpr, AM.sRet, AM.sRetN, AM.sIf, AM.sAsg, AM.sPar, AM.sPar3, AM.sParN, AM.setAll, AM.sFor, AM.sFrz, AM.sSetIx, AM.sFldA, AM.gNm, AM.gNilA, AM.gConsA, AM.gTupA, AM.cVar, AM.cC, AM.cBin, AM.cUn, AM.aBin, AM.aUn, AM.aFn, AM.cBi, AM.cCall, AM.cTest, AM.cTruth, AM.cAndT, AM.cOrT, AM.cNotT, AM.cAndV, AM.cOrV, AM.cNotV, AM.cIf, AM.cNil, AM.cCons, AM.cStar, AM.cTup, AM.cLst, AM.cLstM, AM.cSl, AM.oNone, AM.oSome, AM.cRev, AM.cRevL, AM.cIter, AM.iterD, AM.cRange1, AM.cRange2, AM.cEnum, AM.cZip, AM.cChain, AM.cMut, AM.isLst, AM.cM1, AM.cFld, AM.cProp, AM.cMeth, AM.isObj, AM.cMake, AM.makeW, AM.cMakeD, AM.cMakeK, AM.makeKW, AM.strOwnW, AM.eqOwnW, AM.boolOwnW, AM.knownW, AM.view_val, AM.view_ref, AM.views, AM.toD_val, AM.toD_ref, AM.toDs, AM.Rs.bind, AM.Rs.bindT, AM.tYesM, AM.putD, AM.gI, AM.wipeE, AM.cJoin, AM.cJs, Option.bind_some, Option.bind_none, Option.map_some, Option.map_none, List.map_cons, List.map_nil, List.length_cons, List.length_nil, List.replicate, List.append_eq, List.cons_append, List.nil_append, List.getElem?_cons_zero, List.getElem?_cons_succ, List.set_cons_zero, List.set_cons_succ, List.take_length, AM.take_set, Nat.reduceAdd, Nat.reduceSub, Nat.reduceLeDiff, Nat.reduceLT, if_true, if_false, ite_true, ite_false, reduceIte, AM.sBad, Bool.not_true, Bool.not_false, Bool.false_eq_true, Bool.true_and, Bool.and_true, Bool.false_and, Bool.and_false, Bool.true_or, Bool.or_true, Bool.false_or, Bool.or_false, not_true_eq_false, not_false_eq_true, decide_true, decide_false, and_self, true_and, and_true, isiD, isiDD, kindOf, amongD, AM.kb_NoneType_int, AM.kb_NoneType_str, AM.kb_NoneType_bool, AM.kb_NoneType_tuple, AM.kb_NoneType_list, AM.kb_NoneType_dict, AM.kb_bool_int, AM.kb_bool_str, AM.kb_bool_bool, AM.kb_bool_tuple, AM.kb_bool_list, AM.kb_bool_dict, AM.kb_int_int, AM.kb_int_str, AM.kb_int_bool, AM.kb_int_tuple, AM.kb_int_list, AM.kb_int_dict, AM.kb_str_int, AM.kb_str_str, AM.kb_str_bool, AM.kb_str_tuple, AM.kb_str_list, AM.kb_str_dict, AM.kb_tuple_int, AM.kb_tuple_str, AM.kb_tuple_bool, AM.kb_tuple_tuple, AM.kb_tuple_list, AM.kb_tuple_dict, AM.kb_list_int, AM.kb_list_str, AM.kb_list_bool, AM.kb_list_tuple, AM.kb_list_list, AM.kb_list_dict, AM.kb_dict_int, AM.kb_dict_str, AM.kb_dict_bool, AM.kb_dict_tuple, AM.kb_dict_list, AM.kb_dict_dict]
  · simp [F_is_among, m_is_among, AM.callF, AM.exitF, AM.exitW, AM.sNil, AM.sSeq, AM.sExpr, AM.sRet, AM.sRetN, AM.sIf, AM.sAsg, AM.sPar, AM.sPar3, AM.sParN, AM.setAll, AM.sFor, AM.sFrz, AM.sSetIx, AM.sFldA, AM.gNm, AM.gNilA, AM.gConsA, AM.gTupA, AM.cVar, AM.cC, AM.cBin, AM.cUn, AM.aBin, AM.aUn, AM.aFn, AM.cBi, AM.cCall, AM.cTest, AM.cTruth, AM.cAndT, AM.cOrT, AM.cNotT, AM.cAndV, AM.cOrV, AM.cNotV, AM.cIf, AM.cNil, AM.cCons, AM.cStar, AM.cTup, AM.cLst, AM.cLstM, AM.cSl, AM.oNone, AM.oSome, AM.cRev, AM.cRevL, AM.cIter, AM.iterD, AM.cRange1, AM.cRange2, AM.cEnum, AM.cZip, AM.cChain, AM.cMut, AM.isLst, AM.cM1, AM.cFld, AM.cProp, AM.cMeth, AM.isObj, AM.cMake, AM.makeW, AM.cMakeD, AM.cMakeK, AM.makeKW, AM.strOwnW, AM.eqOwnW, AM.boolOwnW, AM.knownW, AM.view_val, AM.view_ref, AM.views, AM.toD_val, AM.toD_ref, AM.toDs, AM.Rs.bind, AM.Rs.bindT, AM.tYesM, AM.putD, AM.gI, AM.wipeE, AM.cJoin, AM.cJs, Option.bind_some, Option.bind_none, Option.map_some, Option.map_none, List.map_cons, List.map_nil, List.length_cons, List.length_nil, List.replicate, List.append_eq, List.cons_append, List.nil_append, List.getElem?_cons_zero, List.getElem?_cons_succ, List.set_cons_zero, List.set_cons_succ, List.take_length, AM.take_set, Nat.reduceAdd, Nat.reduceSub, Nat.reduceLeDiff, Nat.reduceLT, if_true, if_false, ite_true, ite_false, reduceIte, AM.sBad, Bool.not_true, Bool.not_false, Bool.false_eq_true, Bool.true_and, Bool.and_true, Bool.false_and, Bool.and_false, Bool.true_or, Bool.or_true, Bool.false_or, Bool.or_false, not_true_eq_false, not_false_eq_true, decide_true, decide_false, and_self, true_and, and_true, isiD, isiDD, kindOf, amongD, AM.kb_NoneType_int, AM.kb_NoneType_str, AM.kb_NoneType_bool, AM.kb_NoneType_tuple, AM.kb_NoneType_list, AM.kb_NoneType_dict, AM.kb_bool_int, AM.kb_bool_str, AM.kb_bool_bool, AM.kb_bool_tuple, AM.kb_bool_list, AM.kb_bool_dict, AM.kb_int_int, AM.kb_int_str, AM.kb_int_bool, AM.kb_int_tuple, AM.kb_int_list, AM.kb_int_dict, AM.kb_str_int, AM.kb_str_str, AM.kb_str_bool, AM.kb_str_tuple, AM.kb_str_list, AM.kb_str_dict, AM.kb_tuple_int, AM.kb_tuple_str, AM.kb_tuple_bool, AM.kb_tuple_tuple, AM.kb_tuple_list, AM.kb_tuple_dict, AM.kb_list_int, AM.kb_list_str, AM.kb_list_bool, AM.kb_list_tuple, AM.kb_list_list, AM.kb_list_dict, AM.kb_dict_int, AM.kb_dict_str, AM.kb_dict_bool, AM.kb_dict_tuple, AM.kb_dict_list, AM.kb_dict_dict, hC, plainTys]
theorem is_road_eq {ns : List Str} {d : D} {S : Sto} (hx : ∀ l, d ≠ .tux l) (h : Kn d) (hk : ∀ l, d = .tup l → ∀ x ∈ l, Kn x) : F_is_road [.val (.tux (ns.map D.str)), .val d] S = .ok (.val (.bl (roadD ns d))) S := by
  rcases h with h | ⟨C, fs, rfl, hC⟩
  · cases d with
    | tup l =>
      have hl := hk l rfl
      match l, hl with
      | [], _ => simp [F_is_road, m_is_road, AM.callF, AM.exitF, AM.exitW, AM.sNil, AM.sSeq, AM.sExpr, AM.sRet, AM.sRetN, AM.sIf, AM.sAsg, AM.sPar, AM.sPar3, AM.sParN, AM.setAll, AM.sFor, AM.sFrz, AM.sSetIx, AM.sFldA, AM.gNm, AM.gNilA, AM.gConsA, AM.gTupA, AM.cVar, AM.cC, AM.cBin, AM.cUn, AM.aBin, AM.aUn, AM.aFn, AM.cBi, AM.cCall, AM.cTest, AM.cTruth, AM.cAndT, AM.cOrT, AM.cNotT, AM.cAndV, AM.cOrV, AM.cNotV, AM.cIf, AM.cNil, AM.cCons, AM.cStar, AM.cTup, AM.cLst, AM.cLstM, AM.cSl, AM.oNone, AM.oSome, AM.cRev, AM.cRevL, AM.cIter, AM.iterD, AM.cRange1, AM.cRange2, AM.cEnum, AM.cZip, AM.cChain, AM.cMut, AM.isLst, AM.cM1, AM.cFld, AM.cProp, AM.cMeth, AM.isObj, AM.cMake, AM.makeW, AM.cMakeD, AM.cMakeK, AM.makeKW, AM.strOwnW, AM.eqOwnW, AM.boolOwnW, AM.knownW, AM.view_val, AM.view_ref, AM.views, AM.toD_val, AM.toD_ref, AM.toDs, AM.Rs.bind, AM.Rs.bindT, AM.tYesM, AM.putD, AM.gI, AM.wipeE, AM.cJoin, AM.cJs, Option.bind_some, Option.bind_none, Option.map_some, Option.map_none, List.map_cons, List.map_nil, List.length_cons, List.length_nil, List.replicate, List.append_eq, List.cons_append, List.nil_append, List.getElem?_cons_zero, List.getElem?_cons_succ, List.set_cons_zero, List.set_cons_succ, List.take_length, AM.take_set, Nat.reduceAdd, Nat.reduceSub, Nat.reduceLeDiff, Nat.reduceLT, if_true, if_false, ite_true, ite_false, reduceIte, AM.sBad, Bool.not_true, Bool.not_false, Bool.false_eq_true, Bool.true_and, Bool.and_true, Bool.false_and, Bool.and_false, Bool.true_or, Bool.or_true, Bool.false_or, Bool.or_false, not_true_eq_false, not_false_eq_true, decide_true, decide_false, and_self, true_and, and_true, isiD, isiDD, kindOf, AM.kb_NoneType_int, AM.kb_NoneType_str, AM.kb_NoneType_bool, AM.kb_NoneType_tuple, AM.kb_NoneType_list, AM.kb_NoneType_dict, AM.kb_bool_int, AM.kb_bool_str, AM.kb_bool_bool, AM.kb_bool_tuple, AM.kb_bool_list, AM.kb_bool_dict, AM.kb_int_int, AM.kb_int_str, AM.kb_int_bool, AM.kb_int_tuple, AM.kb_int_list, AM.kb_int_dict, AM.kb_str_int, AM.kb_str_str, AM.kb_str_bool, AM.kb_str_tuple, AM.kb_str_list, AM.kb_str_dict, AM.kb_tuple_int, AM.kb_tuple_str, AM.kb_tuple_bool, AM.kb_tuple_tuple, AM.kb_tuple_list, AM.kb_tuple_dict, AM.kb_list_int, AM.kb_list_str, AM.kb_list_bool, AM.kb_list_tuple, AM.kb_list_list, AM.kb_list_dict, AM.kb_dict_int, AM.kb_dict_str, AM.kb_dict_bool, AM.kb_dict_tuple, AM.kb_dict_list, AM.kb_dict_dict, neD, eqDD, scE, lenD, roadD]
      | [_], _ => simp [F_is_road, m_is_road, AM.callF, AM.exitF, AM.exitW, AM.sNil, AM.sSeq, AM.sExpr, AM.sRet, AM.sRetN, AM.sIf, AM.sAsg, AM.sPar, AM.sPar3, AM.sParN, AM.setAll, AM.sFor, AM.sFrz, AM.sSetIx, AM.sFldA, AM.gNm, AM.gNilA, AM.gConsA, AM.gTupA, AM.cVar, AM.cC, AM.cBin, AM.cUn, AM.aBin, AM.aUn, AM.aFn, AM.cBi, AM.cCall, AM.cTest, AM.cTruth, AM.cAndT, AM.cOrT, AM.cNotT, AM.cAndV, AM.cOrV, AM.cNotV, AM.cIf, AM.cNil, AM.cCons, AM.cStar, AM.cTup, AM.cLst, AM.cLstM, AM.cSl, AM.oNone, AM.oSome, AM.cRev, AM.cRevL, AM.cIter, AM.iterD, AM.cRange1, AM.cRange2, AM.cEnum, AM.cZip, AM.cChain, AM.cMut, AM.isLst, AM.cM1, AM.cFld, AM.cProp, AM.cMeth, AM.isObj, AM.cMake, AM.makeW, AM.cMakeD, AM.cMakeK, AM.makeKW, AM.strOwnW, AM.eqOwnW, AM.boolOwnW, AM.knownW, AM.view_val, AM.view_ref, AM.views, AM.toD_val, AM.toD_ref, AM.toDs, AM.Rs.bind, AM.Rs.bindT, AM.tYesM, AM.putD, AM.gI, AM.wipeE, AM.cJoin, AM.cJs, Option.bind_some, Option.bind_none, Option.map_some, Option.map_none, List.map_cons, List.map_nil, List.length_cons, List.length_nil, List.replicate, List.append_eq, List.cons_append, List.nil_append, List.getElem?_cons_zero, List.getElem?_cons_succ, List.set_cons_zero, List.set_cons_succ, List.take_length, AM.take_set, Nat.reduceAdd, Nat.reduceSub, Nat.reduceLeDiff, Nat.reduceLT, if_true, if_false, ite_true, ite_false, reduceIte, AM.sBad, Bool.not_true, Bool.not_false, Bool.false_eq_true, Bool.true_and, Bool.and_true, Bool.false_and, Bool.and_false, Bool.true_or, Bool.or_true, Bool.false_or, Bool.or_false, not_true_eq_false, not_false_eq_true, decide_true, decide_false, and_self, true_and, and_true, isiD, isiDD, kindOf, AM.kb_NoneType_int, AM.kb_NoneType_str, AM.kb_NoneType_bool, AM.kb_NoneType_tuple, AM.kb_NoneType_list, AM.kb_NoneType_dict, AM.kb_bool_int, AM.kb_bool_str, AM.kb_bool_bool, AM.kb_bool_tuple, AM.kb_bool_list, AM.kb_bool_dict, AM.kb_int_int, AM.kb_int_str, AM.kb_int_bool, AM.kb_int_tuple, AM.kb_int_list, AM.kb_int_dict, AM.kb_str_int, AM.kb_str_str, AM.kb_str_bool, AM.kb_str_tuple, AM.kb_str_list, AM.kb_str_dict, AM.kb_tuple_int, AM.kb_tuple_str, AM.kb_tuple_bool, AM.kb_tuple_tuple, AM.kb_tuple_list, AM.kb_tuple_dict, AM.kb_list_int, AM.kb_list_str, AM.kb_list_bool, AM.kb_list_tuple, AM.kb_list_list, AM.kb_list_dict, AM.kb_dict_int, AM.kb_dict_str, AM.kb_dict_bool, AM.kb_dict_tuple, AM.kb_dict_list, AM.kb_dict_dict, neD, eqDD, scE, lenD, roadD]
      | [_, _], _ => simp [F_is_road, m_is_road, AM.callF, AM.exitF, AM.exitW, AM.sNil, AM.sSeq, AM.sExpr, AM.sRet, AM.sRetN, AM.sIf, AM.sAsg, AM.sPar, AM.sPar3, AM.sParN, AM.setAll, AM.sFor, AM.sFrz, AM.sSetIx, AM.sFldA, AM.gNm, AM.gNilA, AM.gConsA, AM.gTupA, AM.cVar, AM.cC, AM.cBin, AM.cUn, AM.aBin, AM.aUn, AM.aFn, AM.cBi, AM.cCall, AM.cTest, AM.cTruth, AM.cAndT, AM.cOrT, AM.cNotT, AM.cAndV, AM.cOrV, AM.cNotV, AM.cIf, AM.cNil, AM.cCons, AM.cStar, AM.cTup, AM.cLst, AM.cLstM, AM.cSl, AM.oNone, AM.oSome, AM.cRev, AM.cRevL, AM.cIter, AM.iterD, AM.cRange1, AM.cRange2, AM.cEnum, AM.cZip, AM.cChain, AM.cMut, AM.isLst, AM.cM1, AM.cFld, AM.cProp, AM.cMeth, AM.isObj, AM.cMake, AM.makeW, AM.cMakeD, AM.cMakeK, AM.makeKW, AM.strOwnW, AM.eqOwnW, AM.boolOwnW, AM.knownW, AM.view_val, AM.view_ref, AM.views, AM.toD_val, AM.toD_ref, AM.toDs, AM.Rs.bind, AM.Rs.bindT, AM.tYesM, AM.putD, AM.gI, AM.wipeE, AM.cJoin, AM.cJs, Option.bind_some, Option.bind_none, Option.map_some, Option.map_none, List.map_cons, List.map_nil, List.length_cons, List.length_nil, List.replicate, List.append_eq, List.cons_append, List.nil_append, List.getElem?_cons_zero, List.getElem?_cons_succ, List.set_cons_zero, List.set_cons_succ, List.take_length, AM.take_set, Nat.reduceAdd, Nat.reduceSub, Nat.reduceLeDiff, Nat.reduceLT, if_true, if_false, ite_true, ite_false, reduceIte, AM.sBad, Bool.not_true, Bool.not_false, Bool.false_eq_true, Bool.true_and, Bool.and_true, Bool.false_and, Bool.and_false, Bool.true_or, Bool.or_true, Bool.false_or, Bool.or_false, not_true_eq_false, not_false_eq_true, decide_true, decide_false, and_self, true_and, and_true, isiD, isiDD, kindOf, AM.kb_NoneType_int, AM.kb_NoneType_str, AM.kb_NoneType_bool, AM.kb_NoneType_tuple, AM.kb_NoneType_list, AM.kb_NoneType_dict, AM.kb_bool_int, AM.kb_bool_str, AM.kb_bool_bool, AM.kb_bool_tuple, AM.kb_bool_list, AM.kb_bool_dict, AM.kb_int_int, AM.kb_int_str, AM.kb_int_bool, AM.kb_int_tuple, AM.kb_int_list, AM.kb_int_dict, AM.kb_str_int, AM.kb_str_str, AM.kb_str_bool, AM.kb_str_tuple, AM.kb_str_list, AM.kb_str_dict, AM.kb_tuple_int, AM.kb_tuple_str, AM.kb_tuple_bool, AM.kb_tuple_tuple, AM.kb_tuple_list, AM.kb_tuple_dict, AM.kb_list_int, AM.kb_list_str, AM.kb_list_bool, AM.kb_list_tuple, AM.kb_list_list, AM.kb_list_dict, AM.kb_dict_int, AM.kb_dict_str, AM.kb_dict_bool, AM.kb_dict_tuple, AM.kb_dict_list, AM.kb_dict_dict, neD, eqDD, scE, lenD, roadD]
      | [a, b, c], hl =>
        have ha := hl a (by simp)
        have hb := hl b (by simp)
        have hc := hl c (by simp)
        simp [F_is_road, m_is_road, AM.callF, AM.exitF, AM.exitW, AM.sNil, AM.sSeq, AM.sExpr, AM.sRet, AM.sRetN, AM.sIf, AM.sAsg, AM.sPar, AM.sPar3, AM.sParN, AM.setAll, AM.sFor, AM.sFrz, AM.sSetIx, AM.sFldA, AM.gNm, AM.gNilA, AM.gConsA, AM.gTupA, AM.cVar, AM.cC, AM.cBin, AM.cUn, AM.aBin, AM.aUn, AM.aFn, AM.cBi, AM.cCall, AM.cTest, AM.cTruth, AM.cAndT, AM.cOrT, AM.cNotT, AM.cAndV, AM.cOrV, AM.cNotV, AM.cIf, AM.cNil, AM.cCons, AM.cStar, AM.cTup, AM.cLst, AM.cLstM, AM.cSl, AM.oNone, AM.oSome, AM.cRev, AM.cRevL, AM.cIter, AM.iterD, AM.cRange1, AM.cRange2, AM.cEnum, AM.cZip, AM.cChain, AM.cMut, AM.isLst, AM.cM1, AM.cFld, AM.cProp, AM.cMeth, AM.isObj, AM.cMake, AM.makeW, AM.cMakeD, AM.cMakeK, AM.makeKW, AM.strOwnW, AM.eqOwnW, AM.boolOwnW, AM.knownW, AM.view_val, AM.view_ref, AM.views, AM.toD_val, AM.toD_ref, AM.toDs, AM.Rs.bind, AM.Rs.bindT, AM.tYesM, AM.putD, AM.gI, AM.wipeE, AM.cJoin, AM.cJs, Option.bind_some, Option.bind_none, Option.map_some, Option.map_none, List.map_cons, List.map_nil, List.length_cons, List.length_nil, List.replicate, List.append_eq, List.cons_append, List.nil_append, List.getElem?_cons_zero, List.getElem?_cons_succ, List.set_cons_zero, List.set_cons_succ, List.take_length, AM.take_set, Nat.reduceAdd, Nat.reduceSub, Nat.reduceLeDiff, Nat.reduceLT, if_true, if_false, ite_true, ite_false, reduceIte, AM.sBad, Bool.not_true, Bool.not_false, Bool.false_eq_true, Bool.true_and, Bool.and_true, Bool.false_and, Bool.and_false, Bool.true_or, Bool.or_true, Bool.false_or, Bool.or_false, not_true_eq_false, not_false_eq_true, decide_true, decide_false, and_self, true_and, and_true, isiD, isiDD, kindOf, AM.kb_NoneType_int, AM.kb_NoneType_str, AM.kb_NoneType_bool, AM.kb_NoneType_tuple, AM.kb_NoneType_list, AM.kb_NoneType_dict, AM.kb_bool_int, AM.kb_bool_str, AM.kb_bool_bool, AM.kb_bool_tuple, AM.kb_bool_list, AM.kb_bool_dict, AM.kb_int_int, AM.kb_int_str, AM.kb_int_bool, AM.kb_int_tuple, AM.kb_int_list, AM.kb_int_dict, AM.kb_str_int, AM.kb_str_str, AM.kb_str_bool, AM.kb_str_tuple, AM.kb_str_list, AM.kb_str_dict, AM.kb_tuple_int, AM.kb_tuple_str, AM.kb_tuple_bool, AM.kb_tuple_tuple, AM.kb_tuple_list, AM.kb_tuple_dict, AM.kb_list_int, AM.kb_list_str, AM.kb_list_bool, AM.kb_list_tuple, AM.kb_list_list, AM.kb_list_dict, AM.kb_dict_int, AM.kb_dict_str, AM.kb_dict_bool, AM.kb_dict_tuple, AM.kb_dict_list, AM.kb_dict_dict, neD, eqDD, scE, lenD, roadD, ixD, atI0, atI1, atI2, is_among_eq ha, is_among_eq hb, is_between_eq hc]
        cases amongD ns a <;> cases amongD ns b <;> simp
      | _ :: _ :: _ :: _ :: l, _ =>
        have : ¬ ((l.length : Int) + 1 + 1 + 1 + 1 = 3) := by omega
        simp [F_is_road, m_is_road, AM.callF, AM.exitF, AM.exitW, AM.sNil, AM.sSeq, AM.sExpr, AM.sRet, AM.sRetN, AM.sIf, AM.sAsg, AM.sPar, AM.sPar3, AM.sParN, AM.setAll, AM.sFor, AM.sFrz, AM.sSetIx, AM.sFldA, AM.gNm, AM.gNilA, AM.gConsA, AM.gTupA, AM.cVar, AM.cC, AM.cBin, AM.cUn, AM.aBin, AM.aUn, AM.aFn, AM.cBi, AM.cCall, AM.cTest, AM.cTruth, AM.cAndT, AM.cOrT, AM.cNotT, AM.cAndV, AM.cOrV, AM.cNotV, AM.cIf, AM.cNil, AM.cCons, AM.cStar, AM.cTup, AM.cLst, AM.cLstM, AM.cSl, AM.oNone, AM.oSome, AM.cRev, AM.cRevL, AM.cIter, AM.iterD, AM.cRange1, AM.cRange2, AM.cEnum, AM.cZip, AM.cChain, AM.cMut, AM.isLst, AM.cM1, AM.cFld, AM.cProp, AM.cMeth, AM.isObj, AM.cMake, AM.makeW, AM.cMakeD, AM.cMakeK, AM.makeKW, AM.strOwnW, AM.eqOwnW, AM.boolOwnW, AM.knownW, AM.view_val, AM.view_ref, AM.views, AM.toD_val, AM.toD_ref, AM.toDs, AM.Rs.bind, AM.Rs.bindT, AM.tYesM, AM.putD, AM.gI, AM.wipeE, AM.cJoin, AM.cJs, Option.bind_some, Option.bind_none, Option.map_some, Option.map_none, List.map_cons, List.map_nil, List.length_cons, List.length_nil, List.replicate, List.append_eq, List.cons_append, List.nil_append, List.getElem?_cons_zero, List.getElem?_cons_succ, List.set_cons_zero, List.set_cons_succ, List.take_length, AM.take_set, Nat.reduceAdd, Nat.reduceSub, Nat.reduceLeDiff, Nat.reduceLT, if_true, if_false, ite_true, ite_false, reduceIte, AM.sBad, Bool.not_true, Bool.not_false, Bool.false_eq_true, Bool.true_and, Bool.and_true, Bool.false_and, Bool.and_false, Bool.true_or, Bool.or_true, Bool.false_or, Bool.or_false, not_true_eq_false, not_false_eq_true, decide_true, decide_false, and_self, true_and, and_true, isiD, isiDD, kindOf, AM.kb_NoneType_int, AM.kb_NoneType_str, AM.kb_NoneType_bool, AM.kb_NoneType_tuple, AM.kb_NoneType_list, AM.kb_NoneType_dict, AM.kb_bool_int, AM.kb_bool_str, AM.kb_bool_bool, AM.kb_bool_tuple, AM.kb_bool_list, AM.kb_bool_dict, AM.kb_int_int, AM.kb_int_str, AM.kb_int_bool, AM.kb_int_tuple, AM.kb_int_list, AM.kb_int_dict, AM.kb_str_int, AM.kb_str_str, AM.kb_str_bool, AM.kb_str_tuple, AM.kb_str_list, AM.kb_str_dict, AM.kb_tuple_int, AM.kb_tuple_str, AM.kb_tuple_bool, AM.kb_tuple_tuple, AM.kb_tuple_list, AM.kb_tuple_dict, AM.kb_list_int, AM.kb_list_str, AM.kb_list_bool, AM.kb_list_tuple, AM.kb_list_list, AM.kb_list_dict, AM.kb_dict_int, AM.kb_dict_str, AM.kb_dict_bool, AM.kb_dict_tuple, AM.kb_dict_list, AM.kb_dict_dict, neD, eqDD, scE, lenD, roadD, this]
    | tux l => exact absurd rfl (hx l)
    | _ => first | (exact absurd rfl h) | simp [F_is_road, m_is_road, AM.callF, AM.exitF, AM.exitW, AM.sNil, AM.sSeq, AM.sExpr, AM.sRet, AM.sRetN, AM.sIf, AM.sAsg, AM.sPar, AM.sPar3, AM.sParN, AM.setAll, AM.sFor, AM.sFrz, AM.sSetIx, AM.sFldA, AM.gNm, AM.gNilA, AM.gConsA, AM.gTupA, AM.cVar, AM.cC, AM.cBin, AM.cUn, AM.aBin, AM.aUn, AM.aFn, AM.cBi, AM.cCall, AM.cTest, AM.cTruth, AM.cAndT, AM.cOrT, AM.cNotT, AM.cAndV, AM.cOrV, AM.cNotV, AM.cIf, AM.cNil, AM.cCons, AM.cStar, AM.cTup, AM.cLst, AM.cLstM, AM.cSl, AM.oNone, AM.oSome, AM.cRev, AM.cRevL, AM.cIter, AM.iterD, AM.cRange1, AM.cRange2, AM.cEnum, AM.cZip, AM.cChain, AM.cMut, AM.isLst, AM.cM1, AM.cFld, AM.cProp, AM.cMeth, AM.isObj, AM.cMake, AM.makeW, AM.cMakeD, AM.cMakeK, AM.makeKW, AM.strOwnW, AM.eqOwnW, AM.boolOwnW, AM.knownW, AM.view_val, AM.view_ref, AM.views, AM.toD_val, AM.toD_ref, AM.toDs, AM.Rs.bind, AM.Rs.bindT, AM.tYesM, AM.putD, AM.gI, AM.wipeE, AM.cJoin, AM.cJs, Option.bind_some, Option.bind_none, Option.map_some, Option.map_none, List.map_cons, List.map_nil, List.length_cons, List.length_nil, List.replicate, List.append_eq, List.cons_append, List.nil_append, List.getElem?_cons_zero, List.getElem?_cons_succ, List.set_cons_zero, List.set_cons_succ, List.take_length, AM.take_set, Nat.reduceAdd, Nat.reduceSub, Nat.reduceLeDiff, Nat.reduceLT, if_true, if_false, ite_true, ite_false, reduceIte, AM.sBad, Bool.not_true, Bool.not_false, Bool.false_eq_true, Bool.true_and, Bool.and_true, Bool.false_and, Bool.and_false, Bool.true_or, Bool.or_true, Bool.false_or, Bool.or_false, not_true_eq_false, not_false_eq_true, decide_true, decide_false, and_self, true_and, and_true, isiD, isiDD, kindOf, roadD, AM.kb_NoneType_int, AM.kb_NoneType_str, AM.kb_NoneType_bool, AM.kb_NoneType_tuple, AM.kb_NoneType_list, AM.kb_NoneType_dict, AM.kb_bool_int, AM.kb_bool_str, AM.kb_bool_bool, AM.kb_bool_tuple, AM.kb_bool_list, AM.kb_bool_dict, AM.kb_int_int, AM.kb_int_str, AM.kb_int_bool, AM.kb_int_tuple, AM.kb_int_list, AM.kb_int_dict, AM.kb_str_int, AM.kb_str_str, AM.kb_str_bool, AM.kb_str_tuple, AM.kb_str_list, AM.kb_str_dict, AM.kb_tuple_int, AM.kb_tuple_str, AM.kb_tuple_bool, AM.kb_tuple_tuple, AM.kb_tuple_list, AM.kb_tuple_dict, AM.kb_list_int, AM.kb_list_str, AM.kb_list_bool, AM.kb_list_tuple, AM.kb_list_list, AM.kb_list_dict, AM.kb_dict_int, AM.kb_dict_str, AM.kb_dict_bool, AM.kb_dict_tuple, AM.kb_dict_list, AM.kb_dict_dict]
  · simp [F_is_road, m_is_road, AM.callF, AM.exitF, AM.exitW, AM.sNil, AM.sSeq, AM.sExpr, AM.sRet, AM.sRetN, AM.sIf, AM.sAsg, AM.sPar, AM.sPar3, AM.sParN, AM.setAll, AM.sFor, AM.sFrz, AM.sSetIx, AM.sFldA, AM.gNm, AM.gNilA, AM.gConsA, AM.gTupA, AM.cVar, AM.cC, AM.cBin, AM.cUn, AM.aBin, AM.aUn, AM.aFn, AM.cBi, AM.cCall, AM.cTest, AM.cTruth, AM.cAndT, AM.cOrT, AM.cNotT, AM.cAndV, AM.cOrV, AM.cNotV, AM.cIf, AM.cNil, AM.cCons, AM.cStar, AM.cTup, AM.cLst, AM.cLstM, AM.cSl, AM.oNone, AM.oSome, AM.cRev, AM.cRevL, AM.cIter, AM.iterD, AM.cRange1, AM.cRange2, AM.cEnum, AM.cZip, AM.cChain, AM.cMut, AM.isLst, AM.cM1, AM.cFld, AM.cProp, AM.cMeth, AM.isObj, AM.cMake, AM.makeW, AM.cMakeD, AM.cMakeK, AM.makeKW, AM.strOwnW, AM.eqOwnW, AM.boolOwnW, AM.knownW, AM.view_val, AM.view_ref, AM.views, AM.toD_val, AM.toD_ref, AM.toDs, AM.Rs.bind, AM.Rs.bindT, AM.tYesM, AM.putD, AM.gI, AM.wipeE, AM.cJoin, AM.cJs, Option.bind_some, Option.bind_none, Option.map_some, Option.map_none, List.map_cons, List.map_nil, List.length_cons, List.length_nil, List.replicate, List.append_eq, List.cons_append, List.nil_append, List.getElem?_cons_zero, List.getElem?_cons_succ, List.set_cons_zero, List.set_cons_succ, List.take_length, AM.take_set, Nat.reduceAdd, Nat.reduceSub, Nat.reduceLeDiff, Nat.reduceLT, if_true, if_false, ite_true, ite_false, reduceIte, AM.sBad, Bool.not_true, Bool.not_false, Bool.false_eq_true, Bool.true_and, Bool.and_true, Bool.false_and, Bool.and_false, Bool.true_or, Bool.or_true, Bool.false_or, Bool.or_false, not_true_eq_false, not_false_eq_true, decide_true, decide_false, and_self, true_and, and_true, isiD, isiDD, kindOf, roadD, AM.kb_NoneType_int, AM.kb_NoneType_str, AM.kb_NoneType_bool, AM.kb_NoneType_tuple, AM.kb_NoneType_list, AM.kb_NoneType_dict, AM.kb_bool_int, AM.kb_bool_str, AM.kb_bool_bool, AM.kb_bool_tuple, AM.kb_bool_list, AM.kb_bool_dict, AM.kb_int_int, AM.kb_int_str, AM.kb_int_bool, AM.kb_int_tuple, AM.kb_int_list, AM.kb_int_dict, AM.kb_str_int, AM.kb_str_str, AM.kb_str_bool, AM.kb_str_tuple, AM.kb_str_list, AM.kb_str_dict, AM.kb_tuple_int, AM.kb_tuple_str, AM.kb_tuple_bool, AM.kb_tuple_tuple, AM.kb_tuple_list, AM.kb_tuple_dict, AM.kb_list_int, AM.kb_list_str, AM.kb_list_bool, AM.kb_list_tuple, AM.kb_list_list, AM.kb_list_dict, AM.kb_dict_int, AM.kb_dict_str, AM.kb_dict_bool, AM.kb_dict_tuple, AM.kb_dict_list, AM.kb_dict_dict, hC, plainTys]
end Bk
set_option Elab.async false
set_option linter.all false
set_option maxRecDepth 100000
set_option maxHeartbeats 4000000
namespace Bk
open PySem AM
def eS (s : Str × Int) : D := .tup [.str s.1, .int s.2]
def eSs (l : List (Str × Int)) : D := .tup (l.map eS)
def eR (r : Str × Str × Int) : D := .tup [.str r.1, .str r.2.1, .int r.2.2]
def eRs (l : List (Str × Str × Int)) : D := .tup (l.map eR)
def eN (l : List Str) : D := .tux (l.map .str)
def eNt (l : List Str) : D := .tup (l.map .str)
theorem standD_ok {s : Str × Int} (h : nameOk s.1 = true ∧ 1 ≤ s.2 ∧ s.2 ≤ 40) : standD (eS s) = true := by
  simp [standD, eS, nameD, betweenD, h.1, h.2.1, h.2.2]
theorem roadD_ok {ns : List Str} {s : Str × Str × Int} (h : s.1 ∈ ns ∧ s.2.1 ∈ ns ∧ 1 ≤ s.2.2 ∧ s.2.2 ≤ 3) : roadD ns (eR s) = true := by
  simp [roadD, eR, amongD, betweenD, h.1, h.2.1, h.2.2.1, h.2.2.2]
theorem kn_eS (s : Str × Int) : Kn (eS s) ∧ ∀ l, eS s = .tup l → ∀ x ∈ l, Kn x := by
  refine ⟨kn_tup _, fun l e x hx => ?_⟩
  cases e
  simp at hx
  rcases hx with rfl | rfl
  · exact kn_str _
  · exact kn_int _
theorem kn_eR (s : Str × Str × Int) : Kn (eR s) ∧ ∀ l, eR s = .tup l → ∀ x ∈ l, Kn x := by
  refine ⟨kn_tup _, fun l e x hx => ?_⟩
  cases e
  simp at hx
  rcases hx with rfl | rfl | rfl
  · exact kn_str _
  · exact kn_str _
  · exact kn_int _
theorem check_stands_loop (g : MG) (body : MS) (w0 : Option W) (S : Sto) (eg : g = gTupA 2 (gConsA (gNm 2) (gConsA (gNm 3) gNilA)))
    (eb : body = sSeq (sIf (cOrT (cTest (cBin (aBin eqD) (cVar 2) (cC (.int 5)))) (cOrT (cNotT (cTest (cCall F_is_stand (cCons (cVar 3) cNil)))) (cTest (cBin (aBin inD) (cBin (aBin ixD) (cVar 3) (cC (.int 0))) (cVar 1))))) sBad sNil) (sExpr (cMut gAppend (cVar 1) (cCons (cBin (aBin ixD) (cVar 3) (cC (.int 0))) cNil)))) :
    ∀ (rest : List (Str × Int)) (k : Nat) (names : List Str) (w2 w3 : Option W), k + rest.length ≤ 5 → (∀ s ∈ rest, nameOk s.1 = true ∧ 1 ≤ s.2 ∧ s.2 ≤ 40) → (names ++ rest.map (·.1)).Nodup → names.length + rest.length ≤ 5 →
      ∃ ε', forL g body (enumFrom k (rest.map eS)) [w0, some (.ref S.length), w2, w3] (S ++ [.lst (names.map .str)]) = .nx ε' (S ++ [.lst ((names ++ rest.map (·.1)).map .str)])
  | [], k, names, w2, w3, _, _, _, _ => ⟨[w0, some (.ref S.length), w2, w3], by simp [enumFrom, forL]⟩
  | s :: rest, k, names, w2, w3, hk, hs, hn, hl => by
    have h1 := hs s List.mem_cons_self
    have hk' : k + 1 + rest.length ≤ 5 := by simp only [List.length_cons] at hk; omega
    have k5 : ¬ ((k : Int) = 5) := by simp only [List.length_cons] at hk; omega
    have hni : s.1 ∉ names := by
      intro hm
      rw [List.nodup_append] at hn
      exact hn.2.2 s.1 hm s.1 (by simp) rfl
    obtain ⟨ε', e⟩ := check_stands_loop g body w0 S eg eb rest (k + 1) (names ++ [s.1]) (some (.val (.int k))) (some (.val (eS s))) hk' (fun x hx => hs x (List.mem_cons_of_mem _ hx)) (by rw [List.append_assoc]; exact hn) (by simp only [List.length_append, List.length_cons, List.length_nil] at hl ⊢; omega)
    refine ⟨ε', ?_⟩
    have hz : names.length < sizeLine := by rw [szl]; simp only [List.length_cons] at hl; omega
    rw [List.map_cons, enumFrom, forL, eg]
    have st : body [w0, some (.ref S.length), some (.val (.int k)), some (.val (eS s))] (S ++ [.lst (names.map .str)]) = .nx [w0, some (.ref S.length), some (.val (.int k)), some (.val (eS s))] (S ++ [.lst ((names ++ [s.1]).map .str)]) := by
      rw [eb]
      simp only [AM.callF, AM.exitF, AM.exitW, AM.sNil, AM.sSeq, AM.sExpr, AM.sRet, AM.sRetN, AM.sIf, AM.sAsg, AM.sPar, AM.sPar3, AM.sParN, AM.setAll, AM.sFor, AM.sFrz, AM.sSetIx, AM.sFldA, AM.gNm, AM.gNilA, AM.gConsA, AM.gTupA, AM.cVar, AM.cC, AM.cBin, AM.cUn, AM.aBin, AM.aUn, AM.aFn, AM.cBi, AM.cCall, AM.cTest, AM.cTruth, AM.cAndT, AM.cOrT, AM.cNotT, AM.cAndV, AM.cOrV, AM.cNotV, AM.cIf, AM.cNil, AM.cCons, AM.cStar, AM.cTup, AM.cLst, AM.cLstM, AM.cSl, AM.oNone, AM.oSome, AM.cRev, AM.cRevL, AM.cIter, AM.iterD, AM.cRange1, AM.cRange2, AM.cEnum, AM.cZip, AM.cChain, AM.cMut, AM.isLst, AM.cM1, AM.cFld, AM.cProp, AM.cMeth, AM.isObj, AM.cMake, AM.makeW, AM.cMakeD, AM.cMakeK, AM.makeKW, AM.strOwnW, AM.eqOwnW, AM.boolOwnW, AM.knownW, AM.view_val, AM.view_ref, AM.views, AM.toD_val, AM.toD_ref, AM.toDs, AM.Rs.bind, AM.Rs.bindT, AM.tYesM, AM.putD, AM.gI, AM.wipeE, AM.cJoin, AM.cJs, Option.bind_some, Option.bind_none, Option.map_some, Option.map_none, List.map_cons, List.map_nil, List.length_cons, List.length_nil, List.replicate, List.append_eq, List.cons_append, List.nil_append, List.getElem?_cons_zero, List.getElem?_cons_succ, List.set_cons_zero, List.set_cons_succ, List.take_length, AM.take_set, Nat.reduceAdd, Nat.reduceSub, Nat.reduceLeDiff, Nat.reduceLT, if_true, if_false, ite_true, ite_false, reduceIte, AM.sBad, Bool.not_true, Bool.not_false, Bool.false_eq_true, Bool.true_and, Bool.and_true, Bool.false_and, Bool.and_false, Bool.true_or, Bool.or_true, Bool.false_or, Bool.or_false, not_true_eq_false, not_false_eq_true, decide_true, decide_false, and_self, true_and, and_true, last_app, eqD, eqDD, scE, k5, is_stand_eq (fun _ z => by cases z) (kn_eS s).1 (kn_eS s).2, standD_ok h1]
      simp [eS, ixD, atI0, inD, in_strs, hni, AM.callF, AM.exitF, AM.exitW, AM.sNil, AM.sSeq, AM.sExpr, AM.sRet, AM.sRetN, AM.sIf, AM.sAsg, AM.sPar, AM.sPar3, AM.sParN, AM.setAll, AM.sFor, AM.sFrz, AM.sSetIx, AM.sFldA, AM.gNm, AM.gNilA, AM.gConsA, AM.gTupA, AM.cVar, AM.cC, AM.cBin, AM.cUn, AM.aBin, AM.aUn, AM.aFn, AM.cBi, AM.cCall, AM.cTest, AM.cTruth, AM.cAndT, AM.cOrT, AM.cNotT, AM.cAndV, AM.cOrV, AM.cNotV, AM.cIf, AM.cNil, AM.cCons, AM.cStar, AM.cTup, AM.cLst, AM.cLstM, AM.cSl, AM.oNone, AM.oSome, AM.cRev, AM.cRevL, AM.cIter, AM.iterD, AM.cRange1, AM.cRange2, AM.cEnum, AM.cZip, AM.cChain, AM.cMut, AM.isLst, AM.cM1, AM.cFld, AM.cProp, AM.cMeth, AM.isObj, AM.cMake, AM.makeW, AM.cMakeD, AM.cMakeK, AM.makeKW, AM.strOwnW, AM.eqOwnW, AM.boolOwnW, AM.knownW, AM.view_val, AM.view_ref, AM.views, AM.toD_val, AM.toD_ref, AM.toDs, AM.Rs.bind, AM.Rs.bindT, AM.tYesM, AM.putD, AM.gI, AM.wipeE, AM.cJoin, AM.cJs, Option.bind_some, Option.bind_none, Option.map_some, Option.map_none, List.map_cons, List.map_nil, List.length_cons, List.length_nil, List.replicate, List.append_eq, List.cons_append, List.nil_append, List.getElem?_cons_zero, List.getElem?_cons_succ, List.set_cons_zero, List.set_cons_succ, List.take_length, AM.take_set, Nat.reduceAdd, Nat.reduceSub, Nat.reduceLeDiff, Nat.reduceLT, if_true, if_false, ite_true, ite_false, reduceIte, AM.sBad, Bool.not_true, Bool.not_false, Bool.false_eq_true, Bool.true_and, Bool.and_true, Bool.false_and, Bool.and_false, Bool.true_or, Bool.or_true, Bool.false_or, Bool.or_false, not_true_eq_false, not_false_eq_true, decide_true, decide_false, and_self, true_and, and_true, last_app, gAppend, set_last, hz]
    simp only [AM.callF, AM.exitF, AM.exitW, AM.sNil, AM.sSeq, AM.sExpr, AM.sRet, AM.sRetN, AM.sIf, AM.sAsg, AM.sPar, AM.sPar3, AM.sParN, AM.setAll, AM.sFor, AM.sFrz, AM.sSetIx, AM.sFldA, AM.gNm, AM.gNilA, AM.gConsA, AM.gTupA, AM.cVar, AM.cC, AM.cBin, AM.cUn, AM.aBin, AM.aUn, AM.aFn, AM.cBi, AM.cCall, AM.cTest, AM.cTruth, AM.cAndT, AM.cOrT, AM.cNotT, AM.cAndV, AM.cOrV, AM.cNotV, AM.cIf, AM.cNil, AM.cCons, AM.cStar, AM.cTup, AM.cLst, AM.cLstM, AM.cSl, AM.oNone, AM.oSome, AM.cRev, AM.cRevL, AM.cIter, AM.iterD, AM.cRange1, AM.cRange2, AM.cEnum, AM.cZip, AM.cChain, AM.cMut, AM.isLst, AM.cM1, AM.cFld, AM.cProp, AM.cMeth, AM.isObj, AM.cMake, AM.makeW, AM.cMakeD, AM.cMakeK, AM.makeKW, AM.strOwnW, AM.eqOwnW, AM.boolOwnW, AM.knownW, AM.view_val, AM.view_ref, AM.views, AM.toD_val, AM.toD_ref, AM.toDs, AM.Rs.bind, AM.Rs.bindT, AM.tYesM, AM.putD, AM.gI, AM.wipeE, AM.cJoin, AM.cJs, Option.bind_some, Option.bind_none, Option.map_some, Option.map_none, List.map_cons, List.map_nil, List.length_cons, List.length_nil, List.replicate, List.append_eq, List.cons_append, List.nil_append, List.getElem?_cons_zero, List.getElem?_cons_succ, List.set_cons_zero, List.set_cons_succ, List.take_length, AM.take_set, Nat.reduceAdd, Nat.reduceSub, Nat.reduceLeDiff, Nat.reduceLT, if_true, if_false, ite_true, ite_false, reduceIte, AM.sBad, Bool.not_true, Bool.not_false, Bool.false_eq_true, Bool.true_and, Bool.and_true, Bool.false_and, Bool.and_false, Bool.true_or, Bool.or_true, Bool.false_or, Bool.or_false, not_true_eq_false, not_false_eq_true, decide_true, decide_false, and_self, true_and, and_true]
    rw [st]
    simp only []
    rw [← eg, e, List.append_assoc]
    rfl
theorem check_stands_eq {l : List (Str × Int)} {S : Sto} (ok : StOk l) : F_check_stands [.val (eSs l)] S = .ok (.val .non) S := by
  have hl : ¬ ((l.length : Int) = 0) := by
    have := ok.ne
    cases l with
    | nil => exact absurd rfl this
    | cons a l => simp only [List.length_cons]; omega
  obtain ⟨ε', e⟩ := check_stands_loop _ _ (some (.val (eSs l))) S rfl rfl l 0 [] none none (by have := ok.few; omega) ok.each (by simpa using ok.nd) (by simpa using ok.few)
  simp only [F_check_stands, m_check_stands, AM.callF, AM.exitF, AM.exitW, AM.sNil, AM.sSeq, AM.sExpr, AM.sRet, AM.sRetN, AM.sIf, AM.sAsg, AM.sPar, AM.sPar3, AM.sParN, AM.setAll, AM.sFor, AM.sFrz, AM.sSetIx, AM.sFldA, AM.gNm, AM.gNilA, AM.gConsA, AM.gTupA, AM.cVar, AM.cC, AM.cBin, AM.cUn, AM.aBin, AM.aUn, AM.aFn, AM.cBi, AM.cCall, AM.cTest, AM.cTruth, AM.cAndT, AM.cOrT, AM.cNotT, AM.cAndV, AM.cOrV, AM.cNotV, AM.cIf, AM.cNil, AM.cCons, AM.cStar, AM.cTup, AM.cLst, AM.cLstM, AM.cSl, AM.oNone, AM.oSome, AM.cRev, AM.cRevL, AM.cIter, AM.iterD, AM.cRange1, AM.cRange2, AM.cEnum, AM.cZip, AM.cChain, AM.cMut, AM.isLst, AM.cM1, AM.cFld, AM.cProp, AM.cMeth, AM.isObj, AM.cMake, AM.makeW, AM.cMakeD, AM.cMakeK, AM.makeKW, AM.strOwnW, AM.eqOwnW, AM.boolOwnW, AM.knownW, AM.view_val, AM.view_ref, AM.views, AM.toD_val, AM.toD_ref, AM.toDs, AM.Rs.bind, AM.Rs.bindT, AM.tYesM, AM.putD, AM.gI, AM.wipeE, AM.cJoin, AM.cJs, Option.bind_some, Option.bind_none, Option.map_some, Option.map_none, List.map_cons, List.map_nil, List.length_cons, List.length_nil, List.replicate, List.append_eq, List.cons_append, List.nil_append, List.getElem?_cons_zero, List.getElem?_cons_succ, List.set_cons_zero, List.set_cons_succ, List.take_length, AM.take_set, Nat.reduceAdd, Nat.reduceSub, Nat.reduceLeDiff, Nat.reduceLT, if_true, if_false, ite_true, ite_false, reduceIte, AM.sBad, Bool.not_true, Bool.not_false, Bool.false_eq_true, Bool.true_and, Bool.and_true, Bool.false_and, Bool.and_false, Bool.true_or, Bool.or_true, Bool.false_or, Bool.or_false, not_true_eq_false, not_false_eq_true, decide_true, decide_false, and_self, true_and, and_true, eSs, isiD, isiDD, kindOf, AM.kb_NoneType_int, AM.kb_NoneType_str, AM.kb_NoneType_bool, AM.kb_NoneType_tuple, AM.kb_NoneType_list, AM.kb_NoneType_dict, AM.kb_bool_int, AM.kb_bool_str, AM.kb_bool_bool, AM.kb_bool_tuple, AM.kb_bool_list, AM.kb_bool_dict, AM.kb_int_int, AM.kb_int_str, AM.kb_int_bool, AM.kb_int_tuple, AM.kb_int_list, AM.kb_int_dict, AM.kb_str_int, AM.kb_str_str, AM.kb_str_bool, AM.kb_str_tuple, AM.kb_str_list, AM.kb_str_dict, AM.kb_tuple_int, AM.kb_tuple_str, AM.kb_tuple_bool, AM.kb_tuple_tuple, AM.kb_tuple_list, AM.kb_tuple_dict, AM.kb_list_int, AM.kb_list_str, AM.kb_list_bool, AM.kb_list_tuple, AM.kb_list_list, AM.kb_list_dict, AM.kb_dict_int, AM.kb_dict_str, AM.kb_dict_bool, AM.kb_dict_tuple, AM.kb_dict_list, AM.kb_dict_dict, lenD, eqD, eqDD, scE, List.length_map, hl, szl] at e ⊢
  simp [enumD_eq] at e ⊢
  rw [e]
  simp [take_last]
end Bk
set_option Elab.async false
set_option linter.all false
set_option maxRecDepth 100000
set_option maxHeartbeats 4000000
namespace Bk
open PySem AM
def eP (p : Str × Str) : D := .tup [.str p.1, .str p.2]
theorem toPs_eP (l : List (Str × Str)) : toPs (l.map eP) = some (l.map encP) := by
  induction l with
  | nil => rfl
  | cons a l ih => simp [toPs, toP, eP, ih]; rfl
theorem in_pairs {p : Str × Str} {l : List (Str × Str)} (h1 : PyData.strOk p.1 = true ∧ PyData.strOk p.2 = true) (h2 : ∀ q ∈ l, PyData.strOk q.1 = true ∧ PyData.strOk q.2 = true) : inDD (eP p) (.lst (l.map eP)) = some (decide (p ∈ l)) := by
  have e1 : toP (eP p) = some (encP p) := rfl
  have s1 : SeqAt.shaped (encP p) = true := (sh_pair h1.1 h1.2).shaped
  have s2 : SeqAt.shaped (.list (l.map encP)) = true := (Sh.list (n := 1) fun d hd => by
    obtain ⟨q, hq, rfl⟩ := List.mem_map.mp hd
    exact sh_pair (h2 q hq).1 (h2 q hq).2).shaped
  have : inDD (eP p) (.lst (l.map eP)) = (match toP (eP p), toPs (l.map eP) with | some p, some ps => if SeqAt.shaped p && SeqAt.shaped (.list ps) then some (ps.any fun z => PyData.eqv z p) else none | _, _ => none) := rfl
  rw [this, e1, toPs_eP]
  simp only [s1, s2, Bool.and_self, if_true]
  rw [List.any_map]
  congr 1
  rw [Bool.eq_iff_iff, List.any_eq_true]
  simp only [Function.comp, eqv_pair, decide_eq_true_eq]
  exact ⟨fun ⟨x, hx, e⟩ => e ▸ hx, fun h => ⟨p, h, rfl⟩⟩
theorem cut2 {a b c : D} : cutL [a, b, c] none (some 2) = [a, b] := by rfl
theorem check_roads_loop (ns : List Str) (hns : ∀ x ∈ ns, nameOk x = true) (g : MG) (body : MS) (w1 : Option W) (S : Sto) (eg : g = gTupA 2 (gConsA (gNm 3) (gConsA (gNm 4) gNilA)))
    (eb : body = sSeq (sIf (cOrT (cTest (cBin (aBin eqD) (cVar 3) (cC (.int 12)))) (cOrT (cNotT (cTest (cCall F_is_road (cCons (cVar 0) (cCons (cVar 4) cNil))))) (cTest (cBin (aBin inD) (cSl (cVar 4) oNone (oSome (cC (.int 2)))) (cVar 2))))) sBad sNil) (sExpr (cMut gAppend (cVar 2) (cCons (cSl (cVar 4) oNone (oSome (cC (.int 2)))) cNil)))) :
    ∀ (rest : List (Str × Str × Int)) (k : Nat) (ps : List (Str × Str)) (w2 w3 : Option W), k + rest.length ≤ 12 → (∀ r ∈ rest, r.1 ∈ ns ∧ r.2.1 ∈ ns ∧ 1 ≤ r.2.2 ∧ r.2.2 ≤ 3) → (∀ q ∈ ps, PyData.strOk q.1 = true ∧ PyData.strOk q.2 = true) → (ps ++ rest.map fun r => (r.1, r.2.1)).Nodup → ps.length + rest.length ≤ 12 →
      ∃ ε', forL g body (enumFrom k (rest.map eR)) [some (.val (eN ns)), w1, some (.ref S.length), w2, w3] (S ++ [.lst (ps.map eP)]) = .nx ε' (S ++ [.lst ((ps ++ rest.map fun r => (r.1, r.2.1)).map eP)])
  | [], k, ps, w2, w3, _, _, _, _, _ => ⟨[some (.val (eN ns)), w1, some (.ref S.length), w2, w3], by simp [enumFrom, forL]⟩
  | s :: rest, k, ps, w2, w3, hk, hs, hp, hn, hl => by
    have h1 := hs s List.mem_cons_self
    have so : PyData.strOk s.1 = true ∧ PyData.strOk s.2.1 = true := ⟨name_ok (hns _ h1.1), name_ok (hns _ h1.2.1)⟩
    have k5 : ¬ ((k : Int) = 12) := by simp only [List.length_cons] at hk; omega
    have hni : (s.1, s.2.1) ∉ ps := by
      intro hm
      rw [List.nodup_append] at hn
      exact hn.2.2 _ hm _ (by simp) rfl
    obtain ⟨ε', e⟩ := check_roads_loop ns hns g body w1 S eg eb rest (k + 1) (ps ++ [(s.1, s.2.1)]) (some (.val (.int k))) (some (.val (eR s))) (by simp only [List.length_cons] at hk; omega) (fun x hx => hs x (List.mem_cons_of_mem _ hx)) (fun q hq => by
      rcases List.mem_append.mp hq with h | h
      · exact hp q h
      · rw [List.mem_singleton] at h; subst h; exact so) (by rw [List.append_assoc]; exact hn) (by simp only [List.length_append, List.length_cons, List.length_nil] at hl ⊢; omega)
    refine ⟨ε', ?_⟩
    have hz : ps.length < sizeLine := by rw [szl]; simp only [List.length_cons] at hl; omega
    rw [List.map_cons, enumFrom, forL, eg]
    have inp := in_pairs (p := (s.1, s.2.1)) so hp
    have st : body [some (.val (eN ns)), w1, some (.ref S.length), some (.val (.int k)), some (.val (eR s))] (S ++ [.lst (ps.map eP)]) = .nx [some (.val (eN ns)), w1, some (.ref S.length), some (.val (.int k)), some (.val (eR s))] (S ++ [.lst ((ps ++ [(s.1, s.2.1)]).map eP)]) := by
      rw [eb]
      simp only [AM.callF, AM.exitF, AM.exitW, AM.sNil, AM.sSeq, AM.sExpr, AM.sRet, AM.sRetN, AM.sIf, AM.sAsg, AM.sPar, AM.sPar3, AM.sParN, AM.setAll, AM.sFor, AM.sFrz, AM.sSetIx, AM.sFldA, AM.gNm, AM.gNilA, AM.gConsA, AM.gTupA, AM.cVar, AM.cC, AM.cBin, AM.cUn, AM.aBin, AM.aUn, AM.aFn, AM.cBi, AM.cCall, AM.cTest, AM.cTruth, AM.cAndT, AM.cOrT, AM.cNotT, AM.cAndV, AM.cOrV, AM.cNotV, AM.cIf, AM.cNil, AM.cCons, AM.cStar, AM.cTup, AM.cLst, AM.cLstM, AM.cSl, AM.oNone, AM.oSome, AM.cRev, AM.cRevL, AM.cIter, AM.iterD, AM.cRange1, AM.cRange2, AM.cEnum, AM.cZip, AM.cChain, AM.cMut, AM.isLst, AM.cM1, AM.cFld, AM.cProp, AM.cMeth, AM.isObj, AM.cMake, AM.makeW, AM.cMakeD, AM.cMakeK, AM.makeKW, AM.strOwnW, AM.eqOwnW, AM.boolOwnW, AM.knownW, AM.view_val, AM.view_ref, AM.views, AM.toD_val, AM.toD_ref, AM.toDs, AM.Rs.bind, AM.Rs.bindT, AM.tYesM, AM.putD, AM.gI, AM.wipeE, AM.cJoin, AM.cJs, Option.bind_some, Option.bind_none, Option.map_some, Option.map_none, List.map_cons, List.map_nil, List.length_cons, List.length_nil, List.replicate, List.append_eq, List.cons_append, List.nil_append, List.getElem?_cons_zero, List.getElem?_cons_succ, List.set_cons_zero, List.set_cons_succ, List.take_length, AM.take_set, Nat.reduceAdd, Nat.reduceSub, Nat.reduceLeDiff, Nat.reduceLT, if_true, if_false, ite_true, ite_false, reduceIte, AM.sBad, Bool.not_true, Bool.not_false, Bool.false_eq_true, Bool.true_and, Bool.and_true, Bool.false_and, Bool.and_false, Bool.true_or, Bool.or_true, Bool.false_or, Bool.or_false, not_true_eq_false, not_false_eq_true, decide_true, decide_false, and_self, true_and, and_true, last_app, eqD, eqDD, scE, k5, eN, is_road_eq (fun _ z => by cases z) (kn_eR s).1 (kn_eR s).2, roadD_ok h1]
      simp only [eR, slD, cut2, inD, AM.callF, AM.exitF, AM.exitW, AM.sNil, AM.sSeq, AM.sExpr, AM.sRet, AM.sRetN, AM.sIf, AM.sAsg, AM.sPar, AM.sPar3, AM.sParN, AM.setAll, AM.sFor, AM.sFrz, AM.sSetIx, AM.sFldA, AM.gNm, AM.gNilA, AM.gConsA, AM.gTupA, AM.cVar, AM.cC, AM.cBin, AM.cUn, AM.aBin, AM.aUn, AM.aFn, AM.cBi, AM.cCall, AM.cTest, AM.cTruth, AM.cAndT, AM.cOrT, AM.cNotT, AM.cAndV, AM.cOrV, AM.cNotV, AM.cIf, AM.cNil, AM.cCons, AM.cStar, AM.cTup, AM.cLst, AM.cLstM, AM.cSl, AM.oNone, AM.oSome, AM.cRev, AM.cRevL, AM.cIter, AM.iterD, AM.cRange1, AM.cRange2, AM.cEnum, AM.cZip, AM.cChain, AM.cMut, AM.isLst, AM.cM1, AM.cFld, AM.cProp, AM.cMeth, AM.isObj, AM.cMake, AM.makeW, AM.cMakeD, AM.cMakeK, AM.makeKW, AM.strOwnW, AM.eqOwnW, AM.boolOwnW, AM.knownW, AM.view_val, AM.view_ref, AM.views, AM.toD_val, AM.toD_ref, AM.toDs, AM.Rs.bind, AM.Rs.bindT, AM.tYesM, AM.putD, AM.gI, AM.wipeE, AM.cJoin, AM.cJs, Option.bind_some, Option.bind_none, Option.map_some, Option.map_none, List.map_cons, List.map_nil, List.length_cons, List.length_nil, List.replicate, List.append_eq, List.cons_append, List.nil_append, List.getElem?_cons_zero, List.getElem?_cons_succ, List.set_cons_zero, List.set_cons_succ, List.take_length, AM.take_set, Nat.reduceAdd, Nat.reduceSub, Nat.reduceLeDiff, Nat.reduceLT, if_true, if_false, ite_true, ite_false, reduceIte, AM.sBad, Bool.not_true, Bool.not_false, Bool.false_eq_true, Bool.true_and, Bool.and_true, Bool.false_and, Bool.and_false, Bool.true_or, Bool.or_true, Bool.false_or, Bool.or_false, not_true_eq_false, not_false_eq_true, decide_true, decide_false, and_self, true_and, and_true, last_app]
      simp only [eP] at inp ⊢
      simp [inp, hni, AM.callF, AM.exitF, AM.exitW, AM.sNil, AM.sSeq, AM.sExpr, AM.sRet, AM.sRetN, AM.sIf, AM.sAsg, AM.sPar, AM.sPar3, AM.sParN, AM.setAll, AM.sFor, AM.sFrz, AM.sSetIx, AM.sFldA, AM.gNm, AM.gNilA, AM.gConsA, AM.gTupA, AM.cVar, AM.cC, AM.cBin, AM.cUn, AM.aBin, AM.aUn, AM.aFn, AM.cBi, AM.cCall, AM.cTest, AM.cTruth, AM.cAndT, AM.cOrT, AM.cNotT, AM.cAndV, AM.cOrV, AM.cNotV, AM.cIf, AM.cNil, AM.cCons, AM.cStar, AM.cTup, AM.cLst, AM.cLstM, AM.cSl, AM.oNone, AM.oSome, AM.cRev, AM.cRevL, AM.cIter, AM.iterD, AM.cRange1, AM.cRange2, AM.cEnum, AM.cZip, AM.cChain, AM.cMut, AM.isLst, AM.cM1, AM.cFld, AM.cProp, AM.cMeth, AM.isObj, AM.cMake, AM.makeW, AM.cMakeD, AM.cMakeK, AM.makeKW, AM.strOwnW, AM.eqOwnW, AM.boolOwnW, AM.knownW, AM.view_val, AM.view_ref, AM.views, AM.toD_val, AM.toD_ref, AM.toDs, AM.Rs.bind, AM.Rs.bindT, AM.tYesM, AM.putD, AM.gI, AM.wipeE, AM.cJoin, AM.cJs, Option.bind_some, Option.bind_none, Option.map_some, Option.map_none, List.map_cons, List.map_nil, List.length_cons, List.length_nil, List.replicate, List.append_eq, List.cons_append, List.nil_append, List.getElem?_cons_zero, List.getElem?_cons_succ, List.set_cons_zero, List.set_cons_succ, List.take_length, AM.take_set, Nat.reduceAdd, Nat.reduceSub, Nat.reduceLeDiff, Nat.reduceLT, if_true, if_false, ite_true, ite_false, reduceIte, AM.sBad, Bool.not_true, Bool.not_false, Bool.false_eq_true, Bool.true_and, Bool.and_true, Bool.false_and, Bool.and_false, Bool.true_or, Bool.or_true, Bool.false_or, Bool.or_false, not_true_eq_false, not_false_eq_true, decide_true, decide_false, and_self, true_and, and_true, last_app, gAppend, set_last, hz, slD, cut2]
      rfl
    simp only [AM.callF, AM.exitF, AM.exitW, AM.sNil, AM.sSeq, AM.sExpr, AM.sRet, AM.sRetN, AM.sIf, AM.sAsg, AM.sPar, AM.sPar3, AM.sParN, AM.setAll, AM.sFor, AM.sFrz, AM.sSetIx, AM.sFldA, AM.gNm, AM.gNilA, AM.gConsA, AM.gTupA, AM.cVar, AM.cC, AM.cBin, AM.cUn, AM.aBin, AM.aUn, AM.aFn, AM.cBi, AM.cCall, AM.cTest, AM.cTruth, AM.cAndT, AM.cOrT, AM.cNotT, AM.cAndV, AM.cOrV, AM.cNotV, AM.cIf, AM.cNil, AM.cCons, AM.cStar, AM.cTup, AM.cLst, AM.cLstM, AM.cSl, AM.oNone, AM.oSome, AM.cRev, AM.cRevL, AM.cIter, AM.iterD, AM.cRange1, AM.cRange2, AM.cEnum, AM.cZip, AM.cChain, AM.cMut, AM.isLst, AM.cM1, AM.cFld, AM.cProp, AM.cMeth, AM.isObj, AM.cMake, AM.makeW, AM.cMakeD, AM.cMakeK, AM.makeKW, AM.strOwnW, AM.eqOwnW, AM.boolOwnW, AM.knownW, AM.view_val, AM.view_ref, AM.views, AM.toD_val, AM.toD_ref, AM.toDs, AM.Rs.bind, AM.Rs.bindT, AM.tYesM, AM.putD, AM.gI, AM.wipeE, AM.cJoin, AM.cJs, Option.bind_some, Option.bind_none, Option.map_some, Option.map_none, List.map_cons, List.map_nil, List.length_cons, List.length_nil, List.replicate, List.append_eq, List.cons_append, List.nil_append, List.getElem?_cons_zero, List.getElem?_cons_succ, List.set_cons_zero, List.set_cons_succ, List.take_length, AM.take_set, Nat.reduceAdd, Nat.reduceSub, Nat.reduceLeDiff, Nat.reduceLT, if_true, if_false, ite_true, ite_false, reduceIte, AM.sBad, Bool.not_true, Bool.not_false, Bool.false_eq_true, Bool.true_and, Bool.and_true, Bool.false_and, Bool.and_false, Bool.true_or, Bool.or_true, Bool.false_or, Bool.or_false, not_true_eq_false, not_false_eq_true, decide_true, decide_false, and_self, true_and, and_true]
    rw [st]
    simp only []
    rw [← eg, e, List.append_assoc]
    rfl
theorem check_roads_eq {ns : List Str} {l : List (Str × Str × Int)} {S : Sto} (hns : ∀ x ∈ ns, nameOk x = true) (ok : RdOk ns l) : F_check_roads [.val (eN ns), .val (eRs l)] S = .ok (.val .non) S := by
  obtain ⟨ε', e⟩ := check_roads_loop ns hns _ _ (some (.val (eRs l))) S rfl rfl l 0 [] none none (by have := ok.few; omega) ok.each (fun q hq => by cases hq) (by simpa using ok.nd) (by simpa using ok.few)
  simp only [F_check_roads, m_check_roads, AM.callF, AM.exitF, AM.exitW, AM.sNil, AM.sSeq, AM.sExpr, AM.sRet, AM.sRetN, AM.sIf, AM.sAsg, AM.sPar, AM.sPar3, AM.sParN, AM.setAll, AM.sFor, AM.sFrz, AM.sSetIx, AM.sFldA, AM.gNm, AM.gNilA, AM.gConsA, AM.gTupA, AM.cVar, AM.cC, AM.cBin, AM.cUn, AM.aBin, AM.aUn, AM.aFn, AM.cBi, AM.cCall, AM.cTest, AM.cTruth, AM.cAndT, AM.cOrT, AM.cNotT, AM.cAndV, AM.cOrV, AM.cNotV, AM.cIf, AM.cNil, AM.cCons, AM.cStar, AM.cTup, AM.cLst, AM.cLstM, AM.cSl, AM.oNone, AM.oSome, AM.cRev, AM.cRevL, AM.cIter, AM.iterD, AM.cRange1, AM.cRange2, AM.cEnum, AM.cZip, AM.cChain, AM.cMut, AM.isLst, AM.cM1, AM.cFld, AM.cProp, AM.cMeth, AM.isObj, AM.cMake, AM.makeW, AM.cMakeD, AM.cMakeK, AM.makeKW, AM.strOwnW, AM.eqOwnW, AM.boolOwnW, AM.knownW, AM.view_val, AM.view_ref, AM.views, AM.toD_val, AM.toD_ref, AM.toDs, AM.Rs.bind, AM.Rs.bindT, AM.tYesM, AM.putD, AM.gI, AM.wipeE, AM.cJoin, AM.cJs, Option.bind_some, Option.bind_none, Option.map_some, Option.map_none, List.map_cons, List.map_nil, List.length_cons, List.length_nil, List.replicate, List.append_eq, List.cons_append, List.nil_append, List.getElem?_cons_zero, List.getElem?_cons_succ, List.set_cons_zero, List.set_cons_succ, List.take_length, AM.take_set, Nat.reduceAdd, Nat.reduceSub, Nat.reduceLeDiff, Nat.reduceLT, if_true, if_false, ite_true, ite_false, reduceIte, AM.sBad, Bool.not_true, Bool.not_false, Bool.false_eq_true, Bool.true_and, Bool.and_true, Bool.false_and, Bool.and_false, Bool.true_or, Bool.or_true, Bool.false_or, Bool.or_false, not_true_eq_false, not_false_eq_true, decide_true, decide_false, and_self, true_and, and_true, eRs, eN, isiD, isiDD, kindOf, AM.kb_NoneType_int, AM.kb_NoneType_str, AM.kb_NoneType_bool, AM.kb_NoneType_tuple, AM.kb_NoneType_list, AM.kb_NoneType_dict, AM.kb_bool_int, AM.kb_bool_str, AM.kb_bool_bool, AM.kb_bool_tuple, AM.kb_bool_list, AM.kb_bool_dict, AM.kb_int_int, AM.kb_int_str, AM.kb_int_bool, AM.kb_int_tuple, AM.kb_int_list, AM.kb_int_dict, AM.kb_str_int, AM.kb_str_str, AM.kb_str_bool, AM.kb_str_tuple, AM.kb_str_list, AM.kb_str_dict, AM.kb_tuple_int, AM.kb_tuple_str, AM.kb_tuple_bool, AM.kb_tuple_tuple, AM.kb_tuple_list, AM.kb_tuple_dict, AM.kb_list_int, AM.kb_list_str, AM.kb_list_bool, AM.kb_list_tuple, AM.kb_list_list, AM.kb_list_dict, AM.kb_dict_int, AM.kb_dict_str, AM.kb_dict_bool, AM.kb_dict_tuple, AM.kb_dict_list, AM.kb_dict_dict, lenD, eqD, eqDD, scE, List.length_map, szl] at e ⊢
  simp [enumD_eq] at e ⊢
  rw [e]
  simp [take_last]
/-! ## towns -/
def tObj (t : TownD) : D := .obj "Town" [("_slots", .int t.slots), ("_stands", eSs t.stands), ("_roads", eRs t.roads), ("_names", eN t.names)]
theorem names_comp {l : List (Str × Int)} (hl : l.length ≤ 5) {w0 w1 w3 w4 w5 w6 : Option W} (S : Sto) : cLc false [5, 6] (gTupA 2 (gConsA (gNm 5) (gConsA (gNm 6) gNilA))) (cIter (cVar 2)) tYesM (cVar 5) [w0, w1, some (.val (eSs l)), w3, w4, w5, w6] S = .ok (.val (.lst (l.map fun s => .str s.1))) S := by
  refine cLc_enc (enc := eS) l (by simp [AM.callF, AM.exitF, AM.exitW, AM.sNil, AM.sSeq, AM.sExpr, AM.sRet, AM.sRetN, AM.sIf, AM.sAsg, AM.sPar, AM.sPar3, AM.sParN, AM.setAll, AM.sFor, AM.sFrz, AM.sSetIx, AM.sFldA, AM.gNm, AM.gNilA, AM.gConsA, AM.gTupA, AM.cVar, AM.cC, AM.cBin, AM.cUn, AM.aBin, AM.aUn, AM.aFn, AM.cBi, AM.cCall, AM.cTest, AM.cTruth, AM.cAndT, AM.cOrT, AM.cNotT, AM.cAndV, AM.cOrV, AM.cNotV, AM.cIf, AM.cNil, AM.cCons, AM.cStar, AM.cTup, AM.cLst, AM.cLstM, AM.cSl, AM.oNone, AM.oSome, AM.cRev, AM.cRevL, AM.cIter, AM.iterD, AM.cRange1, AM.cRange2, AM.cEnum, AM.cZip, AM.cChain, AM.cMut, AM.isLst, AM.cM1, AM.cFld, AM.cProp, AM.cMeth, AM.isObj, AM.cMake, AM.makeW, AM.cMakeD, AM.cMakeK, AM.makeKW, AM.strOwnW, AM.eqOwnW, AM.boolOwnW, AM.knownW, AM.view_val, AM.view_ref, AM.views, AM.toD_val, AM.toD_ref, AM.toDs, AM.Rs.bind, AM.Rs.bindT, AM.tYesM, AM.putD, AM.gI, AM.wipeE, AM.cJoin, AM.cJs, Option.bind_some, Option.bind_none, Option.map_some, Option.map_none, List.map_cons, List.map_nil, List.length_cons, List.length_nil, List.replicate, List.append_eq, List.cons_append, List.nil_append, List.getElem?_cons_zero, List.getElem?_cons_succ, List.set_cons_zero, List.set_cons_succ, List.take_length, AM.take_set, Nat.reduceAdd, Nat.reduceSub, Nat.reduceLeDiff, Nat.reduceLT, if_true, if_false, ite_true, ite_false, reduceIte, AM.sBad, Bool.not_true, Bool.not_false, Bool.false_eq_true, Bool.true_and, Bool.and_true, Bool.false_and, Bool.and_false, Bool.true_or, Bool.or_true, Bool.false_or, Bool.or_false, not_true_eq_false, not_false_eq_true, decide_true, decide_false, and_self, true_and, and_true, eSs]) (fun s hs => ?_) (by rw [szl]; omega)
  exact ⟨_, rfl, fun T => rfl⟩
theorem town_init {t : TownD} {S : Sto} (ok : t.Ok) : F_Town___init__ [.ref S.length, .val (.int t.slots), .val (eSs t.stands), .val (eRs t.roads)] (S ++ [.ins "Town" []]) = .ok (.val .non) (S ++ [.ins "Town" [("_slots", .int t.slots), ("_stands", eSs t.stands), ("_roads", eRs t.roads), ("_names", eN t.names)]]) := by
  have hb : betweenD 1 8 (.int t.slots) = true := by simp [betweenD, ok.s1, ok.s2]
  have hn : ∀ x ∈ t.names, nameOk x = true := fun x hx => by
    obtain ⟨s, hs, rfl⟩ := List.mem_map.mp hx
    exact (ok.st.each s hs).1
  have en : (D.tux (t.stands.map fun s => D.str s.1)) = eN t.names := by
    unfold eN TownD.names
    rw [List.map_map]
    rfl
  have c1 : ∀ S : Sto, F_check_stands [.val (eSs t.stands)] S = .ok (.val .non) S := fun S => check_stands_eq ok.st
  have c2 : ∀ S : Sto, F_check_roads [.val (eN t.names), .val (eRs t.roads)] S = .ok (.val .non) S := fun S => check_roads_eq hn ok.rd
  have nc := fun (w0 w1 w3 w4 w5 w6 : Option W) (S : Sto) => names_comp (w0 := w0) (w1 := w1) (w3 := w3) (w4 := w4) (w5 := w5) (w6 := w6) ok.st.few S
  simp only [F_Town___init__, m_Town___init__, AM.callF, AM.exitF, AM.exitW, AM.sNil, AM.sSeq, AM.sExpr, AM.sRet, AM.sRetN, AM.sIf, AM.sAsg, AM.sPar, AM.sPar3, AM.sParN, AM.setAll, AM.sFor, AM.sFrz, AM.sSetIx, AM.sFldA, AM.gNm, AM.gNilA, AM.gConsA, AM.gTupA, AM.cVar, AM.cC, AM.cBin, AM.cUn, AM.aBin, AM.aUn, AM.aFn, AM.cBi, AM.cCall, AM.cTest, AM.cTruth, AM.cAndT, AM.cOrT, AM.cNotT, AM.cAndV, AM.cOrV, AM.cNotV, AM.cIf, AM.cNil, AM.cCons, AM.cStar, AM.cTup, AM.cLst, AM.cLstM, AM.cSl, AM.oNone, AM.oSome, AM.cRev, AM.cRevL, AM.cIter, AM.iterD, AM.cRange1, AM.cRange2, AM.cEnum, AM.cZip, AM.cChain, AM.cMut, AM.isLst, AM.cM1, AM.cFld, AM.cProp, AM.cMeth, AM.isObj, AM.cMake, AM.makeW, AM.cMakeD, AM.cMakeK, AM.makeKW, AM.strOwnW, AM.eqOwnW, AM.boolOwnW, AM.knownW, AM.view_val, AM.view_ref, AM.views, AM.toD_val, AM.toD_ref, AM.toDs, AM.Rs.bind, AM.Rs.bindT, AM.tYesM, AM.putD, AM.gI, AM.wipeE, AM.cJoin, AM.cJs, Option.bind_some, Option.bind_none, Option.map_some, Option.map_none, List.map_cons, List.map_nil, List.length_cons, List.length_nil, List.replicate, List.append_eq, List.cons_append, List.nil_append, List.getElem?_cons_zero, List.getElem?_cons_succ, List.set_cons_zero, List.set_cons_succ, List.take_length, AM.take_set, Nat.reduceAdd, Nat.reduceSub, Nat.reduceLeDiff, Nat.reduceLT, if_true, if_false, ite_true, ite_false, reduceIte, AM.sBad, Bool.not_true, Bool.not_false, Bool.false_eq_true, Bool.true_and, Bool.and_true, Bool.false_and, Bool.and_false, Bool.true_or, Bool.or_true, Bool.false_or, Bool.or_false, not_true_eq_false, not_false_eq_true, decide_true, decide_false, and_self, true_and, and_true, is_between_eq (kn_int _), hb, c1, nc, tupXD, en, c2]
  simp [AM.callF, AM.exitF, AM.exitW, AM.sNil, AM.sSeq, AM.sExpr, AM.sRet, AM.sRetN, AM.sIf, AM.sAsg, AM.sPar, AM.sPar3, AM.sParN, AM.setAll, AM.sFor, AM.sFrz, AM.sSetIx, AM.sFldA, AM.gNm, AM.gNilA, AM.gConsA, AM.gTupA, AM.cVar, AM.cC, AM.cBin, AM.cUn, AM.aBin, AM.aUn, AM.aFn, AM.cBi, AM.cCall, AM.cTest, AM.cTruth, AM.cAndT, AM.cOrT, AM.cNotT, AM.cAndV, AM.cOrV, AM.cNotV, AM.cIf, AM.cNil, AM.cCons, AM.cStar, AM.cTup, AM.cLst, AM.cLstM, AM.cSl, AM.oNone, AM.oSome, AM.cRev, AM.cRevL, AM.cIter, AM.iterD, AM.cRange1, AM.cRange2, AM.cEnum, AM.cZip, AM.cChain, AM.cMut, AM.isLst, AM.cM1, AM.cFld, AM.cProp, AM.cMeth, AM.isObj, AM.cMake, AM.makeW, AM.cMakeD, AM.cMakeK, AM.makeKW, AM.strOwnW, AM.eqOwnW, AM.boolOwnW, AM.knownW, AM.view_val, AM.view_ref, AM.views, AM.toD_val, AM.toD_ref, AM.toDs, AM.Rs.bind, AM.Rs.bindT, AM.tYesM, AM.putD, AM.gI, AM.wipeE, AM.cJoin, AM.cJs, Option.bind_some, Option.bind_none, Option.map_some, Option.map_none, List.map_cons, List.map_nil, List.length_cons, List.length_nil, List.replicate, List.append_eq, List.cons_append, List.nil_append, List.getElem?_cons_zero, List.getElem?_cons_succ, List.set_cons_zero, List.set_cons_succ, List.take_length, AM.take_set, Nat.reduceAdd, Nat.reduceSub, Nat.reduceLeDiff, Nat.reduceLT, if_true, if_false, ite_true, ite_false, reduceIte, AM.sBad, Bool.not_true, Bool.not_false, Bool.false_eq_true, Bool.true_and, Bool.and_true, Bool.false_and, Bool.and_false, Bool.true_or, Bool.or_true, Bool.false_or, Bool.or_false, not_true_eq_false, not_false_eq_true, decide_true, decide_false, and_self, true_and, and_true, last_app, set_last, AM.ne_slots_stands, AM.ne_slots_standsb, AM.ne_slots_roads, AM.ne_slots_roadsb, AM.ne_slots_names, AM.ne_slots_namesb, AM.ne_slots_town, AM.ne_slots_townb, AM.ne_slots_facts, AM.ne_slots_factsb, AM.ne_stands_slots, AM.ne_stands_slotsb, AM.ne_stands_roads, AM.ne_stands_roadsb, AM.ne_stands_names, AM.ne_stands_namesb, AM.ne_stands_town, AM.ne_stands_townb, AM.ne_stands_facts, AM.ne_stands_factsb, AM.ne_roads_slots, AM.ne_roads_slotsb, AM.ne_roads_stands, AM.ne_roads_standsb, AM.ne_roads_names, AM.ne_roads_namesb, AM.ne_roads_town, AM.ne_roads_townb, AM.ne_roads_facts, AM.ne_roads_factsb, AM.ne_names_slots, AM.ne_names_slotsb, AM.ne_names_stands, AM.ne_names_standsb, AM.ne_names_roads, AM.ne_names_roadsb, AM.ne_names_town, AM.ne_names_townb, AM.ne_names_facts, AM.ne_names_factsb, AM.ne_town_slots, AM.ne_town_slotsb, AM.ne_town_stands, AM.ne_town_standsb, AM.ne_town_roads, AM.ne_town_roadsb, AM.ne_town_names, AM.ne_town_namesb, AM.ne_town_facts, AM.ne_town_factsb, AM.ne_facts_slots, AM.ne_facts_slotsb, AM.ne_facts_stands, AM.ne_facts_standsb, AM.ne_facts_roads, AM.ne_facts_roadsb, AM.ne_facts_names, AM.ne_facts_namesb, AM.ne_facts_town, AM.ne_facts_townb]
  try rw [List.take_of_length_le (by simp)]
theorem make_town {t : TownD} {S : Sto} (ok : t.Ok) : makeW false "Town" F_Town___init__ [.val (.int t.slots), .val (eSs t.stands), .val (eRs t.roads)] S = .ok (.val (tObj t)) S := by
  simp only [makeW, town_init ok, last_app, take_last]
  rfl
theorem slots_eq (t : TownD) (S : Sto) : F_Town_slots [.val (tObj t)] S = .ok (.val (.int t.slots)) S := by
  simp [F_Town_slots, m_Town_slots, AM.callF, AM.exitF, AM.exitW, AM.sNil, AM.sSeq, AM.sExpr, AM.sRet, AM.sRetN, AM.sIf, AM.sAsg, AM.sPar, AM.sPar3, AM.sParN, AM.setAll, AM.sFor, AM.sFrz, AM.sSetIx, AM.sFldA, AM.gNm, AM.gNilA, AM.gConsA, AM.gTupA, AM.cVar, AM.cC, AM.cBin, AM.cUn, AM.aBin, AM.aUn, AM.aFn, AM.cBi, AM.cCall, AM.cTest, AM.cTruth, AM.cAndT, AM.cOrT, AM.cNotT, AM.cAndV, AM.cOrV, AM.cNotV, AM.cIf, AM.cNil, AM.cCons, AM.cStar, AM.cTup, AM.cLst, AM.cLstM, AM.cSl, AM.oNone, AM.oSome, AM.cRev, AM.cRevL, AM.cIter, AM.iterD, AM.cRange1, AM.cRange2, AM.cEnum, AM.cZip, AM.cChain, AM.cMut, AM.isLst, AM.cM1, AM.cFld, AM.cProp, AM.cMeth, AM.isObj, AM.cMake, AM.makeW, AM.cMakeD, AM.cMakeK, AM.makeKW, AM.strOwnW, AM.eqOwnW, AM.boolOwnW, AM.knownW, AM.view_val, AM.view_ref, AM.views, AM.toD_val, AM.toD_ref, AM.toDs, AM.Rs.bind, AM.Rs.bindT, AM.tYesM, AM.putD, AM.gI, AM.wipeE, AM.cJoin, AM.cJs, Option.bind_some, Option.bind_none, Option.map_some, Option.map_none, List.map_cons, List.map_nil, List.length_cons, List.length_nil, List.replicate, List.append_eq, List.cons_append, List.nil_append, List.getElem?_cons_zero, List.getElem?_cons_succ, List.set_cons_zero, List.set_cons_succ, List.take_length, AM.take_set, Nat.reduceAdd, Nat.reduceSub, Nat.reduceLeDiff, Nat.reduceLT, if_true, if_false, ite_true, ite_false, reduceIte, AM.sBad, Bool.not_true, Bool.not_false, Bool.false_eq_true, Bool.true_and, Bool.and_true, Bool.false_and, Bool.and_false, Bool.true_or, Bool.or_true, Bool.false_or, Bool.or_false, not_true_eq_false, not_false_eq_true, decide_true, decide_false, and_self, true_and, and_true, tObj, List.lookup, AM.ne_slots_stands, AM.ne_slots_standsb, AM.ne_slots_roads, AM.ne_slots_roadsb, AM.ne_slots_names, AM.ne_slots_namesb, AM.ne_slots_town, AM.ne_slots_townb, AM.ne_slots_facts, AM.ne_slots_factsb, AM.ne_stands_slots, AM.ne_stands_slotsb, AM.ne_stands_roads, AM.ne_stands_roadsb, AM.ne_stands_names, AM.ne_stands_namesb, AM.ne_stands_town, AM.ne_stands_townb, AM.ne_stands_facts, AM.ne_stands_factsb, AM.ne_roads_slots, AM.ne_roads_slotsb, AM.ne_roads_stands, AM.ne_roads_standsb, AM.ne_roads_names, AM.ne_roads_namesb, AM.ne_roads_town, AM.ne_roads_townb, AM.ne_roads_facts, AM.ne_roads_factsb, AM.ne_names_slots, AM.ne_names_slotsb, AM.ne_names_stands, AM.ne_names_standsb, AM.ne_names_roads, AM.ne_names_roadsb, AM.ne_names_town, AM.ne_names_townb, AM.ne_names_facts, AM.ne_names_factsb, AM.ne_town_slots, AM.ne_town_slotsb, AM.ne_town_stands, AM.ne_town_standsb, AM.ne_town_roads, AM.ne_town_roadsb, AM.ne_town_names, AM.ne_town_namesb, AM.ne_town_facts, AM.ne_town_factsb, AM.ne_facts_slots, AM.ne_facts_slotsb, AM.ne_facts_stands, AM.ne_facts_standsb, AM.ne_facts_roads, AM.ne_facts_roadsb, AM.ne_facts_names, AM.ne_facts_namesb, AM.ne_facts_town, AM.ne_facts_townb]
theorem stands_eq (t : TownD) (S : Sto) : F_Town_stands [.val (tObj t)] S = .ok (.val (eSs t.stands)) S := by
  simp [F_Town_stands, m_Town_stands, AM.callF, AM.exitF, AM.exitW, AM.sNil, AM.sSeq, AM.sExpr, AM.sRet, AM.sRetN, AM.sIf, AM.sAsg, AM.sPar, AM.sPar3, AM.sParN, AM.setAll, AM.sFor, AM.sFrz, AM.sSetIx, AM.sFldA, AM.gNm, AM.gNilA, AM.gConsA, AM.gTupA, AM.cVar, AM.cC, AM.cBin, AM.cUn, AM.aBin, AM.aUn, AM.aFn, AM.cBi, AM.cCall, AM.cTest, AM.cTruth, AM.cAndT, AM.cOrT, AM.cNotT, AM.cAndV, AM.cOrV, AM.cNotV, AM.cIf, AM.cNil, AM.cCons, AM.cStar, AM.cTup, AM.cLst, AM.cLstM, AM.cSl, AM.oNone, AM.oSome, AM.cRev, AM.cRevL, AM.cIter, AM.iterD, AM.cRange1, AM.cRange2, AM.cEnum, AM.cZip, AM.cChain, AM.cMut, AM.isLst, AM.cM1, AM.cFld, AM.cProp, AM.cMeth, AM.isObj, AM.cMake, AM.makeW, AM.cMakeD, AM.cMakeK, AM.makeKW, AM.strOwnW, AM.eqOwnW, AM.boolOwnW, AM.knownW, AM.view_val, AM.view_ref, AM.views, AM.toD_val, AM.toD_ref, AM.toDs, AM.Rs.bind, AM.Rs.bindT, AM.tYesM, AM.putD, AM.gI, AM.wipeE, AM.cJoin, AM.cJs, Option.bind_some, Option.bind_none, Option.map_some, Option.map_none, List.map_cons, List.map_nil, List.length_cons, List.length_nil, List.replicate, List.append_eq, List.cons_append, List.nil_append, List.getElem?_cons_zero, List.getElem?_cons_succ, List.set_cons_zero, List.set_cons_succ, List.take_length, AM.take_set, Nat.reduceAdd, Nat.reduceSub, Nat.reduceLeDiff, Nat.reduceLT, if_true, if_false, ite_true, ite_false, reduceIte, AM.sBad, Bool.not_true, Bool.not_false, Bool.false_eq_true, Bool.true_and, Bool.and_true, Bool.false_and, Bool.and_false, Bool.true_or, Bool.or_true, Bool.false_or, Bool.or_false, not_true_eq_false, not_false_eq_true, decide_true, decide_false, and_self, true_and, and_true, tObj, List.lookup, AM.ne_slots_stands, AM.ne_slots_standsb, AM.ne_slots_roads, AM.ne_slots_roadsb, AM.ne_slots_names, AM.ne_slots_namesb, AM.ne_slots_town, AM.ne_slots_townb, AM.ne_slots_facts, AM.ne_slots_factsb, AM.ne_stands_slots, AM.ne_stands_slotsb, AM.ne_stands_roads, AM.ne_stands_roadsb, AM.ne_stands_names, AM.ne_stands_namesb, AM.ne_stands_town, AM.ne_stands_townb, AM.ne_stands_facts, AM.ne_stands_factsb, AM.ne_roads_slots, AM.ne_roads_slotsb, AM.ne_roads_stands, AM.ne_roads_standsb, AM.ne_roads_names, AM.ne_roads_namesb, AM.ne_roads_town, AM.ne_roads_townb, AM.ne_roads_facts, AM.ne_roads_factsb, AM.ne_names_slots, AM.ne_names_slotsb, AM.ne_names_stands, AM.ne_names_standsb, AM.ne_names_roads, AM.ne_names_roadsb, AM.ne_names_town, AM.ne_names_townb, AM.ne_names_facts, AM.ne_names_factsb, AM.ne_town_slots, AM.ne_town_slotsb, AM.ne_town_stands, AM.ne_town_standsb, AM.ne_town_roads, AM.ne_town_roadsb, AM.ne_town_names, AM.ne_town_namesb, AM.ne_town_facts, AM.ne_town_factsb, AM.ne_facts_slots, AM.ne_facts_slotsb, AM.ne_facts_stands, AM.ne_facts_standsb, AM.ne_facts_roads, AM.ne_facts_roadsb, AM.ne_facts_names, AM.ne_facts_namesb, AM.ne_facts_town, AM.ne_facts_townb]
theorem roads_eq (t : TownD) (S : Sto) : F_Town_roads [.val (tObj t)] S = .ok (.val (eRs t.roads)) S := by
  simp [F_Town_roads, m_Town_roads, AM.callF, AM.exitF, AM.exitW, AM.sNil, AM.sSeq, AM.sExpr, AM.sRet, AM.sRetN, AM.sIf, AM.sAsg, AM.sPar, AM.sPar3, AM.sParN, AM.setAll, AM.sFor, AM.sFrz, AM.sSetIx, AM.sFldA, AM.gNm, AM.gNilA, AM.gConsA, AM.gTupA, AM.cVar, AM.cC, AM.cBin, AM.cUn, AM.aBin, AM.aUn, AM.aFn, AM.cBi, AM.cCall, AM.cTest, AM.cTruth, AM.cAndT, AM.cOrT, AM.cNotT, AM.cAndV, AM.cOrV, AM.cNotV, AM.cIf, AM.cNil, AM.cCons, AM.cStar, AM.cTup, AM.cLst, AM.cLstM, AM.cSl, AM.oNone, AM.oSome, AM.cRev, AM.cRevL, AM.cIter, AM.iterD, AM.cRange1, AM.cRange2, AM.cEnum, AM.cZip, AM.cChain, AM.cMut, AM.isLst, AM.cM1, AM.cFld, AM.cProp, AM.cMeth, AM.isObj, AM.cMake, AM.makeW, AM.cMakeD, AM.cMakeK, AM.makeKW, AM.strOwnW, AM.eqOwnW, AM.boolOwnW, AM.knownW, AM.view_val, AM.view_ref, AM.views, AM.toD_val, AM.toD_ref, AM.toDs, AM.Rs.bind, AM.Rs.bindT, AM.tYesM, AM.putD, AM.gI, AM.wipeE, AM.cJoin, AM.cJs, Option.bind_some, Option.bind_none, Option.map_some, Option.map_none, List.map_cons, List.map_nil, List.length_cons, List.length_nil, List.replicate, List.append_eq, List.cons_append, List.nil_append, List.getElem?_cons_zero, List.getElem?_cons_succ, List.set_cons_zero, List.set_cons_succ, List.take_length, AM.take_set, Nat.reduceAdd, Nat.reduceSub, Nat.reduceLeDiff, Nat.reduceLT, if_true, if_false, ite_true, ite_false, reduceIte, AM.sBad, Bool.not_true, Bool.not_false, Bool.false_eq_true, Bool.true_and, Bool.and_true, Bool.false_and, Bool.and_false, Bool.true_or, Bool.or_true, Bool.false_or, Bool.or_false, not_true_eq_false, not_false_eq_true, decide_true, decide_false, and_self, true_and, and_true, tObj, List.lookup, AM.ne_slots_stands, AM.ne_slots_standsb, AM.ne_slots_roads, AM.ne_slots_roadsb, AM.ne_slots_names, AM.ne_slots_namesb, AM.ne_slots_town, AM.ne_slots_townb, AM.ne_slots_facts, AM.ne_slots_factsb, AM.ne_stands_slots, AM.ne_stands_slotsb, AM.ne_stands_roads, AM.ne_stands_roadsb, AM.ne_stands_names, AM.ne_stands_namesb, AM.ne_stands_town, AM.ne_stands_townb, AM.ne_stands_facts, AM.ne_stands_factsb, AM.ne_roads_slots, AM.ne_roads_slotsb, AM.ne_roads_stands, AM.ne_roads_standsb, AM.ne_roads_names, AM.ne_roads_namesb, AM.ne_roads_town, AM.ne_roads_townb, AM.ne_roads_facts, AM.ne_roads_factsb, AM.ne_names_slots, AM.ne_names_slotsb, AM.ne_names_stands, AM.ne_names_standsb, AM.ne_names_roads, AM.ne_names_roadsb, AM.ne_names_town, AM.ne_names_townb, AM.ne_names_facts, AM.ne_names_factsb, AM.ne_town_slots, AM.ne_town_slotsb, AM.ne_town_stands, AM.ne_town_standsb, AM.ne_town_roads, AM.ne_town_roadsb, AM.ne_town_names, AM.ne_town_namesb, AM.ne_town_facts, AM.ne_town_factsb, AM.ne_facts_slots, AM.ne_facts_slotsb, AM.ne_facts_stands, AM.ne_facts_standsb, AM.ne_facts_roads, AM.ne_facts_roadsb, AM.ne_facts_names, AM.ne_facts_namesb, AM.ne_facts_town, AM.ne_facts_townb]
theorem names_eq (t : TownD) (S : Sto) : F_Town_names [.val (tObj t)] S = .ok (.val (eN t.names)) S := by
  simp [F_Town_names, m_Town_names, AM.callF, AM.exitF, AM.exitW, AM.sNil, AM.sSeq, AM.sExpr, AM.sRet, AM.sRetN, AM.sIf, AM.sAsg, AM.sPar, AM.sPar3, AM.sParN, AM.setAll, AM.sFor, AM.sFrz, AM.sSetIx, AM.sFldA, AM.gNm, AM.gNilA, AM.gConsA, AM.gTupA, AM.cVar, AM.cC, AM.cBin, AM.cUn, AM.aBin, AM.aUn, AM.aFn, AM.cBi, AM.cCall, AM.cTest, AM.cTruth, AM.cAndT, AM.cOrT, AM.cNotT, AM.cAndV, AM.cOrV, AM.cNotV, AM.cIf, AM.cNil, AM.cCons, AM.cStar, AM.cTup, AM.cLst, AM.cLstM, AM.cSl, AM.oNone, AM.oSome, AM.cRev, AM.cRevL, AM.cIter, AM.iterD, AM.cRange1, AM.cRange2, AM.cEnum, AM.cZip, AM.cChain, AM.cMut, AM.isLst, AM.cM1, AM.cFld, AM.cProp, AM.cMeth, AM.isObj, AM.cMake, AM.makeW, AM.cMakeD, AM.cMakeK, AM.makeKW, AM.strOwnW, AM.eqOwnW, AM.boolOwnW, AM.knownW, AM.view_val, AM.view_ref, AM.views, AM.toD_val, AM.toD_ref, AM.toDs, AM.Rs.bind, AM.Rs.bindT, AM.tYesM, AM.putD, AM.gI, AM.wipeE, AM.cJoin, AM.cJs, Option.bind_some, Option.bind_none, Option.map_some, Option.map_none, List.map_cons, List.map_nil, List.length_cons, List.length_nil, List.replicate, List.append_eq, List.cons_append, List.nil_append, List.getElem?_cons_zero, List.getElem?_cons_succ, List.set_cons_zero, List.set_cons_succ, List.take_length, AM.take_set, Nat.reduceAdd, Nat.reduceSub, Nat.reduceLeDiff, Nat.reduceLT, if_true, if_false, ite_true, ite_false, reduceIte, AM.sBad, Bool.not_true, Bool.not_false, Bool.false_eq_true, Bool.true_and, Bool.and_true, Bool.false_and, Bool.and_false, Bool.true_or, Bool.or_true, Bool.false_or, Bool.or_false, not_true_eq_false, not_false_eq_true, decide_true, decide_false, and_self, true_and, and_true, tObj, List.lookup, AM.ne_slots_stands, AM.ne_slots_standsb, AM.ne_slots_roads, AM.ne_slots_roadsb, AM.ne_slots_names, AM.ne_slots_namesb, AM.ne_slots_town, AM.ne_slots_townb, AM.ne_slots_facts, AM.ne_slots_factsb, AM.ne_stands_slots, AM.ne_stands_slotsb, AM.ne_stands_roads, AM.ne_stands_roadsb, AM.ne_stands_names, AM.ne_stands_namesb, AM.ne_stands_town, AM.ne_stands_townb, AM.ne_stands_facts, AM.ne_stands_factsb, AM.ne_roads_slots, AM.ne_roads_slotsb, AM.ne_roads_stands, AM.ne_roads_standsb, AM.ne_roads_names, AM.ne_roads_namesb, AM.ne_roads_town, AM.ne_roads_townb, AM.ne_roads_facts, AM.ne_roads_factsb, AM.ne_names_slots, AM.ne_names_slotsb, AM.ne_names_stands, AM.ne_names_standsb, AM.ne_names_roads, AM.ne_names_roadsb, AM.ne_names_town, AM.ne_names_townb, AM.ne_names_facts, AM.ne_names_factsb, AM.ne_town_slots, AM.ne_town_slotsb, AM.ne_town_stands, AM.ne_town_standsb, AM.ne_town_roads, AM.ne_town_roadsb, AM.ne_town_names, AM.ne_town_namesb, AM.ne_town_facts, AM.ne_town_factsb, AM.ne_facts_slots, AM.ne_facts_slotsb, AM.ne_facts_stands, AM.ne_facts_standsb, AM.ne_facts_roads, AM.ne_facts_roadsb, AM.ne_facts_names, AM.ne_facts_namesb, AM.ne_facts_town, AM.ne_facts_townb]
end Bk
set_option Elab.async false
set_option linter.all false
set_option maxRecDepth 100000
set_option maxHeartbeats 4000000
namespace Bk
open PySem AM
theorem num_fmt {z : Int} (h0 : 0 ≤ z) (h1 : z ≤ 40) : fmtD (.int z) = some (.str (num z)) := by
  have := log2_small h0 (by omega : z ≤ 9999)
  simp only [fmtD]
  rw [if_pos ⟨h0, this⟩]
theorem num_str {z : Int} (h0 : 0 ≤ z) (h1 : z ≤ 40) : strD [.int z] = some (.str (num z)) := by
  have := log2_small h0 (by omega : z ≤ 9999)
  simp only [strD]
  rw [if_pos ⟨h0, this⟩]
theorem lit_len : (Str.ofString "stand ").length = 6 ∧ (Str.ofString " ").length = 1 ∧ (Str.ofString "road ").length = 5 ∧ (Str.ofString "slots ").length = 6 ∧ (Str.ofString "\n").length = 1 := by decide +kernel
theorem stand_line {s : Str × Int} (h : nameOk s.1 = true ∧ 1 ≤ s.2 ∧ s.2 ≤ 40) {w0 w1 w4 w5 w6 : Option W} (T : Sto) : cJoin [cC (.str "stand "), cUn (aUn fmtD) (cVar 2), cC (.str " "), cUn (aUn fmtD) (cVar 3)] [w0, w1, some (.val (.str s.1)), some (.val (.int s.2)), w4, w5, w6] T = .ok (.val (.str (standLine s))) T := by
  have hn := (nameOk_len h.1).2
  have hm := (num_le (by omega) h.2.2 : (num s.2).length ≤ 2 ∧ _).1
  have ll := lit_len
  rw [cJoin_ok (ys := ["stand ", s.1, " ", num s.2]) (.cons rfl (.cons (by simp [AM.callF, AM.exitF, AM.exitW, AM.sNil, AM.sSeq, AM.sExpr, AM.sRet, AM.sRetN, AM.sIf, AM.sAsg, AM.sPar, AM.sPar3, AM.sParN, AM.setAll, AM.sFor, AM.sFrz, AM.sSetIx, AM.sFldA, AM.gNm, AM.gNilA, AM.gConsA, AM.gTupA, AM.cVar, AM.cC, AM.cBin, AM.cUn, AM.aBin, AM.aUn, AM.aFn, AM.cBi, AM.cCall, AM.cTest, AM.cTruth, AM.cAndT, AM.cOrT, AM.cNotT, AM.cAndV, AM.cOrV, AM.cNotV, AM.cIf, AM.cNil, AM.cCons, AM.cStar, AM.cTup, AM.cLst, AM.cLstM, AM.cSl, AM.oNone, AM.oSome, AM.cRev, AM.cRevL, AM.cIter, AM.iterD, AM.cRange1, AM.cRange2, AM.cEnum, AM.cZip, AM.cChain, AM.cMut, AM.isLst, AM.cM1, AM.cFld, AM.cProp, AM.cMeth, AM.isObj, AM.cMake, AM.makeW, AM.cMakeD, AM.cMakeK, AM.makeKW, AM.strOwnW, AM.eqOwnW, AM.boolOwnW, AM.knownW, AM.view_val, AM.view_ref, AM.views, AM.toD_val, AM.toD_ref, AM.toDs, AM.Rs.bind, AM.Rs.bindT, AM.tYesM, AM.putD, AM.gI, AM.wipeE, AM.cJoin, AM.cJs, Option.bind_some, Option.bind_none, Option.map_some, Option.map_none, List.map_cons, List.map_nil, List.length_cons, List.length_nil, List.replicate, List.append_eq, List.cons_append, List.nil_append, List.getElem?_cons_zero, List.getElem?_cons_succ, List.set_cons_zero, List.set_cons_succ, List.take_length, AM.take_set, Nat.reduceAdd, Nat.reduceSub, Nat.reduceLeDiff, Nat.reduceLT, if_true, if_false, ite_true, ite_false, reduceIte, AM.sBad, Bool.not_true, Bool.not_false, Bool.false_eq_true, Bool.true_and, Bool.and_true, Bool.false_and, Bool.and_false, Bool.true_or, Bool.or_true, Bool.false_or, Bool.or_false, not_true_eq_false, not_false_eq_true, decide_true, decide_false, and_self, true_and, and_true, fmtD]) (.cons rfl (.cons (by simp only [AM.callF, AM.exitF, AM.exitW, AM.sNil, AM.sSeq, AM.sExpr, AM.sRet, AM.sRetN, AM.sIf, AM.sAsg, AM.sPar, AM.sPar3, AM.sParN, AM.setAll, AM.sFor, AM.sFrz, AM.sSetIx, AM.sFldA, AM.gNm, AM.gNilA, AM.gConsA, AM.gTupA, AM.cVar, AM.cC, AM.cBin, AM.cUn, AM.aBin, AM.aUn, AM.aFn, AM.cBi, AM.cCall, AM.cTest, AM.cTruth, AM.cAndT, AM.cOrT, AM.cNotT, AM.cAndV, AM.cOrV, AM.cNotV, AM.cIf, AM.cNil, AM.cCons, AM.cStar, AM.cTup, AM.cLst, AM.cLstM, AM.cSl, AM.oNone, AM.oSome, AM.cRev, AM.cRevL, AM.cIter, AM.iterD, AM.cRange1, AM.cRange2, AM.cEnum, AM.cZip, AM.cChain, AM.cMut, AM.isLst, AM.cM1, AM.cFld, AM.cProp, AM.cMeth, AM.isObj, AM.cMake, AM.makeW, AM.cMakeD, AM.cMakeK, AM.makeKW, AM.strOwnW, AM.eqOwnW, AM.boolOwnW, AM.knownW, AM.view_val, AM.view_ref, AM.views, AM.toD_val, AM.toD_ref, AM.toDs, AM.Rs.bind, AM.Rs.bindT, AM.tYesM, AM.putD, AM.gI, AM.wipeE, AM.cJoin, AM.cJs, Option.bind_some, Option.bind_none, Option.map_some, Option.map_none, List.map_cons, List.map_nil, List.length_cons, List.length_nil, List.replicate, List.append_eq, List.cons_append, List.nil_append, List.getElem?_cons_zero, List.getElem?_cons_succ, List.set_cons_zero, List.set_cons_succ, List.take_length, AM.take_set, Nat.reduceAdd, Nat.reduceSub, Nat.reduceLeDiff, Nat.reduceLT, if_true, if_false, ite_true, ite_false, reduceIte, AM.sBad, Bool.not_true, Bool.not_false, Bool.false_eq_true, Bool.true_and, Bool.and_true, Bool.false_and, Bool.and_false, Bool.true_or, Bool.or_true, Bool.false_or, Bool.or_false, not_true_eq_false, not_false_eq_true, decide_true, decide_false, and_self, true_and, and_true, num_fmt (by omega : 0 ≤ s.2) h.2.2]) .nil)))) (by simp only [List.map_cons, List.map_nil, List.sum_cons, List.sum_nil, szl]; omega)]
  simp only [List.foldl_cons, List.foldl_nil, empty_app]
  rfl
theorem road_line {s : Str × Str × Int} (h : nameOk s.1 = true ∧ nameOk s.2.1 = true ∧ 1 ≤ s.2.2 ∧ s.2.2 ≤ 3) {w0 w1 w2 w3 : Option W} (T : Sto) : cJoin [cC (.str "road "), cUn (aUn fmtD) (cVar 4), cC (.str " "), cUn (aUn fmtD) (cVar 5), cC (.str " "), cUn (aUn fmtD) (cVar 6)] [w0, w1, w2, w3, some (.val (.str s.1)), some (.val (.str s.2.1)), some (.val (.int s.2.2))] T = .ok (.val (.str (roadLine s))) T := by
  have hn := (nameOk_len h.1).2
  have hn2 := (nameOk_len h.2.1).2
  have hm := (num_le (by omega) (by omega) : (num s.2.2).length ≤ 2 ∧ _).1
  have ll := lit_len
  rw [cJoin_ok (ys := ["road ", s.1, " ", s.2.1, " ", num s.2.2]) (.cons rfl (.cons (by simp [AM.callF, AM.exitF, AM.exitW, AM.sNil, AM.sSeq, AM.sExpr, AM.sRet, AM.sRetN, AM.sIf, AM.sAsg, AM.sPar, AM.sPar3, AM.sParN, AM.setAll, AM.sFor, AM.sFrz, AM.sSetIx, AM.sFldA, AM.gNm, AM.gNilA, AM.gConsA, AM.gTupA, AM.cVar, AM.cC, AM.cBin, AM.cUn, AM.aBin, AM.aUn, AM.aFn, AM.cBi, AM.cCall, AM.cTest, AM.cTruth, AM.cAndT, AM.cOrT, AM.cNotT, AM.cAndV, AM.cOrV, AM.cNotV, AM.cIf, AM.cNil, AM.cCons, AM.cStar, AM.cTup, AM.cLst, AM.cLstM, AM.cSl, AM.oNone, AM.oSome, AM.cRev, AM.cRevL, AM.cIter, AM.iterD, AM.cRange1, AM.cRange2, AM.cEnum, AM.cZip, AM.cChain, AM.cMut, AM.isLst, AM.cM1, AM.cFld, AM.cProp, AM.cMeth, AM.isObj, AM.cMake, AM.makeW, AM.cMakeD, AM.cMakeK, AM.makeKW, AM.strOwnW, AM.eqOwnW, AM.boolOwnW, AM.knownW, AM.view_val, AM.view_ref, AM.views, AM.toD_val, AM.toD_ref, AM.toDs, AM.Rs.bind, AM.Rs.bindT, AM.tYesM, AM.putD, AM.gI, AM.wipeE, AM.cJoin, AM.cJs, Option.bind_some, Option.bind_none, Option.map_some, Option.map_none, List.map_cons, List.map_nil, List.length_cons, List.length_nil, List.replicate, List.append_eq, List.cons_append, List.nil_append, List.getElem?_cons_zero, List.getElem?_cons_succ, List.set_cons_zero, List.set_cons_succ, List.take_length, AM.take_set, Nat.reduceAdd, Nat.reduceSub, Nat.reduceLeDiff, Nat.reduceLT, if_true, if_false, ite_true, ite_false, reduceIte, AM.sBad, Bool.not_true, Bool.not_false, Bool.false_eq_true, Bool.true_and, Bool.and_true, Bool.false_and, Bool.and_false, Bool.true_or, Bool.or_true, Bool.false_or, Bool.or_false, not_true_eq_false, not_false_eq_true, decide_true, decide_false, and_self, true_and, and_true, fmtD]) (.cons rfl (.cons (by simp [AM.callF, AM.exitF, AM.exitW, AM.sNil, AM.sSeq, AM.sExpr, AM.sRet, AM.sRetN, AM.sIf, AM.sAsg, AM.sPar, AM.sPar3, AM.sParN, AM.setAll, AM.sFor, AM.sFrz, AM.sSetIx, AM.sFldA, AM.gNm, AM.gNilA, AM.gConsA, AM.gTupA, AM.cVar, AM.cC, AM.cBin, AM.cUn, AM.aBin, AM.aUn, AM.aFn, AM.cBi, AM.cCall, AM.cTest, AM.cTruth, AM.cAndT, AM.cOrT, AM.cNotT, AM.cAndV, AM.cOrV, AM.cNotV, AM.cIf, AM.cNil, AM.cCons, AM.cStar, AM.cTup, AM.cLst, AM.cLstM, AM.cSl, AM.oNone, AM.oSome, AM.cRev, AM.cRevL, AM.cIter, AM.iterD, AM.cRange1, AM.cRange2, AM.cEnum, AM.cZip, AM.cChain, AM.cMut, AM.isLst, AM.cM1, AM.cFld, AM.cProp, AM.cMeth, AM.isObj, AM.cMake, AM.makeW, AM.cMakeD, AM.cMakeK, AM.makeKW, AM.strOwnW, AM.eqOwnW, AM.boolOwnW, AM.knownW, AM.view_val, AM.view_ref, AM.views, AM.toD_val, AM.toD_ref, AM.toDs, AM.Rs.bind, AM.Rs.bindT, AM.tYesM, AM.putD, AM.gI, AM.wipeE, AM.cJoin, AM.cJs, Option.bind_some, Option.bind_none, Option.map_some, Option.map_none, List.map_cons, List.map_nil, List.length_cons, List.length_nil, List.replicate, List.append_eq, List.cons_append, List.nil_append, List.getElem?_cons_zero, List.getElem?_cons_succ, List.set_cons_zero, List.set_cons_succ, List.take_length, AM.take_set, Nat.reduceAdd, Nat.reduceSub, Nat.reduceLeDiff, Nat.reduceLT, if_true, if_false, ite_true, ite_false, reduceIte, AM.sBad, Bool.not_true, Bool.not_false, Bool.false_eq_true, Bool.true_and, Bool.and_true, Bool.false_and, Bool.and_false, Bool.true_or, Bool.or_true, Bool.false_or, Bool.or_false, not_true_eq_false, not_false_eq_true, decide_true, decide_false, and_self, true_and, and_true, fmtD]) (.cons rfl (.cons (by simp only [AM.callF, AM.exitF, AM.exitW, AM.sNil, AM.sSeq, AM.sExpr, AM.sRet, AM.sRetN, AM.sIf, AM.sAsg, AM.sPar, AM.sPar3, AM.sParN, AM.setAll, AM.sFor, AM.sFrz, AM.sSetIx, AM.sFldA, AM.gNm, AM.gNilA, AM.gConsA, AM.gTupA, AM.cVar, AM.cC, AM.cBin, AM.cUn, AM.aBin, AM.aUn, AM.aFn, AM.cBi, AM.cCall, AM.cTest, AM.cTruth, AM.cAndT, AM.cOrT, AM.cNotT, AM.cAndV, AM.cOrV, AM.cNotV, AM.cIf, AM.cNil, AM.cCons, AM.cStar, AM.cTup, AM.cLst, AM.cLstM, AM.cSl, AM.oNone, AM.oSome, AM.cRev, AM.cRevL, AM.cIter, AM.iterD, AM.cRange1, AM.cRange2, AM.cEnum, AM.cZip, AM.cChain, AM.cMut, AM.isLst, AM.cM1, AM.cFld, AM.cProp, AM.cMeth, AM.isObj, AM.cMake, AM.makeW, AM.cMakeD, AM.cMakeK, AM.makeKW, AM.strOwnW, AM.eqOwnW, AM.boolOwnW, AM.knownW, AM.view_val, AM.view_ref, AM.views, AM.toD_val, AM.toD_ref, AM.toDs, AM.Rs.bind, AM.Rs.bindT, AM.tYesM, AM.putD, AM.gI, AM.wipeE, AM.cJoin, AM.cJs, Option.bind_some, Option.bind_none, Option.map_some, Option.map_none, List.map_cons, List.map_nil, List.length_cons, List.length_nil, List.replicate, List.append_eq, List.cons_append, List.nil_append, List.getElem?_cons_zero, List.getElem?_cons_succ, List.set_cons_zero, List.set_cons_succ, List.take_length, AM.take_set, Nat.reduceAdd, Nat.reduceSub, Nat.reduceLeDiff, Nat.reduceLT, if_true, if_false, ite_true, ite_false, reduceIte, AM.sBad, Bool.not_true, Bool.not_false, Bool.false_eq_true, Bool.true_and, Bool.and_true, Bool.false_and, Bool.and_false, Bool.true_or, Bool.or_true, Bool.false_or, Bool.or_false, not_true_eq_false, not_false_eq_true, decide_true, decide_false, and_self, true_and, and_true, num_fmt (by omega : 0 ≤ s.2.2) (by omega)]) .nil)))))) (by simp only [List.map_cons, List.map_nil, List.sum_cons, List.sum_nil, szl]; omega)]
  simp only [List.foldl_cons, List.foldl_nil, empty_app]
  rfl
theorem lines_of_eq {t : TownD} {S : Sto} (ok : t.Ok) : F_lines_of [.val (tObj t)] S = .ok (.val (.lst ((linesOf t).map .str))) S := by
  have ll := lit_len
  have z1 := ok.s1
  have z2 := ok.s2
  have hm := (num_le (by omega) (by omega) : (num t.slots).length ≤ 2 ∧ _).1
  have io : ∀ (w1 w2 w3 w4 w5 w6 : Option W) (T : Sto), cProp "Town" F_Town_slots (cVar 0) [some (.val (tObj t)), w1, w2, w3, w4, w5, w6] T = .ok (.val (.int t.slots)) T := fun _ _ _ _ _ _ T => by
    simp only [AM.callF, AM.exitF, AM.exitW, AM.sNil, AM.sSeq, AM.sExpr, AM.sRet, AM.sRetN, AM.sIf, AM.sAsg, AM.sPar, AM.sPar3, AM.sParN, AM.setAll, AM.sFor, AM.sFrz, AM.sSetIx, AM.sFldA, AM.gNm, AM.gNilA, AM.gConsA, AM.gTupA, AM.cVar, AM.cC, AM.cBin, AM.cUn, AM.aBin, AM.aUn, AM.aFn, AM.cBi, AM.cCall, AM.cTest, AM.cTruth, AM.cAndT, AM.cOrT, AM.cNotT, AM.cAndV, AM.cOrV, AM.cNotV, AM.cIf, AM.cNil, AM.cCons, AM.cStar, AM.cTup, AM.cLst, AM.cLstM, AM.cSl, AM.oNone, AM.oSome, AM.cRev, AM.cRevL, AM.cIter, AM.iterD, AM.cRange1, AM.cRange2, AM.cEnum, AM.cZip, AM.cChain, AM.cMut, AM.isLst, AM.cM1, AM.cFld, AM.cProp, AM.cMeth, AM.isObj, AM.cMake, AM.makeW, AM.cMakeD, AM.cMakeK, AM.makeKW, AM.strOwnW, AM.eqOwnW, AM.boolOwnW, AM.knownW, AM.view_val, AM.view_ref, AM.views, AM.toD_val, AM.toD_ref, AM.toDs, AM.Rs.bind, AM.Rs.bindT, AM.tYesM, AM.putD, AM.gI, AM.wipeE, AM.cJoin, AM.cJs, Option.bind_some, Option.bind_none, Option.map_some, Option.map_none, List.map_cons, List.map_nil, List.length_cons, List.length_nil, List.replicate, List.append_eq, List.cons_append, List.nil_append, List.getElem?_cons_zero, List.getElem?_cons_succ, List.set_cons_zero, List.set_cons_succ, List.take_length, AM.take_set, Nat.reduceAdd, Nat.reduceSub, Nat.reduceLeDiff, Nat.reduceLT, if_true, if_false, ite_true, ite_false, reduceIte, AM.sBad, Bool.not_true, Bool.not_false, Bool.false_eq_true, Bool.true_and, Bool.and_true, Bool.false_and, Bool.and_false, Bool.true_or, Bool.or_true, Bool.false_or, Bool.or_false, not_true_eq_false, not_false_eq_true, decide_true, decide_false, and_self, true_and, and_true, slots_eq]
    simp [tObj, AM.callF, AM.exitF, AM.exitW, AM.sNil, AM.sSeq, AM.sExpr, AM.sRet, AM.sRetN, AM.sIf, AM.sAsg, AM.sPar, AM.sPar3, AM.sParN, AM.setAll, AM.sFor, AM.sFrz, AM.sSetIx, AM.sFldA, AM.gNm, AM.gNilA, AM.gConsA, AM.gTupA, AM.cVar, AM.cC, AM.cBin, AM.cUn, AM.aBin, AM.aUn, AM.aFn, AM.cBi, AM.cCall, AM.cTest, AM.cTruth, AM.cAndT, AM.cOrT, AM.cNotT, AM.cAndV, AM.cOrV, AM.cNotV, AM.cIf, AM.cNil, AM.cCons, AM.cStar, AM.cTup, AM.cLst, AM.cLstM, AM.cSl, AM.oNone, AM.oSome, AM.cRev, AM.cRevL, AM.cIter, AM.iterD, AM.cRange1, AM.cRange2, AM.cEnum, AM.cZip, AM.cChain, AM.cMut, AM.isLst, AM.cM1, AM.cFld, AM.cProp, AM.cMeth, AM.isObj, AM.cMake, AM.makeW, AM.cMakeD, AM.cMakeK, AM.makeKW, AM.strOwnW, AM.eqOwnW, AM.boolOwnW, AM.knownW, AM.view_val, AM.view_ref, AM.views, AM.toD_val, AM.toD_ref, AM.toDs, AM.Rs.bind, AM.Rs.bindT, AM.tYesM, AM.putD, AM.gI, AM.wipeE, AM.cJoin, AM.cJs, Option.bind_some, Option.bind_none, Option.map_some, Option.map_none, List.map_cons, List.map_nil, List.length_cons, List.length_nil, List.replicate, List.append_eq, List.cons_append, List.nil_append, List.getElem?_cons_zero, List.getElem?_cons_succ, List.set_cons_zero, List.set_cons_succ, List.take_length, AM.take_set, Nat.reduceAdd, Nat.reduceSub, Nat.reduceLeDiff, Nat.reduceLT, if_true, if_false, ite_true, ite_false, reduceIte, AM.sBad, Bool.not_true, Bool.not_false, Bool.false_eq_true, Bool.true_and, Bool.and_true, Bool.false_and, Bool.and_false, Bool.true_or, Bool.or_true, Bool.false_or, Bool.or_false, not_true_eq_false, not_false_eq_true, decide_true, decide_false, and_self, true_and, and_true]
  have is : ∀ (w1 w2 w3 w4 w5 w6 : Option W) (T : Sto), cProp "Town" F_Town_stands (cVar 0) [some (.val (tObj t)), w1, w2, w3, w4, w5, w6] T = .ok (.val (eSs t.stands)) T := fun _ _ _ _ _ _ T => by
    simp only [AM.callF, AM.exitF, AM.exitW, AM.sNil, AM.sSeq, AM.sExpr, AM.sRet, AM.sRetN, AM.sIf, AM.sAsg, AM.sPar, AM.sPar3, AM.sParN, AM.setAll, AM.sFor, AM.sFrz, AM.sSetIx, AM.sFldA, AM.gNm, AM.gNilA, AM.gConsA, AM.gTupA, AM.cVar, AM.cC, AM.cBin, AM.cUn, AM.aBin, AM.aUn, AM.aFn, AM.cBi, AM.cCall, AM.cTest, AM.cTruth, AM.cAndT, AM.cOrT, AM.cNotT, AM.cAndV, AM.cOrV, AM.cNotV, AM.cIf, AM.cNil, AM.cCons, AM.cStar, AM.cTup, AM.cLst, AM.cLstM, AM.cSl, AM.oNone, AM.oSome, AM.cRev, AM.cRevL, AM.cIter, AM.iterD, AM.cRange1, AM.cRange2, AM.cEnum, AM.cZip, AM.cChain, AM.cMut, AM.isLst, AM.cM1, AM.cFld, AM.cProp, AM.cMeth, AM.isObj, AM.cMake, AM.makeW, AM.cMakeD, AM.cMakeK, AM.makeKW, AM.strOwnW, AM.eqOwnW, AM.boolOwnW, AM.knownW, AM.view_val, AM.view_ref, AM.views, AM.toD_val, AM.toD_ref, AM.toDs, AM.Rs.bind, AM.Rs.bindT, AM.tYesM, AM.putD, AM.gI, AM.wipeE, AM.cJoin, AM.cJs, Option.bind_some, Option.bind_none, Option.map_some, Option.map_none, List.map_cons, List.map_nil, List.length_cons, List.length_nil, List.replicate, List.append_eq, List.cons_append, List.nil_append, List.getElem?_cons_zero, List.getElem?_cons_succ, List.set_cons_zero, List.set_cons_succ, List.take_length, AM.take_set, Nat.reduceAdd, Nat.reduceSub, Nat.reduceLeDiff, Nat.reduceLT, if_true, if_false, ite_true, ite_false, reduceIte, AM.sBad, Bool.not_true, Bool.not_false, Bool.false_eq_true, Bool.true_and, Bool.and_true, Bool.false_and, Bool.and_false, Bool.true_or, Bool.or_true, Bool.false_or, Bool.or_false, not_true_eq_false, not_false_eq_true, decide_true, decide_false, and_self, true_and, and_true, stands_eq]
    simp [tObj, AM.callF, AM.exitF, AM.exitW, AM.sNil, AM.sSeq, AM.sExpr, AM.sRet, AM.sRetN, AM.sIf, AM.sAsg, AM.sPar, AM.sPar3, AM.sParN, AM.setAll, AM.sFor, AM.sFrz, AM.sSetIx, AM.sFldA, AM.gNm, AM.gNilA, AM.gConsA, AM.gTupA, AM.cVar, AM.cC, AM.cBin, AM.cUn, AM.aBin, AM.aUn, AM.aFn, AM.cBi, AM.cCall, AM.cTest, AM.cTruth, AM.cAndT, AM.cOrT, AM.cNotT, AM.cAndV, AM.cOrV, AM.cNotV, AM.cIf, AM.cNil, AM.cCons, AM.cStar, AM.cTup, AM.cLst, AM.cLstM, AM.cSl, AM.oNone, AM.oSome, AM.cRev, AM.cRevL, AM.cIter, AM.iterD, AM.cRange1, AM.cRange2, AM.cEnum, AM.cZip, AM.cChain, AM.cMut, AM.isLst, AM.cM1, AM.cFld, AM.cProp, AM.cMeth, AM.isObj, AM.cMake, AM.makeW, AM.cMakeD, AM.cMakeK, AM.makeKW, AM.strOwnW, AM.eqOwnW, AM.boolOwnW, AM.knownW, AM.view_val, AM.view_ref, AM.views, AM.toD_val, AM.toD_ref, AM.toDs, AM.Rs.bind, AM.Rs.bindT, AM.tYesM, AM.putD, AM.gI, AM.wipeE, AM.cJoin, AM.cJs, Option.bind_some, Option.bind_none, Option.map_some, Option.map_none, List.map_cons, List.map_nil, List.length_cons, List.length_nil, List.replicate, List.append_eq, List.cons_append, List.nil_append, List.getElem?_cons_zero, List.getElem?_cons_succ, List.set_cons_zero, List.set_cons_succ, List.take_length, AM.take_set, Nat.reduceAdd, Nat.reduceSub, Nat.reduceLeDiff, Nat.reduceLT, if_true, if_false, ite_true, ite_false, reduceIte, AM.sBad, Bool.not_true, Bool.not_false, Bool.false_eq_true, Bool.true_and, Bool.and_true, Bool.false_and, Bool.and_false, Bool.true_or, Bool.or_true, Bool.false_or, Bool.or_false, not_true_eq_false, not_false_eq_true, decide_true, decide_false, and_self, true_and, and_true]
  have ir : ∀ (w1 w2 w3 w4 w5 w6 : Option W) (T : Sto), cProp "Town" F_Town_roads (cVar 0) [some (.val (tObj t)), w1, w2, w3, w4, w5, w6] T = .ok (.val (eRs t.roads)) T := fun _ _ _ _ _ _ T => by
    simp only [AM.callF, AM.exitF, AM.exitW, AM.sNil, AM.sSeq, AM.sExpr, AM.sRet, AM.sRetN, AM.sIf, AM.sAsg, AM.sPar, AM.sPar3, AM.sParN, AM.setAll, AM.sFor, AM.sFrz, AM.sSetIx, AM.sFldA, AM.gNm, AM.gNilA, AM.gConsA, AM.gTupA, AM.cVar, AM.cC, AM.cBin, AM.cUn, AM.aBin, AM.aUn, AM.aFn, AM.cBi, AM.cCall, AM.cTest, AM.cTruth, AM.cAndT, AM.cOrT, AM.cNotT, AM.cAndV, AM.cOrV, AM.cNotV, AM.cIf, AM.cNil, AM.cCons, AM.cStar, AM.cTup, AM.cLst, AM.cLstM, AM.cSl, AM.oNone, AM.oSome, AM.cRev, AM.cRevL, AM.cIter, AM.iterD, AM.cRange1, AM.cRange2, AM.cEnum, AM.cZip, AM.cChain, AM.cMut, AM.isLst, AM.cM1, AM.cFld, AM.cProp, AM.cMeth, AM.isObj, AM.cMake, AM.makeW, AM.cMakeD, AM.cMakeK, AM.makeKW, AM.strOwnW, AM.eqOwnW, AM.boolOwnW, AM.knownW, AM.view_val, AM.view_ref, AM.views, AM.toD_val, AM.toD_ref, AM.toDs, AM.Rs.bind, AM.Rs.bindT, AM.tYesM, AM.putD, AM.gI, AM.wipeE, AM.cJoin, AM.cJs, Option.bind_some, Option.bind_none, Option.map_some, Option.map_none, List.map_cons, List.map_nil, List.length_cons, List.length_nil, List.replicate, List.append_eq, List.cons_append, List.nil_append, List.getElem?_cons_zero, List.getElem?_cons_succ, List.set_cons_zero, List.set_cons_succ, List.take_length, AM.take_set, Nat.reduceAdd, Nat.reduceSub, Nat.reduceLeDiff, Nat.reduceLT, if_true, if_false, ite_true, ite_false, reduceIte, AM.sBad, Bool.not_true, Bool.not_false, Bool.false_eq_true, Bool.true_and, Bool.and_true, Bool.false_and, Bool.and_false, Bool.true_or, Bool.or_true, Bool.false_or, Bool.or_false, not_true_eq_false, not_false_eq_true, decide_true, decide_false, and_self, true_and, and_true, roads_eq]
    simp [tObj, AM.callF, AM.exitF, AM.exitW, AM.sNil, AM.sSeq, AM.sExpr, AM.sRet, AM.sRetN, AM.sIf, AM.sAsg, AM.sPar, AM.sPar3, AM.sParN, AM.setAll, AM.sFor, AM.sFrz, AM.sSetIx, AM.sFldA, AM.gNm, AM.gNilA, AM.gConsA, AM.gTupA, AM.cVar, AM.cC, AM.cBin, AM.cUn, AM.aBin, AM.aUn, AM.aFn, AM.cBi, AM.cCall, AM.cTest, AM.cTruth, AM.cAndT, AM.cOrT, AM.cNotT, AM.cAndV, AM.cOrV, AM.cNotV, AM.cIf, AM.cNil, AM.cCons, AM.cStar, AM.cTup, AM.cLst, AM.cLstM, AM.cSl, AM.oNone, AM.oSome, AM.cRev, AM.cRevL, AM.cIter, AM.iterD, AM.cRange1, AM.cRange2, AM.cEnum, AM.cZip, AM.cChain, AM.cMut, AM.isLst, AM.cM1, AM.cFld, AM.cProp, AM.cMeth, AM.isObj, AM.cMake, AM.makeW, AM.cMakeD, AM.cMakeK, AM.makeKW, AM.strOwnW, AM.eqOwnW, AM.boolOwnW, AM.knownW, AM.view_val, AM.view_ref, AM.views, AM.toD_val, AM.toD_ref, AM.toDs, AM.Rs.bind, AM.Rs.bindT, AM.tYesM, AM.putD, AM.gI, AM.wipeE, AM.cJoin, AM.cJs, Option.bind_some, Option.bind_none, Option.map_some, Option.map_none, List.map_cons, List.map_nil, List.length_cons, List.length_nil, List.replicate, List.append_eq, List.cons_append, List.nil_append, List.getElem?_cons_zero, List.getElem?_cons_succ, List.set_cons_zero, List.set_cons_succ, List.take_length, AM.take_set, Nat.reduceAdd, Nat.reduceSub, Nat.reduceLeDiff, Nat.reduceLT, if_true, if_false, ite_true, ite_false, reduceIte, AM.sBad, Bool.not_true, Bool.not_false, Bool.false_eq_true, Bool.true_and, Bool.and_true, Bool.false_and, Bool.and_false, Bool.true_or, Bool.or_true, Bool.false_or, Bool.or_false, not_true_eq_false, not_false_eq_true, decide_true, decide_false, and_self, true_and, and_true]
  have c1 : ∀ (w1 w2 w3 w4 w5 w6 : Option W) (T : Sto), cLc false [2, 3] (gTupA 2 (gConsA (gNm 2) (gConsA (gNm 3) gNilA))) (cIter (cProp "Town" F_Town_stands (cVar 0))) tYesM (cJoin [cC (.str "stand "), cUn (aUn fmtD) (cVar 2), cC (.str " "), cUn (aUn fmtD) (cVar 3)]) [some (.val (tObj t)), w1, w2, w3, w4, w5, w6] T = .ok (.val (.lst (t.stands.map fun s => .str (standLine s)))) T := fun _ _ _ _ _ _ T =>
    cLc_enc (enc := eS) t.stands (by simp only [cIter, is, Rs.bind, iterD, eSs]) (fun s hs => ⟨_, rfl, fun T => stand_line (ok.st.each s hs) T⟩) (by have := ok.st.few; rw [szl]; omega)
  have c2 : ∀ (w1 w2 w3 w4 w5 w6 : Option W) (T : Sto), cLc false [4, 5, 6] (gTupA 3 (gConsA (gNm 4) (gConsA (gNm 5) (gConsA (gNm 6) gNilA)))) (cIter (cProp "Town" F_Town_roads (cVar 0))) tYesM (cJoin [cC (.str "road "), cUn (aUn fmtD) (cVar 4), cC (.str " "), cUn (aUn fmtD) (cVar 5), cC (.str " "), cUn (aUn fmtD) (cVar 6)]) [some (.val (tObj t)), w1, w2, w3, w4, w5, w6] T = .ok (.val (.lst (t.roads.map fun s => .str (roadLine s)))) T := fun _ _ _ _ _ _ T =>
    cLc_enc (enc := eR) t.roads (by simp only [cIter, ir, Rs.bind, iterD, eRs]) (fun s hs => ⟨_, rfl, fun T => road_line (ok.rds s hs) T⟩) (by have := ok.rd.few; rw [szl]; omega)
  have j1 : ∀ (w1 w2 w3 w4 w5 w6 : Option W) (T : Sto), cJoin [cC (.str "slots "), cUn (aUn fmtD) (cProp "Town" F_Town_slots (cVar 0))] [some (.val (tObj t)), w1, w2, w3, w4, w5, w6] T = .ok (.val (.str (slotsLine t.slots))) T := fun _ _ _ _ _ _ T => by
    rw [cJoin_ok (ys := ["slots ", num t.slots]) (.cons rfl (.cons (by simp only [cUn, io, Rs.bind, aUn, view, num_fmt (by omega : 0 ≤ t.slots) (by omega)]) .nil)) (by simp only [List.map_cons, List.map_nil, List.sum_cons, List.sum_nil, szl]; omega)]
    simp only [List.foldl_cons, List.foldl_nil, empty_app]
    rfl
  have l1 := ok.st.few
  have l2 := ok.rd.few
  have q1 : 1 + t.stands.length ≤ 16777216 := by omega
  have q2 : t.stands.length + 1 + t.roads.length ≤ 16777216 := by omega
  have fin : linesOf t = slotsLine t.slots :: (t.stands.map standLine ++ t.roads.map roadLine) := by simp [linesOf]
  simp only [F_lines_of, m_lines_of, callF, List.length_cons, List.length_nil, List.map_cons, List.map_nil, List.replicate, Nat.reduceAdd, Nat.reduceSub, if_true, List.cons_append, List.nil_append, sSeq, sAsg, cLstM, cCons, j1, cNil, Rs.bind, toDs, toD, Option.bind_some, Option.map_some, Rs.bindT, gNm, List.set_cons_succ, List.set_cons_zero, sExpr, cMut, cVar, List.getElem?_cons_succ, List.getElem?_cons_zero]
  simp [szl, isLst, last_app, c1, c2, AM.callF, AM.exitF, AM.exitW, AM.sNil, AM.sSeq, AM.sExpr, AM.sRet, AM.sRetN, AM.sIf, AM.sAsg, AM.sPar, AM.sPar3, AM.sParN, AM.setAll, AM.sFor, AM.sFrz, AM.sSetIx, AM.sFldA, AM.gNm, AM.gNilA, AM.gConsA, AM.gTupA, AM.cVar, AM.cC, AM.cBin, AM.cUn, AM.aBin, AM.aUn, AM.aFn, AM.cBi, AM.cCall, AM.cTest, AM.cTruth, AM.cAndT, AM.cOrT, AM.cNotT, AM.cAndV, AM.cOrV, AM.cNotV, AM.cIf, AM.cNil, AM.cCons, AM.cStar, AM.cTup, AM.cLst, AM.cLstM, AM.cSl, AM.oNone, AM.oSome, AM.cRev, AM.cRevL, AM.cIter, AM.iterD, AM.cRange1, AM.cRange2, AM.cEnum, AM.cZip, AM.cChain, AM.cMut, AM.isLst, AM.cM1, AM.cFld, AM.cProp, AM.cMeth, AM.isObj, AM.cMake, AM.makeW, AM.cMakeD, AM.cMakeK, AM.makeKW, AM.strOwnW, AM.eqOwnW, AM.boolOwnW, AM.knownW, AM.view_val, AM.view_ref, AM.views, AM.toD_val, AM.toD_ref, AM.toDs, AM.Rs.bind, AM.Rs.bindT, AM.tYesM, AM.putD, AM.gI, AM.wipeE, AM.cJoin, AM.cJs, Option.bind_some, Option.bind_none, Option.map_some, Option.map_none, List.map_cons, List.map_nil, List.length_cons, List.length_nil, List.replicate, List.append_eq, List.cons_append, List.nil_append, List.getElem?_cons_zero, List.getElem?_cons_succ, List.set_cons_zero, List.set_cons_succ, List.take_length, AM.take_set, Nat.reduceAdd, Nat.reduceSub, Nat.reduceLeDiff, Nat.reduceLT, if_true, if_false, ite_true, ite_false, reduceIte, AM.sBad, Bool.not_true, Bool.not_false, Bool.false_eq_true, Bool.true_and, Bool.and_true, Bool.false_and, Bool.and_false, Bool.true_or, Bool.or_true, Bool.false_or, Bool.or_false, not_true_eq_false, not_false_eq_true, decide_true, decide_false, and_self, true_and, and_true, gExtend, set_last, List.length_map, q1, q2, take_last, fin]
  try rfl
theorem text_sum {t : TownD} (ok : t.Ok) : ((linesOf t).map (·.length)).sum + (linesOf t).length * (Str.ofString "\n").length ≤ 16777216 := by
  have h1 := lines_few ok
  have h2 := line_len ok
  have h3 : ∀ l : List Str, (∀ w ∈ l, w.length ≤ 40) → (l.map (·.length)).sum ≤ l.length * 40 := by
    intro l
    induction l with
    | nil => intro _; simp
    | cons a l ih =>
      intro h
      rw [List.map_cons, List.sum_cons, List.length_cons]
      have := h a List.mem_cons_self
      have := ih fun w hw => h w (List.mem_cons_of_mem _ hw)
      omega
  have := h3 _ h2
  rw [lit_len.2.2.2.2]
  omega
theorem townText_join (t : TownD) : townText t = Str.join "\n" (linesOf t) := by
  unfold townText
  rw [TL.join_eq]
theorem town_str_eq {t : TownD} {S : Sto} (ok : t.Ok) : F_Town___str__ [.val (tObj t)] S = .ok (.val (.str (townText t))) S := by
  have := lines_of_eq (S := S) ok
  simp only [F_Town___str__, m_Town___str__, AM.callF, AM.exitF, AM.exitW, AM.sNil, AM.sSeq, AM.sExpr, AM.sRet, AM.sRetN, AM.sIf, AM.sAsg, AM.sPar, AM.sPar3, AM.sParN, AM.setAll, AM.sFor, AM.sFrz, AM.sSetIx, AM.sFldA, AM.gNm, AM.gNilA, AM.gConsA, AM.gTupA, AM.cVar, AM.cC, AM.cBin, AM.cUn, AM.aBin, AM.aUn, AM.aFn, AM.cBi, AM.cCall, AM.cTest, AM.cTruth, AM.cAndT, AM.cOrT, AM.cNotT, AM.cAndV, AM.cOrV, AM.cNotV, AM.cIf, AM.cNil, AM.cCons, AM.cStar, AM.cTup, AM.cLst, AM.cLstM, AM.cSl, AM.oNone, AM.oSome, AM.cRev, AM.cRevL, AM.cIter, AM.iterD, AM.cRange1, AM.cRange2, AM.cEnum, AM.cZip, AM.cChain, AM.cMut, AM.isLst, AM.cM1, AM.cFld, AM.cProp, AM.cMeth, AM.isObj, AM.cMake, AM.makeW, AM.cMakeD, AM.cMakeK, AM.makeKW, AM.strOwnW, AM.eqOwnW, AM.boolOwnW, AM.knownW, AM.view_val, AM.view_ref, AM.views, AM.toD_val, AM.toD_ref, AM.toDs, AM.Rs.bind, AM.Rs.bindT, AM.tYesM, AM.putD, AM.gI, AM.wipeE, AM.cJoin, AM.cJs, Option.bind_some, Option.bind_none, Option.map_some, Option.map_none, List.map_cons, List.map_nil, List.length_cons, List.length_nil, List.replicate, List.append_eq, List.cons_append, List.nil_append, List.getElem?_cons_zero, List.getElem?_cons_succ, List.set_cons_zero, List.set_cons_succ, List.take_length, AM.take_set, Nat.reduceAdd, Nat.reduceSub, Nat.reduceLeDiff, Nat.reduceLT, if_true, if_false, ite_true, ite_false, reduceIte, AM.sBad, Bool.not_true, Bool.not_false, Bool.false_eq_true, Bool.true_and, Bool.and_true, Bool.false_and, Bool.and_false, Bool.true_or, Bool.or_true, Bool.false_or, Bool.or_false, not_true_eq_false, not_false_eq_true, decide_true, decide_false, and_self, true_and, and_true, this, joinD_ok (text_sum ok), townText_join]
theorem town_repr_eq {t : TownD} {S : Sto} (ok : t.Ok) : F_Town___repr__ [.val (tObj t)] S = .ok (.val (.str ("Town of " ++ num t.stands.length ++ " stands"))) S := by
  have l1 := ok.st.few
  have hm := (num_le (z := (t.stands.length : Int)) (by omega) (by omega) : _ ∧ _).1
  have ll : (Str.ofString "Town of ").length = 8 ∧ (Str.ofString " stands").length = 7 := by decide +kernel
  have e1 : cFld "Town" "_stands" (cVar 0) [some (.val (tObj t))] S = .ok (.val (eSs t.stands)) S := by simp [AM.callF, AM.exitF, AM.exitW, AM.sNil, AM.sSeq, AM.sExpr, AM.sRet, AM.sRetN, AM.sIf, AM.sAsg, AM.sPar, AM.sPar3, AM.sParN, AM.setAll, AM.sFor, AM.sFrz, AM.sSetIx, AM.sFldA, AM.gNm, AM.gNilA, AM.gConsA, AM.gTupA, AM.cVar, AM.cC, AM.cBin, AM.cUn, AM.aBin, AM.aUn, AM.aFn, AM.cBi, AM.cCall, AM.cTest, AM.cTruth, AM.cAndT, AM.cOrT, AM.cNotT, AM.cAndV, AM.cOrV, AM.cNotV, AM.cIf, AM.cNil, AM.cCons, AM.cStar, AM.cTup, AM.cLst, AM.cLstM, AM.cSl, AM.oNone, AM.oSome, AM.cRev, AM.cRevL, AM.cIter, AM.iterD, AM.cRange1, AM.cRange2, AM.cEnum, AM.cZip, AM.cChain, AM.cMut, AM.isLst, AM.cM1, AM.cFld, AM.cProp, AM.cMeth, AM.isObj, AM.cMake, AM.makeW, AM.cMakeD, AM.cMakeK, AM.makeKW, AM.strOwnW, AM.eqOwnW, AM.boolOwnW, AM.knownW, AM.view_val, AM.view_ref, AM.views, AM.toD_val, AM.toD_ref, AM.toDs, AM.Rs.bind, AM.Rs.bindT, AM.tYesM, AM.putD, AM.gI, AM.wipeE, AM.cJoin, AM.cJs, Option.bind_some, Option.bind_none, Option.map_some, Option.map_none, List.map_cons, List.map_nil, List.length_cons, List.length_nil, List.replicate, List.append_eq, List.cons_append, List.nil_append, List.getElem?_cons_zero, List.getElem?_cons_succ, List.set_cons_zero, List.set_cons_succ, List.take_length, AM.take_set, Nat.reduceAdd, Nat.reduceSub, Nat.reduceLeDiff, Nat.reduceLT, if_true, if_false, ite_true, ite_false, reduceIte, AM.sBad, Bool.not_true, Bool.not_false, Bool.false_eq_true, Bool.true_and, Bool.and_true, Bool.false_and, Bool.and_false, Bool.true_or, Bool.or_true, Bool.false_or, Bool.or_false, not_true_eq_false, not_false_eq_true, decide_true, decide_false, and_self, true_and, and_true, tObj, List.lookup, AM.ne_slots_stands, AM.ne_slots_standsb, AM.ne_slots_roads, AM.ne_slots_roadsb, AM.ne_slots_names, AM.ne_slots_namesb, AM.ne_slots_town, AM.ne_slots_townb, AM.ne_slots_facts, AM.ne_slots_factsb, AM.ne_stands_slots, AM.ne_stands_slotsb, AM.ne_stands_roads, AM.ne_stands_roadsb, AM.ne_stands_names, AM.ne_stands_namesb, AM.ne_stands_town, AM.ne_stands_townb, AM.ne_stands_facts, AM.ne_stands_factsb, AM.ne_roads_slots, AM.ne_roads_slotsb, AM.ne_roads_stands, AM.ne_roads_standsb, AM.ne_roads_names, AM.ne_roads_namesb, AM.ne_roads_town, AM.ne_roads_townb, AM.ne_roads_facts, AM.ne_roads_factsb, AM.ne_names_slots, AM.ne_names_slotsb, AM.ne_names_stands, AM.ne_names_standsb, AM.ne_names_roads, AM.ne_names_roadsb, AM.ne_names_town, AM.ne_names_townb, AM.ne_names_facts, AM.ne_names_factsb, AM.ne_town_slots, AM.ne_town_slotsb, AM.ne_town_stands, AM.ne_town_standsb, AM.ne_town_roads, AM.ne_town_roadsb, AM.ne_town_names, AM.ne_town_namesb, AM.ne_town_facts, AM.ne_town_factsb, AM.ne_facts_slots, AM.ne_facts_slotsb, AM.ne_facts_stands, AM.ne_facts_standsb, AM.ne_facts_roads, AM.ne_facts_roadsb, AM.ne_facts_names, AM.ne_facts_namesb, AM.ne_facts_town, AM.ne_facts_townb]
  have j : cJoin [cC (.str "Town of "), cUn (aUn fmtD) (cBi (aFn lenD) (cCons (cFld "Town" "_stands" (cVar 0)) cNil)), cC (.str " stands")] [some (.val (tObj t))] S = .ok (.val (.str ("Town of " ++ num t.stands.length ++ " stands"))) S := by
    rw [cJoin_ok (ys := ["Town of ", num t.stands.length, " stands"]) (.cons rfl (.cons (by simp only [cUn, cBi, cCons, e1, Rs.bind, cNil, aFn, views, view, Option.bind_some, Option.map_some, lenD, eSs, List.length_map, aUn, num_fmt (by omega : (0 : Int) ≤ t.stands.length) (by omega)]) (.cons rfl .nil))) (by simp only [List.map_cons, List.map_nil, List.sum_cons, List.sum_nil, szl]; omega)]
    simp only [List.foldl_cons, List.foldl_nil, empty_app]
  simp only [F_Town___repr__, m_Town___repr__, callF, List.length_cons, List.length_nil, List.map_cons, List.map_nil, List.replicate, Nat.reduceAdd, Nat.reduceSub, if_true, List.cons_append, List.nil_append, sRet, j]
  simp [AM.callF, AM.exitF, AM.exitW, AM.sNil, AM.sSeq, AM.sExpr, AM.sRet, AM.sRetN, AM.sIf, AM.sAsg, AM.sPar, AM.sPar3, AM.sParN, AM.setAll, AM.sFor, AM.sFrz, AM.sSetIx, AM.sFldA, AM.gNm, AM.gNilA, AM.gConsA, AM.gTupA, AM.cVar, AM.cC, AM.cBin, AM.cUn, AM.aBin, AM.aUn, AM.aFn, AM.cBi, AM.cCall, AM.cTest, AM.cTruth, AM.cAndT, AM.cOrT, AM.cNotT, AM.cAndV, AM.cOrV, AM.cNotV, AM.cIf, AM.cNil, AM.cCons, AM.cStar, AM.cTup, AM.cLst, AM.cLstM, AM.cSl, AM.oNone, AM.oSome, AM.cRev, AM.cRevL, AM.cIter, AM.iterD, AM.cRange1, AM.cRange2, AM.cEnum, AM.cZip, AM.cChain, AM.cMut, AM.isLst, AM.cM1, AM.cFld, AM.cProp, AM.cMeth, AM.isObj, AM.cMake, AM.makeW, AM.cMakeD, AM.cMakeK, AM.makeKW, AM.strOwnW, AM.eqOwnW, AM.boolOwnW, AM.knownW, AM.view_val, AM.view_ref, AM.views, AM.toD_val, AM.toD_ref, AM.toDs, AM.Rs.bind, AM.Rs.bindT, AM.tYesM, AM.putD, AM.gI, AM.wipeE, AM.cJoin, AM.cJs, Option.bind_some, Option.bind_none, Option.map_some, Option.map_none, List.map_cons, List.map_nil, List.length_cons, List.length_nil, List.replicate, List.append_eq, List.cons_append, List.nil_append, List.getElem?_cons_zero, List.getElem?_cons_succ, List.set_cons_zero, List.set_cons_succ, List.take_length, AM.take_set, Nat.reduceAdd, Nat.reduceSub, Nat.reduceLeDiff, Nat.reduceLT, if_true, if_false, ite_true, ite_false, reduceIte, AM.sBad, Bool.not_true, Bool.not_false, Bool.false_eq_true, Bool.true_and, Bool.and_true, Bool.false_and, Bool.and_false, Bool.true_or, Bool.or_true, Bool.false_or, Bool.or_false, not_true_eq_false, not_false_eq_true, decide_true, decide_false, and_self, true_and, and_true]
theorem strOwn_town {t : TownD} {S : Sto} (ok : t.Ok) : strOwnW "Town" F_Town___str__ [.val (tObj t)] S = .ok (.val (.str (townText t))) S := by
  simp only [strOwnW, town_str_eq ok]
  simp [AM.callF, AM.exitF, AM.exitW, AM.sNil, AM.sSeq, AM.sExpr, AM.sRet, AM.sRetN, AM.sIf, AM.sAsg, AM.sPar, AM.sPar3, AM.sParN, AM.setAll, AM.sFor, AM.sFrz, AM.sSetIx, AM.sFldA, AM.gNm, AM.gNilA, AM.gConsA, AM.gTupA, AM.cVar, AM.cC, AM.cBin, AM.cUn, AM.aBin, AM.aUn, AM.aFn, AM.cBi, AM.cCall, AM.cTest, AM.cTruth, AM.cAndT, AM.cOrT, AM.cNotT, AM.cAndV, AM.cOrV, AM.cNotV, AM.cIf, AM.cNil, AM.cCons, AM.cStar, AM.cTup, AM.cLst, AM.cLstM, AM.cSl, AM.oNone, AM.oSome, AM.cRev, AM.cRevL, AM.cIter, AM.iterD, AM.cRange1, AM.cRange2, AM.cEnum, AM.cZip, AM.cChain, AM.cMut, AM.isLst, AM.cM1, AM.cFld, AM.cProp, AM.cMeth, AM.isObj, AM.cMake, AM.makeW, AM.cMakeD, AM.cMakeK, AM.makeKW, AM.strOwnW, AM.eqOwnW, AM.boolOwnW, AM.knownW, AM.view_val, AM.view_ref, AM.views, AM.toD_val, AM.toD_ref, AM.toDs, AM.Rs.bind, AM.Rs.bindT, AM.tYesM, AM.putD, AM.gI, AM.wipeE, AM.cJoin, AM.cJs, Option.bind_some, Option.bind_none, Option.map_some, Option.map_none, List.map_cons, List.map_nil, List.length_cons, List.length_nil, List.replicate, List.append_eq, List.cons_append, List.nil_append, List.getElem?_cons_zero, List.getElem?_cons_succ, List.set_cons_zero, List.set_cons_succ, List.take_length, AM.take_set, Nat.reduceAdd, Nat.reduceSub, Nat.reduceLeDiff, Nat.reduceLT, if_true, if_false, ite_true, ite_false, reduceIte, AM.sBad, Bool.not_true, Bool.not_false, Bool.false_eq_true, Bool.true_and, Bool.and_true, Bool.false_and, Bool.and_false, Bool.true_or, Bool.or_true, Bool.false_or, Bool.or_false, not_true_eq_false, not_false_eq_true, decide_true, decide_false, and_self, true_and, and_true, tObj]
theorem own_town : ("Town" : Str) ∈ ownC ∧ ("Log" : Str) ∈ ownC ∧ (Str.ofString "Town" == Str.ofString "Log") = false ∧ (Str.ofString "Log" == Str.ofString "Town") = false := by decide +kernel
theorem town_eq_eq {t u : TownD} {S : Sto} (ok : t.Ok) (ou : u.Ok) : F_Town___eq__ [.val (tObj t), .val (tObj u)] S = .ok (.val (.bl (decide (townText t = townText u)))) S := by
  have e : isiDD ownC (tObj u) (.cls "Town") = some true := by simp [isiDD, tObj, kindOf, own_town.1]
  simp only [F_Town___eq__, m_Town___eq__, callF, List.length_cons, List.length_nil, List.map_cons, List.map_nil, List.replicate, Nat.reduceAdd, Nat.reduceSub, if_true, List.cons_append, List.nil_append, sRet, cAndV, cBin, cBi, cCons, cVar, cC, cNil, List.getElem?_cons_succ, List.getElem?_cons_zero, Rs.bind, aFn, views, view, Option.bind_some, Option.map_some, isiD, e, strOwn_town ok, strOwn_town ou]
  simp [AM.callF, AM.exitF, AM.exitW, AM.sNil, AM.sSeq, AM.sExpr, AM.sRet, AM.sRetN, AM.sIf, AM.sAsg, AM.sPar, AM.sPar3, AM.sParN, AM.setAll, AM.sFor, AM.sFrz, AM.sSetIx, AM.sFldA, AM.gNm, AM.gNilA, AM.gConsA, AM.gTupA, AM.cVar, AM.cC, AM.cBin, AM.cUn, AM.aBin, AM.aUn, AM.aFn, AM.cBi, AM.cCall, AM.cTest, AM.cTruth, AM.cAndT, AM.cOrT, AM.cNotT, AM.cAndV, AM.cOrV, AM.cNotV, AM.cIf, AM.cNil, AM.cCons, AM.cStar, AM.cTup, AM.cLst, AM.cLstM, AM.cSl, AM.oNone, AM.oSome, AM.cRev, AM.cRevL, AM.cIter, AM.iterD, AM.cRange1, AM.cRange2, AM.cEnum, AM.cZip, AM.cChain, AM.cMut, AM.isLst, AM.cM1, AM.cFld, AM.cProp, AM.cMeth, AM.isObj, AM.cMake, AM.makeW, AM.cMakeD, AM.cMakeK, AM.makeKW, AM.strOwnW, AM.eqOwnW, AM.boolOwnW, AM.knownW, AM.view_val, AM.view_ref, AM.views, AM.toD_val, AM.toD_ref, AM.toDs, AM.Rs.bind, AM.Rs.bindT, AM.tYesM, AM.putD, AM.gI, AM.wipeE, AM.cJoin, AM.cJs, Option.bind_some, Option.bind_none, Option.map_some, Option.map_none, List.map_cons, List.map_nil, List.length_cons, List.length_nil, List.replicate, List.append_eq, List.cons_append, List.nil_append, List.getElem?_cons_zero, List.getElem?_cons_succ, List.set_cons_zero, List.set_cons_succ, List.take_length, AM.take_set, Nat.reduceAdd, Nat.reduceSub, Nat.reduceLeDiff, Nat.reduceLT, if_true, if_false, ite_true, ite_false, reduceIte, AM.sBad, Bool.not_true, Bool.not_false, Bool.false_eq_true, Bool.true_and, Bool.and_true, Bool.false_and, Bool.and_false, Bool.true_or, Bool.or_true, Bool.false_or, Bool.or_false, not_true_eq_false, not_false_eq_true, decide_true, decide_false, and_self, true_and, and_true, eqD, eqDD, scE]
theorem town_eq_no {t : TownD} {d : D} {S : Sto} (h : kindOf d ≠ none ∨ ∃ fs, d = .obj "Log" fs) : F_Town___eq__ [.val (tObj t), .val d] S = .ok (.val (.bl false)) S := by
  have e : isiDD ownC d (.cls "Town") = some false := by
    rcases h with h | ⟨fs, rfl⟩
    · cases hk : kindOf d with
      | none => exact absurd hk h
      | some k => simp [isiDD, hk, own_town.1]
    · simp [isiDD, kindOf, own_town.1, own_town.2.1, own_town.2.2.2]
  simp only [F_Town___eq__, m_Town___eq__, callF, List.length_cons, List.length_nil, List.map_cons, List.map_nil, List.replicate, Nat.reduceAdd, Nat.reduceSub, if_true, List.cons_append, List.nil_append, sRet, cAndV, cBin, cBi, cCons, cVar, cC, cNil, List.getElem?_cons_succ, List.getElem?_cons_zero, Rs.bind, aFn, views, view, Option.bind_some, Option.map_some, isiD, e]
  simp [AM.callF, AM.exitF, AM.exitW, AM.sNil, AM.sSeq, AM.sExpr, AM.sRet, AM.sRetN, AM.sIf, AM.sAsg, AM.sPar, AM.sPar3, AM.sParN, AM.setAll, AM.sFor, AM.sFrz, AM.sSetIx, AM.sFldA, AM.gNm, AM.gNilA, AM.gConsA, AM.gTupA, AM.cVar, AM.cC, AM.cBin, AM.cUn, AM.aBin, AM.aUn, AM.aFn, AM.cBi, AM.cCall, AM.cTest, AM.cTruth, AM.cAndT, AM.cOrT, AM.cNotT, AM.cAndV, AM.cOrV, AM.cNotV, AM.cIf, AM.cNil, AM.cCons, AM.cStar, AM.cTup, AM.cLst, AM.cLstM, AM.cSl, AM.oNone, AM.oSome, AM.cRev, AM.cRevL, AM.cIter, AM.iterD, AM.cRange1, AM.cRange2, AM.cEnum, AM.cZip, AM.cChain, AM.cMut, AM.isLst, AM.cM1, AM.cFld, AM.cProp, AM.cMeth, AM.isObj, AM.cMake, AM.makeW, AM.cMakeD, AM.cMakeK, AM.makeKW, AM.strOwnW, AM.eqOwnW, AM.boolOwnW, AM.knownW, AM.view_val, AM.view_ref, AM.views, AM.toD_val, AM.toD_ref, AM.toDs, AM.Rs.bind, AM.Rs.bindT, AM.tYesM, AM.putD, AM.gI, AM.wipeE, AM.cJoin, AM.cJs, Option.bind_some, Option.bind_none, Option.map_some, Option.map_none, List.map_cons, List.map_nil, List.length_cons, List.length_nil, List.replicate, List.append_eq, List.cons_append, List.nil_append, List.getElem?_cons_zero, List.getElem?_cons_succ, List.set_cons_zero, List.set_cons_succ, List.take_length, AM.take_set, Nat.reduceAdd, Nat.reduceSub, Nat.reduceLeDiff, Nat.reduceLT, if_true, if_false, ite_true, ite_false, reduceIte, AM.sBad, Bool.not_true, Bool.not_false, Bool.false_eq_true, Bool.true_and, Bool.and_true, Bool.false_and, Bool.and_false, Bool.true_or, Bool.or_true, Bool.false_or, Bool.or_false, not_true_eq_false, not_false_eq_true, decide_true, decide_false, and_self, true_and, and_true]
theorem log_make {t : TownD} {S : Sto} : makeW false "Log" F_Log___init__ [.val (tObj t), .val (.tup [])] S = .ok (.val (.obj "Log" [("_town", tObj t), ("_facts", .tup [])])) S := by
  have e : isiDD ownC (tObj t) (.cls "Town") = some true := by simp [isiDD, tObj, kindOf, own_town.1]
  have c1 : ∀ S : Sto, F_check_town [.val (tObj t)] S = .ok (.val .non) S := fun S => by
    simp [F_check_town, m_check_town, AM.callF, AM.exitF, AM.exitW, AM.sNil, AM.sSeq, AM.sExpr, AM.sRet, AM.sRetN, AM.sIf, AM.sAsg, AM.sPar, AM.sPar3, AM.sParN, AM.setAll, AM.sFor, AM.sFrz, AM.sSetIx, AM.sFldA, AM.gNm, AM.gNilA, AM.gConsA, AM.gTupA, AM.cVar, AM.cC, AM.cBin, AM.cUn, AM.aBin, AM.aUn, AM.aFn, AM.cBi, AM.cCall, AM.cTest, AM.cTruth, AM.cAndT, AM.cOrT, AM.cNotT, AM.cAndV, AM.cOrV, AM.cNotV, AM.cIf, AM.cNil, AM.cCons, AM.cStar, AM.cTup, AM.cLst, AM.cLstM, AM.cSl, AM.oNone, AM.oSome, AM.cRev, AM.cRevL, AM.cIter, AM.iterD, AM.cRange1, AM.cRange2, AM.cEnum, AM.cZip, AM.cChain, AM.cMut, AM.isLst, AM.cM1, AM.cFld, AM.cProp, AM.cMeth, AM.isObj, AM.cMake, AM.makeW, AM.cMakeD, AM.cMakeK, AM.makeKW, AM.strOwnW, AM.eqOwnW, AM.boolOwnW, AM.knownW, AM.view_val, AM.view_ref, AM.views, AM.toD_val, AM.toD_ref, AM.toDs, AM.Rs.bind, AM.Rs.bindT, AM.tYesM, AM.putD, AM.gI, AM.wipeE, AM.cJoin, AM.cJs, Option.bind_some, Option.bind_none, Option.map_some, Option.map_none, List.map_cons, List.map_nil, List.length_cons, List.length_nil, List.replicate, List.append_eq, List.cons_append, List.nil_append, List.getElem?_cons_zero, List.getElem?_cons_succ, List.set_cons_zero, List.set_cons_succ, List.take_length, AM.take_set, Nat.reduceAdd, Nat.reduceSub, Nat.reduceLeDiff, Nat.reduceLT, if_true, if_false, ite_true, ite_false, reduceIte, AM.sBad, Bool.not_true, Bool.not_false, Bool.false_eq_true, Bool.true_and, Bool.and_true, Bool.false_and, Bool.and_false, Bool.true_or, Bool.or_true, Bool.false_or, Bool.or_false, not_true_eq_false, not_false_eq_true, decide_true, decide_false, and_self, true_and, and_true, isiD, e]
  have c2 : ∀ S : Sto, F_check_facts [.val (tObj t), .val (.tup [])] S = .ok (.val .non) S := fun S => by
    simp [F_check_facts, m_check_facts, AM.callF, AM.exitF, AM.exitW, AM.sNil, AM.sSeq, AM.sExpr, AM.sRet, AM.sRetN, AM.sIf, AM.sAsg, AM.sPar, AM.sPar3, AM.sParN, AM.setAll, AM.sFor, AM.sFrz, AM.sSetIx, AM.sFldA, AM.gNm, AM.gNilA, AM.gConsA, AM.gTupA, AM.cVar, AM.cC, AM.cBin, AM.cUn, AM.aBin, AM.aUn, AM.aFn, AM.cBi, AM.cCall, AM.cTest, AM.cTruth, AM.cAndT, AM.cOrT, AM.cNotT, AM.cAndV, AM.cOrV, AM.cNotV, AM.cIf, AM.cNil, AM.cCons, AM.cStar, AM.cTup, AM.cLst, AM.cLstM, AM.cSl, AM.oNone, AM.oSome, AM.cRev, AM.cRevL, AM.cIter, AM.iterD, AM.cRange1, AM.cRange2, AM.cEnum, AM.cZip, AM.cChain, AM.cMut, AM.isLst, AM.cM1, AM.cFld, AM.cProp, AM.cMeth, AM.isObj, AM.cMake, AM.makeW, AM.cMakeD, AM.cMakeK, AM.makeKW, AM.strOwnW, AM.eqOwnW, AM.boolOwnW, AM.knownW, AM.view_val, AM.view_ref, AM.views, AM.toD_val, AM.toD_ref, AM.toDs, AM.Rs.bind, AM.Rs.bindT, AM.tYesM, AM.putD, AM.gI, AM.wipeE, AM.cJoin, AM.cJs, Option.bind_some, Option.bind_none, Option.map_some, Option.map_none, List.map_cons, List.map_nil, List.length_cons, List.length_nil, List.replicate, List.append_eq, List.cons_append, List.nil_append, List.getElem?_cons_zero, List.getElem?_cons_succ, List.set_cons_zero, List.set_cons_succ, List.take_length, AM.take_set, Nat.reduceAdd, Nat.reduceSub, Nat.reduceLeDiff, Nat.reduceLT, if_true, if_false, ite_true, ite_false, reduceIte, AM.sBad, Bool.not_true, Bool.not_false, Bool.false_eq_true, Bool.true_and, Bool.and_true, Bool.false_and, Bool.and_false, Bool.true_or, Bool.or_true, Bool.false_or, Bool.or_false, not_true_eq_false, not_false_eq_true, decide_true, decide_false, and_self, true_and, and_true, isiD, isiDD, kindOf, AM.kb_NoneType_int, AM.kb_NoneType_str, AM.kb_NoneType_bool, AM.kb_NoneType_tuple, AM.kb_NoneType_list, AM.kb_NoneType_dict, AM.kb_bool_int, AM.kb_bool_str, AM.kb_bool_bool, AM.kb_bool_tuple, AM.kb_bool_list, AM.kb_bool_dict, AM.kb_int_int, AM.kb_int_str, AM.kb_int_bool, AM.kb_int_tuple, AM.kb_int_list, AM.kb_int_dict, AM.kb_str_int, AM.kb_str_str, AM.kb_str_bool, AM.kb_str_tuple, AM.kb_str_list, AM.kb_str_dict, AM.kb_tuple_int, AM.kb_tuple_str, AM.kb_tuple_bool, AM.kb_tuple_tuple, AM.kb_tuple_list, AM.kb_tuple_dict, AM.kb_list_int, AM.kb_list_str, AM.kb_list_bool, AM.kb_list_tuple, AM.kb_list_list, AM.kb_list_dict, AM.kb_dict_int, AM.kb_dict_str, AM.kb_dict_bool, AM.kb_dict_tuple, AM.kb_dict_list, AM.kb_dict_dict, enumD_eq, enumFrom, forL]
  have c3 : F_Log___init__ [.ref S.length, .val (tObj t), .val (.tup [])] (S ++ [.ins "Log" []]) = .ok (.val .non) (S ++ [.ins "Log" [("_town", tObj t), ("_facts", .tup [])]]) := by
    simp only [F_Log___init__, m_Log___init__, AM.callF, AM.exitF, AM.exitW, AM.sNil, AM.sSeq, AM.sExpr, AM.sRet, AM.sRetN, AM.sIf, AM.sAsg, AM.sPar, AM.sPar3, AM.sParN, AM.setAll, AM.sFor, AM.sFrz, AM.sSetIx, AM.sFldA, AM.gNm, AM.gNilA, AM.gConsA, AM.gTupA, AM.cVar, AM.cC, AM.cBin, AM.cUn, AM.aBin, AM.aUn, AM.aFn, AM.cBi, AM.cCall, AM.cTest, AM.cTruth, AM.cAndT, AM.cOrT, AM.cNotT, AM.cAndV, AM.cOrV, AM.cNotV, AM.cIf, AM.cNil, AM.cCons, AM.cStar, AM.cTup, AM.cLst, AM.cLstM, AM.cSl, AM.oNone, AM.oSome, AM.cRev, AM.cRevL, AM.cIter, AM.iterD, AM.cRange1, AM.cRange2, AM.cEnum, AM.cZip, AM.cChain, AM.cMut, AM.isLst, AM.cM1, AM.cFld, AM.cProp, AM.cMeth, AM.isObj, AM.cMake, AM.makeW, AM.cMakeD, AM.cMakeK, AM.makeKW, AM.strOwnW, AM.eqOwnW, AM.boolOwnW, AM.knownW, AM.view_val, AM.view_ref, AM.views, AM.toD_val, AM.toD_ref, AM.toDs, AM.Rs.bind, AM.Rs.bindT, AM.tYesM, AM.putD, AM.gI, AM.wipeE, AM.cJoin, AM.cJs, Option.bind_some, Option.bind_none, Option.map_some, Option.map_none, List.map_cons, List.map_nil, List.length_cons, List.length_nil, List.replicate, List.append_eq, List.cons_append, List.nil_append, List.getElem?_cons_zero, List.getElem?_cons_succ, List.set_cons_zero, List.set_cons_succ, List.take_length, AM.take_set, Nat.reduceAdd, Nat.reduceSub, Nat.reduceLeDiff, Nat.reduceLT, if_true, if_false, ite_true, ite_false, reduceIte, AM.sBad, Bool.not_true, Bool.not_false, Bool.false_eq_true, Bool.true_and, Bool.and_true, Bool.false_and, Bool.and_false, Bool.true_or, Bool.or_true, Bool.false_or, Bool.or_false, not_true_eq_false, not_false_eq_true, decide_true, decide_false, and_self, true_and, and_true, c1, c2]
    simp [AM.callF, AM.exitF, AM.exitW, AM.sNil, AM.sSeq, AM.sExpr, AM.sRet, AM.sRetN, AM.sIf, AM.sAsg, AM.sPar, AM.sPar3, AM.sParN, AM.setAll, AM.sFor, AM.sFrz, AM.sSetIx, AM.sFldA, AM.gNm, AM.gNilA, AM.gConsA, AM.gTupA, AM.cVar, AM.cC, AM.cBin, AM.cUn, AM.aBin, AM.aUn, AM.aFn, AM.cBi, AM.cCall, AM.cTest, AM.cTruth, AM.cAndT, AM.cOrT, AM.cNotT, AM.cAndV, AM.cOrV, AM.cNotV, AM.cIf, AM.cNil, AM.cCons, AM.cStar, AM.cTup, AM.cLst, AM.cLstM, AM.cSl, AM.oNone, AM.oSome, AM.cRev, AM.cRevL, AM.cIter, AM.iterD, AM.cRange1, AM.cRange2, AM.cEnum, AM.cZip, AM.cChain, AM.cMut, AM.isLst, AM.cM1, AM.cFld, AM.cProp, AM.cMeth, AM.isObj, AM.cMake, AM.makeW, AM.cMakeD, AM.cMakeK, AM.makeKW, AM.strOwnW, AM.eqOwnW, AM.boolOwnW, AM.knownW, AM.view_val, AM.view_ref, AM.views, AM.toD_val, AM.toD_ref, AM.toDs, AM.Rs.bind, AM.Rs.bindT, AM.tYesM, AM.putD, AM.gI, AM.wipeE, AM.cJoin, AM.cJs, Option.bind_some, Option.bind_none, Option.map_some, Option.map_none, List.map_cons, List.map_nil, List.length_cons, List.length_nil, List.replicate, List.append_eq, List.cons_append, List.nil_append, List.getElem?_cons_zero, List.getElem?_cons_succ, List.set_cons_zero, List.set_cons_succ, List.take_length, AM.take_set, Nat.reduceAdd, Nat.reduceSub, Nat.reduceLeDiff, Nat.reduceLT, if_true, if_false, ite_true, ite_false, reduceIte, AM.sBad, Bool.not_true, Bool.not_false, Bool.false_eq_true, Bool.true_and, Bool.and_true, Bool.false_and, Bool.and_false, Bool.true_or, Bool.or_true, Bool.false_or, Bool.or_false, not_true_eq_false, not_false_eq_true, decide_true, decide_false, and_self, true_and, and_true, last_app, set_last, AM.ne_slots_stands, AM.ne_slots_standsb, AM.ne_slots_roads, AM.ne_slots_roadsb, AM.ne_slots_names, AM.ne_slots_namesb, AM.ne_slots_town, AM.ne_slots_townb, AM.ne_slots_facts, AM.ne_slots_factsb, AM.ne_stands_slots, AM.ne_stands_slotsb, AM.ne_stands_roads, AM.ne_stands_roadsb, AM.ne_stands_names, AM.ne_stands_namesb, AM.ne_stands_town, AM.ne_stands_townb, AM.ne_stands_facts, AM.ne_stands_factsb, AM.ne_roads_slots, AM.ne_roads_slotsb, AM.ne_roads_stands, AM.ne_roads_standsb, AM.ne_roads_names, AM.ne_roads_namesb, AM.ne_roads_town, AM.ne_roads_townb, AM.ne_roads_facts, AM.ne_roads_factsb, AM.ne_names_slots, AM.ne_names_slotsb, AM.ne_names_stands, AM.ne_names_standsb, AM.ne_names_roads, AM.ne_names_roadsb, AM.ne_names_town, AM.ne_names_townb, AM.ne_names_facts, AM.ne_names_factsb, AM.ne_town_slots, AM.ne_town_slotsb, AM.ne_town_stands, AM.ne_town_standsb, AM.ne_town_roads, AM.ne_town_roadsb, AM.ne_town_names, AM.ne_town_namesb, AM.ne_town_facts, AM.ne_town_factsb, AM.ne_facts_slots, AM.ne_facts_slotsb, AM.ne_facts_stands, AM.ne_facts_standsb, AM.ne_facts_roads, AM.ne_facts_roadsb, AM.ne_facts_names, AM.ne_facts_namesb, AM.ne_facts_town, AM.ne_facts_townb]
    try rw [List.take_of_length_le (by simp)]
  simp only [makeW, c3, last_app, take_last]
  rfl
end Bk
set_option Elab.async false
set_option linter.all false
set_option maxRecDepth 100000
set_option maxHeartbeats 4000000
namespace Bk
open PySem AM
theorem cmulL {i j : Int} (h : -(2 ^ 64) < i ∧ i < 2 ^ 64) : L2.CMul i j := .inl h
theorem cmulR {i j : Int} (h : -(2 ^ 64) < j ∧ j < 2 ^ 64) : L2.CMul i j := .inr h
theorem draw_eq {S : Sto} {p : Nat} {o : Ob} {many : Int} (hp : S[p]? = some o) (ho : Src o) (h0 : 0 < many) (h1 : many < 2 ^ 30) :
    Dr p S (F__law_draw [.ref p, .val (.int many)] S) fun d => ∃ k : Int, d = .int k ∧ 0 ≤ k ∧ k < many := by
  obtain ⟨a, x, n, rfl⟩ := ho
  have g1 : ∀ o, (S.set p o)[p]? = some o := fun o => get_set hp
  have c1 : ∀ j, L2.CMul 611953 j := fun j => cmulL ⟨by decide, by decide⟩
  have c2 : ∀ j, L2.CMul 3266489 j := fun j => cmulL ⟨by decide, by decide⟩
  have m0 := Int.emod_nonneg (x + 611953 * (n + 1)) (by decide : (2147483587 : Int) ≠ 0)
  have m1 := Int.emod_lt_of_pos (x + 611953 * (n + 1)) (by decide : (0 : Int) < 2147483587)
  have c3 : L2.CMul ((x + 611953 * (n + 1)) % 2147483587) ((x + 611953 * (n + 1)) % 2147483587) := cmulL ⟨by omega, by omega⟩
  have d1 : ∀ z, L2.CDiv z 101 := fun z => ⟨by decide, by decide⟩
  have d2 : L2.CDiv a many := ⟨h0, h1⟩
  have i0 : L2.ixN 3 0 = some 0 := by decide
  have i1 : L2.ixN 3 1 = some 1 := by decide
  have i2 : L2.ixN 3 2 = some 2 := by decide
  by_cases ha : a = 0
  · subst ha
    refine ⟨.int (((((x + 611953 * (n + 1)) % 2147483587) * ((x + 611953 * (n + 1)) % 2147483587) + 3266489 * ((x + 611953 * (n + 1)) % 2147483587) + 374761) % 2147483587 / 101) % many), .lst [.int 0, .int ((((x + 611953 * (n + 1)) % 2147483587) * ((x + 611953 * (n + 1)) % 2147483587) + 3266489 * ((x + 611953 * (n + 1)) % 2147483587) + 374761) % 2147483587), .int (n + 1)], ?_, ⟨_, _, _, rfl⟩, _, rfl, Int.emod_nonneg _ (by omega), Int.emod_lt_of_pos _ h0⟩
    simp [F__law_draw, m__law_draw, AM.callF, AM.exitF, AM.exitW, AM.sNil, AM.sSeq, AM.sExpr, AM.sRet, AM.sRetN, AM.sIf, AM.sAsg, AM.sPar, AM.sPar3, AM.sParN, AM.setAll, AM.sFor, AM.sFrz, AM.sSetIx, AM.sFldA, AM.gNm, AM.gNilA, AM.gConsA, AM.gTupA, AM.cVar, AM.cC, AM.cBin, AM.cUn, AM.aBin, AM.aUn, AM.aFn, AM.cBi, AM.cCall, AM.cTest, AM.cTruth, AM.cAndT, AM.cOrT, AM.cNotT, AM.cAndV, AM.cOrV, AM.cNotV, AM.cIf, AM.cNil, AM.cCons, AM.cStar, AM.cTup, AM.cLst, AM.cLstM, AM.cSl, AM.oNone, AM.oSome, AM.cRev, AM.cRevL, AM.cIter, AM.iterD, AM.cRange1, AM.cRange2, AM.cEnum, AM.cZip, AM.cChain, AM.cMut, AM.isLst, AM.cM1, AM.cFld, AM.cProp, AM.cMeth, AM.isObj, AM.cMake, AM.makeW, AM.cMakeD, AM.cMakeK, AM.makeKW, AM.strOwnW, AM.eqOwnW, AM.boolOwnW, AM.knownW, AM.view_val, AM.view_ref, AM.views, AM.toD_val, AM.toD_ref, AM.toDs, AM.Rs.bind, AM.Rs.bindT, AM.tYesM, AM.putD, AM.gI, AM.wipeE, AM.cJoin, AM.cJs, Option.bind_some, Option.bind_none, Option.map_some, Option.map_none, List.map_cons, List.map_nil, List.length_cons, List.length_nil, List.replicate, List.append_eq, List.cons_append, List.nil_append, List.getElem?_cons_zero, List.getElem?_cons_succ, List.set_cons_zero, List.set_cons_succ, List.take_length, AM.take_set, Nat.reduceAdd, Nat.reduceSub, Nat.reduceLeDiff, Nat.reduceLT, if_true, if_false, ite_true, ite_false, reduceIte, AM.sBad, Bool.not_true, Bool.not_false, Bool.false_eq_true, Bool.true_and, Bool.and_true, Bool.false_and, Bool.and_false, Bool.true_or, Bool.or_true, Bool.false_or, Bool.or_false, not_true_eq_false, not_false_eq_true, decide_true, decide_false, and_self, true_and, and_true, hp, g1, ixD, atI0, atI1, atI2, addD, mulD, modD, intD, intFD, fdivD, eqD, eqDD, scE, c1, c2, c3, d1, i1, i2, h0]
  · refine ⟨.int (a % many), .lst [.int (a / many), .int ((((x + 611953 * (n + 1)) % 2147483587) * ((x + 611953 * (n + 1)) % 2147483587) + 3266489 * ((x + 611953 * (n + 1)) % 2147483587) + 374761) % 2147483587), .int (n + 1)], ?_, ⟨_, _, _, rfl⟩, _, rfl, Int.emod_nonneg _ (by omega), Int.emod_lt_of_pos _ h0⟩
    simp [F__law_draw, m__law_draw, AM.callF, AM.exitF, AM.exitW, AM.sNil, AM.sSeq, AM.sExpr, AM.sRet, AM.sRetN, AM.sIf, AM.sAsg, AM.sPar, AM.sPar3, AM.sParN, AM.setAll, AM.sFor, AM.sFrz, AM.sSetIx, AM.sFldA, AM.gNm, AM.gNilA, AM.gConsA, AM.gTupA, AM.cVar, AM.cC, AM.cBin, AM.cUn, AM.aBin, AM.aUn, AM.aFn, AM.cBi, AM.cCall, AM.cTest, AM.cTruth, AM.cAndT, AM.cOrT, AM.cNotT, AM.cAndV, AM.cOrV, AM.cNotV, AM.cIf, AM.cNil, AM.cCons, AM.cStar, AM.cTup, AM.cLst, AM.cLstM, AM.cSl, AM.oNone, AM.oSome, AM.cRev, AM.cRevL, AM.cIter, AM.iterD, AM.cRange1, AM.cRange2, AM.cEnum, AM.cZip, AM.cChain, AM.cMut, AM.isLst, AM.cM1, AM.cFld, AM.cProp, AM.cMeth, AM.isObj, AM.cMake, AM.makeW, AM.cMakeD, AM.cMakeK, AM.makeKW, AM.strOwnW, AM.eqOwnW, AM.boolOwnW, AM.knownW, AM.view_val, AM.view_ref, AM.views, AM.toD_val, AM.toD_ref, AM.toDs, AM.Rs.bind, AM.Rs.bindT, AM.tYesM, AM.putD, AM.gI, AM.wipeE, AM.cJoin, AM.cJs, Option.bind_some, Option.bind_none, Option.map_some, Option.map_none, List.map_cons, List.map_nil, List.length_cons, List.length_nil, List.replicate, List.append_eq, List.cons_append, List.nil_append, List.getElem?_cons_zero, List.getElem?_cons_succ, List.set_cons_zero, List.set_cons_succ, List.take_length, AM.take_set, Nat.reduceAdd, Nat.reduceSub, Nat.reduceLeDiff, Nat.reduceLT, if_true, if_false, ite_true, ite_false, reduceIte, AM.sBad, Bool.not_true, Bool.not_false, Bool.false_eq_true, Bool.true_and, Bool.and_true, Bool.false_and, Bool.and_false, Bool.true_or, Bool.or_true, Bool.false_or, Bool.or_false, not_true_eq_false, not_false_eq_true, decide_true, decide_false, and_self, true_and, and_true, hp, g1, ixD, atI0, atI1, atI2, addD, mulD, modD, intD, intFD, fdivD, divmodD, eqD, eqDD, scE, c1, c2, c3, d2, i0, i1, i2, ha]
theorem source_eq {S : Sto} {z : Int} : ∃ o, F__law_source_M [.val (.int z)] S = .ok (.ref S.length) (S ++ [o]) ∧ Src o := by
  have c : L2.CPow 10 18 := ⟨by decide, by decide, by decide⟩
  have hn : ¬ S.length < S.length := Nat.lt_irrefl _
  by_cases h1 : z < 0
  · refine ⟨.lst [.int (if z < 0 then -z else z), .int (z % 2147483587), .int 0], ?_, _, _, _, rfl⟩
    simp [F__law_source_M, m__law_source_M, AM.callF, AM.exitF, AM.exitW, AM.sNil, AM.sSeq, AM.sExpr, AM.sRet, AM.sRetN, AM.sIf, AM.sAsg, AM.sPar, AM.sPar3, AM.sParN, AM.setAll, AM.sFor, AM.sFrz, AM.sSetIx, AM.sFldA, AM.gNm, AM.gNilA, AM.gConsA, AM.gTupA, AM.cVar, AM.cC, AM.cBin, AM.cUn, AM.aBin, AM.aUn, AM.aFn, AM.cBi, AM.cCall, AM.cTest, AM.cTruth, AM.cAndT, AM.cOrT, AM.cNotT, AM.cAndV, AM.cOrV, AM.cNotV, AM.cIf, AM.cNil, AM.cCons, AM.cStar, AM.cTup, AM.cLst, AM.cLstM, AM.cSl, AM.oNone, AM.oSome, AM.cRev, AM.cRevL, AM.cIter, AM.iterD, AM.cRange1, AM.cRange2, AM.cEnum, AM.cZip, AM.cChain, AM.cMut, AM.isLst, AM.cM1, AM.cFld, AM.cProp, AM.cMeth, AM.isObj, AM.cMake, AM.makeW, AM.cMakeD, AM.cMakeK, AM.makeKW, AM.strOwnW, AM.eqOwnW, AM.boolOwnW, AM.knownW, AM.view_val, AM.view_ref, AM.views, AM.toD_val, AM.toD_ref, AM.toDs, AM.Rs.bind, AM.Rs.bindT, AM.tYesM, AM.putD, AM.gI, AM.wipeE, AM.cJoin, AM.cJs, Option.bind_some, Option.bind_none, Option.map_some, Option.map_none, List.map_cons, List.map_nil, List.length_cons, List.length_nil, List.replicate, List.append_eq, List.cons_append, List.nil_append, List.getElem?_cons_zero, List.getElem?_cons_succ, List.set_cons_zero, List.set_cons_succ, List.take_length, AM.take_set, Nat.reduceAdd, Nat.reduceSub, Nat.reduceLeDiff, Nat.reduceLT, if_true, if_false, ite_true, ite_false, reduceIte, AM.sBad, Bool.not_true, Bool.not_false, Bool.false_eq_true, Bool.true_and, Bool.and_true, Bool.false_and, Bool.and_false, Bool.true_or, Bool.or_true, Bool.false_or, Bool.or_false, not_true_eq_false, not_false_eq_true, decide_true, decide_false, and_self, true_and, and_true, ltD, geD, cmpD, powD, intD, c, h1, absD, modD, intFD, szl, last_app]
  · by_cases h2 : (1000000000000000000 : Int) ≤ z
    · refine ⟨.lst [.int (if z < 0 then -z else z), .int (z % 2147483587), .int 0], ?_, _, _, _, rfl⟩
      simp [F__law_source_M, m__law_source_M, AM.callF, AM.exitF, AM.exitW, AM.sNil, AM.sSeq, AM.sExpr, AM.sRet, AM.sRetN, AM.sIf, AM.sAsg, AM.sPar, AM.sPar3, AM.sParN, AM.setAll, AM.sFor, AM.sFrz, AM.sSetIx, AM.sFldA, AM.gNm, AM.gNilA, AM.gConsA, AM.gTupA, AM.cVar, AM.cC, AM.cBin, AM.cUn, AM.aBin, AM.aUn, AM.aFn, AM.cBi, AM.cCall, AM.cTest, AM.cTruth, AM.cAndT, AM.cOrT, AM.cNotT, AM.cAndV, AM.cOrV, AM.cNotV, AM.cIf, AM.cNil, AM.cCons, AM.cStar, AM.cTup, AM.cLst, AM.cLstM, AM.cSl, AM.oNone, AM.oSome, AM.cRev, AM.cRevL, AM.cIter, AM.iterD, AM.cRange1, AM.cRange2, AM.cEnum, AM.cZip, AM.cChain, AM.cMut, AM.isLst, AM.cM1, AM.cFld, AM.cProp, AM.cMeth, AM.isObj, AM.cMake, AM.makeW, AM.cMakeD, AM.cMakeK, AM.makeKW, AM.strOwnW, AM.eqOwnW, AM.boolOwnW, AM.knownW, AM.view_val, AM.view_ref, AM.views, AM.toD_val, AM.toD_ref, AM.toDs, AM.Rs.bind, AM.Rs.bindT, AM.tYesM, AM.putD, AM.gI, AM.wipeE, AM.cJoin, AM.cJs, Option.bind_some, Option.bind_none, Option.map_some, Option.map_none, List.map_cons, List.map_nil, List.length_cons, List.length_nil, List.replicate, List.append_eq, List.cons_append, List.nil_append, List.getElem?_cons_zero, List.getElem?_cons_succ, List.set_cons_zero, List.set_cons_succ, List.take_length, AM.take_set, Nat.reduceAdd, Nat.reduceSub, Nat.reduceLeDiff, Nat.reduceLT, if_true, if_false, ite_true, ite_false, reduceIte, AM.sBad, Bool.not_true, Bool.not_false, Bool.false_eq_true, Bool.true_and, Bool.and_true, Bool.false_and, Bool.and_false, Bool.true_or, Bool.or_true, Bool.false_or, Bool.or_false, not_true_eq_false, not_false_eq_true, decide_true, decide_false, and_self, true_and, and_true, ltD, geD, cmpD, powD, intD, c, h1, h2, absD, modD, intFD, szl, last_app]
    · refine ⟨.lst [.int 0, .int (z % 2147483587), .int 0], ?_, _, _, _, rfl⟩
      simp [F__law_source_M, m__law_source_M, AM.callF, AM.exitF, AM.exitW, AM.sNil, AM.sSeq, AM.sExpr, AM.sRet, AM.sRetN, AM.sIf, AM.sAsg, AM.sPar, AM.sPar3, AM.sParN, AM.setAll, AM.sFor, AM.sFrz, AM.sSetIx, AM.sFldA, AM.gNm, AM.gNilA, AM.gConsA, AM.gTupA, AM.cVar, AM.cC, AM.cBin, AM.cUn, AM.aBin, AM.aUn, AM.aFn, AM.cBi, AM.cCall, AM.cTest, AM.cTruth, AM.cAndT, AM.cOrT, AM.cNotT, AM.cAndV, AM.cOrV, AM.cNotV, AM.cIf, AM.cNil, AM.cCons, AM.cStar, AM.cTup, AM.cLst, AM.cLstM, AM.cSl, AM.oNone, AM.oSome, AM.cRev, AM.cRevL, AM.cIter, AM.iterD, AM.cRange1, AM.cRange2, AM.cEnum, AM.cZip, AM.cChain, AM.cMut, AM.isLst, AM.cM1, AM.cFld, AM.cProp, AM.cMeth, AM.isObj, AM.cMake, AM.makeW, AM.cMakeD, AM.cMakeK, AM.makeKW, AM.strOwnW, AM.eqOwnW, AM.boolOwnW, AM.knownW, AM.view_val, AM.view_ref, AM.views, AM.toD_val, AM.toD_ref, AM.toDs, AM.Rs.bind, AM.Rs.bindT, AM.tYesM, AM.putD, AM.gI, AM.wipeE, AM.cJoin, AM.cJs, Option.bind_some, Option.bind_none, Option.map_some, Option.map_none, List.map_cons, List.map_nil, List.length_cons, List.length_nil, List.replicate, List.append_eq, List.cons_append, List.nil_append, List.getElem?_cons_zero, List.getElem?_cons_succ, List.set_cons_zero, List.set_cons_succ, List.take_length, AM.take_set, Nat.reduceAdd, Nat.reduceSub, Nat.reduceLeDiff, Nat.reduceLT, if_true, if_false, ite_true, ite_false, reduceIte, AM.sBad, Bool.not_true, Bool.not_false, Bool.false_eq_true, Bool.true_and, Bool.and_true, Bool.false_and, Bool.and_false, Bool.true_or, Bool.or_true, Bool.false_or, Bool.or_false, not_true_eq_false, not_false_eq_true, decide_true, decide_false, and_self, true_and, and_true, ltD, geD, cmpD, powD, intD, c, h1, h2, absD, modD, intFD, szl, last_app]
theorem cell_loop (w0 : Option W) (k : Int) (S : Sto) : ∀ (ms : List Int) (z : Int) (w3 : Option W), ∃ z' w', forL (gNm 3) (sAsg (gNm 2) (cBin (aBin modD) (cBi (aFn intFD) (cCons (cBin (aBin addD) (cBin (aBin addD) (cBin (aBin mulD) (cVar 2) (cC (.int 75227))) (cBin (aBin mulD) (cVar 3) (cC (.int 1013)))) (cVar 1)) cNil)) (cC (.int 2147483563)))) (ms.map D.int) [w0, some (.val (.int k)), some (.val (.int z)), w3] S = .nx [w0, some (.val (.int k)), some (.val (.int z')), w'] S
  | [], z, w3 => ⟨z, w3, rfl⟩
  | m :: ms, z, w3 => by
    have c1 : ∀ j, L2.CMul j 75227 := fun j => cmulR ⟨by decide, by decide⟩
    have c2 : ∀ j, L2.CMul j 1013 := fun j => cmulR ⟨by decide, by decide⟩
    obtain ⟨z', w', e⟩ := cell_loop w0 k S ms ((z * 75227 + m * 1013 + k) % 2147483563) (some (.val (.int m)))
    refine ⟨z', w', ?_⟩
    rw [List.map_cons, forL]
    simp [AM.callF, AM.exitF, AM.exitW, AM.sNil, AM.sSeq, AM.sExpr, AM.sRet, AM.sRetN, AM.sIf, AM.sAsg, AM.sPar, AM.sPar3, AM.sParN, AM.setAll, AM.sFor, AM.sFrz, AM.sSetIx, AM.sFldA, AM.gNm, AM.gNilA, AM.gConsA, AM.gTupA, AM.cVar, AM.cC, AM.cBin, AM.cUn, AM.aBin, AM.aUn, AM.aFn, AM.cBi, AM.cCall, AM.cTest, AM.cTruth, AM.cAndT, AM.cOrT, AM.cNotT, AM.cAndV, AM.cOrV, AM.cNotV, AM.cIf, AM.cNil, AM.cCons, AM.cStar, AM.cTup, AM.cLst, AM.cLstM, AM.cSl, AM.oNone, AM.oSome, AM.cRev, AM.cRevL, AM.cIter, AM.iterD, AM.cRange1, AM.cRange2, AM.cEnum, AM.cZip, AM.cChain, AM.cMut, AM.isLst, AM.cM1, AM.cFld, AM.cProp, AM.cMeth, AM.isObj, AM.cMake, AM.makeW, AM.cMakeD, AM.cMakeK, AM.makeKW, AM.strOwnW, AM.eqOwnW, AM.boolOwnW, AM.knownW, AM.view_val, AM.view_ref, AM.views, AM.toD_val, AM.toD_ref, AM.toDs, AM.Rs.bind, AM.Rs.bindT, AM.tYesM, AM.putD, AM.gI, AM.wipeE, AM.cJoin, AM.cJs, Option.bind_some, Option.bind_none, Option.map_some, Option.map_none, List.map_cons, List.map_nil, List.length_cons, List.length_nil, List.replicate, List.append_eq, List.cons_append, List.nil_append, List.getElem?_cons_zero, List.getElem?_cons_succ, List.set_cons_zero, List.set_cons_succ, List.take_length, AM.take_set, Nat.reduceAdd, Nat.reduceSub, Nat.reduceLeDiff, Nat.reduceLT, if_true, if_false, ite_true, ite_false, reduceIte, AM.sBad, Bool.not_true, Bool.not_false, Bool.false_eq_true, Bool.true_and, Bool.and_true, Bool.false_and, Bool.and_false, Bool.true_or, Bool.or_true, Bool.false_or, Bool.or_false, not_true_eq_false, not_false_eq_true, decide_true, decide_false, and_self, true_and, and_true, addD, mulD, modD, intD, intFD, c1, c2]
    exact e
theorem cell_eq {ns : List Int} {k : Nat} {S : Sto} : ∃ z : Int, F__law_cell [.val (.fl (ns.map D.int)), .val (.int k)] S = .ok (.val (.int z)) S := by
  by_cases h : k < ns.length
  · refine ⟨ns[k], ?_⟩
    have : L2.atI (ns.map D.int) (k : Int) = some (.int ns[k]) := atIn (by rw [List.getElem?_map, List.getElem?_eq_getElem h]; rfl)
    simp [F__law_cell, m__law_cell, AM.callF, AM.exitF, AM.exitW, AM.sNil, AM.sSeq, AM.sExpr, AM.sRet, AM.sRetN, AM.sIf, AM.sAsg, AM.sPar, AM.sPar3, AM.sParN, AM.setAll, AM.sFor, AM.sFrz, AM.sSetIx, AM.sFldA, AM.gNm, AM.gNilA, AM.gConsA, AM.gTupA, AM.cVar, AM.cC, AM.cBin, AM.cUn, AM.aBin, AM.aUn, AM.aFn, AM.cBi, AM.cCall, AM.cTest, AM.cTruth, AM.cAndT, AM.cOrT, AM.cNotT, AM.cAndV, AM.cOrV, AM.cNotV, AM.cIf, AM.cNil, AM.cCons, AM.cStar, AM.cTup, AM.cLst, AM.cLstM, AM.cSl, AM.oNone, AM.oSome, AM.cRev, AM.cRevL, AM.cIter, AM.iterD, AM.cRange1, AM.cRange2, AM.cEnum, AM.cZip, AM.cChain, AM.cMut, AM.isLst, AM.cM1, AM.cFld, AM.cProp, AM.cMeth, AM.isObj, AM.cMake, AM.makeW, AM.cMakeD, AM.cMakeK, AM.makeKW, AM.strOwnW, AM.eqOwnW, AM.boolOwnW, AM.knownW, AM.view_val, AM.view_ref, AM.views, AM.toD_val, AM.toD_ref, AM.toDs, AM.Rs.bind, AM.Rs.bindT, AM.tYesM, AM.putD, AM.gI, AM.wipeE, AM.cJoin, AM.cJs, Option.bind_some, Option.bind_none, Option.map_some, Option.map_none, List.map_cons, List.map_nil, List.length_cons, List.length_nil, List.replicate, List.append_eq, List.cons_append, List.nil_append, List.getElem?_cons_zero, List.getElem?_cons_succ, List.set_cons_zero, List.set_cons_succ, List.take_length, AM.take_set, Nat.reduceAdd, Nat.reduceSub, Nat.reduceLeDiff, Nat.reduceLT, if_true, if_false, ite_true, ite_false, reduceIte, AM.sBad, Bool.not_true, Bool.not_false, Bool.false_eq_true, Bool.true_and, Bool.and_true, Bool.false_and, Bool.and_false, Bool.true_or, Bool.or_true, Bool.false_or, Bool.or_false, not_true_eq_false, not_false_eq_true, decide_true, decide_false, and_self, true_and, and_true, ltD, cmpD, lenD, h, ixD, this]
  · obtain ⟨ms, em⟩ : ∃ ms : List Int, cutL (ns.map D.int) none (some 5) = ms.map D.int := by
      unfold cutL
      rw [← List.map_drop, ← List.map_take]
      exact ⟨_, rfl⟩
    have c1 : ∀ j, L2.CMul 30341 j := fun j => cmulL ⟨by decide, by decide⟩
    obtain ⟨z', w', e⟩ := cell_loop (some (.val (.fl (ns.map D.int)))) k S ms (910573 + 30341 * k) none
    refine ⟨z', ?_⟩
    simp [F__law_cell, m__law_cell, AM.callF, AM.exitF, AM.exitW, AM.sNil, AM.sSeq, AM.sExpr, AM.sRet, AM.sRetN, AM.sIf, AM.sAsg, AM.sPar, AM.sPar3, AM.sParN, AM.setAll, AM.sFor, AM.sFrz, AM.sSetIx, AM.sFldA, AM.gNm, AM.gNilA, AM.gConsA, AM.gTupA, AM.cVar, AM.cC, AM.cBin, AM.cUn, AM.aBin, AM.aUn, AM.aFn, AM.cBi, AM.cCall, AM.cTest, AM.cTruth, AM.cAndT, AM.cOrT, AM.cNotT, AM.cAndV, AM.cOrV, AM.cNotV, AM.cIf, AM.cNil, AM.cCons, AM.cStar, AM.cTup, AM.cLst, AM.cLstM, AM.cSl, AM.oNone, AM.oSome, AM.cRev, AM.cRevL, AM.cIter, AM.iterD, AM.cRange1, AM.cRange2, AM.cEnum, AM.cZip, AM.cChain, AM.cMut, AM.isLst, AM.cM1, AM.cFld, AM.cProp, AM.cMeth, AM.isObj, AM.cMake, AM.makeW, AM.cMakeD, AM.cMakeK, AM.makeKW, AM.strOwnW, AM.eqOwnW, AM.boolOwnW, AM.knownW, AM.view_val, AM.view_ref, AM.views, AM.toD_val, AM.toD_ref, AM.toDs, AM.Rs.bind, AM.Rs.bindT, AM.tYesM, AM.putD, AM.gI, AM.wipeE, AM.cJoin, AM.cJs, Option.bind_some, Option.bind_none, Option.map_some, Option.map_none, List.map_cons, List.map_nil, List.length_cons, List.length_nil, List.replicate, List.append_eq, List.cons_append, List.nil_append, List.getElem?_cons_zero, List.getElem?_cons_succ, List.set_cons_zero, List.set_cons_succ, List.take_length, AM.take_set, Nat.reduceAdd, Nat.reduceSub, Nat.reduceLeDiff, Nat.reduceLT, if_true, if_false, ite_true, ite_false, reduceIte, AM.sBad, Bool.not_true, Bool.not_false, Bool.false_eq_true, Bool.true_and, Bool.and_true, Bool.false_and, Bool.and_false, Bool.true_or, Bool.or_true, Bool.false_or, Bool.or_false, not_true_eq_false, not_false_eq_true, decide_true, decide_false, and_self, true_and, and_true, ltD, cmpD, lenD, h, addD, mulD, c1, slD, em] at e ⊢
    rw [e]
    simp
end Bk
set_option Elab.async false
set_option linter.all false
set_option maxRecDepth 100000
set_option maxHeartbeats 4000000
namespace Bk
open PySem AM
abbrev alph : Str := "abcdefghijklmnopqrstuvwxyz"
theorem signs_alph : signs alph = signsL.map fun c => D.str (one c) := by
  unfold signs
  rw [signs_eq]
  rfl
theorem cut1_len {x : Str} (h : nameOk x = true) : (cut1 x).length ≤ 8 := Nat.le_trans (cutS_len x none (some (-1))) (nameOk_len h).2
/-- the last rows of the word -/
theorem word_rest {found : Str} {ts : List Str} {wt : W} {w0 w3 w4 w6 w7 w8 w9 w10 : Option W} {S : Sto} (hf : nameOk found = true) (hts : ts.length ≤ 20) (hv : ∀ T, view wt (S ++ T) = some (.lst (ts.map D.str))) :
    ∃ y, nameOk y = true ∧ y ∉ ts ∧ sSeq (sAsg (gNm 8) (cBin (aBin addD) (cLst (cCons (cVar 5) cNil)) (cLc false [9] (gNm 9) (cIter (cVar 2)) tYesM (cBin (aBin addD) (cSl (cVar 5) oNone (oSome (cUn (aUn negD) (cC (.int 1))))) (cVar 9))))) (sRet (cBin (aBin ixD) (cLc false [10] (gNm 10) (cIter (cVar 8)) (cTest (cBin (aBin notInD) (cVar 10) (cVar 1))) (cVar 10)) (cC (.int 0))))
      [w0, some wt, some (.val (.str alph)), w3, w4, some (.val (.str found)), w6, w7, w8, w9, w10] S = .rt (.val (.str y)) S := by
  have fl := (nameOk_len hf).2
  have c1 : ∀ (T : Sto), cLc false [9] (gNm 9) (cIter (cVar 2)) tYesM (cBin (aBin addD) (cSl (cVar 5) oNone (oSome (cUn (aUn negD) (cC (.int 1))))) (cVar 9)) [w0, some wt, some (.val (.str alph)), w3, w4, some (.val (.str found)), w6, w7, w8, w9, w10] T = .ok (.val (.lst (signsL.map fun c => D.str (cut1 found ++ one c)))) T := fun T => by
    refine cLc_at (enc := fun c => D.str (one c)) signsL (by simp only [cIter, cVar, List.getElem?_cons_zero, List.getElem?_cons_succ, Rs.bind, iterD, signs_alph]) (fun c hc => ⟨_, rfl, fun acc => ?_⟩) (by rw [szl]; decide)
    have hz : (L2.cutS found none (some (-1))).length + (one c).length ≤ sizeLine := by
      have := cut1_len hf
      have e : (one c).length = 1 := rfl
      rw [szl, e]
      show (cut1 found).length + 1 ≤ _
      omega
    simp [AM.callF, AM.exitF, AM.exitW, AM.sNil, AM.sSeq, AM.sExpr, AM.sRet, AM.sRetN, AM.sIf, AM.sAsg, AM.sPar, AM.sPar3, AM.sParN, AM.setAll, AM.sFor, AM.sFrz, AM.sSetIx, AM.sFldA, AM.gNm, AM.gNilA, AM.gConsA, AM.gTupA, AM.cVar, AM.cC, AM.cBin, AM.cUn, AM.aBin, AM.aUn, AM.aFn, AM.cBi, AM.cCall, AM.cTest, AM.cTruth, AM.cAndT, AM.cOrT, AM.cNotT, AM.cAndV, AM.cOrV, AM.cNotV, AM.cIf, AM.cNil, AM.cCons, AM.cStar, AM.cTup, AM.cLst, AM.cLstM, AM.cSl, AM.oNone, AM.oSome, AM.cRev, AM.cRevL, AM.cIter, AM.iterD, AM.cRange1, AM.cRange2, AM.cEnum, AM.cZip, AM.cChain, AM.cMut, AM.isLst, AM.cM1, AM.cFld, AM.cProp, AM.cMeth, AM.isObj, AM.cMake, AM.makeW, AM.cMakeD, AM.cMakeK, AM.makeKW, AM.strOwnW, AM.eqOwnW, AM.boolOwnW, AM.knownW, AM.view_val, AM.view_ref, AM.views, AM.toD_val, AM.toD_ref, AM.toDs, AM.Rs.bind, AM.Rs.bindT, AM.tYesM, AM.putD, AM.gI, AM.wipeE, AM.cJoin, AM.cJs, Option.bind_some, Option.bind_none, Option.map_some, Option.map_none, List.map_cons, List.map_nil, List.length_cons, List.length_nil, List.replicate, List.append_eq, List.cons_append, List.nil_append, List.getElem?_cons_zero, List.getElem?_cons_succ, List.set_cons_zero, List.set_cons_succ, List.take_length, AM.take_set, Nat.reduceAdd, Nat.reduceSub, Nat.reduceLeDiff, Nat.reduceLT, if_true, if_false, ite_true, ite_false, reduceIte, AM.sBad, Bool.not_true, Bool.not_false, Bool.false_eq_true, Bool.true_and, Bool.and_true, Bool.false_and, Bool.and_false, Bool.true_or, Bool.or_true, Bool.false_or, Bool.or_false, not_true_eq_false, not_false_eq_true, decide_true, decide_false, and_self, true_and, and_true, slD, negD, addD, hz, cut1]
  have tr : tries found = found :: (signsL.map fun c => cut1 found ++ one c) := rfl
  have tl := tries_len found
  have ne := tries_free (x := found) (ts := ts) hts
  obtain ⟨y, ys, ey⟩ : ∃ y ys, (tries found).filter (fun y => !decide (y ∈ ts)) = y :: ys := by
    cases e : (tries found).filter (fun y => !decide (y ∈ ts)) with
    | nil => exact absurd e ne
    | cons y ys => exact ⟨y, ys, rfl⟩
  have hy : y ∈ (tries found).filter (fun y => !decide (y ∈ ts)) := by rw [ey]; exact List.mem_cons_self
  rw [List.mem_filter] at hy
  refine ⟨y, tries_ok hf y hy.1, by simpa using hy.2, ?_⟩
  have c2 : cLc false [10] (gNm 10) (cIter (cVar 8)) (cTest (cBin (aBin notInD) (cVar 10) (cVar 1))) (cVar 10) [w0, some wt, some (.val (.str alph)), w3, w4, some (.val (.str found)), w6, w7, some (.val (.lst ((tries found).map D.str))), w9, w10] S = .ok (.val (.lst (((tries found).filter (fun y => !decide (y ∈ ts))).map D.str))) S := by
    refine cLc_atF (enc := D.str) (tries found) rfl (fun x hx => ⟨_, rfl, fun acc => ⟨?_, fun _ => rfl⟩⟩) (by rw [szl, tl]; decide)
    simp [AM.callF, AM.exitF, AM.exitW, AM.sNil, AM.sSeq, AM.sExpr, AM.sRet, AM.sRetN, AM.sIf, AM.sAsg, AM.sPar, AM.sPar3, AM.sParN, AM.setAll, AM.sFor, AM.sFrz, AM.sSetIx, AM.sFldA, AM.gNm, AM.gNilA, AM.gConsA, AM.gTupA, AM.cVar, AM.cC, AM.cBin, AM.cUn, AM.aBin, AM.aUn, AM.aFn, AM.cBi, AM.cCall, AM.cTest, AM.cTruth, AM.cAndT, AM.cOrT, AM.cNotT, AM.cAndV, AM.cOrV, AM.cNotV, AM.cIf, AM.cNil, AM.cCons, AM.cStar, AM.cTup, AM.cLst, AM.cLstM, AM.cSl, AM.oNone, AM.oSome, AM.cRev, AM.cRevL, AM.cIter, AM.iterD, AM.cRange1, AM.cRange2, AM.cEnum, AM.cZip, AM.cChain, AM.cMut, AM.isLst, AM.cM1, AM.cFld, AM.cProp, AM.cMeth, AM.isObj, AM.cMake, AM.makeW, AM.cMakeD, AM.cMakeK, AM.makeKW, AM.strOwnW, AM.eqOwnW, AM.boolOwnW, AM.knownW, AM.view_val, AM.view_ref, AM.views, AM.toD_val, AM.toD_ref, AM.toDs, AM.Rs.bind, AM.Rs.bindT, AM.tYesM, AM.putD, AM.gI, AM.wipeE, AM.cJoin, AM.cJs, Option.bind_some, Option.bind_none, Option.map_some, Option.map_none, List.map_cons, List.map_nil, List.length_cons, List.length_nil, List.replicate, List.append_eq, List.cons_append, List.nil_append, List.getElem?_cons_zero, List.getElem?_cons_succ, List.set_cons_zero, List.set_cons_succ, List.take_length, AM.take_set, Nat.reduceAdd, Nat.reduceSub, Nat.reduceLeDiff, Nat.reduceLT, if_true, if_false, ite_true, ite_false, reduceIte, AM.sBad, Bool.not_true, Bool.not_false, Bool.false_eq_true, Bool.true_and, Bool.and_true, Bool.false_and, Bool.and_false, Bool.true_or, Bool.or_true, Bool.false_or, Bool.or_false, not_true_eq_false, not_false_eq_true, decide_true, decide_false, and_self, true_and, and_true, hv, notInD, in_strs]
  have em : (D.str found :: (signsL.map fun c => D.str (cut1 found ++ one c))) = (tries found).map D.str := by
    rw [tr, List.map_cons, List.map_map]
    rfl
  have hz : (1 : Nat) + signsL.length ≤ 16777216 := by decide
  simp only [sSeq, sAsg, cBin, cLst, cCons, cVar, cNil, List.getElem?_cons_zero, List.getElem?_cons_succ, Rs.bind, Rs.bindT, toDs, toD, Option.bind_some, Option.map_some, c1, gNm, List.set_cons_succ, List.set_cons_zero]
  simp [szl, AM.callF, AM.exitF, AM.exitW, AM.sNil, AM.sSeq, AM.sExpr, AM.sRet, AM.sRetN, AM.sIf, AM.sAsg, AM.sPar, AM.sPar3, AM.sParN, AM.setAll, AM.sFor, AM.sFrz, AM.sSetIx, AM.sFldA, AM.gNm, AM.gNilA, AM.gConsA, AM.gTupA, AM.cVar, AM.cC, AM.cBin, AM.cUn, AM.aBin, AM.aUn, AM.aFn, AM.cBi, AM.cCall, AM.cTest, AM.cTruth, AM.cAndT, AM.cOrT, AM.cNotT, AM.cAndV, AM.cOrV, AM.cNotV, AM.cIf, AM.cNil, AM.cCons, AM.cStar, AM.cTup, AM.cLst, AM.cLstM, AM.cSl, AM.oNone, AM.oSome, AM.cRev, AM.cRevL, AM.cIter, AM.iterD, AM.cRange1, AM.cRange2, AM.cEnum, AM.cZip, AM.cChain, AM.cMut, AM.isLst, AM.cM1, AM.cFld, AM.cProp, AM.cMeth, AM.isObj, AM.cMake, AM.makeW, AM.cMakeD, AM.cMakeK, AM.makeKW, AM.strOwnW, AM.eqOwnW, AM.boolOwnW, AM.knownW, AM.view_val, AM.view_ref, AM.views, AM.toD_val, AM.toD_ref, AM.toDs, AM.Rs.bind, AM.Rs.bindT, AM.tYesM, AM.putD, AM.gI, AM.wipeE, AM.cJoin, AM.cJs, Option.bind_some, Option.bind_none, Option.map_some, Option.map_none, List.map_cons, List.map_nil, List.length_cons, List.length_nil, List.replicate, List.append_eq, List.cons_append, List.nil_append, List.getElem?_cons_zero, List.getElem?_cons_succ, List.set_cons_zero, List.set_cons_succ, List.take_length, AM.take_set, Nat.reduceAdd, Nat.reduceSub, Nat.reduceLeDiff, Nat.reduceLT, if_true, if_false, ite_true, ite_false, reduceIte, AM.sBad, Bool.not_true, Bool.not_false, Bool.false_eq_true, Bool.true_and, Bool.and_true, Bool.false_and, Bool.and_false, Bool.true_or, Bool.or_true, Bool.false_or, Bool.or_false, not_true_eq_false, not_false_eq_true, decide_true, decide_false, and_self, true_and, and_true, addD, em, hz, c2, ey, ixD, atI0]
theorem word_head (w0 w1 : Option W) (s : MS) (S : Sto) : sSeq (sAsg (gNm 2) (cC (.str "abcdefghijklmnopqrstuvwxyz"))) (sSeq (sAsg (gNm 3) (cLst (cCons (cC (.str "count")) (cCons (cC (.str "bikes")) (cCons (cC (.str "left")) (cCons (cC (.str "came")) (cCons (cC (.str "rides")) (cCons (cC (.str "van")) (cCons (cC (.str "way")) (cCons (cC (.str "road")) (cCons (cC (.str "stand")) (cCons (cC (.str "slots")) (cCons (cC (.str "from")) (cCons (cC (.str "to")) (cCons (cC (.str "is")) cNil))))))))))))))) (sSeq (sAsg (gNm 3) (cBin (aBin addD) (cVar 3) (cLst (cCons (cC (.str "least")) (cCons (cC (.str "most")) (cCons (cC (.str "all")) (cCons (cC (.str "vans")) cNil))))))) s)) [w0, w1, none, none, none, none, none, none, none, none, none] S
    = s [w0, w1, some (.val (.str alph)), some (.val (.lst ((keptW ++ keptW2).map D.str))), none, none, none, none, none, none, none] S := by
  simp [AM.callF, AM.exitF, AM.exitW, AM.sNil, AM.sSeq, AM.sExpr, AM.sRet, AM.sRetN, AM.sIf, AM.sAsg, AM.sPar, AM.sPar3, AM.sParN, AM.setAll, AM.sFor, AM.sFrz, AM.sSetIx, AM.sFldA, AM.gNm, AM.gNilA, AM.gConsA, AM.gTupA, AM.cVar, AM.cC, AM.cBin, AM.cUn, AM.aBin, AM.aUn, AM.aFn, AM.cBi, AM.cCall, AM.cTest, AM.cTruth, AM.cAndT, AM.cOrT, AM.cNotT, AM.cAndV, AM.cOrV, AM.cNotV, AM.cIf, AM.cNil, AM.cCons, AM.cStar, AM.cTup, AM.cLst, AM.cLstM, AM.cSl, AM.oNone, AM.oSome, AM.cRev, AM.cRevL, AM.cIter, AM.iterD, AM.cRange1, AM.cRange2, AM.cEnum, AM.cZip, AM.cChain, AM.cMut, AM.isLst, AM.cM1, AM.cFld, AM.cProp, AM.cMeth, AM.isObj, AM.cMake, AM.makeW, AM.cMakeD, AM.cMakeK, AM.makeKW, AM.strOwnW, AM.eqOwnW, AM.boolOwnW, AM.knownW, AM.view_val, AM.view_ref, AM.views, AM.toD_val, AM.toD_ref, AM.toDs, AM.Rs.bind, AM.Rs.bindT, AM.tYesM, AM.putD, AM.gI, AM.wipeE, AM.cJoin, AM.cJs, Option.bind_some, Option.bind_none, Option.map_some, Option.map_none, List.map_cons, List.map_nil, List.length_cons, List.length_nil, List.replicate, List.append_eq, List.cons_append, List.nil_append, List.getElem?_cons_zero, List.getElem?_cons_succ, List.set_cons_zero, List.set_cons_succ, List.take_length, AM.take_set, Nat.reduceAdd, Nat.reduceSub, Nat.reduceLeDiff, Nat.reduceLT, if_true, if_false, ite_true, ite_false, reduceIte, AM.sBad, Bool.not_true, Bool.not_false, Bool.false_eq_true, Bool.true_and, Bool.and_true, Bool.false_and, Bool.and_false, Bool.true_or, Bool.or_true, Bool.false_or, Bool.or_false, not_true_eq_false, not_false_eq_true, decide_true, decide_false, and_self, true_and, and_true, szl, addD, keptW, keptW2]
/-- a word that is drawn sign by sign -/
theorem signs_word {S S1 : Sto} {p : Nat} {o1 : Ob} {some_ : Str} {n : Nat} {w1 w2 w3 w4 w5 w7 w8 w9 w10 : Option W} {fi : MI} (hs : 0 < some_.length) (hs2 : some_.length ≤ 26) (hl : ∀ c ∈ some_.cps.toList, letter c = true) (h1 : 1 ≤ n) (h8 : n ≤ 8)
    (hi : fi [some (.ref p), w1, w2, w3, w4, w5, some (.val (.str some_)), w7, w8, w9, w10] S = .ok (rangeD 0 n) S1) (hp : S1[p]? = some o1) (ho : Src o1) :
    ∃ x o', nameOk x = true ∧ Src o' ∧ cM1 joinD (cC (.str "")) (cLc false [7] (gNm 7) fi tYesM (cBin (aBin ixD) (cVar 6) (cCall F__law_draw (cCons (cVar 0) (cCons (cBi (aFn lenD) (cCons (cVar 6) cNil)) cNil))))) [some (.ref p), w1, w2, w3, w4, w5, some (.val (.str some_)), w7, w8, w9, w10] S = .ok (.val (.str x)) (S1.set p o') := by
  obtain ⟨l, o', e, ho', hll, pl⟩ := cLc_src (g := gNm 7) (fe := cBin (aBin ixD) (cVar 6) (cCall F__law_draw (cCons (cVar 0) (cCons (cBi (aFn lenD) (cCons (cVar 6) cNil)) cNil)))) (P := fun d => ∃ c, d = .str (one c) ∧ letter c = true) (vs := [7]) hi hp ho (fun d hd => ⟨_, rfl, fun T o ht hO => by
      obtain ⟨d2, o2, e2, ho2, j, rfl, j0, j1⟩ := draw_eq (S := T) ht hO (many := (some_.length : Int)) (by omega) (lt30 (by omega))
      have hj : j.toNat < some_.cps.toList.length := by rw [Array.length_toList]; show _ < some_.length; omega
      have ej : L2.atI some_.cps.toList j = some some_.cps.toList[j.toNat] := by
        have : j = ((j.toNat : Nat) : Int) := by omega
        conv => lhs; rw [this]
        exact atIn (List.getElem?_eq_getElem hj)
      refine ⟨.str (one some_.cps.toList[j.toNat]), o2, ?_, ho2, _, rfl, hl _ (List.getElem_mem hj)⟩
      simp [AM.callF, AM.exitF, AM.exitW, AM.sNil, AM.sSeq, AM.sExpr, AM.sRet, AM.sRetN, AM.sIf, AM.sAsg, AM.sPar, AM.sPar3, AM.sParN, AM.setAll, AM.sFor, AM.sFrz, AM.sSetIx, AM.sFldA, AM.gNm, AM.gNilA, AM.gConsA, AM.gTupA, AM.cVar, AM.cC, AM.cBin, AM.cUn, AM.aBin, AM.aUn, AM.aFn, AM.cBi, AM.cCall, AM.cTest, AM.cTruth, AM.cAndT, AM.cOrT, AM.cNotT, AM.cAndV, AM.cOrV, AM.cNotV, AM.cIf, AM.cNil, AM.cCons, AM.cStar, AM.cTup, AM.cLst, AM.cLstM, AM.cSl, AM.oNone, AM.oSome, AM.cRev, AM.cRevL, AM.cIter, AM.iterD, AM.cRange1, AM.cRange2, AM.cEnum, AM.cZip, AM.cChain, AM.cMut, AM.isLst, AM.cM1, AM.cFld, AM.cProp, AM.cMeth, AM.isObj, AM.cMake, AM.makeW, AM.cMakeD, AM.cMakeK, AM.makeKW, AM.strOwnW, AM.eqOwnW, AM.boolOwnW, AM.knownW, AM.view_val, AM.view_ref, AM.views, AM.toD_val, AM.toD_ref, AM.toDs, AM.Rs.bind, AM.Rs.bindT, AM.tYesM, AM.putD, AM.gI, AM.wipeE, AM.cJoin, AM.cJs, Option.bind_some, Option.bind_none, Option.map_some, Option.map_none, List.map_cons, List.map_nil, List.length_cons, List.length_nil, List.replicate, List.append_eq, List.cons_append, List.nil_append, List.getElem?_cons_zero, List.getElem?_cons_succ, List.set_cons_zero, List.set_cons_succ, List.take_length, AM.take_set, Nat.reduceAdd, Nat.reduceSub, Nat.reduceLeDiff, Nat.reduceLT, if_true, if_false, ite_true, ite_false, reduceIte, AM.sBad, Bool.not_true, Bool.not_false, Bool.false_eq_true, Bool.true_and, Bool.and_true, Bool.false_and, Bool.and_false, Bool.true_or, Bool.or_true, Bool.false_or, Bool.or_false, not_true_eq_false, not_false_eq_true, decide_true, decide_false, and_self, true_and, and_true, lenD, e2, ixD, ej]
      rfl⟩) (by rw [szl]; simp [rangeD]; omega)
  have hn : l.length = n := by rw [hll]; simp [rangeD]
  obtain ⟨cs, rfl, hcs⟩ : ∃ cs : List Nat, l = (cs.map one).map D.str ∧ ∀ c ∈ cs, letter c = true := by
    clear e hll hn
    induction l with
    | nil => exact ⟨[], rfl, fun c hc => by cases hc⟩
    | cons d l ih =>
      obtain ⟨c, rfl, hc⟩ := pl d List.mem_cons_self
      obtain ⟨cs, rfl, hcs⟩ := ih fun x hx => pl x (List.mem_cons_of_mem _ hx)
      exact ⟨c :: cs, rfl, fun x hx => by
        rcases List.mem_cons.mp hx with rfl | hx
        · exact hc
        · exact hcs x hx⟩
  rw [List.length_map, List.length_map] at hn
  have tlx : TL.tl (Str.join "" (cs.map one)) = cs := by rw [← TL.join_eq]; exact tl_ones cs
  refine ⟨Str.join "" (cs.map one), o', nameOk_of (by rw [tlx]; omega) (by rw [tlx]; omega) (by rw [tlx]; exact hcs), ho', ?_⟩
  have hz : ((cs.map one).map (·.length)).sum + (cs.map one).length * (Str.ofString "").length ≤ 16777216 := by
    rw [ones_len]
    have : (Str.ofString "").length = 0 := by decide +kernel
    rw [this]
    omega
  simp only [cM1, cC, Rs.bind, e, view_val, joinD_ok hz]
theorem word_eq {S : Sto} {p : Nat} {o : Ob} {wt : W} {ts : List Str} (hp : S[p]? = some o) (ho : Src o) (hts : ts.length ≤ 20) (hv : ∀ o T, view wt (S.set p o ++ T) = some (.lst (ts.map D.str))) :
    Dr p S (F__law_word [.ref p, wt] S) fun d => ∃ y, d = .str y ∧ nameOk y = true ∧ y ∉ ts := by
  obtain ⟨d1, o1, e1, ho1, k, rfl, k0, k4⟩ := draw_eq (S := S) hp ho (many := 4) (by decide) (lt30 (by decide))
  have hp1 := get_set (o' := o1) hp
  have e17 : (keptW ++ keptW2).length = 17 := by decide
  by_cases hk : k = 0
  · subst hk
    obtain ⟨d2, o2, e2, ho2, j, rfl, j0, j17⟩ := draw_eq (S := S.set p o1) hp1 ho1 (many := 17) (by decide) (lt30 (by decide))
    rw [List.set_set] at e2
    obtain ⟨x, ex⟩ : ∃ x, (keptW ++ keptW2)[j.toNat]? = some x := ⟨_, List.getElem?_eq_getElem (by omega)⟩
    have hx : nameOk x = true := kept_ok x (List.mem_of_getElem? ex)
    have ej : L2.atI ((keptW ++ keptW2).map D.str) j = some (.str x) := by
      have : j = ((j.toNat : Nat) : Int) := by omega
      rw [this]
      exact atIn (by rw [List.getElem?_map, ex]; rfl)
    obtain ⟨y, hy, hn, er⟩ := word_rest (found := x) (ts := ts) (wt := wt) (w0 := some (.ref p)) (w3 := some (.val (.lst ((keptW ++ keptW2).map D.str)))) (w4 := some (.val (.int 0))) (w6 := none) (w7 := none) (w8 := none) (w9 := none) (w10 := none) (S := S.set p o2) hx hts (hv o2)
    refine ⟨.str y, o2, ?_, ho2, y, rfl, hy, hn⟩
    have er' := er
    simp only [F__law_word, m__law_word, callF, List.length_cons, List.length_nil, List.map_cons, List.map_nil, List.replicate, Nat.reduceAdd, Nat.reduceSub, if_true, List.cons_append, List.nil_append, word_head]
    rw [sSeq, sAsg]
    simp only [cCall, cCons, cVar, cC, cNil, List.getElem?_cons_zero, List.getElem?_cons_succ, Rs.bind, Rs.bindT, e1, gNm, List.set_cons_succ, List.set_cons_zero]
    have e17' : lenD [.lst ((keptW ++ keptW2).map D.str)] = some (.int 17) := by simp only [lenD, List.length_map, e17]; rfl
    rw [sSeq, sIf]
    simp only [cTest, cBin, cVar, cC, List.getElem?_cons_zero, List.getElem?_cons_succ, Rs.bind, Rs.bindT, aBin, view_val, eqD, eqDD, scE, Option.map_some, decide_true, if_true, sAsg, cCall, cCons, cBi, cNil, aFn, views, Option.bind_some, e17', e2, ixD, ej, gNm, List.set_cons_succ, List.set_cons_zero]
    rw [er]
    simp [AM.callF, AM.exitF, AM.exitW, AM.sNil, AM.sSeq, AM.sExpr, AM.sRet, AM.sRetN, AM.sIf, AM.sAsg, AM.sPar, AM.sPar3, AM.sParN, AM.setAll, AM.sFor, AM.sFrz, AM.sSetIx, AM.sFldA, AM.gNm, AM.gNilA, AM.gConsA, AM.gTupA, AM.cVar, AM.cC, AM.cBin, AM.cUn, AM.aBin, AM.aUn, AM.aFn, AM.cBi, AM.cCall, AM.cTest, AM.cTruth, AM.cAndT, AM.cOrT, AM.cNotT, AM.cAndV, AM.cOrV, AM.cNotV, AM.cIf, AM.cNil, AM.cCons, AM.cStar, AM.cTup, AM.cLst, AM.cLstM, AM.cSl, AM.oNone, AM.oSome, AM.cRev, AM.cRevL, AM.cIter, AM.iterD, AM.cRange1, AM.cRange2, AM.cEnum, AM.cZip, AM.cChain, AM.cMut, AM.isLst, AM.cM1, AM.cFld, AM.cProp, AM.cMeth, AM.isObj, AM.cMake, AM.makeW, AM.cMakeD, AM.cMakeK, AM.makeKW, AM.strOwnW, AM.eqOwnW, AM.boolOwnW, AM.knownW, AM.view_val, AM.view_ref, AM.views, AM.toD_val, AM.toD_ref, AM.toDs, AM.Rs.bind, AM.Rs.bindT, AM.tYesM, AM.putD, AM.gI, AM.wipeE, AM.cJoin, AM.cJs, Option.bind_some, Option.bind_none, Option.map_some, Option.map_none, List.map_cons, List.map_nil, List.length_cons, List.length_nil, List.replicate, List.append_eq, List.cons_append, List.nil_append, List.getElem?_cons_zero, List.getElem?_cons_succ, List.set_cons_zero, List.set_cons_succ, List.take_length, AM.take_set, Nat.reduceAdd, Nat.reduceSub, Nat.reduceLeDiff, Nat.reduceLT, if_true, if_false, ite_true, ite_false, reduceIte, AM.sBad, Bool.not_true, Bool.not_false, Bool.false_eq_true, Bool.true_and, Bool.and_true, Bool.false_and, Bool.and_false, Bool.true_or, Bool.or_true, Bool.false_or, Bool.or_false, not_true_eq_false, not_false_eq_true, decide_true, decide_false, and_self, true_and, and_true]
  · obtain ⟨d2, o2, e2, ho2, j, rfl, j0, j8⟩ := draw_eq (S := S.set p o1) hp1 ho1 (many := 8) (by decide) (lt30 (by decide))
    rw [List.set_set] at e2
    have hp2 := get_set (o' := o2) hp
    have ab : (Str.ofString "ab").length = 2 ∧ ∀ c ∈ (Str.ofString "ab").cps.toList, letter c = true := by decide +kernel
    have az : alph.length = 26 ∧ ∀ c ∈ alph.cps.toList, letter c = true := by decide +kernel
    have key : ∀ (some_ : Str), 0 < some_.length → some_.length ≤ 26 → (∀ c ∈ some_.cps.toList, letter c = true) → ∃ y o3, nameOk y = true ∧ y ∉ ts ∧ Src o3 ∧
        sSeq (sAsg (gNm 5) (cM1 joinD (cC (.str "")) (cLc false [7] (gNm 7) (cRange1 (cCons (cBin (aBin addD) (cC (.int 1)) (cCall F__law_draw (cCons (cVar 0) (cCons (cC (.int 8)) cNil)))) cNil)) tYesM (cBin (aBin ixD) (cVar 6) (cCall F__law_draw (cCons (cVar 0) (cCons (cBi (aFn lenD) (cCons (cVar 6) cNil)) cNil))))))) (sSeq (sAsg (gNm 8) (cBin (aBin addD) (cLst (cCons (cVar 5) cNil)) (cLc false [9] (gNm 9) (cIter (cVar 2)) tYesM (cBin (aBin addD) (cSl (cVar 5) oNone (oSome (cUn (aUn negD) (cC (.int 1))))) (cVar 9))))) (sRet (cBin (aBin ixD) (cLc false [10] (gNm 10) (cIter (cVar 8)) (cTest (cBin (aBin notInD) (cVar 10) (cVar 1))) (cVar 10)) (cC (.int 0)))))
          [some (.ref p), some wt, some (.val (.str alph)), some (.val (.lst ((keptW ++ keptW2).map D.str))), some (.val (.int k)), none, some (.val (.str some_)), none, none, none, none] (S.set p o1) = .rt (.val (.str y)) (S.set p o3) := by
      intro some_ h1 h2 h3
      obtain ⟨x, o3, hx, ho3, ex⟩ := signs_word (S := S.set p o1) (S1 := S.set p o2) (p := p) (o1 := o2) (some_ := some_) (n := (1 + j).toNat) (w1 := some wt) (w2 := some (.val (.str alph))) (w3 := some (.val (.lst ((keptW ++ keptW2).map D.str)))) (w4 := some (.val (.int k))) (w5 := none) (w7 := none) (w8 := none) (w9 := none) (w10 := none)
        (fi := cRange1 (cCons (cBin (aBin addD) (cC (.int 1)) (cCall F__law_draw (cCons (cVar 0) (cCons (cC (.int 8)) cNil)))) cNil)) h1 h2 h3 (by omega) (by omega) (by
          have hb : -(2 ^ 62) ≤ 1 + j ∧ 1 + j < (2 ^ 62 : Int) := rng62 (by omega) (by omega)
          simp only [cRange1, cCons, cBin, cC, cCall, cVar, cNil, List.getElem?_cons_zero, Rs.bind, e2, aBin, view_val, addD]
          rw [if_pos hb]) hp2 ho2
      rw [List.set_set] at ex
      obtain ⟨y, hy, hn, er⟩ := word_rest (found := x) (ts := ts) (wt := wt) (w0 := some (.ref p)) (w3 := some (.val (.lst ((keptW ++ keptW2).map D.str)))) (w4 := some (.val (.int k))) (w6 := some (.val (.str some_))) (w7 := none) (w8 := none) (w9 := none) (w10 := none) (S := S.set p o3) hx hts (hv o3)
      refine ⟨y, o3, hy, hn, ho3, ?_⟩
      rw [sSeq, sAsg, ex]
      simp only [Rs.bindT, gNm, List.set_cons_succ, List.set_cons_zero]
      exact er
    have fin : ∀ (some_ : Str) (y : Str) (o3 : Ob), cIf (cTest (cBin (aBin eqD) (cVar 4) (cC (.int 1)))) (cC (.str "ab")) (cVar 2) [some (.ref p), some wt, some (.val (.str alph)), some (.val (.lst ((keptW ++ keptW2).map D.str))), some (.val (.int k)), none, none, none, none, none, none] (S.set p o1) = .ok (.val (.str some_)) (S.set p o1) →
        sSeq (sAsg (gNm 5) (cM1 joinD (cC (.str "")) (cLc false [7] (gNm 7) (cRange1 (cCons (cBin (aBin addD) (cC (.int 1)) (cCall F__law_draw (cCons (cVar 0) (cCons (cC (.int 8)) cNil)))) cNil)) tYesM (cBin (aBin ixD) (cVar 6) (cCall F__law_draw (cCons (cVar 0) (cCons (cBi (aFn lenD) (cCons (cVar 6) cNil)) cNil))))))) (sSeq (sAsg (gNm 8) (cBin (aBin addD) (cLst (cCons (cVar 5) cNil)) (cLc false [9] (gNm 9) (cIter (cVar 2)) tYesM (cBin (aBin addD) (cSl (cVar 5) oNone (oSome (cUn (aUn negD) (cC (.int 1))))) (cVar 9))))) (sRet (cBin (aBin ixD) (cLc false [10] (gNm 10) (cIter (cVar 8)) (cTest (cBin (aBin notInD) (cVar 10) (cVar 1))) (cVar 10)) (cC (.int 0)))))
          [some (.ref p), some wt, some (.val (.str alph)), some (.val (.lst ((keptW ++ keptW2).map D.str))), some (.val (.int k)), none, some (.val (.str some_)), none, none, none, none] (S.set p o1) = .rt (.val (.str y)) (S.set p o3) →
        F__law_word [.ref p, wt] S = .ok (.val (.str y)) (S.set p o3) := by
      intro some_ y o3 hc hr
      simp only [F__law_word, m__law_word, callF, List.length_cons, List.length_nil, List.map_cons, List.map_nil, List.replicate, Nat.reduceAdd, Nat.reduceSub, if_true, List.cons_append, List.nil_append, word_head]
      rw [sSeq, sAsg]
      simp only [cCall, cCons, cVar, cC, cNil, List.getElem?_cons_zero, List.getElem?_cons_succ, Rs.bind, Rs.bindT, e1, gNm, List.set_cons_succ, List.set_cons_zero]
      rw [sSeq, sIf]
      have t0 : cTest (cBin (aBin eqD) (cVar 4) (cC (.int 0))) [some (.ref p), some wt, some (.val (.str alph)), some (.val (.lst ((keptW ++ keptW2).map D.str))), some (.val (.int k)), none, none, none, none, none, none] (S.set p o1) = .ok false (S.set p o1) := by simp [AM.callF, AM.exitF, AM.exitW, AM.sNil, AM.sSeq, AM.sExpr, AM.sRet, AM.sRetN, AM.sIf, AM.sAsg, AM.sPar, AM.sPar3, AM.sParN, AM.setAll, AM.sFor, AM.sFrz, AM.sSetIx, AM.sFldA, AM.gNm, AM.gNilA, AM.gConsA, AM.gTupA, AM.cVar, AM.cC, AM.cBin, AM.cUn, AM.aBin, AM.aUn, AM.aFn, AM.cBi, AM.cCall, AM.cTest, AM.cTruth, AM.cAndT, AM.cOrT, AM.cNotT, AM.cAndV, AM.cOrV, AM.cNotV, AM.cIf, AM.cNil, AM.cCons, AM.cStar, AM.cTup, AM.cLst, AM.cLstM, AM.cSl, AM.oNone, AM.oSome, AM.cRev, AM.cRevL, AM.cIter, AM.iterD, AM.cRange1, AM.cRange2, AM.cEnum, AM.cZip, AM.cChain, AM.cMut, AM.isLst, AM.cM1, AM.cFld, AM.cProp, AM.cMeth, AM.isObj, AM.cMake, AM.makeW, AM.cMakeD, AM.cMakeK, AM.makeKW, AM.strOwnW, AM.eqOwnW, AM.boolOwnW, AM.knownW, AM.view_val, AM.view_ref, AM.views, AM.toD_val, AM.toD_ref, AM.toDs, AM.Rs.bind, AM.Rs.bindT, AM.tYesM, AM.putD, AM.gI, AM.wipeE, AM.cJoin, AM.cJs, Option.bind_some, Option.bind_none, Option.map_some, Option.map_none, List.map_cons, List.map_nil, List.length_cons, List.length_nil, List.replicate, List.append_eq, List.cons_append, List.nil_append, List.getElem?_cons_zero, List.getElem?_cons_succ, List.set_cons_zero, List.set_cons_succ, List.take_length, AM.take_set, Nat.reduceAdd, Nat.reduceSub, Nat.reduceLeDiff, Nat.reduceLT, if_true, if_false, ite_true, ite_false, reduceIte, AM.sBad, Bool.not_true, Bool.not_false, Bool.false_eq_true, Bool.true_and, Bool.and_true, Bool.false_and, Bool.and_false, Bool.true_or, Bool.or_true, Bool.false_or, Bool.or_false, not_true_eq_false, not_false_eq_true, decide_true, decide_false, and_self, true_and, and_true, eqD, eqDD, scE, hk]
      simp only [t0, Rs.bindT, Bool.false_eq_true, if_false]
      rw [sSeq] at hr
      rw [sSeq, sAsg, hc]
      simp only [Rs.bindT, gNm, List.set_cons_succ, List.set_cons_zero] at hr ⊢
      rw [hr]
      simp [AM.callF, AM.exitF, AM.exitW, AM.sNil, AM.sSeq, AM.sExpr, AM.sRet, AM.sRetN, AM.sIf, AM.sAsg, AM.sPar, AM.sPar3, AM.sParN, AM.setAll, AM.sFor, AM.sFrz, AM.sSetIx, AM.sFldA, AM.gNm, AM.gNilA, AM.gConsA, AM.gTupA, AM.cVar, AM.cC, AM.cBin, AM.cUn, AM.aBin, AM.aUn, AM.aFn, AM.cBi, AM.cCall, AM.cTest, AM.cTruth, AM.cAndT, AM.cOrT, AM.cNotT, AM.cAndV, AM.cOrV, AM.cNotV, AM.cIf, AM.cNil, AM.cCons, AM.cStar, AM.cTup, AM.cLst, AM.cLstM, AM.cSl, AM.oNone, AM.oSome, AM.cRev, AM.cRevL, AM.cIter, AM.iterD, AM.cRange1, AM.cRange2, AM.cEnum, AM.cZip, AM.cChain, AM.cMut, AM.isLst, AM.cM1, AM.cFld, AM.cProp, AM.cMeth, AM.isObj, AM.cMake, AM.makeW, AM.cMakeD, AM.cMakeK, AM.makeKW, AM.strOwnW, AM.eqOwnW, AM.boolOwnW, AM.knownW, AM.view_val, AM.view_ref, AM.views, AM.toD_val, AM.toD_ref, AM.toDs, AM.Rs.bind, AM.Rs.bindT, AM.tYesM, AM.putD, AM.gI, AM.wipeE, AM.cJoin, AM.cJs, Option.bind_some, Option.bind_none, Option.map_some, Option.map_none, List.map_cons, List.map_nil, List.length_cons, List.length_nil, List.replicate, List.append_eq, List.cons_append, List.nil_append, List.getElem?_cons_zero, List.getElem?_cons_succ, List.set_cons_zero, List.set_cons_succ, List.take_length, AM.take_set, Nat.reduceAdd, Nat.reduceSub, Nat.reduceLeDiff, Nat.reduceLT, if_true, if_false, ite_true, ite_false, reduceIte, AM.sBad, Bool.not_true, Bool.not_false, Bool.false_eq_true, Bool.true_and, Bool.and_true, Bool.false_and, Bool.and_false, Bool.true_or, Bool.or_true, Bool.false_or, Bool.or_false, not_true_eq_false, not_false_eq_true, decide_true, decide_false, and_self, true_and, and_true]
    by_cases hk1 : k = 1
    · subst hk1
      obtain ⟨y, o3, hy, hn, ho3, er⟩ := key "ab" (by rw [ab.1]; decide) (by rw [ab.1]; decide) ab.2
      exact ⟨.str y, o3, fin "ab" y o3 (by simp [AM.callF, AM.exitF, AM.exitW, AM.sNil, AM.sSeq, AM.sExpr, AM.sRet, AM.sRetN, AM.sIf, AM.sAsg, AM.sPar, AM.sPar3, AM.sParN, AM.setAll, AM.sFor, AM.sFrz, AM.sSetIx, AM.sFldA, AM.gNm, AM.gNilA, AM.gConsA, AM.gTupA, AM.cVar, AM.cC, AM.cBin, AM.cUn, AM.aBin, AM.aUn, AM.aFn, AM.cBi, AM.cCall, AM.cTest, AM.cTruth, AM.cAndT, AM.cOrT, AM.cNotT, AM.cAndV, AM.cOrV, AM.cNotV, AM.cIf, AM.cNil, AM.cCons, AM.cStar, AM.cTup, AM.cLst, AM.cLstM, AM.cSl, AM.oNone, AM.oSome, AM.cRev, AM.cRevL, AM.cIter, AM.iterD, AM.cRange1, AM.cRange2, AM.cEnum, AM.cZip, AM.cChain, AM.cMut, AM.isLst, AM.cM1, AM.cFld, AM.cProp, AM.cMeth, AM.isObj, AM.cMake, AM.makeW, AM.cMakeD, AM.cMakeK, AM.makeKW, AM.strOwnW, AM.eqOwnW, AM.boolOwnW, AM.knownW, AM.view_val, AM.view_ref, AM.views, AM.toD_val, AM.toD_ref, AM.toDs, AM.Rs.bind, AM.Rs.bindT, AM.tYesM, AM.putD, AM.gI, AM.wipeE, AM.cJoin, AM.cJs, Option.bind_some, Option.bind_none, Option.map_some, Option.map_none, List.map_cons, List.map_nil, List.length_cons, List.length_nil, List.replicate, List.append_eq, List.cons_append, List.nil_append, List.getElem?_cons_zero, List.getElem?_cons_succ, List.set_cons_zero, List.set_cons_succ, List.take_length, AM.take_set, Nat.reduceAdd, Nat.reduceSub, Nat.reduceLeDiff, Nat.reduceLT, if_true, if_false, ite_true, ite_false, reduceIte, AM.sBad, Bool.not_true, Bool.not_false, Bool.false_eq_true, Bool.true_and, Bool.and_true, Bool.false_and, Bool.and_false, Bool.true_or, Bool.or_true, Bool.false_or, Bool.or_false, not_true_eq_false, not_false_eq_true, decide_true, decide_false, and_self, true_and, and_true, eqD, eqDD, scE]) er, ho3, y, rfl, hy, hn⟩
    · obtain ⟨y, o3, hy, hn, ho3, er⟩ := key alph (by rw [az.1]; decide) (by rw [az.1]; decide) az.2
      exact ⟨.str y, o3, fin alph y o3 (by simp [AM.callF, AM.exitF, AM.exitW, AM.sNil, AM.sSeq, AM.sExpr, AM.sRet, AM.sRetN, AM.sIf, AM.sAsg, AM.sPar, AM.sPar3, AM.sParN, AM.setAll, AM.sFor, AM.sFrz, AM.sSetIx, AM.sFldA, AM.gNm, AM.gNilA, AM.gConsA, AM.gTupA, AM.cVar, AM.cC, AM.cBin, AM.cUn, AM.aBin, AM.aUn, AM.aFn, AM.cBi, AM.cCall, AM.cTest, AM.cTruth, AM.cAndT, AM.cOrT, AM.cNotT, AM.cAndV, AM.cOrV, AM.cNotV, AM.cIf, AM.cNil, AM.cCons, AM.cStar, AM.cTup, AM.cLst, AM.cLstM, AM.cSl, AM.oNone, AM.oSome, AM.cRev, AM.cRevL, AM.cIter, AM.iterD, AM.cRange1, AM.cRange2, AM.cEnum, AM.cZip, AM.cChain, AM.cMut, AM.isLst, AM.cM1, AM.cFld, AM.cProp, AM.cMeth, AM.isObj, AM.cMake, AM.makeW, AM.cMakeD, AM.cMakeK, AM.makeKW, AM.strOwnW, AM.eqOwnW, AM.boolOwnW, AM.knownW, AM.view_val, AM.view_ref, AM.views, AM.toD_val, AM.toD_ref, AM.toDs, AM.Rs.bind, AM.Rs.bindT, AM.tYesM, AM.putD, AM.gI, AM.wipeE, AM.cJoin, AM.cJs, Option.bind_some, Option.bind_none, Option.map_some, Option.map_none, List.map_cons, List.map_nil, List.length_cons, List.length_nil, List.replicate, List.append_eq, List.cons_append, List.nil_append, List.getElem?_cons_zero, List.getElem?_cons_succ, List.set_cons_zero, List.set_cons_succ, List.take_length, AM.take_set, Nat.reduceAdd, Nat.reduceSub, Nat.reduceLeDiff, Nat.reduceLT, if_true, if_false, ite_true, ite_false, reduceIte, AM.sBad, Bool.not_true, Bool.not_false, Bool.false_eq_true, Bool.true_and, Bool.and_true, Bool.false_and, Bool.and_false, Bool.true_or, Bool.or_true, Bool.false_or, Bool.or_false, not_true_eq_false, not_false_eq_true, decide_true, decide_false, and_self, true_and, and_true, eqD, eqDD, scE, hk1]) er, ho3, y, rfl, hy, hn⟩
end Bk
set_option Elab.async false
set_option linter.all false
set_option maxRecDepth 100000
set_option maxHeartbeats 4000000
namespace Bk
open PySem AM
section
variable {S L : Sto} {p : Nat} {o o' : Ob} {a b : Ob} {i : Nat}
theorem stP (hp : p < S.length) : (S.set p o ++ L)[p]? = some o := by
  rw [List.getElem?_append_left (by rw [List.length_set]; exact hp), List.getElem?_set, if_pos rfl, if_pos hp]
theorem stSet (hp : p < S.length) : (S.set p o ++ L).set p o' = S.set p o' ++ L := by
  rw [List.set_append_left _ _ (by rw [List.length_set]; exact hp), List.set_set]
theorem st0 : (S.set p o ++ (a :: L))[S.length]? = some a := by
  rw [List.getElem?_append_right (by rw [List.length_set]; exact Nat.le_refl _), List.length_set, Nat.sub_self]
  rfl
theorem stN : (S.set p o ++ L)[S.length + i]? = L[i]? := by
  rw [List.getElem?_append_right (by rw [List.length_set]; omega), List.length_set]
  congr 1
  omega
theorem ss0 : (S.set p o ++ (a :: L)).set S.length b = S.set p o ++ (b :: L) := by
  rw [List.set_append_right _ _ (by rw [List.length_set]; exact Nat.le_refl _), List.length_set, Nat.sub_self]
  rfl
theorem ssN : (S.set p o ++ L).set (S.length + i) b = S.set p o ++ L.set i b := by
  rw [List.set_append_right _ _ (by rw [List.length_set]; omega), List.length_set]
  congr 2
  omega
theorem drawL {m : Int} (hp : p < S.length) (ho : Src o) (h0 : 0 < m) (h1 : m < 2 ^ 30) : ∃ (k : Int) (o' : Ob), Src o' ∧ 0 ≤ k ∧ k < m ∧ F__law_draw [.ref p, .val (.int m)] (S.set p o ++ L) = .ok (.val (.int k)) (S.set p o' ++ L) := by
  obtain ⟨d, o', e, ho', k, rfl, k0, k1⟩ := draw_eq (S := S.set p o ++ L) (stP hp) ho h0 h1
  rw [stSet hp] at e
  exact ⟨k, o', ho', k0, k1, e⟩
theorem wordL {ts : List Str} {wt : W} (hp : p < S.length) (ho : Src o) (hts : ts.length ≤ 20) (hv : ∀ o T, view wt (S.set p o ++ L ++ T) = some (.lst (ts.map D.str))) : ∃ (y : Str) (o' : Ob), Src o' ∧ nameOk y = true ∧ y ∉ ts ∧ F__law_word [.ref p, wt] (S.set p o ++ L) = .ok (.val (.str y)) (S.set p o' ++ L) := by
  obtain ⟨d, o', e, ho', y, rfl, k0, k1⟩ := word_eq (S := S.set p o ++ L) (stP hp) ho hts (fun o2 T => by rw [stSet hp]; exact hv o2 T)
  rw [stSet hp] at e
  exact ⟨y, o', ho', k0, k1, e⟩
end
def eI (q : Nat × Nat) : D := .tup [.int (q.1 : Nat), .int (q.2 : Nat)]
def eL (q : Nat × Nat × Int) : D := .tup [.int (q.1 : Nat), .int (q.2.1 : Nat), .int q.2.2]
def ePlan (q : Plan) : D := .tup [.int q.slots, eSs q.stands, .tup (q.lanes.map eL)]
def planBody1 : MS := (sSeq (sExpr (cMut gAppend (cVar 5) (cCons (cCall F__law_word (cCons (cVar 0) (cCons (cVar 5) cNil))) cNil))) (sSeq (sAsg (gNm 11) (cCall F__law_draw (cCons (cVar 0) (cCons (cC (.int 3)) cNil)))) (sSeq (sAsg (gNm 12) (cBi (aFn min2D) (cCons (cC (.int 3)) (cCons (cVar 3) cNil)))) (sSeq (sExpr (cMut gAppend (cVar 6) (cCons (cTup (cCons (cBin (aBin ixD) (cVar 5) (cVar 10)) (cCons (cIf (cTest (cBin (aBin eqD) (cVar 11) (cC (.int 0)))) (cBin (aBin addD) (cC (.int 1)) (cCall F__law_draw (cCons (cVar 0) (cCons (cVar 12) cNil)))) (cBin (aBin addD) (cC (.int 1)) (cCall F__law_draw (cCons (cVar 0) (cCons (cVar 3) cNil))))) cNil))) cNil))) (sExpr (cMut gExtend (cVar 7) (cCons (cLc false [13] (gNm 13) (cRange1 (cCons (cVar 9) cNil)) tYesM (cTup (cCons (cVar 10) (cCons (cVar 13) cNil)))) cNil)))))))

section
variable {S : Sto} {p : Nat} {o : Ob} {w1 w2 w4 w11 w12 w13 w14 : Option W} {size : Int} {many k : Nat} {l : List (Str × Int)} {ps : List (Nat × Nat)} {fo : Ob}
def pEnv (p n : Nat) (size : Int) (many : Nat) (w1 w2 w4 w10 w11 w12 w13 w14 : Option W) : Ev := [some (.ref p), w1, w2, some (.val (.int size)), w4, some (.ref n), some (.ref (n + 1)), some (.ref (n + 2)), some (.ref (n + 3)), some (.val (.int many)), w10, w11, w12, w13, w14]
def pSto (S : Sto) (p : Nat) (o : Ob) (ns : List Str) (l : List (Str × Int)) (ps : List (Nat × Nat)) (fo : Ob) : Sto := S.set p o ++ [.lst (ns.map D.str), .lst (l.map eS), .lst (ps.map eI), fo]
theorem plan_cc (hm5 : many ≤ 5) {ε13 : Option W} {T : Sto} : cLc false [13] (gNm 13) (cRange1 (cCons (cVar 9) cNil)) tYesM (cTup (cCons (cVar 10) (cCons (cVar 13) cNil))) (pEnv p S.length size many w1 w2 w4 (some (.val (.int (0 + (k : Int))))) w11 w12 ε13 w14) T = .ok (.val (.lst ((List.range many).map fun j => eI (k, j)))) T := by
  refine cLc_at (enc := fun (j : Nat) => D.int (0 + (j : Int))) (List.range many) (range1S rfl (by omega)) (fun j hj => ⟨_, rfl, fun acc => ?_⟩) (by rw [szl, List.length_range]; omega)
  simp only [pEnv, wipeE, List.set_cons_succ, List.set_cons_zero, cTup, cCons, cVar, cNil, List.getElem?_cons_zero, List.getElem?_cons_succ, Rs.bind, toDs, toD_val, Option.bind_some, Option.map_some, List.length_cons, List.length_nil, eI, Int.zero_add]
  rw [if_pos (by rw [szl]; decide)]

theorem wf0 {x : List Str} {y : List (Str × Int)} {z : List (Nat × Nat)} : (pSto S p o x y z fo)[S.length]? = some (.lst (x.map D.str)) := st0
theorem wf1 {x : List Str} {y : List (Str × Int)} {z : List (Nat × Nat)} : (pSto S p o x y z fo)[S.length + 1]? = some (.lst (y.map eS)) := by rw [pSto, stN]; rfl
theorem wf2 {x : List Str} {y : List (Str × Int)} {z : List (Nat × Nat)} : (pSto S p o x y z fo)[S.length + 2]? = some (.lst (z.map eI)) := by rw [pSto, stN]; rfl
theorem ws0 {x : List Str} {y : List (Str × Int)} {z : List (Nat × Nat)} {t : Str} : (pSto S p o x y z fo).set S.length (.lst (x.map D.str ++ [.str t])) = pSto S p o (x ++ [t]) y z fo := by rw [pSto, ss0, pSto, List.map_append]; rfl
theorem ws1 {x : List Str} {y : List (Str × Int)} {z : List (Nat × Nat)} {t : Str × Int} : (pSto S p o x y z fo).set (S.length + 1) (.lst (y.map eS ++ [eS t])) = pSto S p o x (y ++ [t]) z fo := by rw [pSto, ssN, pSto, List.map_append]; rfl
theorem ws2 {x : List Str} {y : List (Str × Int)} {z t : List (Nat × Nat)} : (pSto S p o x y z fo).set (S.length + 2) (.lst (z.map eI ++ t.map eI)) = pSto S p o x y (z ++ t) fo := by rw [pSto, ssN, pSto, List.map_append]; rfl
theorem isl {T : Sto} {n : Nat} {x : List D} (h : T[n]? = some (.lst x)) : isLst n T = true := by rw [isLst, h]
theorem szk {n : Nat} (h : n ≤ 1000000) : n < sizeLine := by rw [szl]; omega
theorem min3 : (if size < 3 then size else (3 : Int)) = min 3 size := by omega
theorem plan_size {way : Int} {T : Sto} {ε : Ev} (hp : p < S.length) (ho : Src o) (hs : 1 ≤ size) (hs2 : size ≤ 40) {L : Sto} :
    ∃ (z : Int) (o' : Ob), Src o' ∧ 1 ≤ z ∧ z ≤ size ∧ cIf (cTest (cBin (aBin eqD) (cVar 11) (cC (.int 0)))) (cBin (aBin addD) (cC (.int 1)) (cCall F__law_draw (cCons (cVar 0) (cCons (cVar 12) cNil)))) (cBin (aBin addD) (cC (.int 1)) (cCall F__law_draw (cCons (cVar 0) (cCons (cVar 3) cNil)))) (pEnv p S.length size many w1 w2 w4 (some (.val (.int (0 + (k : Int))))) (some (.val (.int way))) (some (.val (.int (min 3 size)))) w13 w14) (S.set p o ++ L) = .ok (.val (.int z)) (S.set p o' ++ L) := by
  by_cases hw : way = 0
  · obtain ⟨v, o', ho', v0, v1, e⟩ := drawL (L := L) (m := min 3 size) hp ho (by omega) (lt30 (by omega))
    refine ⟨1 + v, o', ho', by omega, by omega, cifT (testS (binS (varS rfl) rfl (aBinS (x := .int way) (y := .int 0) rfl rfl ?_))) (binS rfl (callS rfl e) rfl)⟩
    rw [hw]; rfl
  · obtain ⟨v, o', ho', v0, v1, e⟩ := drawL (L := L) (m := size) hp ho (by omega) (lt30 (by omega))
    refine ⟨1 + v, o', ho', by omega, by omega, cifF (testS (binS (varS rfl) rfl (aBinS (x := .int way) (y := .int 0) rfl rfl ?_))) (binS rfl (callS rfl e) rfl)⟩
    simp [eqD, eqDD, scE, hw]
theorem plan_step1 (hp : p < S.length) (ho : Src o) (hs : 1 ≤ size) (hs2 : size ≤ 40) (hk : l.length = k) (hm : k < many) (hm5 : many ≤ 5) (hps : ps.length ≤ 25) :
    ∃ (s : Str × Int) (o' : Ob) (v11 v12 v13 v14 : Option W), Src o' ∧ nameOk s.1 = true ∧ s.1 ∉ l.map Prod.fst ∧ 1 ≤ s.2 ∧ s.2 ≤ size ∧
      planBody1 (pEnv p S.length size many w1 w2 w4 (some (.val (.int (0 + (k : Int))))) w11 w12 w13 w14) (pSto S p o (l.map Prod.fst) l ps fo)
        = .nx (pEnv p S.length size many w1 w2 w4 (some (.val (.int (0 + (k : Int))))) v11 v12 v13 v14) (pSto S p o' ((l ++ [s]).map Prod.fst) (l ++ [s]) (ps ++ (List.range many).map fun j => (k, j)) fo) := by
  obtain ⟨y, o1, ho1, hy, hn, e1⟩ := wordL (S := S) (L := [.lst ((l.map Prod.fst).map D.str), .lst (l.map eS), .lst (ps.map eI), fo]) (p := p) (o := o) (ts := l.map Prod.fst) (wt := .ref S.length) hp ho (by rw [List.length_map]; omega) (fun o2 T => by rw [List.append_assoc]; simp only [view_ref, List.cons_append, st0])
  obtain ⟨way, o2, ho2, y0, y1, e2⟩ := drawL (S := S) (L := [.lst (((l.map Prod.fst) ++ [y]).map D.str), .lst (l.map eS), .lst (ps.map eI), fo]) (p := p) (o := o1) (m := 3) hp ho1 (by decide) (lt30 (by decide))
  obtain ⟨z, o3, ho3, z0, z1, e3⟩ := plan_size (S := S) (L := [.lst (((l.map Prod.fst) ++ [y]).map D.str), .lst (l.map eS), .lst (ps.map eI), fo]) (p := p) (o := o2) (way := way) (T := []) (ε := []) (size := size) (w1 := w1) (w2 := w2) (w4 := w4) (w13 := w13) (w14 := w14) (many := many) (k := k) hp ho2 hs hs2
  have ix : ixD (.lst ((l.map Prod.fst ++ [y]).map D.str)) (.int (0 + (k : Int))) = some (.str y) := by
    rw [Int.zero_add]
    exact atIn (by rw [List.getElem?_map, List.getElem?_append_right (by rw [List.length_map]; omega), List.length_map, hk, Nat.sub_self]; rfl)
  refine ⟨(y, z), o3, some (.val (.int way)), some (.val (.int (min 3 size))), w13, w14, ho3, hy, hn, z0, z1, ?_⟩
  unfold planBody1
  refine seqS (appS (n := S.length) (d := .str y) (S1 := pSto S p o1 (l.map Prod.fst) l ps fo) rfl (isl wf0) (callS rfl e1) wf0 (szk (by rw [List.length_map, List.length_map]; omega))) ?_
  rw [ws0]
  refine seqS (asgS (S1 := pSto S p o2 (l.map Prod.fst ++ [y]) l ps fo) (callS rfl e2)) ?_
  refine seqS (asgS (w := .val (.int (min 3 size))) (biS rfl (show _ = Rs.ok _ (pSto S p o2 (l.map Prod.fst ++ [y]) l ps fo) from by rw [← min3]; rfl))) ?_
  refine seqS (appS (n := S.length + 1) (d := eS (y, z)) (S1 := pSto S p o3 (l.map Prod.fst ++ [y]) l ps fo) rfl (isl wf1) ?_ wf1 (szk (by rw [List.length_map]; omega))) ?_
  · exact tup2S (binS (varS rfl) (varS rfl) (aBinS (by rw [view_ref, wf0]) rfl ix)) e3
  rw [ws1]
  have c := plan_cc (p := p) (S := S) (size := size) (many := many) (k := k) (w1 := w1) (w2 := w2) (w4 := w4) (w11 := some (.val (.int way))) (w12 := some (.val (.int (min 3 size)))) (w14 := w14) hm5 (ε13 := w13) (T := pSto S p o3 (l.map Prod.fst ++ [y]) (l ++ [(y, z)]) ps fo)
  refine (extS (n := S.length + 2) rfl (isl wf2) c wf2 (Nat.le_of_lt (szk (by simp; omega)))).trans ?_
  have em : ((List.range many).map fun j => eI (k, j)) = ((List.range many).map fun j => (k, j)).map eI := by rw [List.map_map]; rfl
  rw [em, ws2, List.map_append]
  rfl
end
end Bk
set_option Elab.async false
set_option linter.all false
set_option maxRecDepth 100000
set_option maxHeartbeats 4000000
namespace Bk
open PySem AM
section
variable {S : Sto} {p : Nat} {o : Ob} {w1 w2 w4 w10 w11 w12 w13 w14 : Option W} {size : Int} {many k : Nat} {l : List (Str × Int)} {ps : List (Nat × Nat)} {fo : Ob}
theorem plan_loop1 (hp : p < S.length) (ho : Src o) (hs : 1 ≤ size) (hs2 : size ≤ 40) (hm1 : 1 ≤ many) (hm5 : many ≤ 5) :
    ∃ (l : List (Str × Int)) (ps : List (Nat × Nat)) (o' : Ob) (v10 v11 v12 v13 v14 : Option W), Src o' ∧ l.length = many ∧ (∀ s ∈ l, nameOk s.1 = true ∧ 1 ≤ s.2 ∧ s.2 ≤ size) ∧ (l.map Prod.fst).Nodup ∧ ps.length = many * many ∧ ps.Nodup ∧ (∀ r ∈ ps, r.1 < many ∧ r.2 < many) ∧
      forL (gNm 10) planBody1 ((List.range many).map fun (j : Nat) => D.int (0 + (j : Int))) (pEnv p S.length size many w1 w2 w4 w10 w11 w12 w13 w14) (pSto S p o [] [] [] fo) = .nx (pEnv p S.length size many w1 w2 w4 v10 v11 v12 v13 v14) (pSto S p o' (l.map Prod.fst) l ps fo) := by
  obtain ⟨ε2, S2, e, l, ps, o', v10, v11, v12, v13, v14, rfl, rfl, hl⟩ := forL_range (g := gNm 10) (body := planBody1) (n := many) (S := pSto S p o [] [] [] fo) (ε := pEnv p S.length size many w1 w2 w4 w10 w11 w12 w13 w14)
    (fun i ε T => ∃ (l : List (Str × Int)) (ps : List (Nat × Nat)) (o' : Ob) (v10 v11 v12 v13 v14 : Option W), ε = pEnv p S.length size many w1 w2 w4 v10 v11 v12 v13 v14 ∧ T = pSto S p o' (l.map Prod.fst) l ps fo ∧
      Src o' ∧ l.length = i ∧ (∀ s ∈ l, nameOk s.1 = true ∧ 1 ≤ s.2 ∧ s.2 ≤ size) ∧ (l.map Prod.fst).Nodup ∧ ps.length = i * many ∧ ps.Nodup ∧ (∀ r ∈ ps, r.1 < i ∧ r.2 < many))
    ⟨[], [], o, _, _, _, _, _, rfl, rfl, ho, rfl, fun s hs => (by cases hs), List.nodup_nil, by simp, List.nodup_nil, fun r hr => (by cases hr)⟩
    (by
      rintro i _ _ hi ⟨l, ps, o', v10, v11, v12, v13, v14, rfl, rfl, ho', hl, hs', hnd, hpl, hpn, hpr⟩
      have hps : ps.length ≤ 25 := by
        rw [hpl]
        exact Nat.mul_le_mul (by omega : i ≤ 5) hm5
      obtain ⟨s, o2, u11, u12, u13, u14, ho2, hx, hxn, z1, z2, e⟩ := plan_step1 (p := p) (o := o') (w1 := w1) (w2 := w2) (w4 := w4) (w11 := v11) (w12 := v12) (w13 := v13) (w14 := v14) (many := many) (k := i) (l := l) (ps := ps) (fo := fo) hp ho' hs hs2 hl hi hm5 hps
      refine ⟨_, _, _, rfl, e, l ++ [s], _, o2, _, u11, u12, u13, u14, rfl, rfl, ho2, by rw [List.length_append, hl]; rfl, ?_, ?_, ?_, ?_, ?_⟩
      · intro t ht
        rcases List.mem_append.mp ht with h | h
        · exact hs' t h
        · rw [List.mem_singleton.mp h]; exact ⟨hx, z1, z2⟩
      · rw [List.map_append, List.nodup_append]
        refine ⟨hnd, by simp, fun u hu w hw e => hxn ?_⟩
        have : w = s.1 := by simpa using hw
        rw [← this, ← e]
        exact hu
      · rw [List.length_append, hpl, List.length_map, List.length_range, Nat.succ_mul]
      · rw [List.nodup_append]
        refine ⟨hpn, ?_, fun u hu w hw e => ?_⟩
        · refine List.Pairwise.map _ (fun a b hab e => hab ?_) List.nodup_range
          injection e
        · obtain ⟨j, _, rfl⟩ := List.mem_map.mp hw
          have := (hpr u hu).1
          rw [e] at this
          exact absurd this (Nat.lt_irrefl _)
      · intro r hr'
        rcases List.mem_append.mp hr' with h | h
        · have := hpr r h
          omega
        · obtain ⟨j, hj, rfl⟩ := List.mem_map.mp h
          have := List.mem_range.mp hj
          exact ⟨Nat.lt_succ_self _, this⟩)
  exact ⟨l, ps, o', v10, v11, v12, v13, v14, hl.1, hl.2.1, hl.2.2.1, hl.2.2.2.1, hl.2.2.2.2.1, hl.2.2.2.2.2.1, hl.2.2.2.2.2.2, e⟩

def planBody2 : MS := (sSeq (sAsg (gNm 14) (cMut gPopAt (cVar 7) (cCons (cCall F__law_draw (cCons (cVar 0) (cCons (cBi (aFn lenD) (cCons (cVar 7) cNil)) cNil))) cNil))) (sExpr (cMut gAppend (cVar 8) (cCons (cTup (cCons (cBin (aBin ixD) (cVar 14) (cC (.int 0))) (cCons (cBin (aBin ixD) (cVar 14) (cC (.int 1))) (cCons (cBin (aBin addD) (cC (.int 1)) (cCall F__law_draw (cCons (cVar 0) (cCons (cC (.int 3)) cNil)))) cNil)))) cNil))))
theorem wf3 {x : List Str} {y : List (Str × Int)} {z : List (Nat × Nat)} : (pSto S p o x y z fo)[S.length + 3]? = some fo := by rw [pSto, stN]; rfl
theorem ws3 {x : List Str} {y : List (Str × Int)} {z : List (Nat × Nat)} {b : Ob} : (pSto S p o x y z fo).set (S.length + 3) b = pSto S p o x y z b := by rw [pSto, ssN, pSto]; rfl
theorem ws2e {x : List Str} {y : List (Str × Int)} {z t : List (Nat × Nat)} : (pSto S p o x y z fo).set (S.length + 2) (.lst (t.map eI)) = pSto S p o x y t fo := by rw [pSto, ssN, pSto]; rfl
theorem popD {ps : List (Nat × Nat)} {v : Int} {r : Nat × Nat} (h0 : 0 ≤ v) (h1 : v < ps.length) (h2 : ps.length ≤ 25) (hr : ps[v.toNat]? = some r) : gPopAt (ps.map eI) [.int v] = some (eI r, (ps.eraseIdx v.toNat).map eI) := by
  have hb : -(2 ^ 63) ≤ v ∧ v < 2 ^ 63 := by
    have e : (2 : Int) ^ 63 = 9223372036854775808 := by decide +kernel
    rw [e]; omega
  simp only [gPopAt]
  rw [if_pos hb, seqIx h0 (by rw [List.length_map]; exact h1), Option.bind_some, List.getElem?_map, hr, Option.map_some, Option.map_some, erase_map]
theorem plan_step2 {x : List Str} {ls : List (Nat × Nat × Int)} (hp : p < S.length) (ho : Src o) (h0 : 0 < ps.length) (h25 : ps.length ≤ 25) (hl : ls.length ≤ 25) :
    ∃ (j : Nat) (r : Nat × Nat) (z : Int) (o' : Ob) (v14 : Option W), Src o' ∧ ps[j]? = some r ∧ 1 ≤ z ∧ z ≤ 3 ∧
      planBody2 (pEnv p S.length size many w1 w2 w4 w10 w11 w12 w13 w14) (pSto S p o x l ps (.lst (ls.map eL))) = .nx (pEnv p S.length size many w1 w2 w4 w10 w11 w12 w13 v14) (pSto S p o' x l (ps.eraseIdx j) (.lst ((ls ++ [(r.1, r.2, z)]).map eL))) := by
  obtain ⟨v, o1, ho1, v0, v1, e1⟩ := drawL (S := S) (L := [.lst (x.map D.str), .lst (l.map eS), .lst (ps.map eI), .lst (ls.map eL)]) (p := p) (o := o) (m := ps.length) hp ho (by omega) (lt30 (by omega))
  obtain ⟨r, hr⟩ : ∃ r, ps[v.toNat]? = some r := ⟨_, List.getElem?_eq_getElem (by omega)⟩
  obtain ⟨z, o2, ho2, z0, z1, e2⟩ := drawL (S := S) (L := [.lst (x.map D.str), .lst (l.map eS), .lst ((ps.eraseIdx v.toNat).map eI), .lst (ls.map eL)]) (p := p) (o := o1) (m := 3) hp ho1 (by decide) (lt30 (by decide))
  refine ⟨v.toNat, r, 1 + z, o2, some (.val (eI r)), ho2, hr, by omega, by omega, ?_⟩
  unfold planBody2
  have lenE : cBi (aFn lenD) (cCons (cVar 7) cNil) (pEnv p S.length size many w1 w2 w4 w10 w11 w12 w13 w14) (pSto S p o x l ps (.lst (ls.map eL))) = .ok (.val (.int ps.length)) (pSto S p o x l ps (.lst (ls.map eL))) := by
    refine biS (consS (varS rfl) rfl) ?_
    simp only [aFn, views, view_ref, wf2, Option.bind_some, Option.map_some, lenD, List.length_map]
  refine seqS (asgS (mutS (n := S.length + 2) (d := .int v) (S1 := pSto S p o1 x l ps (.lst (ls.map eL))) rfl (isl wf2) (callS (consS (varS rfl) (consS lenE rfl)) e1) wf2 (popD v0 v1 h25 hr))) ?_
  rw [ws2e]
  refine (appS (n := S.length + 3) (d := eL (r.1, r.2, 1 + z)) (S1 := pSto S p o2 x l (ps.eraseIdx v.toNat) (.lst (ls.map eL))) rfl (isl wf3) (tup3S (binS (varS rfl) rfl rfl) (binS (varS rfl) rfl rfl) (binS rfl (callS rfl e2) rfl)) wf3 (szk (by rw [List.length_map]; omega))).trans ?_
  rw [ws3, List.map_append]
  rfl
theorem plan_loop2 {x : List Str} {n : Nat} (hp : p < S.length) (ho : Src o) (hn : n ≤ ps.length) (h25 : ps.length ≤ 25) (hnd : ps.Nodup) (hpr : ∀ r ∈ ps, r.1 < many ∧ r.2 < many) :
    ∃ (ls : List (Nat × Nat × Int)) (ps' : List (Nat × Nat)) (o' : Ob) (v10 v14 : Option W), Src o' ∧ ls.length = n ∧ (ls.map prL).Nodup ∧ (∀ r ∈ ls, r.1 < many ∧ r.2.1 < many ∧ 1 ≤ r.2.2 ∧ r.2.2 ≤ 3) ∧
      forL (gNm 10) planBody2 ((List.range n).map fun (j : Nat) => D.int (0 + (j : Int))) (pEnv p S.length size many w1 w2 w4 w10 w11 w12 w13 w14) (pSto S p o x l ps (.lst [])) = .nx (pEnv p S.length size many w1 w2 w4 v10 w11 w12 w13 v14) (pSto S p o' x l ps' (.lst (ls.map eL))) := by
  obtain ⟨ε2, S2, e, ls, ps', o', v10, v14, rfl, rfl, ho', h1, h2, h3, h4, h5⟩ := forL_range (g := gNm 10) (body := planBody2) (n := n) (S := pSto S p o x l ps (.lst [])) (ε := pEnv p S.length size many w1 w2 w4 w10 w11 w12 w13 w14)
    (fun i ε T => ∃ (ls : List (Nat × Nat × Int)) (ps' : List (Nat × Nat)) (o' : Ob) (v10 v14 : Option W), ε = pEnv p S.length size many w1 w2 w4 v10 w11 w12 w13 v14 ∧ T = pSto S p o' x l ps' (.lst (ls.map eL)) ∧
      Src o' ∧ ls.length = i ∧ (ps'.length + i = ps.length) ∧ (ls.map prL ++ ps').Nodup ∧ (∀ r ∈ ps', r.1 < many ∧ r.2 < many) ∧ ∀ r ∈ ls, r.1 < many ∧ r.2.1 < many ∧ 1 ≤ r.2.2 ∧ r.2.2 ≤ 3)
    ⟨[], ps, o, _, _, rfl, rfl, ho, rfl, rfl, by simpa using hnd, hpr, fun r hr => (by cases hr)⟩
    (by
      rintro i _ _ hi ⟨ls, ps', o', v10, v14, rfl, rfl, ho', hl, hpl, hnd', hpr', hls⟩
      obtain ⟨j, r, z, o2, u14, ho2, hr, z0, z1, e⟩ := plan_step2 (p := p) (o := o') (size := size) (w1 := w1) (w2 := w2) (w4 := w4) (w10 := some (.val (.int (0 + (i : Int))))) (w11 := w11) (w12 := w12) (w13 := w13) (w14 := v14) (many := many) (l := l) (ps := ps') (x := x) (ls := ls) hp ho' (by omega) (by omega) (by omega)
      have hj : j < ps'.length := (List.getElem?_eq_some_iff.mp hr).1
      refine ⟨_, _, _, rfl, e, ls ++ [(r.1, r.2, z)], ps'.eraseIdx j, o2, _, u14, rfl, rfl, ho2, by rw [List.length_append, hl]; rfl, ?_, ?_, ?_, ?_⟩
      · rw [List.length_eraseIdx_of_lt hj]; omega
      · rw [List.map_append]
        exact erase_nodup hnd' hr
      · exact fun u hu => hpr' u (mem_erase hu)
      · intro u hu
        rcases List.mem_append.mp hu with h | h
        · exact hls u h
        · rw [List.mem_singleton.mp h]
          have hrm := hpr' r (List.mem_of_getElem? hr)
          exact ⟨hrm.1, hrm.2, z0, z1⟩)
  exact ⟨ls, ps', o', v10, v14, ho', h1, h3.sublist (List.sublist_append_left _ _), h5, e⟩
end
end Bk
set_option Elab.async false
set_option linter.all false
set_option maxRecDepth 100000
set_option maxHeartbeats 4000000
namespace Bk
open PySem AM
theorem plan_body : m__law_plan = sSeq (sParN [5, 6, 7, 8] (cCons (cLstM cNil) (cCons (cLstM cNil) (cCons (cLstM cNil) (cCons (cLstM cNil) cNil))))) (sSeq (sAsg (gNm 9) (cBin (aBin addD) (cC (.int 1)) (cCall F__law_draw (cCons (cVar 0) (cCons (cVar 2) cNil))))) (sSeq (sFor (gNm 10) (cRange1 (cCons (cVar 9) cNil)) planBody1) (sSeq (sFor (gNm 10) (cRange1 (cCons (cCall F__law_draw (cCons (cVar 0) (cCons (cBin (aBin addD) (cBi (aFn min2D) (cCons (cVar 4) (cCons (cBi (aFn lenD) (cCons (cVar 7) cNil)) cNil))) (cC (.int 1))) cNil))) cNil)) planBody2) (sRet (cTup (cCons (cBin (aBin addD) (cC (.int 1)) (cCall F__law_draw (cCons (cVar 0) (cCons (cVar 1) cNil)))) (cCons (cBi (aFn tupFD) (cCons (cVar 6) cNil)) (cCons (cBi (aFn tupFD) (cCons (cVar 8) cNil)) cNil)))))))) := by
  unfold m__law_plan planBody1 planBody2
  rfl
section
variable {S : Sto} {p : Nat} {o : Ob} {hours docks size lanes : Int}
theorem plan_head {ε : Ev} {T : Sto} : sParN [5, 6, 7, 8] (cCons (cLstM cNil) (cCons (cLstM cNil) (cCons (cLstM cNil) (cCons (cLstM cNil) cNil)))) ε T = .nx (setAll ε [5, 6, 7, 8] [.ref T.length, .ref (T.length + 1), .ref (T.length + 2), .ref (T.length + 3)]) (T ++ [.lst [], .lst [], .lst [], .lst []]) := by
  have h : 0 ≤ sizeLine := Nat.zero_le _
  have h4 : 4 ≤ sizeLine := by rw [szl]; decide
  simp only [sParN, cCons, cNil, cLstM, Rs.bind, Rs.bindT, toDs, List.length_nil, h, if_true, List.length_append, List.length_cons, List.append_assoc, List.cons_append, List.nil_append, Nat.zero_add, Nat.reduceAdd, h4, and_self, Nat.add_assoc]
theorem tupS {n i : Nat} {ε : Ev} {T : Sto} {x : List D} (h : ε[i]? = some (some (.ref n))) (hx : T[n]? = some (.lst x)) : cBi (aFn tupFD) (cCons (cVar i) cNil) ε T = .ok (.val (.tup x)) T := by
  refine biS (consS (varS h) rfl) ?_
  simp only [aFn, views, view_ref, hx, Option.bind_some, Option.map_some, tupFD]
theorem plan_many {many : Nat} {w1 w2 w10 w11 w12 w13 w14 : Option W} {x : List Str} {y : List (Str × Int)} {z : List (Nat × Nat)} {fo : Ob} : cBin (aBin addD) (cBi (aFn min2D) (cCons (cVar 4) (cCons (cBi (aFn lenD) (cCons (cVar 7) cNil)) cNil))) (cC (.int 1)) (pEnv p S.length size many w1 w2 (some (.val (.int lanes))) w10 w11 w12 w13 w14) (pSto S p o x y z fo) = .ok (.val (.int ((if (z.length : Int) < lanes then (z.length : Int) else lanes) + 1))) (pSto S p o x y z fo) := by
  have lenE : cBi (aFn lenD) (cCons (cVar 7) cNil) (pEnv p S.length size many w1 w2 (some (.val (.int lanes))) w10 w11 w12 w13 w14) (pSto S p o x y z fo) = .ok (.val (.int z.length)) (pSto S p o x y z fo) := by
    refine biS (consS (varS rfl) rfl) ?_
    simp only [aFn, views, view_ref, wf2, Option.bind_some, Option.map_some, lenD, List.length_map]
  exact binS (biS (consS (varS rfl) (consS lenE rfl)) rfl) rfl rfl
theorem plan_eq (hp : S[p]? = some o) (ho : Src o) (h1 : 1 ≤ hours) (h2 : hours ≤ 1000) (d1 : 1 ≤ docks) (d2 : docks ≤ 5) (s1 : 1 ≤ size) (s2 : size ≤ 40) (l1 : 0 ≤ lanes) (l2 : lanes ≤ 12) :
    ∃ (q : Plan) (o' : Ob), Src o' ∧ PlanOk hours docks size lanes q ∧ F__law_plan [.ref p, .val (.int hours), .val (.int docks), .val (.int size), .val (.int lanes)] S = .ok (.val (ePlan q)) (S.set p o') := by
  have hl := src_lt hp
  obtain ⟨m, o1, ho1, m0, m1, e1⟩ := drawL (S := S) (L := [.lst [], .lst [], .lst [], .lst []]) (p := p) (o := o) (m := docks) hl ho (by omega) (lt30 (by omega))
  obtain ⟨n, rfl⟩ : ∃ n : Nat, m = (n : Int) := ⟨m.toNat, by omega⟩
  obtain ⟨l, ps, o2, v10, v11, v12, v13, v14, ho2, hll, hls, hnd, hpl, hpn, hpr, e2⟩ := plan_loop1 (S := S) (p := p) (o := o1) (size := size) (many := n + 1) (w1 := some (.val (.int hours))) (w2 := some (.val (.int docks))) (w4 := some (.val (.int lanes))) (w10 := none) (w11 := none) (w12 := none) (w13 := none) (w14 := none) (fo := .lst []) hl ho1 s1 s2 (by omega) (by omega)
  have hn25 : ps.length ≤ 25 := by rw [hpl]; exact Nat.mul_le_mul (by omega : n + 1 ≤ 5) (by omega : n + 1 ≤ 5)
  obtain ⟨d, o3, ho3, d0, dm, e3⟩ := drawL (S := S) (L := [.lst ((l.map Prod.fst).map D.str), .lst (l.map eS), .lst (ps.map eI), .lst []]) (p := p) (o := o2) (m := (if (ps.length : Int) < lanes then (ps.length : Int) else lanes) + 1) hl ho2 (by split <;> omega) (lt30 (by split <;> omega))
  obtain ⟨c, rfl⟩ : ∃ n : Nat, d = (n : Int) := ⟨d.toNat, by omega⟩
  have cl : (c : Int) ≤ lanes := by revert dm; split <;> intro dm <;> omega
  have cp : c ≤ ps.length := by revert dm; split <;> intro dm <;> omega
  obtain ⟨ls, ps', o4, u10, u14, ho4, hlen, hnd2, hin, e4⟩ := plan_loop2 (S := S) (p := p) (o := o3) (size := size) (many := n + 1) (w1 := some (.val (.int hours))) (w2 := some (.val (.int docks))) (w4 := some (.val (.int lanes))) (w10 := v10) (w11 := v11) (w12 := v12) (w13 := v13) (w14 := v14) (l := l) (ps := ps) (x := l.map Prod.fst) (n := c) hl ho3 cp hn25 hpn hpr
  obtain ⟨s, o5, ho5, s0, sm, e5⟩ := drawL (S := S) (L := [.lst ((l.map Prod.fst).map D.str), .lst (l.map eS), .lst (ps'.map eI), .lst (ls.map eL)]) (p := p) (o := o4) (m := hours) hl ho4 (by omega) (lt30 (by omega))
  refine ⟨⟨1 + s, l, ls⟩, o5, ho5, ⟨by show 1 ≤ 1 + s; omega, by show 1 + s ≤ hours; omega, ?_, ?_, hls, hnd, ?_, ?_, hnd2⟩, ?_⟩
  · intro e
    have : l.length = 0 := by rw [show l = [] from e]; rfl
    omega
  · show (l.length : Int) ≤ docks
    omega
  · show (ls.length : Int) ≤ lanes
    omega
  · rw [show (⟨1 + s, l, ls⟩ : Plan).stands.length = n + 1 from hll]
    exact hin
  · have body : m__law_plan (some (.ref p) :: some (.val (.int hours)) :: some (.val (.int docks)) :: some (.val (.int size)) :: some (.val (.int lanes)) :: List.replicate 10 none) S = .rt (.val (ePlan ⟨1 + s, l, ls⟩)) (pSto S p o5 (l.map Prod.fst) l ps' (.lst (ls.map eL))) := by
      rw [plan_body]
      refine seqS plan_head ?_
      conv => lhs; rw [← set_self hp]
      rw [List.length_set]
      refine seqS (asgS (binS rfl (callS rfl e1) rfl)) ?_
      have em : (1 : Int) + (n : Int) = ((n + 1 : Nat) : Int) := by omega
      rw [em]
      refine seqS (forS (range1S rfl (by omega)) e2) ?_
      refine seqS (forS (range1S (consS (callS (consS (varS rfl) (consS plan_many rfl)) e3) rfl) (by omega)) e4) ?_
      exact retS (tup3S (binS rfl (callS rfl e5) rfl) (tupS rfl wf1) (tupS rfl wf3))
    have : F__law_plan [.ref p, .val (.int hours), .val (.int docks), .val (.int size), .val (.int lanes)] S = exitF false S.length (m__law_plan (some (.ref p) :: some (.val (.int hours)) :: some (.val (.int docks)) :: some (.val (.int size)) :: some (.val (.int lanes)) :: List.replicate 10 none) S) := rfl
    rw [this, body]
    simp only [exitF, exitW, pSto, take_set_app]
end
end Bk
set_option Elab.async false
set_option linter.all false
set_option maxRecDepth 100000
set_option maxHeartbeats 4000000
namespace Bk
open PySem AM
section
variable {S : Sto} {q : Plan}
structure PlF (q : Plan) : Prop where
  i1 : ∀ r ∈ q.lanes, r.1 < q.stands.length ∧ r.2.1 < q.stands.length
  n1 : q.lanes.length ≤ 1000
theorem stand_atD {l : List (Str × Int)} {i : Nat} (h : i < l.length) : ∃ z : Int, L2.atI (l.map eS) (i : Int) = some (.tup [.str (nameAt l i), .int z]) := by
  refine ⟨(l.getD i ("", 0)).2, atIn ?_⟩
  rw [List.getElem?_map, List.getElem?_eq_getElem h, Option.map_some]
  have : l.getD i ("", 0) = l[i] := by rw [List.getD_eq_getElem?_getD, List.getElem?_eq_getElem h]; rfl
  rw [nameAt, this]
  rfl
theorem named_eq (h : PlF q) : F__law_named [.val (ePlan q)] S = .ok (.val (eRs (named q))) S := by
  refine callE rfl (retS (bi1S (d := .lst (q.lanes.map fun r => eR (nameAt q.stands r.1, nameAt q.stands r.2.1, r.2.2))) ?_ ?_))
  · refine cLc_at (enc := eL) q.lanes (iterS (ixS (varS rfl) cS (atI2 _ _ _ _))) (fun r hr => ⟨_, rfl, fun acc => ?_⟩) (by rw [szl]; have := h.n1; omega)
    obtain ⟨z1, e1⟩ := stand_atD (h.i1 r hr).1
    obtain ⟨z2, e2⟩ := stand_atD (h.i1 r hr).2
    exact tup3S (ixS (ixS (ixS (varS rfl) cS (atI1 _ _ _)) (ixS (varS rfl) cS (atI0 _ _)) e1) cS (atI0 _ _)) (ixS (ixS (ixS (varS rfl) cS (atI1 _ _ _)) (ixS (varS rfl) cS (atI1 _ _ _)) e2) cS (atI0 _ _)) (ixS (varS rfl) cS (atI2 _ _ _ _))
  · rw [tupFD, eRs, named, List.map_map]
    rfl

theorem addStr {x y : Str} (h : x.length + y.length ≤ 1000) : addD (.str x) (.str y) = some (.str (x ++ y)) := by
  simp only [addD]
  rw [if_pos (by rw [szl]; omega)]
theorem addLst {x y : List D} (h : x.length + y.length ≤ 1000) : addD (.lst x) (.lst y) = some (.lst (x ++ y)) := by
  simp only [addD]
  rw [if_pos (by rw [szl]; omega)]
theorem addTup {x y : List D} (h : x.length + y.length ≤ 1000) : addD (.tup x) (.tup y) = some (.tup (x ++ y)) := by
  simp only [addD]
  rw [if_pos (by rw [szl]; omega)]
theorem cLst1 {ε : Ev} {S S1 : Sto} {f : ME} {d : D} (h : f ε S = .ok (.val d) S1) : cLst (cCons f cNil) ε S = .ok (.val (.lst [d])) S1 := by
  simp only [cLst, cCons, cNil, h, Rs.bind, toDs, toD_val, Option.bind_some, Option.map_some, List.length_cons, List.length_nil]
  rw [if_pos (by rw [szl]; decide)]
theorem PlF.of {a b c d : Int} (h : PlanOk a b c d q) (hd : d ≤ 12) : PlF q := ⟨fun r hr => ⟨(h.lin r hr).1, (h.lin r hr).2.1⟩, by have := h.lfew; omega⟩
theorem lines_eq (h : PlF q) (ok : (townOf q).Ok) : F__law_lines [.val (ePlan q)] S = .ok (.val (.lst ((linesOf (townOf q)).map .str))) S := by
  have ll := lit_len
  have z1 := ok.s1
  have z2 := ok.s2
  have l1 := ok.st.few
  have l2 := ok.rd.few
  have z1' : 0 ≤ q.slots := by have : 1 ≤ q.slots := z1; omega
  have z2' : q.slots ≤ 40 := by have : q.slots ≤ 8 := z2; omega
  have hm := (num_le z1' z2' : (num q.slots).length ≤ 2 ∧ _).1
  have l1' : q.stands.length ≤ 5 := l1
  have l2' : (named q).length ≤ 12 := l2
  refine callE rfl (seqS (asgS (w := .val (.lst (([slotsLine q.slots] ++ q.stands.map standLine).map .str))) (S1 := S) ?_) (retS ?_))
  · refine binD (cLst1 (binD cS (bi1S (ixS (varS rfl) cS (atI0 _ _)) (num_str z1' z2')) (addStr ?_))) (cLc_at (enc := eS) (f := fun s => .str (standLine s)) q.stands (iterS (ixS (varS rfl) cS (atI1 _ _ _))) (fun s hs => ⟨_, rfl, fun acc => ?_⟩) (by rw [szl]; omega)) ((addLst ?_).trans ?_)
    · rw [ll.2.2.2.1]; omega
    · have hs' := ok.st.each s hs
      have hn := (nameOk_len hs'.1).2
      have hm := (num_le (by omega) hs'.2.2 : (num s.2).length ≤ 2 ∧ _).1
      exact binD (binD (binD cS (ixS (varS rfl) cS (atI0 _ _)) (addStr (by omega))) cS (addStr (by rw [len_app]; omega))) (bi1S (ixS (varS rfl) cS (atI1 _ _ _)) (num_str (by omega) hs'.2.2)) (addStr (by rw [len_app, len_app]; omega))
    · rw [List.length_map, List.length_singleton]; omega
    · rw [List.map_append, List.map_map]
      rfl
  · refine binD (varS rfl) (cLc_at (enc := eR) (f := fun s => .str (roadLine s)) (named q) (iterS (call1S (varS rfl) (named_eq h))) (fun s hs => ⟨_, rfl, fun acc => ?_⟩) (by rw [szl]; omega)) ((addLst ?_).trans ?_)
    · have hs' := ok.rds s hs
      have hn := (nameOk_len hs'.1).2
      have hn2 := (nameOk_len hs'.2.1).2
      have hm := (num_le (by omega) (by omega) : (num s.2.2).length ≤ 2 ∧ _).1
      exact binD (binD (binD (binD (binD cS (ixS (varS rfl) cS (atI0 _ _)) (addStr (by omega))) cS (addStr (by rw [len_app]; omega))) (ixS (varS rfl) cS (atI1 _ _ _)) (addStr (by rw [len_app, len_app]; omega))) cS (addStr (by rw [len_app, len_app, len_app]; omega))) (bi1S (ixS (varS rfl) cS (atI2 _ _ _ _)) (num_str (by omega) (by omega))) (addStr (by rw [len_app, len_app, len_app, len_app]; omega))
    · rw [List.length_map, List.length_map, List.length_append, List.length_map, List.length_singleton]; omega
    · show some (D.lst _) = some (D.lst (List.map D.str ([slotsLine q.slots] ++ q.stands.map standLine ++ (named q).map roadLine)))
      simp only [List.map_append, List.map_map]
      rfl
theorem text_eq (h : PlF q) (ok : (townOf q).Ok) : F__law_text [.val (ePlan q)] S = .ok (.val (.str (townText (townOf q)))) S :=
  callE rfl (retS (m1S cS (call1S (varS rfl) (lines_eq h ok)) ((joinD_ok (text_sum ok)).trans (by rw [townText_join]))))
theorem town_eq (h : PlF q) (ok : (townOf q).Ok) : F__law_town [.val (ePlan q)] S = .ok (.val (tObj (townOf q))) S := by
  refine callE rfl (retS ?_)
  have e := make_town (t := townOf q) (S := S) ok
  have a : (cCons (cBin (aBin ixD) (cVar 0) (cC (.int 0))) (cCons (cBin (aBin ixD) (cVar 0) (cC (.int 1))) (cCons (cCall F__law_named (cCons (cVar 0) cNil)) cNil))) ([W.val (ePlan q)].map some ++ List.replicate (1 - 1) none) S = .ok [.val (.int q.slots), .val (eSs q.stands), .val (eRs (named q))] S :=
    consS (ixS (varS rfl) cS (atI0 _ _)) (consS (ixS (varS rfl) cS (atI1 _ _ _)) (consS (call1S (varS rfl) (named_eq h)) rfl))
  rw [cMake, a]
  exact e
end
end Bk
set_option Elab.async false
set_option linter.all false
set_option maxRecDepth 100000
set_option maxHeartbeats 4000000
namespace Bk
open PySem AM PyProof.Rows
theorem toP_eS (s : Str × Int) : toP (eS s) = some (encS s) := rfl
theorem toP_eR (s : Str × Str × Int) : toP (eR s) = some (encR s) := rfl
theorem toP_eSs (l : List (Str × Int)) : toP (eSs l) = some (encSs l) := by rw [eSs, toP, toPs_map eS encS toP_eS]; rfl
theorem toP_eRs (l : List (Str × Str × Int)) : toP (eRs l) = some (encRs l) := by rw [eRs, toP, toPs_map eR encR toP_eR]; rfl
theorem toP_eNt (l : List Str) : toP (eNt l) = some (encN l) := by rw [eNt, toP, toPs_map D.str PyData.str (fun _ => rfl)]; rfl
theorem toP_eN (l : List Str) : toP (eN l) = some (encN l) := by rw [eN, toP, toPs_map D.str PyData.str (fun _ => rfl)]; rfl
theorem reprS {d : D} {P : PyData} {n w : Nat} (h : toP d = some P) (hd : isDisplay P = true) (f : Few n w P) (hn : n ≤ 60) (hw : w ≤ 1000000) : reprD [d] = some (.str P.shown) := by
  simp only [reprD, h]
  rw [hd, f.s, decide_eq_true (Nat.le_trans f.d hn), decide_eq_true (f.short hw)]
  rfl
def reprT (t : TownD) : Str := "Town of " ++ num t.stands.length ++ " stands"
def shownD (t : TownD) : List D := [.int t.slots, eSs t.stands, eRs t.roads, eN t.names, .str (townText t), .str (reprT t), .bl true]
def shownDt (t : TownD) : List D := [.int t.slots, eSs t.stands, eRs t.roads, eNt t.names, .str (townText t), .str (reprT t), .bl true]
def shownP (t : TownD) : PyData := .list [.int t.slots, encSs t.stands, encRs t.roads, encN t.names, .str (townText t), .str (reprT t), .bool true]
theorem toP_shown (t : TownD) : toP (.lst (shownD t)) = some (shownP t) := by
  simp only [shownD, toP, toPs, toP_eSs, toP_eRs, toP_eN, Option.bind_some, Option.map_some]
  rfl
theorem toP_shownt (t : TownD) : toP (.lst (shownDt t)) = some (shownP t) := by
  simp only [shownDt, toP, toPs, toP_eSs, toP_eRs, toP_eNt, Option.bind_some, Option.map_some]
  rfl
theorem few_shown {t : TownD} (ok : t.Ok) : Few 3 3000 (shownP t) := by
  have z1 := ok.s1
  have z2 := ok.s2
  have hf := ok.st.few
  have hn : t.names.length ≤ 5 := by
    unfold TownD.names
    rw [List.length_map]
    exact ok.st.few
  have hm := (num_le (z := (t.stands.length : Int)) (by omega) (by omega) : _ ∧ _).1
  have ll : (Str.ofString "Town of ").length = 8 ∧ (Str.ofString " stands").length = 7 := by decide +kernel
  have hr : lowT (reprT t) := low_app (low_app (low_lit (by decide +kernel)) (low_num (by omega) (by omega))) (low_lit (by decide +kernel))
  have hl : (reprT t).length ≤ 20 := by rw [reprT, len_app, len_app]; omega
  exact ((Fews.cons (.int (by omega) (by omega)) (.cons (few_stands ok.st.each ok.st.few) (.cons (few_roads ok.rds ok.rd.few) (.cons (few_names ok.nm hn) (.cons (.str (low_town ok) (text_len ok)) (.cons (.str hr hl) (.cons .bl .nil))))))).more (Nat.le_refl _) (by decide)).lst
theorem repr_shown {t : TownD} (ok : t.Ok) : reprD [.lst (shownD t)] = some (.str (shownP t).shown) := reprS (toP_shown t) rfl (few_shown ok) (by decide) (by decide)
theorem repr_shownt {t : TownD} (ok : t.Ok) : reprD [.lst (shownDt t)] = some (.str (shownP t).shown) := reprS (toP_shownt t) rfl (few_shown ok) (by decide) (by decide)
section
variable {S : Sto} {q : Plan}
theorem shown_eq (h : PlF q) (ok : (townOf q).Ok) : F__law_shown_right [.val (tObj (townOf q)), .val (ePlan q)] S = .ok (.val (.bl true)) S := by
  have l1 : q.stands.length ≤ 5 := ok.st.few
  have hm := (num_le (z := (q.stands.length : Int)) (by omega) (by omega) : _ ∧ _).1
  have ll : (Str.ofString "Town of ").length = 8 ∧ (Str.ofString " stands").length = 7 := by decide +kernel
  refine callE rfl (seqS (ε1 := [some (.val (tObj (townOf q))), some (.val (ePlan q)), some (.val (eNt (townOf q).names)), some (.val (.int q.stands.length)), none, none, none]) (S1 := S) ?_ (seqS (asgS (w := .val (.lst (shownD (townOf q)))) (S1 := S) (lstS ?_ (Nat.le_of_ble_eq_true rfl))) (seqS (asgS (w := .val (.lst (shownDt (townOf q)))) (S1 := S) (lstS ?_ (Nat.le_of_ble_eq_true rfl))) (retS ?_))))
  · have a : (cCons (cBi (aFn tupFD) (cCons (cLc false [4] (gNm 4) (cIter (cBin (aBin ixD) (cVar 1) (cC (.int 1)))) tYesM (cBin (aBin ixD) (cVar 4) (cC (.int 0)))) cNil)) (cCons (cBi (aFn lenD) (cCons (cBin (aBin ixD) (cVar 1) (cC (.int 1))) cNil)) cNil)) [some (.val (tObj (townOf q))), some (.val (ePlan q)), none, none, none, none, none] S = .ok [.val (eNt (townOf q).names), .val (.int q.stands.length)] S := by
      refine consS (bi1S (d := .lst (q.stands.map fun s => .str s.1)) (cLc_at (enc := eS) q.stands (iterS (ixS (varS rfl) cS (atI1 _ _ _))) (fun s hs => ⟨_, rfl, fun acc => ixS (varS rfl) cS (atI0 _ _)⟩) (by rw [szl]; omega)) ?_) (consS (bi1S (ixS (varS rfl) cS (atI1 _ _ _)) ?_) rfl)
      · rw [tupFD, eNt, TownD.names, List.map_map]
        rfl
      · simp only [eSs, lenD, List.length_map]
    exact parS a
  · exact .cons (propS (varS rfl) (slots_eq _ _)) (.cons (propS (varS rfl) (stands_eq _ _)) (.cons (propS (varS rfl) (roads_eq _ _)) (.cons (propS (varS rfl) (names_eq _ _)) (.cons (strOwnS (varS rfl) (town_str_eq ok)) (.cons (strOwnS (varS rfl) (town_repr_eq ok)) (.cons (boolOwnS (varS rfl)) .nil))))))
  · refine .cons (ixS (varS rfl) cS (atI0 _ _)) (.cons (ixS (varS rfl) cS (atI1 _ _ _)) (.cons (call1S (varS rfl) (named_eq h)) (.cons (varS rfl) (.cons (call1S (varS rfl) (text_eq h ok)) (.cons (binD (binD cS (bi1S (varS rfl) (num_str (by omega) (by omega))) (addStr (by omega))) cS (addStr (by rw [len_app]; omega))) (.cons cS .nil))))))
  · exact binD (bi1S (varS rfl) (repr_shown ok)) (bi1S (varS rfl) (repr_shownt ok)) (by simp [eqD, eqDD, scE])
end
end Bk
set_option Elab.async false
set_option linter.all false
set_option maxRecDepth 100000
set_option maxHeartbeats 4000000
namespace Bk
open PySem AM PyProof.Rows
theorem enc_inj {l m : List (Str × Int)} (h : l.map encS = m.map encS) : l = m := by
  refine (List.map_inj_right (fun a b e => ?_)).mp h
  obtain ⟨a1, a2⟩ := a
  obtain ⟨b1, b2⟩ := b
  simp only [encS, PyData.tuple.injEq, List.cons.injEq, PyData.str.injEq, PyData.int.injEq, and_true] at e
  rw [e.1, e.2]
theorem encR_inj {l m : List (Str × Str × Int)} (h : l.map encR = m.map encR) : l = m := by
  refine (List.map_inj_right (fun a b e => ?_)).mp h
  obtain ⟨a1, a2, a3⟩ := a
  obtain ⟨b1, b2, b3⟩ := b
  simp only [encR, PyData.tuple.injEq, List.cons.injEq, PyData.str.injEq, PyData.int.injEq, and_true] at e
  rw [e.1, e.2.1, e.2.2]
theorem text_inj {t u : TownD} (ot : t.Ok) (ou : u.Ok) (h : townText t = townText u) : t = u := by
  have h1 := told_town ot
  rw [h, told_town ou] at h1
  injection h1 with e1 e2 e3
  cases t
  cases u
  simp only [Option.some.injEq] at e1
  rw [TownD.mk.injEq]
  exact ⟨e1.symm, (enc_inj e2).symm, (encR_inj e3).symm⟩
theorem set_cut {α : Type} {l : List α} {i : Nat} {y : α} (h : i < l.length) : l.take i ++ [y] ++ l.drop (i + 1) = l.set i y := by
  rw [List.set_eq_take_append_cons_drop, if_pos h, List.append_assoc]
  rfl
theorem erase_cut {α : Type} {l : List α} {i : Nat} : l.take i ++ [] ++ l.drop (i + 1) = l.eraseIdx i := by
  rw [List.eraseIdx_eq_take_drop_succ, List.append_nil]
theorem set_same {α : Type} {l : List α} {i : Nat} {y : α} (h : l[i]? = some y) : l.set i y = l := by
  apply List.ext_getElem?
  intro j
  rw [List.getElem?_set]
  split
  · rename_i hj
    subst hj
    rw [h, if_pos (List.getElem?_eq_some_iff.mp h).1]
  · rfl
theorem nodup_set {α : Type} {l : List α} {i : Nat} {y : α} (hn : l.Nodup) (hy : y ∉ l) : (l.set i y).Nodup := by
  by_cases h : i < l.length
  · rw [← set_cut h, List.append_assoc]
    have e : (l.take i ++ ([y] ++ l.drop (i + 1))).Perm (y :: (l.take i ++ l.drop (i + 1))) := List.perm_middle
    rw [e.nodup_iff, List.nodup_cons, ← List.eraseIdx_eq_take_drop_succ]
    exact ⟨fun hm => hy (List.mem_of_mem_eraseIdx hm), hn.sublist (List.eraseIdx_sublist _ _)⟩
  · rw [List.set_eq_of_length_le (by omega)]
    exact hn
theorem rev_ne {α β : Type} {f : α → β} {l : List α} (hn : (l.map f).Nodup) (h : 1 < l.length) : l.reverse ≠ l := by
  intro e
  have h0 : l.reverse[0]? = l[0]? := by rw [e]
  rw [List.getElem?_reverse (by omega)] at h0
  have h1 : (l.map f)[l.length - 1 - 0]? = (l.map f)[0]? := by rw [List.getElem?_map, List.getElem?_map, h0]
  have := (List.getElem?_inj (by rw [List.length_map]; omega) hn).mp h1
  omega
section
variable {q : Plan} (ok : PlanOk 8 5 40 12 q)
include ok
theorem othA {i : Nat} {x : Str} {z : Int} (h : q.stands[i]? = some (x, z)) : PlanOk 8 5 40 12 ⟨q.slots, q.stands.set i (x, z % 40 + 1), q.lanes⟩ ∧ townOf ⟨q.slots, q.stands.set i (x, z % 40 + 1), q.lanes⟩ ≠ townOf q := by
  have hi := (List.getElem?_eq_some_iff.mp h).1
  have hz := ok.each _ (List.mem_of_getElem? h)
  have hz1 : 1 ≤ z := hz.2.1
  have hz2 : z ≤ 40 := hz.2.2
  have nm : (q.stands.set i (x, z % 40 + 1)).map (·.1) = q.stands.map (·.1) := by
    rw [List.map_set]
    exact set_same (by rw [List.getElem?_map, h]; rfl)
  refine ⟨⟨ok.s1, ok.s2, ?_, ?_, ?_, ?_, ok.lfew, ?_, ok.lnd⟩, ?_⟩
  · intro e
    have := congrArg List.length e
    simp only [List.length_set, List.length_nil] at this
    omega
  · simp only [List.length_set]; exact ok.few
  · intro s hs
    rcases List.mem_or_eq_of_mem_set hs with h | rfl
    · exact ok.each s h
    · exact ⟨hz.1, by show 1 ≤ z % 40 + 1; omega, by show z % 40 + 1 ≤ 40; omega⟩
  · show ((q.stands.set i (x, z % 40 + 1)).map (·.1)).Nodup
    rw [nm]; exact ok.nd
  · simp only [List.length_set]; exact ok.lin
  · intro e
    have e2 : q.stands.set i (x, z % 40 + 1) = q.stands := congrArg TownD.stands e
    have e3 : (q.stands.set i (x, z % 40 + 1))[i]? = q.stands[i]? := by rw [e2]
    rw [List.getElem?_set, if_pos rfl, if_pos hi, h] at e3
    simp only [Option.some.injEq, Prod.mk.injEq, true_and] at e3
    omega
theorem othBn {i : Nat} {x y : Str} {z : Int} (h : q.stands[i]? = some (x, z)) (hy : nameOk y = true) (hn : y ∉ q.stands.map (·.1)) : PlanOk 8 5 40 12 ⟨q.slots, q.stands.set i (y, z), q.lanes⟩ ∧ townOf ⟨q.slots, q.stands.set i (y, z), q.lanes⟩ ≠ townOf q := by
  have hi := (List.getElem?_eq_some_iff.mp h).1
  have hz := ok.each _ (List.mem_of_getElem? h)
  refine ⟨⟨ok.s1, ok.s2, ?_, ?_, ?_, ?_, ok.lfew, ?_, ok.lnd⟩, ?_⟩
  · intro e
    have := congrArg List.length e
    simp only [List.length_set, List.length_nil] at this
    omega
  · simp only [List.length_set]; exact ok.few
  · intro s hs
    rcases List.mem_or_eq_of_mem_set hs with h | rfl
    · exact ok.each s h
    · exact ⟨hy, hz.2⟩
  · show ((q.stands.set i (y, z)).map (·.1)).Nodup
    rw [List.map_set]
    exact nodup_set ok.nd hn
  · simp only [List.length_set]; exact ok.lin
  · intro e
    have e2 : q.stands.set i (y, z) = q.stands := congrArg TownD.stands e
    have e3 : (q.stands.set i (y, z))[i]? = q.stands[i]? := by rw [e2]
    rw [List.getElem?_set, if_pos rfl, if_pos hi, h] at e3
    simp only [Option.some.injEq, Prod.mk.injEq, and_true] at e3
    exact hn (List.mem_map.mpr ⟨_, List.mem_of_getElem? h, e3.symm⟩)
theorem othC (hl : 1 < q.stands.length) : PlanOk 8 5 40 12 ⟨q.slots, q.stands.reverse, q.lanes.map fun r => (q.stands.length - 1 - r.1, q.stands.length - 1 - r.2.1, r.2.2)⟩ ∧ townOf ⟨q.slots, q.stands.reverse, q.lanes.map fun r => (q.stands.length - 1 - r.1, q.stands.length - 1 - r.2.1, r.2.2)⟩ ≠ townOf q := by
  refine ⟨⟨ok.s1, ok.s2, ?_, ?_, ?_, ?_, ?_, ?_, ?_⟩, ?_⟩
  · intro e
    have := congrArg List.length e
    simp only [List.length_reverse, List.length_nil] at this
    omega
  · simp only [List.length_reverse]; exact ok.few
  · intro s hs
    exact ok.each s (List.mem_reverse.mp hs)
  · show (q.stands.reverse.map (·.1)).Nodup
    rw [List.map_reverse, (List.reverse_perm _).nodup_iff]
    exact ok.nd
  · simp only [List.length_map]; exact ok.lfew
  · intro r hr
    obtain ⟨u, hu, rfl⟩ := List.mem_map.mp hr
    have := ok.lin u hu
    simp only [List.length_reverse]
    exact ⟨by omega, by omega, this.2.2⟩
  · show ((q.lanes.map fun r => (q.stands.length - 1 - r.1, q.stands.length - 1 - r.2.1, r.2.2)).map fun r => (r.1, r.2.1)).Nodup
    rw [List.map_map]
    have e : (q.lanes.map ((fun r : Nat × Nat × Int => (r.1, r.2.1)) ∘ fun r : Nat × Nat × Int => (q.stands.length - 1 - r.1, q.stands.length - 1 - r.2.1, r.2.2))) = (q.lanes.map fun r => (r.1, r.2.1)).map fun u => (q.stands.length - 1 - u.1, q.stands.length - 1 - u.2) := by
      rw [List.map_map]
      rfl
    rw [e]
    refine map_nodup ok.lnd fun a ha b hb eab => ?_
    obtain ⟨u, hu, rfl⟩ := List.mem_map.mp ha
    obtain ⟨w, hw, rfl⟩ := List.mem_map.mp hb
    have hu' := ok.lin u hu
    have hw' := ok.lin w hw
    injection eab with e1 e2
    simp only at e1 e2
    rw [Prod.mk.injEq]
    exact ⟨by omega, by omega⟩
  · intro e
    exact rev_ne ok.nd hl (congrArg TownD.stands e)
theorem othD (hl : 1 < q.lanes.length) : PlanOk 8 5 40 12 ⟨q.slots, q.stands, q.lanes.reverse⟩ ∧ townOf ⟨q.slots, q.stands, q.lanes.reverse⟩ ≠ townOf q := by
  refine ⟨⟨ok.s1, ok.s2, ok.ne, ok.few, ok.each, ok.nd, ?_, ?_, ?_⟩, ?_⟩
  · simp only [List.length_reverse]; exact ok.lfew
  · intro r hr
    exact ok.lin r (List.mem_reverse.mp hr)
  · show (q.lanes.reverse.map fun r => (r.1, r.2.1)).Nodup
    rw [List.map_reverse, (List.reverse_perm _).nodup_iff]
    exact ok.lnd
  · intro e
    have t := townOf_ok ok (by decide) (by decide) (by decide) (by decide)
    have e2 : named ⟨q.slots, q.stands, q.lanes.reverse⟩ = named q := congrArg TownD.roads e
    have e3 : named ⟨q.slots, q.stands, q.lanes.reverse⟩ = (named q).reverse := by rw [named, named, List.map_reverse]
    rw [e3] at e2
    exact rev_ne t.rd.nd (by show 1 < (named q).length; rw [named, List.length_map]; exact hl) e2
theorem othE {j a b : Nat} {c : Int} (h : q.lanes[j]? = some (a, b, c)) : PlanOk 8 5 40 12 ⟨q.slots, q.stands, q.lanes.set j (a, b, c % 3 + 1)⟩ ∧ townOf ⟨q.slots, q.stands, q.lanes.set j (a, b, c % 3 + 1)⟩ ≠ townOf q := by
  have hj := (List.getElem?_eq_some_iff.mp h).1
  have hc := ok.lin _ (List.mem_of_getElem? h)
  have c1 : 1 ≤ c := hc.2.2.1
  have c2 : c ≤ 3 := hc.2.2.2
  refine ⟨⟨ok.s1, ok.s2, ok.ne, ok.few, ok.each, ok.nd, ?_, ?_, ?_⟩, ?_⟩
  · simp only [List.length_set]; exact ok.lfew
  · intro r hr
    rcases List.mem_or_eq_of_mem_set hr with h | rfl
    · exact ok.lin r h
    · exact ⟨hc.1, hc.2.1, by show 1 ≤ c % 3 + 1; omega, by show c % 3 + 1 ≤ 3; omega⟩
  · show ((q.lanes.set j (a, b, c % 3 + 1)).map fun r => (r.1, r.2.1)).Nodup
    rw [List.map_set, set_same (by rw [List.getElem?_map, h]; rfl)]
    exact ok.lnd
  · intro e
    have e2 : named ⟨q.slots, q.stands, q.lanes.set j (a, b, c % 3 + 1)⟩ = named q := congrArg TownD.roads e
    have e3 : (named ⟨q.slots, q.stands, q.lanes.set j (a, b, c % 3 + 1)⟩)[j]? = (named q)[j]? := by rw [e2]
    simp only [named] at e3
    rw [List.getElem?_map, List.getElem?_map, List.getElem?_set, if_pos rfl, if_pos hj, h] at e3
    simp only [Option.map_some, Option.some.injEq, Prod.mk.injEq, true_and] at e3
    omega
theorem othF {j : Nat} (h : j < q.lanes.length) : PlanOk 8 5 40 12 ⟨q.slots, q.stands, q.lanes.eraseIdx j⟩ ∧ townOf ⟨q.slots, q.stands, q.lanes.eraseIdx j⟩ ≠ townOf q := by
  have hl := List.length_eraseIdx_of_lt h
  refine ⟨⟨ok.s1, ok.s2, ok.ne, ok.few, ok.each, ok.nd, ?_, ?_, ?_⟩, ?_⟩
  · show ((q.lanes.eraseIdx j).length : Int) ≤ 12
    rw [hl]
    have := ok.lfew
    omega
  · exact fun r hr => ok.lin r (List.mem_of_mem_eraseIdx hr)
  · exact ok.lnd.sublist ((List.eraseIdx_sublist _ _).map _)
  · intro e
    have e2 : named ⟨q.slots, q.stands, q.lanes.eraseIdx j⟩ = named q := congrArg TownD.roads e
    have e3 := congrArg List.length e2
    simp only [named, List.length_map, hl] at e3
    omega
theorem othG : PlanOk 8 5 40 12 ⟨q.slots % 8 + 1, q.stands, q.lanes⟩ ∧ townOf ⟨q.slots % 8 + 1, q.stands, q.lanes⟩ ≠ townOf q := by
  have h1 := ok.s1
  have h2 := ok.s2
  refine ⟨⟨by show 1 ≤ q.slots % 8 + 1; omega, by show q.slots % 8 + 1 ≤ 8; omega, ok.ne, ok.few, ok.each, ok.nd, ok.lfew, ok.lin, ok.lnd⟩, fun e => ?_⟩
  have : q.slots % 8 + 1 = q.slots := congrArg TownD.slots e
  omega
end
end Bk
set_option Elab.async false
set_option linter.all false
set_option maxRecDepth 100000
set_option maxHeartbeats 4000000
namespace Bk
open PySem AM PyProof.Rows
theorem cut_lo {α : Type} {l : List α} {i : Nat} (h : i ≤ l.length) : cutL l none (some (i : Int)) = l.take i := by
  unfold cutL
  rw [HT.sIx_nat, HT.sIx_none, Nat.min_eq_left h, List.drop_zero, Nat.sub_zero]
theorem cut_hi {α : Type} {l : List α} {i : Nat} (h : i ≤ l.length) : cutL l (some (i : Int)) none = l.drop i := by
  unfold cutL
  rw [HT.sIx_nat, HT.sIx_none, Nat.min_eq_left h, List.take_of_length_le (by rw [List.length_drop]; exact Nat.le_refl _)]
theorem slLoS {ε : Ev} {S S1 S2 : Sto} {f g : ME} {l : List D} {i : Nat} (hf : f ε S = .ok (.val (.tup l)) S1) (hg : g ε S1 = .ok (.val (.int (i : Int))) S2) (h : i ≤ l.length) : cSl f oNone (oSome g) ε S = .ok (.val (.tup (l.take i))) S2 := by
  simp only [cSl, hf, hg, Rs.bind, oNone, oSome, view_val, slD, cut_lo h]
theorem slHiS {ε : Ev} {S S1 S2 : Sto} {f g : ME} {l : List D} {i : Nat} (hf : f ε S = .ok (.val (.tup l)) S1) (hg : g ε S1 = .ok (.val (.int (i : Int))) S2) (h : i ≤ l.length) : cSl f (oSome g) oNone ε S = .ok (.val (.tup (l.drop i))) S2 := by
  simp only [cSl, hf, hg, Rs.bind, oNone, oSome, view_val, slD, cut_hi h]
theorem revS {ε : Ev} {S S1 : Sto} {f : ME} {l : List D} (hf : f ε S = .ok (.val (.tup l)) S1) : cRev f ε S = .ok (.val (.tup l.reverse)) S1 := by
  simp only [cRev, hf, Rs.bind, view_val]
/-- the place i of a tuple put anew -/
theorem putS {ε : Ev} {S : Sto} {iv jv : Nat} {m : ME} {l : List D} {i : Nat} {d : D} (hl : l.length ≤ 20) (hi : i < l.length) (h1 : ε[iv]? = some (some (.val (.tup l)))) (h2 : ε[jv]? = some (some (.val (.int (i : Int))))) (hm : m ε S = .ok (.val (.tup [d])) S) :
    cBin (aBin addD) (cBin (aBin addD) (cSl (cVar iv) oNone (oSome (cVar jv))) m) (cSl (cVar iv) (oSome (cBin (aBin addD) (cVar jv) (cC (.int 1)))) oNone) ε S = .ok (.val (.tup (l.set i d))) S := by
  rw [← set_cut hi]
  refine binD (binD (slLoS (varS h1) (varS h2) (by omega)) hm (addTup ?_)) (slHiS (i := i + 1) (varS h1) (binD (varS h2) cS rfl) (by omega)) (addTup ?_)
  · rw [List.length_take, List.length_singleton]; omega
  · rw [List.length_append, List.length_take, List.length_drop, List.length_singleton]; omega
theorem dropS {ε : Ev} {S : Sto} {iv jv : Nat} {m : ME} {l : List D} {i : Nat} (hl : l.length ≤ 20) (hi : i < l.length) (h1 : ε[iv]? = some (some (.val (.tup l)))) (h2 : ε[jv]? = some (some (.val (.int (i : Int))))) (hm : m ε S = .ok (.val (.tup [])) S) :
    cBin (aBin addD) (cBin (aBin addD) (cSl (cVar iv) oNone (oSome (cVar jv))) m) (cSl (cVar iv) (oSome (cBin (aBin addD) (cVar jv) (cC (.int 1)))) oNone) ε S = .ok (.val (.tup (l.eraseIdx i))) S := by
  rw [← erase_cut]
  refine binD (binD (slLoS (varS h1) (varS h2) (by omega)) hm (addTup ?_)) (slHiS (i := i + 1) (varS h1) (binD (varS h2) cS rfl) (by omega)) (addTup ?_)
  · rw [List.length_take, List.length_nil]; omega
  · rw [List.length_append, List.length_take, List.length_drop, List.length_nil]; omega
theorem andT {c1 c2 : MT} {ε : Ev} {S S1 S2 : Sto} {b1 b2 : Bool} (h1 : c1 ε S = .ok b1 S1) (h2 : c2 ε S1 = .ok b2 S1) : cAndT c1 c2 ε S = .ok (b1 && b2) S1 := by
  cases b1 <;> simp [cAndT, h1, h2, Rs.bind]
theorem ifB {c : MT} {a b : MS} {ε : Ev} {S S1 : Sto} {k : Bool} {P : Prop} (h : c ε S = .ok k S1) (hk : k = true ↔ P) {Q : Rt → Prop} (h1 : P → Q (a ε S1)) (h2 : ¬P → Q (b ε S1)) : Q (sIf c a b ε S) := by
  simp only [sIf, h, Rs.bindT]
  cases k with
  | true => exact h1 (hk.mp rfl)
  | false => exact h2 (fun hp => Bool.false_ne_true (hk.mpr hp))
theorem eqInt {a b : Int} : eqD (.int a) (.int b) = some (.bl (decide (a = b))) := rfl
theorem gtInt {a b : Int} : gtD (.int a) (.int b) = some (.bl (decide (b < a))) := rfl
theorem toP_eL (r : Nat × Nat × Int) : toP (eL r) = some (encL r) := rfl
theorem sh_L (r : Nat × Nat × Int) : Sh 1 (encL r) := Sh.tup fun d hd => by
  simp only [encL, List.mem_cons, List.mem_nil_iff, or_false] at hd
  rcases hd with rfl | rfl | rfl <;> exact Sh.int
theorem ne_lanes {l : List (Nat × Nat × Int)} : neD (.tup (l.map eL)) (.tup []) = some (.bl (decide (l ≠ []))) := by
  have e : neD (.tup (l.map eL)) (.tup []) = ((match toP (.tup (l.map eL)), toP (.tup []) with | some p, some q => if SeqAt.shaped p && SeqAt.shaped q then some (PyData.eqv p q) else none | _, _ => none : Option Bool).map fun r => .bl (!r)) := rfl
  have e1 : toP (.tup (l.map eL)) = some (.tuple (l.map encL)) := by rw [toP, toPs_map eL encL toP_eL]; rfl
  have s1 : SeqAt.shaped (.tuple (l.map encL)) = true := (Sh.tup (n := 1) fun d hd => by
    obtain ⟨r, _, rfl⟩ := List.mem_map.mp hd
    exact sh_L r).shaped
  rw [e, e1]
  simp only [toP, toPs, Option.map_some]
  rw [s1, show SeqAt.shaped (.tuple []) = true by decide]
  cases l <;> simp [PyData.eqv, PyData.eqvAll]
section
variable {S : Sto} {p : Nat} {o : Ob} {q : Plan}
theorem drawS {m : Int} (hp : p < S.length) (ho : Src o) (h0 : 0 < m) (h1 : m ≤ 1000000) : ∃ (k : Nat) (o' : Ob), Src o' ∧ (k : Int) < m ∧ F__law_draw [.ref p, .val (.int m)] (S.set p o) = .ok (.val (.int (k : Int))) (S.set p o') := by
  obtain ⟨k, o', ho', k0, k1, e⟩ := drawL (S := S) (L := []) hp ho h0 (lt30 h1)
  rw [List.append_nil, List.append_nil] at e
  exact ⟨k.toNat, o', ho', by omega, by rw [Int.toNat_of_nonneg k0]; exact e⟩
theorem wordS {ts : List Str} (hp : p < S.length) (ho : Src o) (hts : ts.length ≤ 20) : ∃ (y : Str) (o' : Ob), Src o' ∧ nameOk y = true ∧ y ∉ ts ∧ F__law_word [.ref p, .val (.lst (ts.map D.str))] (S.set p o) = .ok (.val (.str y)) (S.set p o') := by
  obtain ⟨k, o', ho', k0, k1, e⟩ := wordL (S := S) (L := []) (wt := .val (.lst (ts.map D.str))) hp ho hts (fun _ _ => rfl)
  rw [List.append_nil, List.append_nil] at e
  exact ⟨k, o', ho', k0, k1, e⟩
end
end Bk
set_option Elab.async false
set_option linter.all false
set_option maxRecDepth 100000
set_option maxHeartbeats 4000000
namespace Bk
open PySem AM PyProof.Rows
section
variable {S : Sto} {p : Nat} {o : Ob} {q : Plan}
theorem len3 {l : List (Str × Int)} {i : Nat} {ε : Ev} {T : Sto} (h : ε[i]? = some (some (.val (eSs l)))) : cBi (aFn lenD) (cCons (cVar i) cNil) ε T = .ok (.val (.int l.length)) T :=
  bi1S (varS h) (by simp only [eSs, lenD, List.length_map])
theorem len4 {l : List (Nat × Nat × Int)} {i : Nat} {ε : Ev} {T : Sto} (h : ε[i]? = some (some (.val (.tup (l.map eL))))) : cBi (aFn lenD) (cCons (cVar i) cNil) ε T = .ok (.val (.int l.length)) T :=
  bi1S (varS h) (by simp only [lenD, List.length_map])
theorem eqT {i : Nat} {ε : Ev} {T : Sto} {a b : Int} (h : ε[i]? = some (some (.val (.int a)))) (e : a = b) : cTest (cBin (aBin eqD) (cVar i) (cC (.int b))) ε T = .ok true T := testS (binD (varS h) cS (by rw [eqInt, decide_eq_true e]))
theorem eqF {i : Nat} {ε : Ev} {T : Sto} {a b : Int} (h : ε[i]? = some (some (.val (.int a)))) (e : a ≠ b) : cTest (cBin (aBin eqD) (cVar i) (cC (.int b))) ε T = .ok false T := testS (binD (varS h) cS (by rw [eqInt, decide_eq_false e]))
theorem andF1 {c1 c2 : MT} {ε : Ev} {S S1 : Sto} (h1 : c1 ε S = .ok false S1) : cAndT c1 c2 ε S = .ok false S1 := by simp [cAndT, h1, Rs.bind]
theorem andTT {c1 c2 : MT} {ε : Ev} {S S1 S2 : Sto} {b : Bool} (h1 : c1 ε S = .ok true S1) (h2 : c2 ε S1 = .ok b S2) : cAndT c1 c2 ε S = .ok b S2 := by simp [cAndT, h1, h2, Rs.bind]
theorem ix_stands {l : List (Str × Int)} {i : Nat} {x : Str} {z : Int} (h : l[i]? = some (x, z)) : L2.atI (l.map eS) (i : Int) = some (.tup [.str x, .int z]) := atIn (by rw [List.getElem?_map, h]; rfl)
theorem ix_lanes {l : List (Nat × Nat × Int)} {i a b : Nat} {c : Int} (h : l[i]? = some (a, b, c)) : L2.atI (l.map eL) (i : Int) = some (.tup [.int (a : Nat), .int (b : Nat), .int c]) := atIn (by rw [List.getElem?_map, h]; rfl)
theorem mod1 {i : Nat} {ε : Ev} {T : Sto} {a m : Int} (h : ε[i]? = some (some (.val (.int a)))) (hm : 0 < m) : cBin (aBin addD) (cBin (aBin modD) (cBi (aFn intFD) (cCons (cVar i) cNil)) (cC (.int m))) (cC (.int 1)) ε T = .ok (.val (.int (a % m + 1))) T :=
  binD (binD (bi1S (varS h) rfl) cS (by simp only [modD, AM.intD]; rw [if_pos hm])) cS rfl
theorem otherwise_eq (hp : S[p]? = some o) (ho : Src o) (ok : PlanOk 8 5 40 12 q) :
    ∃ (q' : Plan) (o' : Ob), Src o' ∧ PlanOk 8 5 40 12 q' ∧ townOf q' ≠ townOf q ∧ F__law_otherwise [.ref p, .val (ePlan q)] S = .ok (.val (ePlan q')) (S.set p o') := by
  have hl := src_lt hp
  have few := ok.few
  have lfew := ok.lfew
  have ne : 0 < q.stands.length := List.length_pos_iff.mpr ok.ne
  obtain ⟨way, o1, ho1, w1, e1⟩ := drawS (S := S) (m := 7) hl ho (by decide) (by decide)
  obtain ⟨place, o2, ho2, p1, e2⟩ := drawS (S := S) (m := q.stands.length) hl ho1 (by omega) (by omega)
  obtain ⟨⟨x, z⟩, hx⟩ : ∃ r, q.stands[place]? = some r := ⟨_, List.getElem?_eq_getElem (by omega)⟩
  have main : ∃ (q' : Plan) (o' : Ob), Src o' ∧ PlanOk 8 5 40 12 q' ∧ townOf q' ≠ townOf q ∧ m__law_otherwise (some (.ref p) :: some (.val (ePlan q)) :: List.replicate 15 none) (S.set p o) = .rt (.val (ePlan q')) (S.set p o') := by
    have head : ∀ (rest : MS), sSeq (sAsg (gTupA 3 (gConsA (gNm 2) (gConsA (gNm 3) (gConsA (gNm 4) gNilA)))) (cVar 1)) (sSeq (sParN [5, 6, 7] (cCons (cCall F__law_draw (cCons (cVar 0) (cCons (cC (.int 7)) cNil))) (cCons (cCall F__law_draw (cCons (cVar 0) (cCons (cBi (aFn lenD) (cCons (cVar 3) cNil)) cNil))) (cCons (cBin (aBin subD) (cBi (aFn lenD) (cCons (cVar 3) cNil)) (cC (.int 1))) cNil)))) (sSeq (sAsg (gTupA 2 (gConsA (gNm 8) (gConsA (gNm 9) gNilA))) (cBin (aBin ixD) (cVar 3) (cVar 6))) rest)) (some (.ref p) :: some (.val (ePlan q)) :: List.replicate 15 none) (S.set p o)
        = rest [some (.ref p), some (.val (ePlan q)), some (.val (.int q.slots)), some (.val (eSs q.stands)), some (.val (.tup (q.lanes.map eL))), some (.val (.int (way : Int))), some (.val (.int (place : Int))), some (.val (.int (q.stands.length - 1))), some (.val (.str x)), some (.val (.int z)), none, none, none, none, none, none, none] (S.set p o2) := by
      intro rest
      refine seqS (tupA3S (varS rfl)) (seqS (parNS (ws := [.val (.int (way : Int)), .val (.int (place : Int)), .val (.int (q.stands.length - 1))]) (consS (callS rfl e1) (consS (callS (consS (varS rfl) (consS (len3 rfl) rfl)) e2) (consS (binD (len3 rfl) cS rfl) rfl))) rfl (Nat.le_of_ble_eq_true rfl)) (seqS (tupA2S (ixS (varS rfl) (varS rfl) (ix_stands hx))) rfl))
    unfold m__law_otherwise
    rw [head]
    by_cases h1 : (way : Int) = 1
    · have A := othA ok hx
      refine ⟨_, o2, ho2, A.1, A.2, Eq.trans (seqR (ifT (eqT rfl h1) (retS (tup3S (varS rfl) (putS (l := q.stands.map eS) (i := place) (d := eS (x, z % 40 + 1)) (by rw [List.length_map]; omega) (by rw [List.length_map]; omega) rfl rfl (tupV (.cons (tup2S (varS rfl) (mod1 rfl (by decide))) .nil) (Nat.le_of_ble_eq_true rfl))) (varS rfl))))) ?_⟩
      rw [← List.map_set]
      rfl
    by_cases h2 : (way : Int) = 2
    · obtain ⟨y, o3, ho3, hy, hn, e3⟩ := wordS (S := S) (ts := q.stands.map (·.1)) hl ho2 (by rw [List.length_map]; omega)
      have A := othBn ok hx hy hn
      rw [List.map_map] at e3
      refine ⟨_, o3, ho3, A.1, A.2, Eq.trans (seqS (ifF (eqF rfl h1) rfl) (seqR (ifT (eqT rfl h2) (seqS (asgS (callS (consS (varS rfl) (consS (cLc_at (enc := eS) (f := fun s => .str s.1) q.stands (iterS (varS rfl)) (fun s hs => ⟨_, rfl, fun acc => ixS (varS rfl) cS (atI0 _ _)⟩) (by rw [szl]; omega)) rfl)) e3)) (retS (tup3S (varS rfl) (putS (l := q.stands.map eS) (i := place) (d := eS (y, z)) (by rw [List.length_map]; omega) (by rw [List.length_map]; omega) rfl rfl (tupV (.cons (tup2S (varS rfl) (varS rfl)) .nil) (Nat.le_of_ble_eq_true rfl))) (varS rfl))))))) ?_⟩
      rw [← List.map_set]
      rfl
    by_cases h3 : (way : Int) = 3 ∧ 0 < (q.stands.length : Int) - 1
    · have A := othC ok (by omega)
      refine ⟨_, o2, ho2, A.1, A.2, Eq.trans (seqS (ifF (eqF rfl h1) rfl) (seqS (ifF (eqF rfl h2) rfl) (seqR (ifT (andTT (eqT rfl h3.1) (testS (binD (varS rfl) cS (by rw [gtInt, decide_eq_true h3.2])))) (retS (tup3S (varS rfl) (revS (varS rfl)) (bi1S (d := .lst (q.lanes.map fun r => eL (q.stands.length - 1 - r.1, q.stands.length - 1 - r.2.1, r.2.2))) (cLc_at (enc := eL) q.lanes (iterS (varS rfl)) (fun r hr => ⟨_, rfl, fun acc => ?_⟩) (by rw [szl]; omega)) rfl))))))) ?_⟩
      · have hr' := ok.lin r hr
        have s1 : (q.stands.length : Int) - 1 - (r.1 : Nat) = ((q.stands.length - 1 - r.1 : Nat) : Int) := by omega
        have s2 : (q.stands.length : Int) - 1 - (r.2.1 : Nat) = ((q.stands.length - 1 - r.2.1 : Nat) : Int) := by omega
        have eE : eL (q.stands.length - 1 - r.1, q.stands.length - 1 - r.2.1, r.2.2) = .tup [.int ((q.stands.length : Int) - 1 - (r.1 : Nat)), .int ((q.stands.length : Int) - 1 - (r.2.1 : Nat)), .int r.2.2] := by
          rw [s1, s2]
          rfl
        rw [eE]
        exact tup3S (binD (varS rfl) (ixS (varS rfl) cS (atI0 _ _)) rfl) (binD (varS rfl) (ixS (varS rfl) cS (atI1 _ _ _)) rfl) (ixS (varS rfl) cS (atI2 _ _ _ _))
      · rw [ePlan]
        simp only [eSs, List.map_reverse, List.map_map]
        rfl
    have c3 : ∀ (T : Sto), (cAndT (cTest (cBin (aBin eqD) (cVar 5) (cC (.int 3)))) (cTest (cBin (aBin gtD) (cVar 7) (cC (.int 0))))) [some (.ref p), some (.val (ePlan q)), some (.val (.int q.slots)), some (.val (eSs q.stands)), some (.val (.tup (q.lanes.map eL))), some (.val (.int (way : Int))), some (.val (.int (place : Int))), some (.val (.int (q.stands.length - 1))), some (.val (.str x)), some (.val (.int z)), none, none, none, none, none, none, none] T = .ok false T := by
      intro T
      by_cases h : (way : Int) = 3
      · exact andTT (eqT rfl h) (testS (binD (varS rfl) cS (by rw [gtInt, decide_eq_false (fun h' => h3 ⟨h, h'⟩)])))
      · exact andF1 (eqF rfl h)
    by_cases h4 : (way : Int) = 4 ∧ 1 < (q.lanes.length : Int)
    · have A := othD ok (by omega)
      refine ⟨_, o2, ho2, A.1, A.2, Eq.trans (seqS (ifF (eqF rfl h1) rfl) (seqS (ifF (eqF rfl h2) rfl) (seqS (ifF (c3 _) rfl) (seqR (ifT (andTT (eqT rfl h4.1) (testS (binD (len4 rfl) cS (by rw [gtInt, decide_eq_true h4.2])))) (retS (tup3S (varS rfl) (varS rfl) (revS (varS rfl))))))))) ?_⟩
      rw [ePlan]
      simp only [List.map_reverse]
    have c4 : ∀ (T : Sto), (cAndT (cTest (cBin (aBin eqD) (cVar 5) (cC (.int 4)))) (cTest (cBin (aBin gtD) (cBi (aFn lenD) (cCons (cVar 4) cNil)) (cC (.int 1))))) [some (.ref p), some (.val (ePlan q)), some (.val (.int q.slots)), some (.val (eSs q.stands)), some (.val (.tup (q.lanes.map eL))), some (.val (.int (way : Int))), some (.val (.int (place : Int))), some (.val (.int (q.stands.length - 1))), some (.val (.str x)), some (.val (.int z)), none, none, none, none, none, none, none] T = .ok false T := by
      intro T
      by_cases h : (way : Int) = 4
      · exact andTT (eqT rfl h) (testS (binD (len4 rfl) cS (by rw [gtInt, decide_eq_false (fun h' => h4 ⟨h, h'⟩)])))
      · exact andF1 (eqF rfl h)
    by_cases h5 : 4 < (way : Int) ∧ q.lanes ≠ []
    · have hlp : 0 < q.lanes.length := List.length_pos_iff.mpr h5.2
      obtain ⟨j, o3, ho3, j1, e3⟩ := drawS (S := S) (m := q.lanes.length) hl ho2 (by omega) (by omega)
      obtain ⟨⟨a, b, c⟩, hj⟩ : ∃ r, q.lanes[j]? = some r := ⟨_, List.getElem?_eq_getElem (by omega)⟩
      by_cases h6 : (way : Int) = 5
      · have A := othE ok hj
        refine ⟨_, o3, ho3, A.1, A.2, Eq.trans (seqS (ifF (eqF rfl h1) rfl) (seqS (ifF (eqF rfl h2) rfl) (seqS (ifF (c3 _) rfl) (seqS (ifF (c4 _) rfl) (seqR (ifT (andTT (testS (binD (varS rfl) cS (by rw [gtInt, decide_eq_true h5.1]))) (testS (binD (varS rfl) (tupV .nil (by decide)) (by rw [ne_lanes, decide_eq_true h5.2])))) (seqS (asgS (callS (consS (varS rfl) (consS (len4 rfl) rfl)) e3)) (seqS (tupA3S (ixS (varS rfl) (varS rfl) (ix_lanes hj))) (seqS (asgS (cifT (eqT rfl h6) (tupV (.cons (tup3S (varS rfl) (varS rfl) (mod1 rfl (by decide))) .nil) (Nat.le_of_ble_eq_true rfl)))) (retS (tup3S (varS rfl) (varS rfl) (putS (l := q.lanes.map eL) (i := j) (d := eL (a, b, c % 3 + 1)) (by rw [List.length_map]; omega) (by rw [List.length_map]; omega) rfl rfl (varS rfl))))))))))))) ?_⟩
        rw [← List.map_set]
        rfl
      · have A := othF ok (j := j) (by omega)
        refine ⟨_, o3, ho3, A.1, A.2, Eq.trans (seqS (ifF (eqF rfl h1) rfl) (seqS (ifF (eqF rfl h2) rfl) (seqS (ifF (c3 _) rfl) (seqS (ifF (c4 _) rfl) (seqR (ifT (andTT (testS (binD (varS rfl) cS (by rw [gtInt, decide_eq_true h5.1]))) (testS (binD (varS rfl) (tupV .nil (by decide)) (by rw [ne_lanes, decide_eq_true h5.2])))) (seqS (asgS (callS (consS (varS rfl) (consS (len4 rfl) rfl)) e3)) (seqS (tupA3S (ixS (varS rfl) (varS rfl) (ix_lanes hj))) (seqS (asgS (cifF (eqF rfl h6) (tupV .nil (by decide)))) (retS (tup3S (varS rfl) (varS rfl) (dropS (l := q.lanes.map eL) (i := j) (by rw [List.length_map]; omega) (by rw [List.length_map]; omega) rfl rfl (varS rfl))))))))))))) ?_⟩
        rw [erase_map]
        rfl
    · have A := othG ok
      refine ⟨_, o2, ho2, A.1, A.2, Eq.trans (seqS (ifF (eqF rfl h1) rfl) (seqS (ifF (eqF rfl h2) rfl) (seqS (ifF (c3 _) rfl) (seqS (ifF (c4 _) rfl) (seqS (ifF ?_ rfl) (retS (tup3S (mod1 rfl (by decide)) (varS rfl) (varS rfl)))))))) rfl⟩
      by_cases h : 4 < (way : Int)
      · exact andTT (testS (binD (varS rfl) cS (by rw [gtInt, decide_eq_true h]))) (testS (binD (varS rfl) (tupV .nil (by decide)) (by rw [ne_lanes, decide_eq_false (fun h' => h5 ⟨h, h'⟩)])))
      · exact andF1 (testS (binD (varS rfl) cS (by rw [gtInt, decide_eq_false h])))
  obtain ⟨q', o', ho', okq, neq, e⟩ := main
  refine ⟨q', o', ho', okq, neq, callV rfl ?_ take_set⟩
  rw [set_self hp] at e
  exact e
end
end Bk
set_option Elab.async false
set_option linter.all false
set_option maxRecDepth 100000
set_option maxHeartbeats 4000000
namespace Bk
open PySem AM
section
variable {S : Sto} {p : Nat} {o : Ob} {q : Plan}
theorem makeK1 {F : F1} {a b c : D} : makeKW false "Town" F [0, 3, 4, 2] [.tup []] [.val c, .val a, .val b] S = makeW false "Town" F [.val a, .val b, .val c] S := by
  unfold makeKW makeW
  rfl
theorem makeK2 {F : F1} {a b : D} : makeKW false "Town" F [0, 3, 2, 1] [.tup []] [.val b, .val a] S = makeW false "Town" F [.val a, .val b, .val (.tup [])] S := by
  unfold makeKW makeW
  rfl
theorem makeS {mu : Bool} {C : Str} {F : F1} {fs : MA} {ε : Ev} {S S1 : Sto} {ds : List D} {r : Rs W} (h : ArgsV ε S fs ds S1) (hm : makeW mu C F (ds.map .val) S1 = r) : cMake mu C F fs ε S = r := by
  simp only [cMake, h.ok, Rs.bind]; exact hm
theorem makeDS {mu : Bool} {C : Str} {F : F1} {fs : MA} {ε : Ev} {S S1 : Sto} {ds dfl : List D} {r : Rs W} (h : ArgsV ε S fs ds S1) (hm : makeW mu C F (ds.map .val ++ dfl.map .val) S1 = r) : cMakeD mu C F dfl fs ε S = r := by
  simp only [cMakeD, h.ok, Rs.bind]; exact hm
theorem makeKS {mu : Bool} {C : Str} {F : F1} {fs : MA} {ε : Ev} {S S1 : Sto} {ds dfl : List D} {r : Rs W} {n : Nat} {idx : List Nat} (h : ArgsV ε S fs ds S1) (hn : ds.length = n) (hm : makeKW mu C F idx dfl (ds.map .val) S1 = r) : cMakeK mu C F n idx dfl fs ε S = r := by
  simp only [cMakeK, h.ok, Rs.bind]
  rw [if_pos (by rw [List.length_map]; exact hn)]
  exact hm
theorem eqOwnS {own : List Str} {neg : Bool} {C : Str} {F : F1} {f g : ME} {ε : Ev} {S S1 S2 S3 : Sto} {fs : List (Str × D)} {y : D} {b : Bool} (hf : f ε S = .ok (.val (.obj C fs)) S1) (hg : g ε S1 = .ok (.val y) S2) (hk : knownW own (.val y) S2 = true) (h : F [.val (.obj C fs), .val y] S2 = .ok (.val (.bl b)) S3) :
    cBin (eqOwnW own neg C F) f g ε S = .ok (.val (.bl (if neg then !b else b))) S3 :=
  binS hf hg (by simp only [eqOwnW, isObj, view_val, if_true, hk, h])
theorem known_town {t : TownD} {T : Sto} : knownW ownC (.val (tObj t)) T = true := by simp [knownW, view, kindOf, tObj, own_town.1]
theorem known_no {d : D} {T : Sto} (h : kindOf d ≠ none ∨ ∃ fs, d = .obj "Log" fs) : knownW ownC (.val d) T = true := by
  rcases h with h | ⟨fs, rfl⟩
  · cases hk : kindOf d with
    | none => exact absurd hk h
    | some k => simp [knownW, view, hk]
  · simp [knownW, view, kindOf, own_town.2.1]
theorem few_bools {l : List Bool} (h : l.length ≤ 100) : Few 1 100 (.list (l.map PyData.bool)) := by
  have h1 : Fews 0 ((l.map PyData.bool).length * 1) (l.map PyData.bool) := Fews.all fun d hd => by
    obtain ⟨s, hs, rfl⟩ := List.mem_map.mp hd
    exact Few.bl
  rw [List.length_map] at h1
  exact (h1.more (Nat.le_refl _) (by omega)).lst
theorem repr_bools {l : List Bool} (h : l.length ≤ 100) : reprD [.lst (l.map D.bl)] = some (.str (PyData.list (l.map PyData.bool)).shown) :=
  reprS (by rw [toP, toPs_map D.bl PyData.bool (fun _ => rfl)]; rfl) rfl (few_bools h) (by decide) (by decide)
theorem repr_fft : reprD [.lst [.bl false, .bl false, .bl true]] = some (.str "[False, False, True]") := by
  have := repr_bools (l := [false, false, true]) (by decide)
  rw [show (PyData.list ([false, false, true].map PyData.bool)).shown = Str.ofString "[False, False, True]" by decide +kernel] at this
  exact this
theorem repr_ft : reprD [.lst [.bl false, .bl true]] = some (.str "[False, True]") := by
  have := repr_bools (l := [false, true]) (by decide)
  rw [show (PyData.list ([false, true].map PyData.bool)).shown = Str.ofString "[False, True]" by decide +kernel] at this
  exact this
theorem neStr {x : Str} : neD (.str x) (.str x) = some (.bl false) := by simp [neD, eqDD, scE]

theorem sh_R {r : Str × Str × Int} (h1 : PyData.strOk r.1 = true) (h2 : PyData.strOk r.2.1 = true) : Sh 1 (encR r) := Sh.tup fun d hd => by
  simp only [encR, List.mem_cons, List.mem_nil_iff, or_false] at hd
  rcases hd with rfl | rfl | rfl
  · exact Sh.str h1
  · exact Sh.str h2
  · exact Sh.int
theorem eq_roads {l : List (Str × Str × Int)} (h : ∀ r ∈ l, PyData.strOk r.1 = true ∧ PyData.strOk r.2.1 = true) : eqD (eRs l) (.tup []) = some (.bl (decide (l = []))) := by
  have e : eqD (eRs l) (.tup []) = ((match toP (eRs l), toP (.tup []) with | some p, some q => if SeqAt.shaped p && SeqAt.shaped q then some (PyData.eqv p q) else none | _, _ => none : Option Bool).map .bl) := rfl
  have s1 : SeqAt.shaped (encRs l) = true := (Sh.tup (n := 1) fun d hd => by
    obtain ⟨r, hr, rfl⟩ := List.mem_map.mp hd
    exact sh_R (h r hr).1 (h r hr).2).shaped
  rw [e, toP_eRs]
  simp only [toP, toPs, Option.map_some]
  rw [s1, show SeqAt.shaped (.tuple []) = true by decide]
  cases l <;> simp [encRs, PyData.eqv, PyData.eqvAll]
end
end Bk
set_option Elab.async false
set_option linter.all false
set_option maxRecDepth 100000
set_option maxHeartbeats 4000000
namespace Bk
open PySem AM
section
variable {S : Sto} {p : Nat} {o : Ob} {q q2 : Plan}
def rBody : MS := (sSeq (sIf (cOrT (cNotT (cTest (cCall F__law_shown_right (cCons (cVar 6) (cCons (cVar 1) cNil))))) (cTest (cBin (aBin neD) (cBi (aFn reprD) (cCons (cLst (cCons (cBin (eqOwnW ownC false "Town" F_Town___eq__) (cVar 6) (cVar 5)) (cCons (cBin (eqOwnW ownC false "Town" F_Town___eq__) (cVar 5) (cVar 6)) (cCons (cBin (eqOwnW ownC true "Town" F_Town___eq__) (cVar 6) (cVar 5)) cNil)))) cNil)) (cC (.str "[False, False, True]"))))) (sRet (cC (.bl false))) sNil) (sSeq (sAsg (gNm 7) (cBin (aBin addD) (cLc false [8] (gNm 8) (cIter (cVar 4)) tYesM (cBin (eqOwnW ownC false "Town" F_Town___eq__) (cVar 6) (cVar 8))) (cLc false [8] (gNm 8) (cIter (cVar 4)) tYesM (cBin (eqOwnW ownC true "Town" F_Town___eq__) (cVar 6) (cVar 8))))) (sSeq (sIf (cTest (cBin (aBin neD) (cBi (aFn reprD) (cCons (cVar 7) cNil)) (cBi (aFn reprD) (cCons (cBin (aBin addD) (cLc false [8] (gNm 8) (cIter (cVar 4)) tYesM (cC (.bl true))) (cLc false [8] (gNm 8) (cIter (cVar 4)) tYesM (cC (.bl false)))) cNil)))) (sRet (cC (.bl false))) sNil) (sFor (gNm 9) (cIter (cLst (cCons (cBi (strOwnW "Town" F_Town___str__) (cCons (cVar 6) cNil)) (cCons (cBin (aBin ixD) (cVar 1) (cC (.int 1))) (cCons (cC .non) (cCons (cC (.int 0)) (cCons (cC (.bl true)) (cCons (cMakeD false "Log" F_Log___init__ [.tup []] (cCons (cVar 6) cNil)) (cCons (cLst (cCons (cVar 6) cNil)) (cCons (cTup (cCons (cVar 6) cNil)) (cCons (cProp "Town" F_Town_names (cVar 6)) (cCons (cBi (strOwnW "Town" F_Town___repr__) (cCons (cVar 6) cNil)) cNil)))))))))))) (sIf (cTest (cBin (aBin neD) (cBi (aFn reprD) (cCons (cLst (cCons (cBin (eqOwnW ownC false "Town" F_Town___eq__) (cVar 6) (cVar 9)) (cCons (cBin (eqOwnW ownC true "Town" F_Town___eq__) (cVar 6) (cVar 9)) cNil))) cNil)) (cC (.str "[False, True]")))) (sRet (cC (.bl false))) sNil)))))
def rEnv (p : Nat) (q q2 : Plan) (n : Nat) (w6 w7 w8 w9 : Option W) : Ev := [some (.ref p), some (.val (ePlan q)), some (.val (ePlan q2)), some (.val (eRs (named q))), some (.val (.lst (List.replicate n (tObj (townOf q))))), some (.val (tObj (townOf q2))), w6, w7, w8, w9]
theorem call2S {ε : Ev} {S S1 S2 : Sto} {f g : ME} {F : F1} {d e : D} {r : Rs W} (hf : f ε S = .ok (.val d) S1) (hg : g ε S1 = .ok (.val e) S2) (h : F [.val d, .val e] S2 = r) : cCall F (cCons f (cCons g cNil)) ε S = r := callS (consS hf (consS hg rfl)) h
theorem orF {c1 c2 : MT} {ε : Ev} {S S1 S2 : Sto} {b : Bool} (h1 : c1 ε S = .ok false S1) (h2 : c2 ε S1 = .ok b S2) : cOrT c1 c2 ε S = .ok b S2 := by simp [cOrT, h1, h2, Rs.bind]
theorem notS {c : MT} {ε : Ev} {S S1 : Sto} {b : Bool} (h : c ε S = .ok b S1) : cNotT c ε S = .ok (!b) S1 := by simp [cNotT, h, Rs.bind]
theorem lcRep {ε : Ev} {T : Sto} {n : Nat} {d : D} {fe : ME} {v : D} (hn : n ≤ 4) (hi : ε[4]? = some (some (.val (.lst (List.replicate n d))))) (hf : ∀ acc, fe ((wipeE ε [8]).set 8 (some (.val d))) (T ++ [.lst acc]) = .ok (.val v) (T ++ [.lst acc])) :
    cLc false [8] (gNm 8) (cIter (cVar 4)) tYesM fe ε T = .ok (.val (.lst (List.replicate n v))) T := by
  have := cLc_at (enc := fun (_ : Nat) => d) (f := fun (_ : Nat) => v) (g := gNm 8) (fe := fe) (ε := ε) (vs := [8]) (fi := cIter (cVar 4)) (S := T) (S1 := T) (List.range n) (by rw [iterSL (varS hi), List.map_const', List.length_range]) (fun j hj => ⟨_, rfl, hf⟩) (by rw [szl, List.length_range]; omega)
  rw [List.map_const', List.length_range] at this
  exact this
theorem rep_bools {n : Nat} (hn : n ≤ 4) : reprD [.lst (List.replicate n (D.bl true) ++ List.replicate n (D.bl false))] = some (.str (PyData.list ((List.replicate n true ++ List.replicate n false).map PyData.bool)).shown) := by
  have := repr_bools (l := List.replicate n true ++ List.replicate n false) (by rw [List.length_append, List.length_replicate, List.length_replicate]; omega)
  rw [List.map_append, List.map_replicate, List.map_replicate] at this
  exact this
theorem right_body {n : Nat} {w7 w8 w9 : Option W} {T : Sto} (hn : n ≤ 4) (ok : PlanOk 8 5 40 12 q) (ok2 : PlanOk 8 5 40 12 q2) (ne : townOf q2 ≠ townOf q) :
    ∃ v7 v9, rBody (rEnv p q q2 n (some (.val (tObj (townOf q)))) w7 w8 w9) T = .nx (rEnv p q q2 n (some (.val (tObj (townOf q)))) v7 w8 v9) T := by
  have to := townOf_ok ok (by decide) (by decide) (by decide) (by decide)
  have to2 := townOf_ok ok2 (by decide) (by decide) (by decide) (by decide)
  have hd : townText (townOf q) ≠ townText (townOf q2) := fun e => ne (text_inj to to2 e).symm
  have hd2 : townText (townOf q2) ≠ townText (townOf q) := fun e => hd e.symm
  have pf := PlF.of ok (by decide)
  have e1 : ∀ T, F_Town___eq__ [.val (tObj (townOf q)), .val (tObj (townOf q2))] T = .ok (.val (.bl false)) T := fun T => by rw [town_eq_eq to to2, decide_eq_false hd]
  have e2 : ∀ T, F_Town___eq__ [.val (tObj (townOf q2)), .val (tObj (townOf q))] T = .ok (.val (.bl false)) T := fun T => by rw [town_eq_eq to2 to, decide_eq_false hd2]
  have e3 : ∀ T, F_Town___eq__ [.val (tObj (townOf q)), .val (tObj (townOf q))] T = .ok (.val (.bl true)) T := fun T => by rw [town_eq_eq to to, decide_eq_true rfl]
  have loop : ∃ v9, forL (gNm 9) (sIf (cTest (cBin (aBin neD) (cBi (aFn reprD) (cCons (cLst (cCons (cBin (eqOwnW ownC false "Town" F_Town___eq__) (cVar 6) (cVar 9)) (cCons (cBin (eqOwnW ownC true "Town" F_Town___eq__) (cVar 6) (cVar 9)) cNil))) cNil)) (cC (.str "[False, True]")))) (sRet (cC (.bl false))) sNil) [.str (townText (townOf q)), eSs q.stands, .non, .int 0, .bl true, .obj "Log" [("_town", tObj (townOf q)), ("_facts", .tup [])], .lst [tObj (townOf q)], .tup [tObj (townOf q)], eN (townOf q).names, .str (reprT (townOf q))] (rEnv p q q2 n (some (.val (tObj (townOf q)))) (some (.val (.lst (List.replicate n (.bl true) ++ List.replicate n (.bl false))))) w8 w9) T = .nx (rEnv p q q2 n (some (.val (tObj (townOf q)))) (some (.val (.lst (List.replicate n (.bl true) ++ List.replicate n (.bl false))))) w8 v9) T := by
    obtain ⟨ε2, S2, e, v9, rfl, rfl⟩ := forL_inv (g := gNm 9) (body := (sIf (cTest (cBin (aBin neD) (cBi (aFn reprD) (cCons (cLst (cCons (cBin (eqOwnW ownC false "Town" F_Town___eq__) (cVar 6) (cVar 9)) (cCons (cBin (eqOwnW ownC true "Town" F_Town___eq__) (cVar 6) (cVar 9)) cNil))) cNil)) (cC (.str "[False, True]")))) (sRet (cC (.bl false))) sNil)) (fun i ε T' => ∃ v9, ε = rEnv p q q2 n (some (.val (tObj (townOf q)))) (some (.val (.lst (List.replicate n (.bl true) ++ List.replicate n (.bl false))))) w8 v9 ∧ T' = T)
      [.str (townText (townOf q)), eSs q.stands, .non, .int 0, .bl true, .obj "Log" [("_town", tObj (townOf q)), ("_facts", .tup [])], .lst [tObj (townOf q)], .tup [tObj (townOf q)], eN (townOf q).names, .str (reprT (townOf q))] 0 (rEnv p q q2 n (some (.val (tObj (townOf q)))) (some (.val (.lst (List.replicate n (.bl true) ++ List.replicate n (.bl false))))) w8 w9) T ⟨w9, rfl, rfl⟩ (by
        rintro i d _ _ hd ⟨v9, rfl, rfl⟩
        have hk : kindOf d ≠ none ∨ ∃ fs, d = .obj "Log" fs := by
          have hm := List.mem_of_getElem? hd
          simp only [List.mem_cons, List.mem_nil_iff, or_false] at hm
          rcases hm with rfl | rfl | rfl | rfl | rfl | rfl | rfl | rfl | rfl | rfl
          · exact .inl (by simp [kindOf])
          · exact .inl (by simp [kindOf, eSs])
          · exact .inl (by simp [kindOf])
          · exact .inl (by simp [kindOf])
          · exact .inl (by simp [kindOf])
          · exact .inr ⟨_, rfl⟩
          · exact .inl (by simp [kindOf])
          · exact .inl (by simp [kindOf])
          · exact .inl (by simp [kindOf, eN])
          · exact .inl (by simp [kindOf])
        exact ⟨_, _, _, rfl, ifF (testS (binD (bi1S (lstS (.cons (eqOwnS (varS rfl) (varS rfl) (known_no hk) (town_eq_no hk)) (.cons (eqOwnS (varS rfl) (varS rfl) (known_no hk) (town_eq_no hk)) .nil)) (Nat.le_of_ble_eq_true rfl)) repr_ft) cS neStr)) rfl, _, rfl, rfl⟩)
    exact ⟨v9, e⟩
  obtain ⟨v9, e9⟩ := loop
  refine ⟨some (.val (.lst (List.replicate n (.bl true) ++ List.replicate n (.bl false)))), v9, ?_⟩
  unfold rBody
  refine seqS (ifF (orF (notS (testS (call2S (varS rfl) (varS rfl) (shown_eq pf to)))) (testS (binD (bi1S (lstS (.cons (eqOwnS (varS rfl) (varS rfl) known_town (e1 _)) (.cons (eqOwnS (varS rfl) (varS rfl) known_town (e2 _)) (.cons (eqOwnS (varS rfl) (varS rfl) known_town (e1 _)) .nil))) (Nat.le_of_ble_eq_true rfl)) repr_fft) cS neStr))) rfl) ?_
  refine seqS (asgS (binD (lcRep hn rfl (fun acc => eqOwnS (varS rfl) (varS rfl) known_town (e3 _))) (lcRep hn rfl (fun acc => eqOwnS (varS rfl) (varS rfl) known_town (e3 _))) (addLst (by rw [List.length_replicate, List.length_replicate]; omega)))) ?_
  refine seqS (ifF (testS (binD (bi1S (varS rfl) (rep_bools hn)) (bi1S (binD (lcRep hn rfl (fun acc => cS)) (lcRep hn rfl (fun acc => cS)) (addLst (by rw [List.length_replicate, List.length_replicate]; omega))) (rep_bools hn)) neStr)) rfl) ?_
  exact forS (iterSL (lstS (.cons (strOwnS (varS rfl) (town_str_eq to)) (.cons (ixS (varS rfl) cS (atI1 _ _ _)) (.cons cS (.cons cS (.cons cS (.cons (makeDS (.cons (varS rfl) .nil) log_make) (.cons (lstS (.cons (varS rfl) .nil) (Nat.le_of_ble_eq_true rfl)) (.cons (tupV (.cons (varS rfl) .nil) (Nat.le_of_ble_eq_true rfl)) (.cons (propS (varS rfl) (names_eq _ _)) (.cons (strOwnS (varS rfl) (town_repr_eq to)) .nil)))))))))) (Nat.le_of_ble_eq_true rfl))) e9
end
end Bk
set_option Elab.async false
set_option linter.all false
set_option maxRecDepth 100000
set_option maxHeartbeats 400000
namespace Bk
open PySem AM
section
variable {S : Sto} {p : Nat} {o : Ob} {q q2 : Plan}
theorem right_body_eq : m__law_right = (sSeq (sAsg (gNm 1) (cCall F__law_plan (cCons (cVar 0) (cCons (cC (.int 8)) (cCons (cC (.int 5)) (cCons (cC (.int 40)) (cCons (cC (.int 12)) cNil))))))) (sSeq (sAsg (gNm 2) (cCall F__law_otherwise (cCons (cVar 0) (cCons (cVar 1) cNil)))) (sSeq (sAsg (gNm 3) (cCall F__law_named (cCons (cVar 1) cNil))) (sSeq (sAsg (gNm 4) (cLst (cCons (cMake false "Town" F_Town___init__ (cCons (cBin (aBin ixD) (cVar 1) (cC (.int 0))) (cCons (cBin (aBin ixD) (cVar 1) (cC (.int 1))) (cCons (cVar 3) cNil)))) (cCons (cMakeK false "Town" F_Town___init__ 3 [0, 3, 4, 2] [.tup []] (cCons (cVar 3) (cCons (cBin (aBin ixD) (cVar 1) (cC (.int 0))) (cCons (cBin (aBin ixD) (cVar 1) (cC (.int 1))) cNil)))) cNil)))) (sSeq (sIf (cTest (cBin (aBin eqD) (cVar 3) (cTup cNil))) (sAsg (gNm 4) (cBin (aBin addD) (cVar 4) (cLst (cCons (cMakeD false "Town" F_Town___init__ [.tup []] (cCons (cBin (aBin ixD) (cVar 1) (cC (.int 0))) (cCons (cBin (aBin ixD) (cVar 1) (cC (.int 1))) cNil))) (cCons (cMakeK false "Town" F_Town___init__ 2 [0, 3, 2, 1] [.tup []] (cCons (cBin (aBin ixD) (cVar 1) (cC (.int 1))) (cCons (cBin (aBin ixD) (cVar 1) (cC (.int 0))) cNil))) cNil))))) sNil) (sSeq (sAsg (gNm 5) (cCall F__law_town (cCons (cVar 2) cNil))) (sSeq (sIf (cOrT (cTest (cBin (aBin eqD) (cCall F__law_text (cCons (cVar 2) cNil)) (cCall F__law_text (cCons (cVar 1) cNil)))) (cNotT (cTest (cCall F__law_shown_right (cCons (cVar 5) (cCons (cVar 2) cNil)))))) (sRet (cC (.bl false))) sNil) (sSeq (sFor (gNm 6) (cIter (cVar 4)) rBody) (sRet (cBi (aFn allD') (cCons (cLc false [6] (gNm 6) (cIter (cVar 4)) tYesM (cCall F__law_shown_right (cCons (cVar 6) (cCons (cVar 1) cNil)))) cNil))))))))))) := by
  unfold m__law_right rBody
  rfl
theorem tail_eq {n : Nat} {o : Ob} (hn : n ≤ 4) (ok : PlanOk 8 5 40 12 q) (ok2 : PlanOk 8 5 40 12 q2) (ne : townOf q2 ≠ townOf q) :
    (sSeq (sAsg (gNm 5) (cCall F__law_town (cCons (cVar 2) cNil))) (sSeq (sIf (cOrT (cTest (cBin (aBin eqD) (cCall F__law_text (cCons (cVar 2) cNil)) (cCall F__law_text (cCons (cVar 1) cNil)))) (cNotT (cTest (cCall F__law_shown_right (cCons (cVar 5) (cCons (cVar 2) cNil)))))) (sRet (cC (.bl false))) sNil) (sSeq (sFor (gNm 6) (cIter (cVar 4)) rBody) (sRet (cBi (aFn allD') (cCons (cLc false [6] (gNm 6) (cIter (cVar 4)) tYesM (cCall F__law_shown_right (cCons (cVar 6) (cCons (cVar 1) cNil)))) cNil)))))) [some (.ref p), some (.val (ePlan q)), some (.val (ePlan q2)), some (.val (eRs (named q))), some (.val (.lst (List.replicate n (tObj (townOf q))))), none, none, none, none, none] S = .rt (.val (.bl true)) S := by
  have to := townOf_ok ok (by decide) (by decide) (by decide) (by decide)
  have to2 := townOf_ok ok2 (by decide) (by decide) (by decide) (by decide)
  have hd2 : townText (townOf q2) ≠ townText (townOf q) := fun e => ne (text_inj to2 to e)
  have pf := PlF.of ok (by decide)
  have pf2 := PlF.of ok2 (by decide)
  have loop : ∃ v6 v7 v8 v9, forL (gNm 6) rBody (List.replicate n (tObj (townOf q))) (rEnv p q q2 n none none none none) S = .nx (rEnv p q q2 n v6 v7 v8 v9) S := by
    obtain ⟨ε2, S2, e, v6, v7, v8, v9, rfl, rfl⟩ := forL_inv (g := gNm 6) (body := rBody) (fun i ε T' => ∃ v6 v7 v8 v9, ε = rEnv p q q2 n v6 v7 v8 v9 ∧ T' = S) (List.replicate n (tObj (townOf q))) 0 (rEnv p q q2 n none none none none) S ⟨none, none, none, none, rfl, rfl⟩ (by
      rintro i d _ T' hd ⟨v6, v7, v8, v9, rfl, hT⟩
      rw [hT]
      have := List.eq_of_mem_replicate (List.mem_of_getElem? hd)
      subst this
      obtain ⟨u7, u9, e⟩ := right_body (p := p) (n := n) (w7 := v7) (w8 := v8) (w9 := v9) (T := S) hn ok ok2 ne
      exact ⟨_, _, _, rfl, e, _, _, _, _, rfl, rfl⟩)
    exact ⟨v6, v7, v8, v9, e⟩
  obtain ⟨v6, v7, v8, v9, eL⟩ := loop
  refine seqS (asgS (call1S (varS rfl) (town_eq pf2 to2))) (seqS (ifF (orF (testS (binD (call1S (varS rfl) (text_eq pf2 to2)) (call1S (varS rfl) (text_eq pf to)) ?_)) (notS (testS (call2S (varS rfl) (varS rfl) (shown_eq pf2 to2))))) rfl) (seqS (forS (iterSL (varS rfl)) eL) (retS (bi1S (d := .lst (List.replicate n (.bl true))) ?_ ?_))))
  · simp [eqD, eqDD, scE, hd2]
  · have := cLc_at (enc := fun (_ : Nat) => tObj (townOf q)) (f := fun (_ : Nat) => D.bl true) (g := gNm 6) (fe := cCall F__law_shown_right (cCons (cVar 6) (cCons (cVar 1) cNil))) (ε := rEnv p q q2 n v6 v7 v8 v9) (vs := [6]) (fi := cIter (cVar 4)) (S := S) (S1 := S) (List.range n) (by rw [iterSL (varS rfl), List.map_const', List.length_range]) (fun j hj => ⟨_, rfl, fun acc => call2S (varS rfl) (varS rfl) (shown_eq pf to)⟩) (by rw [szl, List.length_range]; omega)
    rw [List.map_const', List.length_range] at this
    exact this
  · have := allD_map (fun (_ : Nat) => true) (List.range n)
    rw [List.map_const', List.length_range] at this
    rw [this]
    simp
theorem right_eq (hp : S[p]? = some o) (ho : Src o) : ∃ o', Src o' ∧ F__law_right [.ref p] S = .ok (.val (.bl true)) (S.set p o') := by
  obtain ⟨q, o1, ho1, ok, e1⟩ := plan_eq (hours := 8) (docks := 5) (size := 40) (lanes := 12) hp ho (by decide) (by decide) (by decide) (by decide) (by decide) (by decide) (by decide) (by decide)
  obtain ⟨q2, o2, ho2, ok2, ne, e2⟩ := otherwise_eq (S := S.set p o1) (p := p) (o := o1) (get_set hp) ho1 ok
  rw [List.set_set] at e2
  have to := townOf_ok ok (by decide) (by decide) (by decide) (by decide)
  have pf := PlF.of ok (by decide)
  have mk : ∀ T, makeW false "Town" F_Town___init__ [.val (.int q.slots), .val (eSs q.stands), .val (eRs (named q))] T = .ok (.val (tObj (townOf q))) T := fun T => make_town (t := townOf q) (S := T) to
  refine ⟨o2, ho2, callV (S1 := S.set p o2) rfl ?_ take_set⟩
  rw [right_body_eq]
  refine seqS (asgS (callS rfl e1)) (seqS (asgS (callS rfl e2)) (seqS (asgS (call1S (varS rfl) (named_eq pf))) (seqS (asgS (lstS (.cons (makeS (.cons (ixS (varS rfl) cS (atI0 _ _)) (.cons (ixS (varS rfl) cS (atI1 _ _ _)) (.cons (varS rfl) .nil))) (mk _)) (.cons (makeKS (.cons (varS rfl) (.cons (ixS (varS rfl) cS (atI0 _ _)) (.cons (ixS (varS rfl) cS (atI1 _ _ _)) .nil))) rfl (makeK1.trans (mk _))) .nil)) (Nat.le_of_ble_eq_true rfl))) ?_)))
  have rs : ∀ r ∈ named q, PyData.strOk r.1 = true ∧ PyData.strOk r.2.1 = true := fun r hr => ⟨name_ok (to.rds r hr).1, name_ok (to.rds r hr).2.1⟩
  by_cases hz : named q = []
  · have mk2 : ∀ T, makeW false "Town" F_Town___init__ [.val (.int q.slots), .val (eSs q.stands), .val (.tup [])] T = .ok (.val (tObj (townOf q))) T := fun T => by
      have := mk T
      rw [hz] at this
      exact this
    refine seqS (ifT (testS (binD (varS rfl) (tupV .nil (by decide)) (by rw [eq_roads rs, decide_eq_true hz]))) (asgS (binD (varS rfl) (lstS (.cons (makeDS (.cons (ixS (varS rfl) cS (atI0 _ _)) (.cons (ixS (varS rfl) cS (atI1 _ _ _)) .nil)) (mk2 _)) (.cons (makeKS (.cons (ixS (varS rfl) cS (atI1 _ _ _)) (.cons (ixS (varS rfl) cS (atI0 _ _)) .nil)) rfl (makeK2.trans (mk2 _))) .nil)) (Nat.le_of_ble_eq_true rfl)) (addLst (Nat.le_of_ble_eq_true rfl))))) ?_
    exact tail_eq (n := 4) (o := o2) (by decide) ok ok2 ne
  · refine seqS (ifF (testS (binD (varS rfl) (tupV .nil (by decide)) (by rw [eq_roads rs, decide_eq_false hz]))) rfl) ?_
    exact tail_eq (n := 2) (o := o2) (by decide) ok ok2 ne
end
end Bk
set_option Elab.async false
set_option linter.all false
set_option maxRecDepth 100000
set_option maxHeartbeats 400000
namespace Bk
open PySem AM
theorem law_true (ns : List Int) (h : ns.length ≤ 63) : ∃ S, F_law [.val (.fl (ns.map D.int))] [] = .ok (.val (.bl true)) S := by
  obtain ⟨k, hk, hk2⟩ : ∃ k : Nat, (k : Int) = (if (if (8 : Int) < (ns.length : Int) then (8 : Int) else (ns.length : Int)) > 2 then (if (8 : Int) < (ns.length : Int) then (8 : Int) else (ns.length : Int)) else 2) ∧ k ≤ 8 := by
    by_cases h1 : (8 : Int) < (ns.length : Int)
    · exact ⟨8, by simp [h1], by omega⟩
    · by_cases h2 : (ns.length : Int) > 2
      · exact ⟨ns.length, by rw [if_neg h1, if_pos h2], by omega⟩
      · exact ⟨2, by rw [if_neg h1, if_neg h2]; rfl, by omega⟩
  refine ⟨[], callE rfl (retS (bi1S (d := .lst ((List.range k).map fun _ => .bl true)) ?_ ?_))⟩
  · refine cLc_grow (enc := fun (j : Nat) => D.int (0 + (j : Int))) (f := fun _ => D.bl true) (List.range k) (range1S ?_ (by omega)) (fun j hj => ⟨_, rfl, fun T => ?_⟩) (by rw [szl, List.length_range]; omega)
    · refine consS ?_ rfl
      rw [hk]
      exact bi2S cS (bi2S (bi1S (r := .int ns.length) (varS rfl) (by simp only [lenD, List.length_map])) cS rfl) rfl
    · obtain ⟨z, ez⟩ := cell_eq (ns := ns) (k := j) (S := T)
      obtain ⟨o, eo, ho⟩ := source_eq (S := T) (z := z)
      obtain ⟨o', ho', er⟩ := right_eq (S := T ++ [o]) (p := T.length) (o := o) last_app ho
      rw [set_last] at er
      rw [← Int.zero_add (j : Int)] at ez
      exact ⟨[o'], callS (consS (callS (consS (call2S (varS rfl) (varS rfl) ez) rfl) eo) rfl) er⟩
  · rw [allD_map (fun (_ : Nat) => true)]
    simp
end Bk
set_option Elab.async false
set_option linter.all false
set_option maxRecDepth 100000
set_option maxHeartbeats 4000000
namespace Bk
open PySem PySem.Spec PyProof.Rows L2 PySem.NumText
open PySem.W (Frag)
def top (i : Nat) : Stmt := PySem.Challenge.pw_bikestands_k02_towns_made.main.body.getD i (.Pass ⟨0, 0, 0, 0⟩)
abbrev s_number_of : Stmt := top 13
abbrev s_told_by : Stmt := top 14
abbrev s_read_ask : Stmt := top 15
abbrev s_read_bounds : Stmt := top 16
abbrev s_read_fact : Stmt := top 17
abbrev s_is_integer : Stmt := top 29
abbrev s_is_between : Stmt := top 30
abbrev s_is_name : Stmt := top 31
abbrev s_is_stand : Stmt := top 33
abbrev s_check_stands : Stmt := top 34
abbrev s_is_among : Stmt := top 35
abbrev s_is_road : Stmt := top 36
abbrev s_check_roads : Stmt := top 37
abbrev s_lines_of : Stmt := top 39
abbrev s_Town___init__ : Stmt := inClass (top 40) 0
abbrev s_Town_slots : Stmt := inClass (top 40) 2
abbrev s_Town_stands : Stmt := inClass (top 40) 3
abbrev s_Town_roads : Stmt := inClass (top 40) 4
abbrev s_Town_names : Stmt := inClass (top 40) 5
abbrev s_Town_is_fact : Stmt := inClass (top 40) 7
abbrev s_Town_road_time : Stmt := inClass (top 40) 8
abbrev s_Town___eq__ : Stmt := inClass (top 40) 9
abbrev s_Town___str__ : Stmt := inClass (top 40) 10
abbrev s_Town___repr__ : Stmt := inClass (top 40) 11
abbrev s_check_town : Stmt := top 41
abbrev s_check_facts : Stmt := top 44
abbrev s_Log___init__ : Stmt := inClass (top 46) 0
abbrev s__law_cell : Stmt := top 49
abbrev s__law_source : Stmt := top 50
abbrev s__law_draw : Stmt := top 51
abbrev s__law_word : Stmt := top 52
abbrev s__law_plan : Stmt := top 53
abbrev s__law_named : Stmt := top 54
abbrev s__law_lines : Stmt := top 55
abbrev s__law_text : Stmt := top 56
abbrev s__law_town : Stmt := top 57
abbrev s__law_shown_right : Stmt := top 58
abbrev s__law_otherwise : Stmt := top 59
abbrev s__law_right : Stmt := top 60
abbrev s_law : Stmt := top 61
def d_number_of : He5.DefA := ⟨fun K => He.ga K "number_of", "number_of", "number_of", defArgs s_number_of, defBody s_number_of, defScope s_number_of, [], []⟩
def d_told_by : He5.DefA := ⟨fun K => He.ga K "told_by", "told_by", "told_by", defArgs s_told_by, defBody s_told_by, defScope s_told_by, [], []⟩
def d_read_ask : He5.DefA := ⟨fun K => He.ga K "read_ask", "read_ask", "read_ask", defArgs s_read_ask, defBody s_read_ask, defScope s_read_ask, [], []⟩
def d_read_bounds : He5.DefA := ⟨fun K => He.ga K "read_bounds", "read_bounds", "read_bounds", defArgs s_read_bounds, defBody s_read_bounds, defScope s_read_bounds, [], []⟩
def d_read_fact : He5.DefA := ⟨fun K => He.ga K "read_fact", "read_fact", "read_fact", defArgs s_read_fact, defBody s_read_fact, defScope s_read_fact, [], []⟩
def d_is_integer : He5.DefA := ⟨fun K => He.ga K "is_integer", "is_integer", "is_integer", defArgs s_is_integer, defBody s_is_integer, defScope s_is_integer, [], []⟩
def d_is_between : He5.DefA := ⟨fun K => He.ga K "is_between", "is_between", "is_between", defArgs s_is_between, defBody s_is_between, defScope s_is_between, [], []⟩
def d_is_name : He5.DefA := ⟨fun K => He.ga K "is_name", "is_name", "is_name", defArgs s_is_name, defBody s_is_name, defScope s_is_name, [], []⟩
def d_is_stand : He5.DefA := ⟨fun K => He.ga K "is_stand", "is_stand", "is_stand", defArgs s_is_stand, defBody s_is_stand, defScope s_is_stand, [], []⟩
def d_check_stands : He5.DefA := ⟨fun K => He.ga K "check_stands", "check_stands", "check_stands", defArgs s_check_stands, defBody s_check_stands, defScope s_check_stands, [], []⟩
def d_is_among : He5.DefA := ⟨fun K => He.ga K "is_among", "is_among", "is_among", defArgs s_is_among, defBody s_is_among, defScope s_is_among, [], []⟩
def d_is_road : He5.DefA := ⟨fun K => He.ga K "is_road", "is_road", "is_road", defArgs s_is_road, defBody s_is_road, defScope s_is_road, [], []⟩
def d_check_roads : He5.DefA := ⟨fun K => He.ga K "check_roads", "check_roads", "check_roads", defArgs s_check_roads, defBody s_check_roads, defScope s_check_roads, [], []⟩
def d_lines_of : He5.DefA := ⟨fun K => He.ga K "lines_of", "lines_of", "lines_of", defArgs s_lines_of, defBody s_lines_of, defScope s_lines_of, [], []⟩
def d_Town___init__ : He5.DefA := ⟨fun K => He.ma K (He.ga K "Town") "__init__", "__init__", "Town.__init__", defArgs s_Town___init__, defBody s_Town___init__, defScope s_Town___init__, [.adr (He.dflAt ("Town", some "__init__") 0)], []⟩
def d_Town_slots : He5.DefA := ⟨fun K => He5.wf K (He.ga K "Town") "property" "slots", "slots", "Town.slots", defArgs s_Town_slots, defBody s_Town_slots, defScope s_Town_slots, [], []⟩
def d_Town_stands : He5.DefA := ⟨fun K => He5.wf K (He.ga K "Town") "property" "stands", "stands", "Town.stands", defArgs s_Town_stands, defBody s_Town_stands, defScope s_Town_stands, [], []⟩
def d_Town_roads : He5.DefA := ⟨fun K => He5.wf K (He.ga K "Town") "property" "roads", "roads", "Town.roads", defArgs s_Town_roads, defBody s_Town_roads, defScope s_Town_roads, [], []⟩
def d_Town_names : He5.DefA := ⟨fun K => He5.wf K (He.ga K "Town") "property" "names", "names", "Town.names", defArgs s_Town_names, defBody s_Town_names, defScope s_Town_names, [], []⟩
def d_Town_is_fact : He5.DefA := ⟨fun K => He.ma K (He.ga K "Town") "is_fact", "is_fact", "Town.is_fact", defArgs s_Town_is_fact, defBody s_Town_is_fact, defScope s_Town_is_fact, [], []⟩
def d_Town_road_time : He5.DefA := ⟨fun K => He.ma K (He.ga K "Town") "road_time", "road_time", "Town.road_time", defArgs s_Town_road_time, defBody s_Town_road_time, defScope s_Town_road_time, [], []⟩
def d_Town___eq__ : He5.DefA := ⟨fun K => He.ma K (He.ga K "Town") "__eq__", "__eq__", "Town.__eq__", defArgs s_Town___eq__, defBody s_Town___eq__, defScope s_Town___eq__, [], []⟩
def d_Town___str__ : He5.DefA := ⟨fun K => He.ma K (He.ga K "Town") "__str__", "__str__", "Town.__str__", defArgs s_Town___str__, defBody s_Town___str__, defScope s_Town___str__, [], []⟩
def d_Town___repr__ : He5.DefA := ⟨fun K => He.ma K (He.ga K "Town") "__repr__", "__repr__", "Town.__repr__", defArgs s_Town___repr__, defBody s_Town___repr__, defScope s_Town___repr__, [], []⟩
def d_check_town : He5.DefA := ⟨fun K => He.ga K "check_town", "check_town", "check_town", defArgs s_check_town, defBody s_check_town, defScope s_check_town, [], []⟩
def d_check_facts : He5.DefA := ⟨fun K => He.ga K "check_facts", "check_facts", "check_facts", defArgs s_check_facts, defBody s_check_facts, defScope s_check_facts, [], []⟩
def d_Log___init__ : He5.DefA := ⟨fun K => He.ma K (He.ga K "Log") "__init__", "__init__", "Log.__init__", defArgs s_Log___init__, defBody s_Log___init__, defScope s_Log___init__, [.adr (He.dflAt ("Log", some "__init__") 0)], []⟩
def d__law_cell : He5.DefA := ⟨fun K => He.ga K "_law_cell", "_law_cell", "_law_cell", defArgs s__law_cell, defBody s__law_cell, defScope s__law_cell, [], []⟩
def d__law_source : He5.DefA := ⟨fun K => He.ga K "_law_source", "_law_source", "_law_source", defArgs s__law_source, defBody s__law_source, defScope s__law_source, [], []⟩
def d__law_draw : He5.DefA := ⟨fun K => He.ga K "_law_draw", "_law_draw", "_law_draw", defArgs s__law_draw, defBody s__law_draw, defScope s__law_draw, [], []⟩
def d__law_word : He5.DefA := ⟨fun K => He.ga K "_law_word", "_law_word", "_law_word", defArgs s__law_word, defBody s__law_word, defScope s__law_word, [], []⟩
def d__law_plan : He5.DefA := ⟨fun K => He.ga K "_law_plan", "_law_plan", "_law_plan", defArgs s__law_plan, defBody s__law_plan, defScope s__law_plan, [], []⟩
def d__law_named : He5.DefA := ⟨fun K => He.ga K "_law_named", "_law_named", "_law_named", defArgs s__law_named, defBody s__law_named, defScope s__law_named, [], []⟩
def d__law_lines : He5.DefA := ⟨fun K => He.ga K "_law_lines", "_law_lines", "_law_lines", defArgs s__law_lines, defBody s__law_lines, defScope s__law_lines, [], []⟩
def d__law_text : He5.DefA := ⟨fun K => He.ga K "_law_text", "_law_text", "_law_text", defArgs s__law_text, defBody s__law_text, defScope s__law_text, [], []⟩
def d__law_town : He5.DefA := ⟨fun K => He.ga K "_law_town", "_law_town", "_law_town", defArgs s__law_town, defBody s__law_town, defScope s__law_town, [], []⟩
def d__law_shown_right : He5.DefA := ⟨fun K => He.ga K "_law_shown_right", "_law_shown_right", "_law_shown_right", defArgs s__law_shown_right, defBody s__law_shown_right, defScope s__law_shown_right, [], []⟩
def d__law_otherwise : He5.DefA := ⟨fun K => He.ga K "_law_otherwise", "_law_otherwise", "_law_otherwise", defArgs s__law_otherwise, defBody s__law_otherwise, defScope s__law_otherwise, [], []⟩
def d__law_right : He5.DefA := ⟨fun K => He.ga K "_law_right", "_law_right", "_law_right", defArgs s__law_right, defBody s__law_right, defScope s__law_right, [], []⟩
def d_law : He5.DefA := ⟨fun K => He.ga K "law", "law", "law", defArgs s_law, defBody s_law, defScope s_law, [], []⟩
def fn0 : List He5.DefA := [d_number_of, d_told_by, d_read_ask, d_read_bounds, d_read_fact, d_is_integer, d_is_between, d_is_name, d_is_stand, d_check_stands, d_is_among, d_is_road, d_check_roads, d_lines_of, d_Town___init__, d_Town_slots, d_Town_stands, d_Town_roads, d_Town_names, d_Town_is_fact, d_Town_road_time, d_Town___eq__, d_Town___str__, d_Town___repr__, d_check_town, d_check_facts, d_Log___init__, d__law_cell, d__law_source, d__law_draw]
def fn1 : List He5.DefA := [d__law_word, d__law_plan, d__law_named, d__law_lines, d__law_text, d__law_town, d__law_shown_right, d__law_otherwise, d__law_right, d_law]
def fn : List He5.DefA := fn0 ++ fn1
def fx : List DefX := []
abbrev fileN : Str := (PySem.Challenge.pw_bikestands_k02_towns_made.main.file : Str)
def fa0 : List He.Fa := [.glo "PLAIN", .glo "WHOLE", .glo "number_of", .glo "told_by", .glo "read_ask", .glo "read_bounds", .glo "read_fact", .glo "is_integer", .glo "is_between", .glo "is_name", .glo "is_stand", .glo "check_stands", .glo "is_among", .glo "is_road", .glo "check_roads", .glo "lines_of", .glo "Town", .glo "check_town", .glo "check_facts", .glo "Log", .glo "_law_cell", .glo "_law_source", .glo "_law_draw", .glo "_law_word", .glo "_law_plan", .glo "_law_named", .glo "_law_lines", .glo "_law_text", .glo "_law_town", .glo "_law_shown_right"]
def fa1 : List He.Fa := [.glo "_law_otherwise", .glo "_law_right", .glo "law", .free "len", .free "str", .free "int", .free "all", .free "max", .free "min", .free "range", .free "enumerate", .free "zip", .free "isinstance", .free "tuple", .free "abs", .free "divmod", .free "repr", .free "bool", .int "MOST_SLOTS" 8, .int "MOST_STANDS" 5, .int "MOST_SIZE" 40, .int "MOST_ROADS" 12, .int "MOST_TIME" 3, .int "MOST_FACTS" 12, .int "MOST_NUMBER" 9999, .str "DIGITS" "0123456789", .str "LETTERS" "abcdefghijklmnopqrstuvwxyz", .cls "Town", .mkr "Town", .noat "Town" "_slots"]
def fa2 : List He.Fa := [.noat "Town" "_stands", .noat "Town" "_roads", .noat "Town" "_names", .meth "Town" "is_fact", .meth "Town" "road_time", .meth "Town" "__eq__", .meth "Town" "__str__", .meth "Town" "__repr__", .cls "Log", .mkr "Log", .noat "Log" "_town", .noat "Log" "_facts", .glo "FORMS"]
def fa : List He.Fa := fa0 ++ fa1 ++ fa2
def xx0 : List (Frag → Bool) := [AM.clsB ownC, AM.gdB "PLAIN" gc_PLAIN, AM.gdB "WHOLE" gc_WHOLE, noneB "Town" "__bool__", noneB "Town" "__len__", propB "Town" "slots", propB "Town" "stands", propB "Town" "roads", propB "Town" "names", neB "Town", etB ("Town", some "__init__") 0, etB ("Log", some "__init__") 0, AM.gdicB "FORMS" gv_FORMS]
def xx : List (Frag → Bool) := xx0
def ex (K : Frag) : Bool := (fa.all fun f => f.ok K) && xx.all fun f => f K
def dn : DicL := [("FORMS", gv_FORMS)]
def lo0 : List Str := ["_wall", "MOST_SLOTS", "MOST_STANDS", "MOST_SIZE", "MOST_ROADS", "MOST_TIME", "MOST_FACTS", "MOST_NUMBER", "DIGITS", "PLAIN", "WHOLE", "FORMS", "number_of", "told_by", "read_ask", "read_bounds", "read_fact", "NotRight", "InvalidText", "InvalidSlots", "InvalidPlace", "NotATown", "InvalidStands", "InvalidRoads", "InvalidFacts", "LETTERS", "is_integer", "is_between", "is_name", "is_stand"]
def lo1 : List Str := ["check_stands", "is_among", "is_road", "check_roads", "told_town", "lines_of", "Town", "check_town", "HEADS", "check_facts", "first_fact", "Log", "check_index", "_law_cell", "_law_source", "_law_draw", "_law_word", "_law_plan", "_law_named", "_law_lines", "_law_text", "_law_town", "_law_shown_right", "_law_otherwise", "_law_right"]
def loose : List Str := lo0 ++ lo1
structure Tx (P : Program) (w : World) (K : Frag) (mg : Str → Option Value) : Prop where
  e : SaysE fileN ex fn fx dn w K
  h : ∃ h : Heap, K.In h ∧ h.Ns mainGlobals mg
  pf : ((P.main.file : Str) == fileN) = true
  ps : (P.main.scope.names.lookup ("super" : Str)).isSome = false
section
variable {P : Program} {w : World} {K : Frag} {mg : Str → Option Value}
theorem Tx.c (T : Tx P w K mg) : SaysC fileN ex fn fx K := T.e.toC
theorem Tx.fct (T : Tx P w K mg) (i : Nat) {f : He.Fa} (h : fa[i]? = some f := by rfl) : f.ok K = true :=
  List.all_eq_true.mp (show (fa.all fun f => f.ok K) = true from (He.ba T.c.ex).1) f (List.mem_of_getElem? h)
theorem Tx.xt (T : Tx P w K mg) (i : Nat) {f : Frag → Bool} (h : xx[i]? = some f := by rfl) : f K = true :=
  List.all_eq_true.mp (show (xx.all fun f => f K) = true from (He.ba T.c.ex).2) f (List.mem_of_getElem? h)
theorem g_PLAIN (T : Tx P w K mg) : mg "PLAIN" = some (.ref (He.ga K "PLAIN")) := let ⟨_, X, G⟩ := T.h; He.glo_ok X G (T.fct 0)
theorem g_WHOLE (T : Tx P w K mg) : mg "WHOLE" = some (.ref (He.ga K "WHOLE")) := let ⟨_, X, G⟩ := T.h; He.glo_ok X G (T.fct 1)
theorem g_number_of (T : Tx P w K mg) : mg "number_of" = some (.ref (He.ga K "number_of")) := let ⟨_, X, G⟩ := T.h; He.glo_ok X G (T.fct 2)
theorem g_told_by (T : Tx P w K mg) : mg "told_by" = some (.ref (He.ga K "told_by")) := let ⟨_, X, G⟩ := T.h; He.glo_ok X G (T.fct 3)
theorem g_read_ask (T : Tx P w K mg) : mg "read_ask" = some (.ref (He.ga K "read_ask")) := let ⟨_, X, G⟩ := T.h; He.glo_ok X G (T.fct 4)
theorem g_read_bounds (T : Tx P w K mg) : mg "read_bounds" = some (.ref (He.ga K "read_bounds")) := let ⟨_, X, G⟩ := T.h; He.glo_ok X G (T.fct 5)
theorem g_read_fact (T : Tx P w K mg) : mg "read_fact" = some (.ref (He.ga K "read_fact")) := let ⟨_, X, G⟩ := T.h; He.glo_ok X G (T.fct 6)
theorem g_is_integer (T : Tx P w K mg) : mg "is_integer" = some (.ref (He.ga K "is_integer")) := let ⟨_, X, G⟩ := T.h; He.glo_ok X G (T.fct 7)
theorem g_is_between (T : Tx P w K mg) : mg "is_between" = some (.ref (He.ga K "is_between")) := let ⟨_, X, G⟩ := T.h; He.glo_ok X G (T.fct 8)
theorem g_is_name (T : Tx P w K mg) : mg "is_name" = some (.ref (He.ga K "is_name")) := let ⟨_, X, G⟩ := T.h; He.glo_ok X G (T.fct 9)
theorem g_is_stand (T : Tx P w K mg) : mg "is_stand" = some (.ref (He.ga K "is_stand")) := let ⟨_, X, G⟩ := T.h; He.glo_ok X G (T.fct 10)
theorem g_check_stands (T : Tx P w K mg) : mg "check_stands" = some (.ref (He.ga K "check_stands")) := let ⟨_, X, G⟩ := T.h; He.glo_ok X G (T.fct 11)
theorem g_is_among (T : Tx P w K mg) : mg "is_among" = some (.ref (He.ga K "is_among")) := let ⟨_, X, G⟩ := T.h; He.glo_ok X G (T.fct 12)
theorem g_is_road (T : Tx P w K mg) : mg "is_road" = some (.ref (He.ga K "is_road")) := let ⟨_, X, G⟩ := T.h; He.glo_ok X G (T.fct 13)
theorem g_check_roads (T : Tx P w K mg) : mg "check_roads" = some (.ref (He.ga K "check_roads")) := let ⟨_, X, G⟩ := T.h; He.glo_ok X G (T.fct 14)
theorem g_lines_of (T : Tx P w K mg) : mg "lines_of" = some (.ref (He.ga K "lines_of")) := let ⟨_, X, G⟩ := T.h; He.glo_ok X G (T.fct 15)
theorem g_Town (T : Tx P w K mg) : mg "Town" = some (.ref (He.ga K "Town")) := let ⟨_, X, G⟩ := T.h; He.glo_ok X G (T.fct 16)
theorem g_check_town (T : Tx P w K mg) : mg "check_town" = some (.ref (He.ga K "check_town")) := let ⟨_, X, G⟩ := T.h; He.glo_ok X G (T.fct 17)
theorem g_check_facts (T : Tx P w K mg) : mg "check_facts" = some (.ref (He.ga K "check_facts")) := let ⟨_, X, G⟩ := T.h; He.glo_ok X G (T.fct 18)
theorem g_Log (T : Tx P w K mg) : mg "Log" = some (.ref (He.ga K "Log")) := let ⟨_, X, G⟩ := T.h; He.glo_ok X G (T.fct 19)
theorem g__law_cell (T : Tx P w K mg) : mg "_law_cell" = some (.ref (He.ga K "_law_cell")) := let ⟨_, X, G⟩ := T.h; He.glo_ok X G (T.fct 20)
theorem g__law_source (T : Tx P w K mg) : mg "_law_source" = some (.ref (He.ga K "_law_source")) := let ⟨_, X, G⟩ := T.h; He.glo_ok X G (T.fct 21)
theorem g__law_draw (T : Tx P w K mg) : mg "_law_draw" = some (.ref (He.ga K "_law_draw")) := let ⟨_, X, G⟩ := T.h; He.glo_ok X G (T.fct 22)
theorem g__law_word (T : Tx P w K mg) : mg "_law_word" = some (.ref (He.ga K "_law_word")) := let ⟨_, X, G⟩ := T.h; He.glo_ok X G (T.fct 23)
theorem g__law_plan (T : Tx P w K mg) : mg "_law_plan" = some (.ref (He.ga K "_law_plan")) := let ⟨_, X, G⟩ := T.h; He.glo_ok X G (T.fct 24)
theorem g__law_named (T : Tx P w K mg) : mg "_law_named" = some (.ref (He.ga K "_law_named")) := let ⟨_, X, G⟩ := T.h; He.glo_ok X G (T.fct 25)
theorem g__law_lines (T : Tx P w K mg) : mg "_law_lines" = some (.ref (He.ga K "_law_lines")) := let ⟨_, X, G⟩ := T.h; He.glo_ok X G (T.fct 26)
theorem g__law_text (T : Tx P w K mg) : mg "_law_text" = some (.ref (He.ga K "_law_text")) := let ⟨_, X, G⟩ := T.h; He.glo_ok X G (T.fct 27)
theorem g__law_town (T : Tx P w K mg) : mg "_law_town" = some (.ref (He.ga K "_law_town")) := let ⟨_, X, G⟩ := T.h; He.glo_ok X G (T.fct 28)
theorem g__law_shown_right (T : Tx P w K mg) : mg "_law_shown_right" = some (.ref (He.ga K "_law_shown_right")) := let ⟨_, X, G⟩ := T.h; He.glo_ok X G (T.fct 29)
theorem g__law_otherwise (T : Tx P w K mg) : mg "_law_otherwise" = some (.ref (He.ga K "_law_otherwise")) := let ⟨_, X, G⟩ := T.h; He.glo_ok X G (T.fct 30)
theorem g__law_right (T : Tx P w K mg) : mg "_law_right" = some (.ref (He.ga K "_law_right")) := let ⟨_, X, G⟩ := T.h; He.glo_ok X G (T.fct 31)
theorem g_law (T : Tx P w K mg) : mg "law" = some (.ref (He.ga K "law")) := let ⟨_, X, G⟩ := T.h; He.glo_ok X G (T.fct 32)
theorem b_len (T : Tx P w K mg) : mg "len" = none := let ⟨_, X, G⟩ := T.h; He.free_ok X G (T.fct 33)
theorem b_str (T : Tx P w K mg) : mg "str" = none := let ⟨_, X, G⟩ := T.h; He.free_ok X G (T.fct 34)
theorem b_int (T : Tx P w K mg) : mg "int" = none := let ⟨_, X, G⟩ := T.h; He.free_ok X G (T.fct 35)
theorem b_all (T : Tx P w K mg) : mg "all" = none := let ⟨_, X, G⟩ := T.h; He.free_ok X G (T.fct 36)
theorem b_max (T : Tx P w K mg) : mg "max" = none := let ⟨_, X, G⟩ := T.h; He.free_ok X G (T.fct 37)
theorem b_min (T : Tx P w K mg) : mg "min" = none := let ⟨_, X, G⟩ := T.h; He.free_ok X G (T.fct 38)
theorem b_range (T : Tx P w K mg) : mg "range" = none := let ⟨_, X, G⟩ := T.h; He.free_ok X G (T.fct 39)
theorem b_enumerate (T : Tx P w K mg) : mg "enumerate" = none := let ⟨_, X, G⟩ := T.h; He.free_ok X G (T.fct 40)
theorem b_zip (T : Tx P w K mg) : mg "zip" = none := let ⟨_, X, G⟩ := T.h; He.free_ok X G (T.fct 41)
theorem b_isinstance (T : Tx P w K mg) : mg "isinstance" = none := let ⟨_, X, G⟩ := T.h; He.free_ok X G (T.fct 42)
theorem b_tuple (T : Tx P w K mg) : mg "tuple" = none := let ⟨_, X, G⟩ := T.h; He.free_ok X G (T.fct 43)
theorem b_abs (T : Tx P w K mg) : mg "abs" = none := let ⟨_, X, G⟩ := T.h; He.free_ok X G (T.fct 44)
theorem b_divmod (T : Tx P w K mg) : mg "divmod" = none := let ⟨_, X, G⟩ := T.h; He.free_ok X G (T.fct 45)
theorem b_repr (T : Tx P w K mg) : mg "repr" = none := let ⟨_, X, G⟩ := T.h; He.free_ok X G (T.fct 46)
theorem b_bool (T : Tx P w K mg) : mg "bool" = none := let ⟨_, X, G⟩ := T.h; He.free_ok X G (T.fct 47)
theorem c_MOST_SLOTS (T : Tx P w K mg) : ∃ t, mg "MOST_SLOTS" = some (.int 8 t) := let ⟨_, X, G⟩ := T.h; He.int_ok X G (T.fct 48)
theorem c_MOST_STANDS (T : Tx P w K mg) : ∃ t, mg "MOST_STANDS" = some (.int 5 t) := let ⟨_, X, G⟩ := T.h; He.int_ok X G (T.fct 49)
theorem c_MOST_SIZE (T : Tx P w K mg) : ∃ t, mg "MOST_SIZE" = some (.int 40 t) := let ⟨_, X, G⟩ := T.h; He.int_ok X G (T.fct 50)
theorem c_MOST_ROADS (T : Tx P w K mg) : ∃ t, mg "MOST_ROADS" = some (.int 12 t) := let ⟨_, X, G⟩ := T.h; He.int_ok X G (T.fct 51)
theorem c_MOST_TIME (T : Tx P w K mg) : ∃ t, mg "MOST_TIME" = some (.int 3 t) := let ⟨_, X, G⟩ := T.h; He.int_ok X G (T.fct 52)
theorem c_MOST_FACTS (T : Tx P w K mg) : ∃ t, mg "MOST_FACTS" = some (.int 12 t) := let ⟨_, X, G⟩ := T.h; He.int_ok X G (T.fct 53)
theorem c_MOST_NUMBER (T : Tx P w K mg) : ∃ t, mg "MOST_NUMBER" = some (.int 9999 t) := let ⟨_, X, G⟩ := T.h; He.int_ok X G (T.fct 54)
theorem c_DIGITS (T : Tx P w K mg) : ∃ t, mg "DIGITS" = some (.str "0123456789" t) := let ⟨_, X, G⟩ := T.h; He.str_ok X G (T.fct 55)
theorem c_LETTERS (T : Tx P w K mg) : ∃ t, mg "LETTERS" = some (.str "abcdefghijklmnopqrstuvwxyz" t) := let ⟨_, X, G⟩ := T.h; He.str_ok X G (T.fct 56)
theorem cl_Town (T : Tx P w K mg) : Cls K (He.ga K "Town") := He.cls_ok (T.fct 57)
theorem mk_Town (T : Tx P w K mg) : Mk K (He.ga K "Town") (He.ma K (He.ga K "Town") "__init__") := He.mkr_ok (T.fct 58)
theorem na_Town__slots (T : Tx P w K mg) : NoAttr K (He.ga K "Town") "_slots" := He.noat_ok (T.fct 59)
theorem na_Town__stands (T : Tx P w K mg) : NoAttr K (He.ga K "Town") "_stands" := He.noat_ok (T.fct 60)
theorem na_Town__roads (T : Tx P w K mg) : NoAttr K (He.ga K "Town") "_roads" := He.noat_ok (T.fct 61)
theorem na_Town__names (T : Tx P w K mg) : NoAttr K (He.ga K "Town") "_names" := He.noat_ok (T.fct 62)
theorem mt_Town_is_fact (T : Tx P w K mg) : Meth K (He.ga K "Town") "is_fact" (He.ma K (He.ga K "Town") "is_fact") := He.meth_ok (T.fct 63)
theorem mt_Town_road_time (T : Tx P w K mg) : Meth K (He.ga K "Town") "road_time" (He.ma K (He.ga K "Town") "road_time") := He.meth_ok (T.fct 64)
theorem mt_Town___eq__ (T : Tx P w K mg) : Meth K (He.ga K "Town") "__eq__" (He.ma K (He.ga K "Town") "__eq__") := He.meth_ok (T.fct 65)
theorem mt_Town___str__ (T : Tx P w K mg) : Meth K (He.ga K "Town") "__str__" (He.ma K (He.ga K "Town") "__str__") := He.meth_ok (T.fct 66)
theorem mt_Town___repr__ (T : Tx P w K mg) : Meth K (He.ga K "Town") "__repr__" (He.ma K (He.ga K "Town") "__repr__") := He.meth_ok (T.fct 67)
theorem cl_Log (T : Tx P w K mg) : Cls K (He.ga K "Log") := He.cls_ok (T.fct 68)
theorem mk_Log (T : Tx P w K mg) : Mk K (He.ga K "Log") (He.ma K (He.ga K "Log") "__init__") := He.mkr_ok (T.fct 69)
theorem na_Log__town (T : Tx P w K mg) : NoAttr K (He.ga K "Log") "_town" := He.noat_ok (T.fct 70)
theorem na_Log__facts (T : Tx P w K mg) : NoAttr K (He.ga K "Log") "_facts" := He.noat_ok (T.fct 71)
theorem g_FORMS (T : Tx P w K mg) : mg "FORMS" = some (.ref (He.ga K "FORMS")) := let ⟨_, X, G⟩ := T.h; He.glo_ok X G (T.fct 72)
theorem own_all (T : Tx P w K mg) : AM.clsB ownC K = true := T.xt 0
theorem gd_PLAIN (T : Tx P w K mg) : AM.gdB "PLAIN" gc_PLAIN K = true := T.xt 1
theorem gd_WHOLE (T : Tx P w K mg) : AM.gdB "WHOLE" gc_WHOLE K = true := T.xt 2
theorem no_Town___bool__ (T : Tx P w K mg) : noneB "Town" "__bool__" K = true := T.xt 3
theorem no_Town___len__ (T : Tx P w K mg) : noneB "Town" "__len__" K = true := T.xt 4
theorem pr_Town_slots (T : Tx P w K mg) : propB "Town" "slots" K = true := T.xt 5
theorem pr_Town_stands (T : Tx P w K mg) : propB "Town" "stands" K = true := T.xt 6
theorem pr_Town_roads (T : Tx P w K mg) : propB "Town" "roads" K = true := T.xt 7
theorem pr_Town_names (T : Tx P w K mg) : propB "Town" "names" K = true := T.xt 8
theorem ne_Town (T : Tx P w K mg) : neB "Town" K = true := T.xt 9
theorem et_Town___init___0 (T : Tx P w K mg) : etB ("Town", some "__init__") 0 K = true := T.xt 10
theorem et_Log___init___0 (T : Tx P w K mg) : etB ("Log", some "__init__") 0 K = true := T.xt 11
theorem gdb_FORMS (T : Tx P w K mg) : AM.gdicB "FORMS" gv_FORMS K = true := T.xt 12
theorem gdic_FORMS (T : Tx P w K mg) : AM.GDic K w "FORMS" gv_FORMS := T.e.dic 0 rfl (gdb_FORMS T)
theorem FD_number_of (T : Tx P w K mg) : ∃ fd, FunD K "number_of" "number_of" (defArgs s_number_of) (defBody s_number_of) (defScope s_number_of) [] [] (He.ga K "number_of") fd := T.c.def_ 0 (d := d_number_of) rfl
theorem FD_told_by (T : Tx P w K mg) : ∃ fd, FunD K "told_by" "told_by" (defArgs s_told_by) (defBody s_told_by) (defScope s_told_by) [] [] (He.ga K "told_by") fd := T.c.def_ 1 (d := d_told_by) rfl
theorem FD_read_ask (T : Tx P w K mg) : ∃ fd, FunD K "read_ask" "read_ask" (defArgs s_read_ask) (defBody s_read_ask) (defScope s_read_ask) [] [] (He.ga K "read_ask") fd := T.c.def_ 2 (d := d_read_ask) rfl
theorem FD_read_bounds (T : Tx P w K mg) : ∃ fd, FunD K "read_bounds" "read_bounds" (defArgs s_read_bounds) (defBody s_read_bounds) (defScope s_read_bounds) [] [] (He.ga K "read_bounds") fd := T.c.def_ 3 (d := d_read_bounds) rfl
theorem FD_read_fact (T : Tx P w K mg) : ∃ fd, FunD K "read_fact" "read_fact" (defArgs s_read_fact) (defBody s_read_fact) (defScope s_read_fact) [] [] (He.ga K "read_fact") fd := T.c.def_ 4 (d := d_read_fact) rfl
theorem FD_is_integer (T : Tx P w K mg) : ∃ fd, FunD K "is_integer" "is_integer" (defArgs s_is_integer) (defBody s_is_integer) (defScope s_is_integer) [] [] (He.ga K "is_integer") fd := T.c.def_ 5 (d := d_is_integer) rfl
theorem FD_is_between (T : Tx P w K mg) : ∃ fd, FunD K "is_between" "is_between" (defArgs s_is_between) (defBody s_is_between) (defScope s_is_between) [] [] (He.ga K "is_between") fd := T.c.def_ 6 (d := d_is_between) rfl
theorem FD_is_name (T : Tx P w K mg) : ∃ fd, FunD K "is_name" "is_name" (defArgs s_is_name) (defBody s_is_name) (defScope s_is_name) [] [] (He.ga K "is_name") fd := T.c.def_ 7 (d := d_is_name) rfl
theorem FD_is_stand (T : Tx P w K mg) : ∃ fd, FunD K "is_stand" "is_stand" (defArgs s_is_stand) (defBody s_is_stand) (defScope s_is_stand) [] [] (He.ga K "is_stand") fd := T.c.def_ 8 (d := d_is_stand) rfl
theorem FD_check_stands (T : Tx P w K mg) : ∃ fd, FunD K "check_stands" "check_stands" (defArgs s_check_stands) (defBody s_check_stands) (defScope s_check_stands) [] [] (He.ga K "check_stands") fd := T.c.def_ 9 (d := d_check_stands) rfl
theorem FD_is_among (T : Tx P w K mg) : ∃ fd, FunD K "is_among" "is_among" (defArgs s_is_among) (defBody s_is_among) (defScope s_is_among) [] [] (He.ga K "is_among") fd := T.c.def_ 10 (d := d_is_among) rfl
theorem FD_is_road (T : Tx P w K mg) : ∃ fd, FunD K "is_road" "is_road" (defArgs s_is_road) (defBody s_is_road) (defScope s_is_road) [] [] (He.ga K "is_road") fd := T.c.def_ 11 (d := d_is_road) rfl
theorem FD_check_roads (T : Tx P w K mg) : ∃ fd, FunD K "check_roads" "check_roads" (defArgs s_check_roads) (defBody s_check_roads) (defScope s_check_roads) [] [] (He.ga K "check_roads") fd := T.c.def_ 12 (d := d_check_roads) rfl
theorem FD_lines_of (T : Tx P w K mg) : ∃ fd, FunD K "lines_of" "lines_of" (defArgs s_lines_of) (defBody s_lines_of) (defScope s_lines_of) [] [] (He.ga K "lines_of") fd := T.c.def_ 13 (d := d_lines_of) rfl
theorem FD_Town___init__ (T : Tx P w K mg) : ∃ fd, FunD K "__init__" "Town.__init__" (defArgs s_Town___init__) (defBody s_Town___init__) (defScope s_Town___init__) (He5.DefA.dvs K d_Town___init__) [] (He.ma K (He.ga K "Town") "__init__") fd := T.c.def_ 14 (d := d_Town___init__) rfl
theorem FD_Town_slots (T : Tx P w K mg) : ∃ fd, FunD K "slots" "Town.slots" (defArgs s_Town_slots) (defBody s_Town_slots) (defScope s_Town_slots) [] [] (He5.wf K (He.ga K "Town") "property" "slots") fd := T.c.def_ 15 (d := d_Town_slots) rfl
theorem FD_Town_stands (T : Tx P w K mg) : ∃ fd, FunD K "stands" "Town.stands" (defArgs s_Town_stands) (defBody s_Town_stands) (defScope s_Town_stands) [] [] (He5.wf K (He.ga K "Town") "property" "stands") fd := T.c.def_ 16 (d := d_Town_stands) rfl
theorem FD_Town_roads (T : Tx P w K mg) : ∃ fd, FunD K "roads" "Town.roads" (defArgs s_Town_roads) (defBody s_Town_roads) (defScope s_Town_roads) [] [] (He5.wf K (He.ga K "Town") "property" "roads") fd := T.c.def_ 17 (d := d_Town_roads) rfl
theorem FD_Town_names (T : Tx P w K mg) : ∃ fd, FunD K "names" "Town.names" (defArgs s_Town_names) (defBody s_Town_names) (defScope s_Town_names) [] [] (He5.wf K (He.ga K "Town") "property" "names") fd := T.c.def_ 18 (d := d_Town_names) rfl
theorem FD_Town_is_fact (T : Tx P w K mg) : ∃ fd, FunD K "is_fact" "Town.is_fact" (defArgs s_Town_is_fact) (defBody s_Town_is_fact) (defScope s_Town_is_fact) [] [] (He.ma K (He.ga K "Town") "is_fact") fd := T.c.def_ 19 (d := d_Town_is_fact) rfl
theorem FD_Town_road_time (T : Tx P w K mg) : ∃ fd, FunD K "road_time" "Town.road_time" (defArgs s_Town_road_time) (defBody s_Town_road_time) (defScope s_Town_road_time) [] [] (He.ma K (He.ga K "Town") "road_time") fd := T.c.def_ 20 (d := d_Town_road_time) rfl
theorem FD_Town___eq__ (T : Tx P w K mg) : ∃ fd, FunD K "__eq__" "Town.__eq__" (defArgs s_Town___eq__) (defBody s_Town___eq__) (defScope s_Town___eq__) [] [] (He.ma K (He.ga K "Town") "__eq__") fd := T.c.def_ 21 (d := d_Town___eq__) rfl
theorem FD_Town___str__ (T : Tx P w K mg) : ∃ fd, FunD K "__str__" "Town.__str__" (defArgs s_Town___str__) (defBody s_Town___str__) (defScope s_Town___str__) [] [] (He.ma K (He.ga K "Town") "__str__") fd := T.c.def_ 22 (d := d_Town___str__) rfl
theorem FD_Town___repr__ (T : Tx P w K mg) : ∃ fd, FunD K "__repr__" "Town.__repr__" (defArgs s_Town___repr__) (defBody s_Town___repr__) (defScope s_Town___repr__) [] [] (He.ma K (He.ga K "Town") "__repr__") fd := T.c.def_ 23 (d := d_Town___repr__) rfl
theorem FD_check_town (T : Tx P w K mg) : ∃ fd, FunD K "check_town" "check_town" (defArgs s_check_town) (defBody s_check_town) (defScope s_check_town) [] [] (He.ga K "check_town") fd := T.c.def_ 24 (d := d_check_town) rfl
theorem FD_check_facts (T : Tx P w K mg) : ∃ fd, FunD K "check_facts" "check_facts" (defArgs s_check_facts) (defBody s_check_facts) (defScope s_check_facts) [] [] (He.ga K "check_facts") fd := T.c.def_ 25 (d := d_check_facts) rfl
theorem FD_Log___init__ (T : Tx P w K mg) : ∃ fd, FunD K "__init__" "Log.__init__" (defArgs s_Log___init__) (defBody s_Log___init__) (defScope s_Log___init__) (He5.DefA.dvs K d_Log___init__) [] (He.ma K (He.ga K "Log") "__init__") fd := T.c.def_ 26 (d := d_Log___init__) rfl
theorem FD__law_cell (T : Tx P w K mg) : ∃ fd, FunD K "_law_cell" "_law_cell" (defArgs s__law_cell) (defBody s__law_cell) (defScope s__law_cell) [] [] (He.ga K "_law_cell") fd := T.c.def_ 27 (d := d__law_cell) rfl
theorem FD__law_source (T : Tx P w K mg) : ∃ fd, FunD K "_law_source" "_law_source" (defArgs s__law_source) (defBody s__law_source) (defScope s__law_source) [] [] (He.ga K "_law_source") fd := T.c.def_ 28 (d := d__law_source) rfl
theorem FD__law_draw (T : Tx P w K mg) : ∃ fd, FunD K "_law_draw" "_law_draw" (defArgs s__law_draw) (defBody s__law_draw) (defScope s__law_draw) [] [] (He.ga K "_law_draw") fd := T.c.def_ 29 (d := d__law_draw) rfl
theorem FD__law_word (T : Tx P w K mg) : ∃ fd, FunD K "_law_word" "_law_word" (defArgs s__law_word) (defBody s__law_word) (defScope s__law_word) [] [] (He.ga K "_law_word") fd := T.c.def_ 30 (d := d__law_word) rfl
theorem FD__law_plan (T : Tx P w K mg) : ∃ fd, FunD K "_law_plan" "_law_plan" (defArgs s__law_plan) (defBody s__law_plan) (defScope s__law_plan) [] [] (He.ga K "_law_plan") fd := T.c.def_ 31 (d := d__law_plan) rfl
theorem FD__law_named (T : Tx P w K mg) : ∃ fd, FunD K "_law_named" "_law_named" (defArgs s__law_named) (defBody s__law_named) (defScope s__law_named) [] [] (He.ga K "_law_named") fd := T.c.def_ 32 (d := d__law_named) rfl
theorem FD__law_lines (T : Tx P w K mg) : ∃ fd, FunD K "_law_lines" "_law_lines" (defArgs s__law_lines) (defBody s__law_lines) (defScope s__law_lines) [] [] (He.ga K "_law_lines") fd := T.c.def_ 33 (d := d__law_lines) rfl
theorem FD__law_text (T : Tx P w K mg) : ∃ fd, FunD K "_law_text" "_law_text" (defArgs s__law_text) (defBody s__law_text) (defScope s__law_text) [] [] (He.ga K "_law_text") fd := T.c.def_ 34 (d := d__law_text) rfl
theorem FD__law_town (T : Tx P w K mg) : ∃ fd, FunD K "_law_town" "_law_town" (defArgs s__law_town) (defBody s__law_town) (defScope s__law_town) [] [] (He.ga K "_law_town") fd := T.c.def_ 35 (d := d__law_town) rfl
theorem FD__law_shown_right (T : Tx P w K mg) : ∃ fd, FunD K "_law_shown_right" "_law_shown_right" (defArgs s__law_shown_right) (defBody s__law_shown_right) (defScope s__law_shown_right) [] [] (He.ga K "_law_shown_right") fd := T.c.def_ 36 (d := d__law_shown_right) rfl
theorem FD__law_otherwise (T : Tx P w K mg) : ∃ fd, FunD K "_law_otherwise" "_law_otherwise" (defArgs s__law_otherwise) (defBody s__law_otherwise) (defScope s__law_otherwise) [] [] (He.ga K "_law_otherwise") fd := T.c.def_ 37 (d := d__law_otherwise) rfl
theorem FD__law_right (T : Tx P w K mg) : ∃ fd, FunD K "_law_right" "_law_right" (defArgs s__law_right) (defBody s__law_right) (defScope s__law_right) [] [] (He.ga K "_law_right") fd := T.c.def_ 38 (d := d__law_right) rfl
theorem FD_law (T : Tx P w K mg) : ∃ fd, FunD K "law" "law" (defArgs s_law) (defBody s_law) (defScope s_law) [] [] (He.ga K "law") fd := T.c.def_ 39 (d := d_law) rfl
end
theorem own_ok {P : Program} {w : World} {K : Frag} {mg : Str → Option Value} (T : Tx P w K mg) : AM.Own K ownC :=
  ⟨fun C h => by
    simp only [ownC, List.mem_cons, List.not_mem_nil, or_false] at h
    rcases h with rfl | rfl
    · exact cl_Town T
    · exact cl_Log T, own_all T⟩
theorem sc__law_cell : FnScope ["_law_cells", "_law_k", "_law_made", "_law_part_here"] ["_law_cells", "_law_k"] (defScope s__law_cell) := ⟨rfl, rfl, rfl, by decide +kernel, rfl, by decide +kernel, by decide +kernel⟩
theorem ok__law_cell {P : Program} {w : World} {K : Frag} {mg : Str → Option Value} {base : Heap} (T : Tx P w K mg) : DOk P w K mg base 1 "_law_cell" ["_law_cells", "_law_k"] (AM.aSp K F__law_cell) :=
  dok_of (FD__law_cell T) (g__law_cell T) sc__law_cell (fun _ _ _ _ _ _ us hl => match us, hl with | [_, _], _ => rfl) (fun vs H Q E h => AM.aSp_len h) (fun cdv A outer s H vs Q E hr h => ⟨AM.aS K E m__law_cell, (AM.dss_cons (AM.ds_if (AM.dt_cmp AM.oa_lt (AM.dv 1) (AM.de_callB (AM.ca_len rfl) (by rfl) (b_len T) (by decide +kernel) (AM.da_cons (AM.dv 0) AM.da_nil)) (nomark _)) (AM.dss_one (AM.ds_ret (AM.de_ix rfl (AM.dv 0) (AM.dv 1)))) AM.dss_nil) (AM.dss_cons (AM.ds_set (i := 2) sc__law_cell.nd rfl (by first | exact Or.inl rfl | exact Or.inr rfl) (AM.de_op (AM.oa_add rfl) AM.de_int (AM.de_op AM.oa_mul AM.de_int (AM.dv 1)))) (AM.dss_cons (AM.ds_for ownE rfl (AM.di_val rfl (AM.de_slice rfl (AM.dv 0) AM.do_none (AM.do_some AM.de_int))) (AM.dg_name (i := 3) sc__law_cell.nd rfl (by first | exact Or.inl rfl | exact Or.inr rfl)) (AM.dss_one (AM.ds_set (i := 2) sc__law_cell.nd rfl (by first | exact Or.inl rfl | exact Or.inr rfl) (AM.de_op AM.oa_mod (AM.de_callTy AM.ca_int (by rfl) (b_int T) (by decide +kernel) (AM.da_cons (AM.de_op (AM.oa_add rfl) (AM.de_op (AM.oa_add rfl) (AM.de_op AM.oa_mul (AM.dv 2) AM.de_int) (AM.de_op AM.oa_mul (AM.dv 3) AM.de_int)) (AM.dv 1)) AM.da_nil)) AM.de_int)))) (AM.dss_one (AM.ds_ret (AM.dv 2)))))), AM.aSp_start (N := ["_law_cells", "_law_k", "_law_made", "_law_part_here"]) h⟩)
theorem sc_Town_road_time : FnScope ["self", "origin", "target", "road"] ["self", "origin", "target"] (defScope s_Town_road_time) := ⟨rfl, rfl, rfl, by decide +kernel, rfl, by decide +kernel, by decide +kernel⟩
theorem ok_Town_road_time {P : Program} {w : World} {K : Frag} {mg : Str → Option Value} {base : Heap} (T : Tx P w K mg) : MOk P w K mg base 1 (He.ma K (He.ga K "Town") "road_time") ["self", "origin", "target"] (AM.aSp K F_Town_road_time) :=
  mok_of (x := "road_time") (q := "Town.road_time") (FD_Town_road_time T) sc_Town_road_time (fun _ _ _ _ _ _ us hl => match us, hl with | [_, _, _], _ => rfl) (fun vs H Q E h => AM.aSp_len h) (fun cdv A outer s H vs Q E hr h => ⟨AM.aS K E m_Town_road_time, (AM.dss_cons (AM.ds_for ownE rfl (AM.di_val rfl (AM.de_fld (C := "Town") rfl (AM.dv 0) (cl_Town T) (na_Town__roads T))) (AM.dg_name (i := 3) sc_Town_road_time.nd rfl (by first | exact Or.inl rfl | exact Or.inr rfl)) (AM.dss_one (AM.ds_if (AM.dt_cmp (AM.oa_eq rfl hr.units) (AM.de_slice rfl (AM.dv 3) AM.do_none (AM.do_some AM.de_int)) (AM.de_tup (AM.da_cons (AM.dv 1) (AM.da_cons (AM.dv 2) AM.da_nil))) (nomark _)) (AM.dss_one (AM.ds_ret (AM.de_ix rfl (AM.dv 3) AM.de_int))) AM.dss_nil))) (AM.dss_one (AM.ds_ret AM.de_non))), AM.aSp_start (N := ["self", "origin", "target", "road"]) h⟩)
theorem sc_Town_names : FnScope ["self"] ["self"] (defScope s_Town_names) := ⟨rfl, rfl, rfl, by decide +kernel, rfl, by decide +kernel, by decide +kernel⟩
theorem ok_Town_names {P : Program} {w : World} {K : Frag} {mg : Str → Option Value} {base : Heap} (T : Tx P w K mg) : MOk P w K mg base 1 (He5.wf K (He.ga K "Town") "property" "names") ["self"] (AM.aSp K F_Town_names) :=
  mok_of (x := "names") (q := "Town.names") (FD_Town_names T) sc_Town_names (fun _ _ _ _ _ _ us hl => match us, hl with | [_], _ => rfl) (fun vs H Q E h => AM.aSp_len h) (fun cdv A outer s H vs Q E hr h => ⟨AM.aS K E m_Town_names, (AM.dss_one (AM.ds_ret (AM.de_fld (C := "Town") rfl (AM.dv 0) (cl_Town T) (na_Town__names T)))), AM.aSp_start (N := ["self"]) h⟩)
theorem sc_Town_slots : FnScope ["self"] ["self"] (defScope s_Town_slots) := ⟨rfl, rfl, rfl, by decide +kernel, rfl, by decide +kernel, by decide +kernel⟩
theorem ok_Town_slots {P : Program} {w : World} {K : Frag} {mg : Str → Option Value} {base : Heap} (T : Tx P w K mg) : MOk P w K mg base 1 (He5.wf K (He.ga K "Town") "property" "slots") ["self"] (AM.aSp K F_Town_slots) :=
  mok_of (x := "slots") (q := "Town.slots") (FD_Town_slots T) sc_Town_slots (fun _ _ _ _ _ _ us hl => match us, hl with | [_], _ => rfl) (fun vs H Q E h => AM.aSp_len h) (fun cdv A outer s H vs Q E hr h => ⟨AM.aS K E m_Town_slots, (AM.dss_one (AM.ds_ret (AM.de_fld (C := "Town") rfl (AM.dv 0) (cl_Town T) (na_Town__slots T)))), AM.aSp_start (N := ["self"]) h⟩)
theorem sc_number_of : FnScope ["word", "sign"] ["word"] (defScope s_number_of) := ⟨rfl, rfl, rfl, by decide +kernel, rfl, by decide +kernel, by decide +kernel⟩
theorem ok_number_of {P : Program} {w : World} {K : Frag} {mg : Str → Option Value} {base : Heap} (T : Tx P w K mg) : DOk P w K mg base 1 "number_of" ["word"] (AM.aSp K F_number_of) :=
  dok_of (FD_number_of T) (g_number_of T) sc_number_of (fun _ _ _ _ _ _ us hl => match us, hl with | [_], _ => rfl) (fun vs H Q E h => AM.aSp_len h) (fun cdv A outer s H vs Q E hr h => ⟨AM.aS K E m_number_of, (AM.dss_cons (AM.ds_if (PW.pt (AM.dw_or (AM.dt_cmp (AM.oa_eq rfl hr.units) (AM.dv 0) AM.de_str (nomark _)) (AM.dw_or (AM.dt_cmp AM.oa_gt (AM.de_callB (AM.ca_len rfl) (by rfl) (b_len T) (by decide +kernel) (AM.da_cons (AM.dv 0) AM.da_nil)) (AM.de_callB (AM.ca_len rfl) (by rfl) (b_len T) (by decide +kernel) (AM.da_cons (AM.de_callTy AM.ca_str (by rfl) (b_str T) (by decide +kernel) (AM.da_cons (AM.de_gint (by rfl) (c_MOST_NUMBER T)) AM.da_nil)) AM.da_nil)) (nomark _)) (AM.dw_or1 (AM.dt_not (AM.dt_val (AM.de_callB (AM.ca_all rfl rfl) (by rfl) (b_all T) (by decide +kernel) (AM.da_cons (AM.de_lc (mu := false) (E0 := E0) (own := [("sign", 1)]) (by rfl) sc_number_of.nd (AM.di_val rfl (AM.dv 0)) (blkOk_by (own := [("sign", 1)]) (N := ["word", "sign"]) (sc := defScope s_number_of) (by decide +kernel)) (fun _ _ _ _ _ => (AM.dg_name (i := 1) sc_number_of.nd rfl (by first | exact Or.inl rfl | exact Or.inr rfl))) (fun _ _ _ _ _ => AM.dts_nil) (fun _ _ _ _ _ => (AM.de_cmp (AM.oa_in rfl hr.units65) (AM.dv 1) (AM.de_gstr (by rfl) (c_DIGITS T)) (by rfl)))) AM.da_nil)))))))) (AM.dss_one (AM.ds_ret AM.de_non)) AM.dss_nil) (AM.dss_cons (AM.ds_if (PW.pt (AM.dw_and (AM.dt_cmp (AM.oa_eq rfl hr.units) (AM.de_ix rfl (AM.dv 0) AM.de_int) AM.de_str (nomark _)) (AM.dw_and1 (AM.dt_cmp (AM.oa_ne rfl hr.units) (AM.dv 0) AM.de_str (nomark _))))) (AM.dss_one (AM.ds_ret AM.de_non)) AM.dss_nil) (AM.dss_one (AM.ds_ret (AM.de_callTy AM.ca_int (by rfl) (b_int T) (by decide +kernel) (AM.da_cons (AM.dv 0) AM.da_nil)))))), AM.aSp_start (N := ["word", "sign"]) h⟩)
theorem sc_told_by : FnScope ["town", "form", "word", "number", "last"] ["town", "form", "word"] (defScope s_told_by) := ⟨rfl, rfl, rfl, by decide +kernel, rfl, by decide +kernel, by decide +kernel⟩
theorem ok_told_by {P : Program} {w : World} {K : Frag} {mg : Str → Option Value} {base : Heap} (T : Tx P w K mg) : DOk P w K mg base 3 "told_by" ["town", "form", "word"] (AM.aSp K F_told_by) :=
  dok_of (FD_told_by T) (g_told_by T) sc_told_by (fun _ _ _ _ _ _ us hl => match us, hl with | [_, _, _], _ => rfl) (fun vs H Q E h => AM.aSp_len h) (fun cdv A outer s H vs Q E hr h => ⟨AM.aS K E m_told_by, (AM.dss_cons (AM.ds_if (AM.dt_cmp (AM.oa_eq rfl hr.units) (AM.dv 1) AM.de_str (nomark _)) (AM.dss_one (AM.ds_ret (AM.de_if (AM.dt_cmp (AM.oa_in rfl hr.units65) (AM.dv 2) (AM.de_prop rfl (AM.dv 0) (cl_Town T) (propB_ok (pr_Town_names T)) (ok_Town_names T) (hr.mono (by decide))) (by rfl)) (AM.de_tidx rfl (AM.de_prop rfl (AM.dv 0) (cl_Town T) (propB_ok (pr_Town_names T)) (ok_Town_names T) (hr.mono (by decide))) (AM.dv 2)) AM.de_non))) AM.dss_nil) (AM.dss_cons (AM.ds_set (i := 3) sc_told_by.nd rfl (by first | exact Or.inl rfl | exact Or.inr rfl) (AM.de_callD (ok_number_of T) (hr.mono (by decide)) (by rfl) passE (AM.da_cons (AM.dv 2) AM.da_nil))) (AM.dss_cons (AM.ds_set (i := 4) sc_told_by.nd rfl (by first | exact Or.inl rfl | exact Or.inr rfl) (AM.de_if (AM.dt_cmp (AM.oa_eq rfl hr.units) (AM.dv 1) AM.de_str (nomark _)) (AM.de_prop rfl (AM.dv 0) (cl_Town T) (propB_ok (pr_Town_slots T)) (ok_Town_slots T) (hr.mono (by decide))) (AM.de_op AM.oa_sub (AM.de_prop rfl (AM.dv 0) (cl_Town T) (propB_ok (pr_Town_slots T)) (ok_Town_slots T) (hr.mono (by decide))) AM.de_int))) (AM.dss_one (AM.ds_ret (AM.de_if (PW.pt (AM.dw_and (AM.dt_cmp AM.oa_notN (AM.dv 3) AM.de_non (nomark _)) (AM.dw_and1 (AM.dt_cmp AM.oa_le (AM.dv 3) (AM.dv 4) (nomark _))))) (AM.dv 3) AM.de_non)))))), AM.aSp_start (N := ["town", "form", "word", "number", "last"]) h⟩)
theorem sc_read_ask : FnScope ["town", "value", "words", "told", "form", "word"] ["town", "value"] (defScope s_read_ask) := ⟨rfl, rfl, rfl, by decide +kernel, rfl, by decide +kernel, by decide +kernel⟩
theorem ok_read_ask {P : Program} {w : World} {K : Frag} {mg : Str → Option Value} {base : Heap} (T : Tx P w K mg) : DOk P w K mg base 4 "read_ask" ["town", "value"] (AM.aSp K F_read_ask) :=
  dok_of (FD_read_ask T) (g_read_ask T) sc_read_ask (fun _ _ _ _ _ _ us hl => match us, hl with | [_, _], _ => rfl) (fun vs H Q E h => AM.aSp_len h) (fun cdv A outer s H vs Q E hr h => ⟨AM.aS K E m_read_ask, (AM.dss_cons (AM.ds_if (AM.dt_not (AM.dt_val (AM.de_callB (AM.ca_isi rfl (own_ok T)) (by rfl) (b_isinstance T) (by decide +kernel) (AM.da_cons (AM.dv 1) (AM.da_cons (AM.de_ty (by rfl) (b_str T) (by decide +kernel)) AM.da_nil))))) (AM.dss_one (AM.ds_ret AM.de_non)) AM.dss_nil) (AM.dss_cons (AM.ds_if (AM.dt_cmp (AM.oa_in rfl hr.units65) (AM.dv 1) (AM.de_gdat (by rfl) (g_WHOLE T) (gd_WHOLE T)) (by rfl)) (AM.dss_one (AM.ds_ret (AM.de_tup (AM.da_cons (AM.dv 1) AM.da_nil)))) AM.dss_nil) (AM.dss_cons (AM.ds_set (i := 2) sc_read_ask.nd rfl (by first | exact Or.inl rfl | exact Or.inr rfl) (AM.de_split (AM.dv 1) AM.de_str)) (AM.dss_cons (AM.ds_if (PW.pt (AM.dw_or (AM.dt_cmp (AM.oa_notInG rfl (gdic_FORMS T)) (AM.de_ix rfl (AM.dv 2) AM.de_int) (AM.de_cls (by rfl) (g_FORMS T)) (by rfl)) (AM.dw_or1 (AM.dt_cmp (AM.oa_ne rfl hr.units) (AM.de_callB (AM.ca_len rfl) (by rfl) (b_len T) (by decide +kernel) (AM.da_cons (AM.dv 2) AM.da_nil)) (AM.de_op (AM.oa_add rfl) AM.de_int (AM.de_callB (AM.ca_len rfl) (by rfl) (b_len T) (by decide +kernel) (AM.da_cons (AM.de_gix rfl (gdic_FORMS T) (by rfl) (g_FORMS T) (AM.de_ix rfl (AM.dv 2) AM.de_int)) AM.da_nil))) (nomark _))))) (AM.dss_one (AM.ds_ret AM.de_non)) AM.dss_nil) (AM.dss_cons (AM.ds_setLc (mu := false) (E0 := E0) (i := 3) (own := [("form", 4), ("word", 5)]) (by rfl) sc_read_ask.nd rfl rfl (sw_true rfl rfl rfl (by decide +kernel)) (AM.di_zip rfl (by rfl) (b_zip T) (AM.da_cons (AM.de_gix rfl (gdic_FORMS T) (by rfl) (g_FORMS T) (AM.de_ix rfl (AM.dv 2) AM.de_int)) (AM.da_cons (AM.de_slice rfl (AM.dv 2) (AM.do_some AM.de_int) AM.do_none) AM.da_nil))) (blkOk_by (own := [("form", 4), ("word", 5)]) (N := ["town", "value", "words", "told", "form", "word"]) (sc := defScope s_read_ask) (by decide +kernel)) (fun _ _ _ _ _ => (AM.dg_tup rfl rfl (AM.dgs_cons (AM.dg_name (i := 4) sc_read_ask.nd rfl (by first | exact Or.inl rfl | exact Or.inr rfl)) (AM.dgs_cons (AM.dg_name (i := 5) sc_read_ask.nd rfl (by first | exact Or.inl rfl | exact Or.inr rfl)) AM.dgs_nil)))) (fun _ _ _ _ _ => AM.dts_nil) (fun _ _ _ _ _ => (AM.de_callD (ok_told_by T) (hr.mono (by decide)) (by rfl) passL (AM.da_cons (AM.dv 0) (AM.da_cons (AM.dv 4) (AM.da_cons (AM.dv 5) AM.da_nil)))))) (AM.dss_cons (AM.ds_if (AM.dt_cmp (AM.oa_in rfl hr.units65) AM.de_non (AM.dv 3) (by rfl)) (AM.dss_one (AM.ds_ret AM.de_non)) AM.dss_nil) (AM.dss_cons (AM.ds_if (PW.pt (AM.dw_and (AM.dt_cmp (AM.oa_in rfl hr.units65) (AM.de_ix rfl (AM.dv 2) AM.de_int) (AM.de_tup (AM.da_cons AM.de_str (AM.da_cons AM.de_str AM.da_nil))) (by rfl)) (AM.dw_and1 (AM.dt_cmp AM.oa_isN (AM.de_meth rfl (AM.dv 0) (cl_Town T) (mt_Town_road_time T) (ok_Town_road_time T) (hr.mono (by decide)) passE (AM.da_cons (AM.de_ix rfl (AM.dv 2) AM.de_int) (AM.da_cons (AM.de_ix rfl (AM.dv 2) AM.de_int) AM.da_nil))) AM.de_non (nomark _))))) (AM.dss_one (AM.ds_ret AM.de_non)) AM.dss_nil) (AM.dss_one (AM.ds_ret (AM.de_tup (AM.da_cons (AM.de_ix rfl (AM.dv 2) AM.de_int) (AM.da_star rfl (AM.dv 3) AM.da_nil)))))))))))), AM.aSp_start (N := ["town", "value", "words", "told", "form", "word"]) h⟩)
theorem sc_read_bounds : FnScope ["words", "numbers", "word", "shapes"] ["words"] (defScope s_read_bounds) := ⟨rfl, rfl, rfl, by decide +kernel, rfl, by decide +kernel, by decide +kernel⟩
theorem ok_read_bounds {P : Program} {w : World} {K : Frag} {mg : Str → Option Value} {base : Heap} (T : Tx P w K mg) : DOk P w K mg base 2 "read_bounds" ["words"] (AM.aSp K F_read_bounds) :=
  dok_of (FD_read_bounds T) (g_read_bounds T) sc_read_bounds (fun _ _ _ _ _ _ us hl => match us, hl with | [_], _ => rfl) (fun vs H Q E h => AM.aSp_len h) (fun cdv A outer s H vs Q E hr h => ⟨AM.aS K E m_read_bounds, (AM.dss_cons (AM.ds_setLc (mu := false) (E0 := E0) (i := 1) (own := [("word", 2)]) (by rfl) sc_read_bounds.nd rfl rfl (sw_true rfl rfl rfl (by decide +kernel)) (AM.di_val rfl (AM.dv 0)) (blkOk_by (own := [("word", 2)]) (N := ["words", "numbers", "word", "shapes"]) (sc := defScope s_read_bounds) (by decide +kernel)) (fun _ _ _ _ _ => (AM.dg_name (i := 2) sc_read_bounds.nd rfl (by first | exact Or.inl rfl | exact Or.inr rfl))) (fun _ _ _ _ _ => AM.dts_nil) (fun _ _ _ _ _ => (AM.de_callD (ok_number_of T) (hr.mono (by decide)) (by rfl) passL (AM.da_cons (AM.dv 2) AM.da_nil)))) (AM.dss_cons (AM.ds_if (PW.pt (AM.dw_and (AM.dt_cmp (AM.oa_eq rfl hr.units) (AM.de_callB (AM.ca_len rfl) (by rfl) (b_len T) (by decide +kernel) (AM.da_cons (AM.dv 0) AM.da_nil)) AM.de_int (nomark _)) (AM.dw_and1 (AM.dt_cmp AM.oa_notN (AM.de_ix rfl (AM.dv 1) AM.de_int) AM.de_non (nomark _))))) (AM.dss_cons (AM.ds_set (i := 3) sc_read_bounds.nd rfl (by first | exact Or.inl rfl | exact Or.inr rfl) (AM.de_dic (AM.DP.cons (by decide +kernel) (AM.de_tup (AM.da_cons (AM.de_ix rfl (AM.dv 1) AM.de_int) (AM.da_cons (AM.de_ix rfl (AM.dv 1) AM.de_int) AM.da_nil))) (AM.DP.cons (by decide +kernel) (AM.de_tup (AM.da_cons (AM.de_ix rfl (AM.dv 1) AM.de_int) (AM.da_cons AM.de_non AM.da_nil))) (AM.DP.cons (by decide +kernel) (AM.de_tup (AM.da_cons AM.de_non (AM.da_cons (AM.de_ix rfl (AM.dv 1) AM.de_int) AM.da_nil))) AM.DP.nil))) (by decide +kernel))) (AM.dss_one (AM.ds_ret (AM.de_dget1 (AM.units1 hr.units) (AM.dv 3) (AM.de_ix rfl (AM.dv 0) AM.de_int))))) AM.dss_nil) (AM.dss_cons (AM.ds_if (PW.pt (AM.dw_or (AM.dt_cmp (AM.oa_ne rfl hr.units) (AM.de_callB (AM.ca_len rfl) (by rfl) (b_len T) (by decide +kernel) (AM.da_cons (AM.dv 0) AM.da_nil)) AM.de_int (nomark _)) (AM.dw_or (AM.dt_cmp (AM.oa_ne rfl hr.units) (AM.de_ix rfl (AM.dv 0) AM.de_int) AM.de_str (nomark _)) (AM.dw_or (AM.dt_cmp (AM.oa_ne rfl hr.units) (AM.de_ix rfl (AM.dv 0) AM.de_int) AM.de_str (nomark _)) (AM.dw_or (AM.dt_cmp AM.oa_isN (AM.de_ix rfl (AM.dv 1) AM.de_int) AM.de_non (nomark _)) (AM.dw_or1 (AM.dt_cmp AM.oa_isN (AM.de_ix rfl (AM.dv 1) AM.de_int) AM.de_non (nomark _)))))))) (AM.dss_one (AM.ds_ret AM.de_non)) AM.dss_nil) (AM.dss_one (AM.ds_ret (AM.de_if (AM.dt_cmp AM.oa_le (AM.de_ix rfl (AM.dv 1) AM.de_int) (AM.de_ix rfl (AM.dv 1) AM.de_int) (nomark _)) (AM.de_tup (AM.da_cons (AM.de_ix rfl (AM.dv 1) AM.de_int) (AM.da_cons (AM.de_ix rfl (AM.dv 1) AM.de_int) AM.da_nil))) AM.de_non)))))), AM.aSp_start (N := ["words", "numbers", "word", "shapes"]) h⟩)
theorem sc_read_fact : FnScope ["town", "value", "words", "many", "ask", "parts", "bounds"] ["town", "value"] (defScope s_read_fact) := ⟨rfl, rfl, rfl, by decide +kernel, rfl, by decide +kernel, by decide +kernel⟩
theorem ok_read_fact {P : Program} {w : World} {K : Frag} {mg : Str → Option Value} {base : Heap} (T : Tx P w K mg) : DOk P w K mg base 5 "read_fact" ["town", "value"] (AM.aSp K F_read_fact) :=
  dok_of (FD_read_fact T) (g_read_fact T) sc_read_fact (fun _ _ _ _ _ _ us hl => match us, hl with | [_, _], _ => rfl) (fun vs H Q E h => AM.aSp_len h) (fun cdv A outer s H vs Q E hr h => ⟨AM.aS K E m_read_fact, (AM.dss_cons (AM.ds_if (AM.dt_not (AM.dt_val (AM.de_callB (AM.ca_isi rfl (own_ok T)) (by rfl) (b_isinstance T) (by decide +kernel) (AM.da_cons (AM.dv 1) (AM.da_cons (AM.de_ty (by rfl) (b_str T) (by decide +kernel)) AM.da_nil))))) (AM.dss_one (AM.ds_ret AM.de_non)) AM.dss_nil) (AM.dss_cons (AM.ds_set (i := 2) sc_read_fact.nd rfl (by first | exact Or.inl rfl | exact Or.inr rfl) (AM.de_split (AM.dv 1) AM.de_str)) (AM.dss_cons (AM.ds_if (AM.dt_cmp (AM.oa_notIn rfl hr.units65) (AM.de_ix rfl (AM.dv 2) AM.de_int) (AM.de_gdat (by rfl) (g_PLAIN T) (gd_PLAIN T)) (by rfl)) (AM.dss_one (AM.ds_ret AM.de_non)) AM.dss_nil) (AM.dss_cons (AM.ds_set (i := 3) sc_read_fact.nd rfl (by first | exact Or.inl rfl | exact Or.inr rfl) (AM.de_op (AM.oa_add rfl) AM.de_int (AM.de_callB (AM.ca_len rfl) (by rfl) (b_len T) (by decide +kernel) (AM.da_cons (AM.de_gix rfl (gdic_FORMS T) (by rfl) (g_FORMS T) (AM.de_ix rfl (AM.dv 2) AM.de_int)) AM.da_nil)))) (AM.dss_cons (AM.ds_set (i := 4) sc_read_fact.nd rfl (by first | exact Or.inl rfl | exact Or.inr rfl) (AM.de_join rfl AM.de_str (AM.de_slice rfl (AM.dv 2) AM.do_none (AM.do_some (AM.dv 3))))) (AM.dss_cons (AM.ds_par (i := 5) (j := 6) (by rfl) sc_read_fact.nd rfl rfl (by decide) rfl rfl (AM.da_cons (AM.de_callD (ok_read_ask T) (hr.mono (by decide)) (by rfl) passE (AM.da_cons (AM.dv 0) (AM.da_cons (AM.dv 4) AM.da_nil))) (AM.da_cons (AM.de_callD (ok_read_bounds T) (hr.mono (by decide)) (by rfl) passE (AM.da_cons (AM.de_slice rfl (AM.dv 2) (AM.do_some (AM.dv 3)) AM.do_none) AM.da_nil)) AM.da_nil)) (by rfl)) (AM.dss_cons (AM.ds_if (PW.pt (AM.dw_or (AM.dt_cmp AM.oa_isN (AM.dv 5) AM.de_non (nomark _)) (AM.dw_or1 (AM.dt_cmp AM.oa_isN (AM.dv 6) AM.de_non (nomark _))))) (AM.dss_one (AM.ds_ret AM.de_non)) AM.dss_nil) (AM.dss_one (AM.ds_ret (AM.de_tup (AM.da_cons (AM.dv 4) (AM.da_cons (AM.dv 5) (AM.da_cons (AM.de_ix rfl (AM.dv 6) AM.de_int) (AM.da_cons (AM.de_ix rfl (AM.dv 6) AM.de_int) AM.da_nil)))))))))))))), AM.aSp_start (N := ["town", "value", "words", "many", "ask", "parts", "bounds"]) h⟩)
theorem sc_Town_is_fact : FnScope ["self", "value"] ["self", "value"] (defScope s_Town_is_fact) := ⟨rfl, rfl, rfl, by decide +kernel, rfl, by decide +kernel, by decide +kernel⟩
theorem ok_Town_is_fact {P : Program} {w : World} {K : Frag} {mg : Str → Option Value} {base : Heap} (T : Tx P w K mg) : MOk P w K mg base 6 (He.ma K (He.ga K "Town") "is_fact") ["self", "value"] (AM.aSp K F_Town_is_fact) :=
  mok_of (x := "is_fact") (q := "Town.is_fact") (FD_Town_is_fact T) sc_Town_is_fact (fun _ _ _ _ _ _ us hl => match us, hl with | [_, _], _ => rfl) (fun vs H Q E h => AM.aSp_len h) (fun cdv A outer s H vs Q E hr h => ⟨AM.aS K E m_Town_is_fact, (AM.dss_one (AM.ds_ret (AM.de_cmp AM.oa_notN (AM.de_callD (ok_read_fact T) (hr.mono (by decide)) (by rfl) passE (AM.da_cons (AM.dv 0) (AM.da_cons (AM.dv 1) AM.da_nil))) AM.de_non (nomark _)))), AM.aSp_start (N := ["self", "value"]) h⟩)
theorem sc_check_facts : FnScope ["town", "facts", "index", "fact"] ["town", "facts"] (defScope s_check_facts) := ⟨rfl, rfl, rfl, by decide +kernel, rfl, by decide +kernel, by decide +kernel⟩
theorem ok_check_facts {P : Program} {w : World} {K : Frag} {mg : Str → Option Value} {base : Heap} (T : Tx P w K mg) : DOk P w K mg base 7 "check_facts" ["town", "facts"] (AM.aSp K F_check_facts) :=
  dok_of (FD_check_facts T) (g_check_facts T) sc_check_facts (fun _ _ _ _ _ _ us hl => match us, hl with | [_, _], _ => rfl) (fun vs H Q E h => AM.aSp_len h) (fun cdv A outer s H vs Q E hr h => ⟨AM.aS K E m_check_facts, (AM.dss_cons (AM.ds_if (AM.dt_not (AM.dt_val (AM.de_callB (AM.ca_isi rfl (own_ok T)) (by rfl) (b_isinstance T) (by decide +kernel) (AM.da_cons (AM.dv 1) (AM.da_cons (AM.de_ty (by rfl) (b_tuple T) (by decide +kernel)) AM.da_nil))))) (AM.dss_one AM.ds_bad) AM.dss_nil) (AM.dss_one (AM.ds_for ownE rfl (AM.di_enum rfl (by rfl) (b_enumerate T) (AM.da_cons (AM.dv 1) AM.da_nil)) (AM.dg_tup rfl rfl (AM.dgs_cons (AM.dg_name (i := 2) sc_check_facts.nd rfl (by first | exact Or.inl rfl | exact Or.inr rfl)) (AM.dgs_cons (AM.dg_name (i := 3) sc_check_facts.nd rfl (by first | exact Or.inl rfl | exact Or.inr rfl)) AM.dgs_nil))) (AM.dss_one (AM.ds_if (PW.pt (AM.dw_or (AM.dt_cmp (AM.oa_eq rfl hr.units) (AM.dv 2) (AM.de_gint (by rfl) (c_MOST_FACTS T)) (nomark _)) (AM.dw_or1 (AM.dt_not (AM.dt_val (AM.de_meth rfl (AM.dv 0) (cl_Town T) (mt_Town_is_fact T) (ok_Town_is_fact T) (hr.mono (by decide)) passE (AM.da_cons (AM.dv 3) AM.da_nil))))))) (AM.dss_one AM.ds_bad) AM.dss_nil))))), AM.aSp_start (N := ["town", "facts", "index", "fact"]) h⟩)
theorem sc_check_town : FnScope ["town"] ["town"] (defScope s_check_town) := ⟨rfl, rfl, rfl, by decide +kernel, rfl, by decide +kernel, by decide +kernel⟩
theorem ok_check_town {P : Program} {w : World} {K : Frag} {mg : Str → Option Value} {base : Heap} (T : Tx P w K mg) : DOk P w K mg base 1 "check_town" ["town"] (AM.aSp K F_check_town) :=
  dok_of (FD_check_town T) (g_check_town T) sc_check_town (fun _ _ _ _ _ _ us hl => match us, hl with | [_], _ => rfl) (fun vs H Q E h => AM.aSp_len h) (fun cdv A outer s H vs Q E hr h => ⟨AM.aS K E m_check_town, (AM.dss_one (AM.ds_if (AM.dt_not (AM.dt_val (AM.de_callB (AM.ca_isi rfl (own_ok T)) (by rfl) (b_isinstance T) (by decide +kernel) (AM.da_cons (AM.dv 0) (AM.da_cons (AM.de_cls (by rfl) (g_Town T)) AM.da_nil))))) (AM.dss_one AM.ds_bad) AM.dss_nil)), AM.aSp_start (N := ["town"]) h⟩)
theorem sc_Log___init__ : FnScope ["self", "town", "facts"] ["self", "town", "facts"] (defScope s_Log___init__) := ⟨rfl, rfl, rfl, by decide +kernel, rfl, by decide +kernel, by decide +kernel⟩
theorem ok_Log___init__ {P : Program} {w : World} {K : Frag} {mg : Str → Option Value} {base : Heap} (T : Tx P w K mg) : MOk P w K mg base 8 (He.ma K (He.ga K "Log") "__init__") ["self", "town", "facts"] (AM.aSp K F_Log___init__) :=
  mokD_of (x := "__init__") (q := "Log.__init__") (fun z => by cases z) (FD_Log___init__ T) sc_Log___init__ (fun _ _ _ _ _ _ _ us its hl hl2 => match us, hl, its, hl2 with | [_, _, _], _, [_], _ => ⟨_, rfl, rfl⟩) (fun vs H Q E h => AM.aSp_len h) (fun cdv A outer s H vs Q E hr h => ⟨AM.aS K E m_Log___init__, (AM.dss_cons (AM.ds_expr (AM.de_callD (ok_check_town T) (hr.mono (by decide)) (by rfl) passE (AM.da_cons (AM.dv 1) AM.da_nil))) (AM.dss_cons (AM.ds_expr (AM.de_callD (ok_check_facts T) (hr.mono (by decide)) (by rfl) passE (AM.da_cons (AM.dv 1) (AM.da_cons (AM.dv 2) AM.da_nil)))) (AM.dss_cons (AM.ds_fld (C := "Log") rfl (AM.dv 0) (AM.dv 1) (cl_Log T) (na_Log__town T)) (AM.dss_one (AM.ds_fld (C := "Log") rfl (AM.dv 0) (AM.dv 2) (cl_Log T) (na_Log__facts T)))))), AM.aSp_start (N := ["self", "town", "facts"]) h⟩)
theorem sc_Town_roads : FnScope ["self"] ["self"] (defScope s_Town_roads) := ⟨rfl, rfl, rfl, by decide +kernel, rfl, by decide +kernel, by decide +kernel⟩
theorem ok_Town_roads {P : Program} {w : World} {K : Frag} {mg : Str → Option Value} {base : Heap} (T : Tx P w K mg) : MOk P w K mg base 1 (He5.wf K (He.ga K "Town") "property" "roads") ["self"] (AM.aSp K F_Town_roads) :=
  mok_of (x := "roads") (q := "Town.roads") (FD_Town_roads T) sc_Town_roads (fun _ _ _ _ _ _ us hl => match us, hl with | [_], _ => rfl) (fun vs H Q E h => AM.aSp_len h) (fun cdv A outer s H vs Q E hr h => ⟨AM.aS K E m_Town_roads, (AM.dss_one (AM.ds_ret (AM.de_fld (C := "Town") rfl (AM.dv 0) (cl_Town T) (na_Town__roads T)))), AM.aSp_start (N := ["self"]) h⟩)
theorem sc_Town_stands : FnScope ["self"] ["self"] (defScope s_Town_stands) := ⟨rfl, rfl, rfl, by decide +kernel, rfl, by decide +kernel, by decide +kernel⟩
theorem ok_Town_stands {P : Program} {w : World} {K : Frag} {mg : Str → Option Value} {base : Heap} (T : Tx P w K mg) : MOk P w K mg base 1 (He5.wf K (He.ga K "Town") "property" "stands") ["self"] (AM.aSp K F_Town_stands) :=
  mok_of (x := "stands") (q := "Town.stands") (FD_Town_stands T) sc_Town_stands (fun _ _ _ _ _ _ us hl => match us, hl with | [_], _ => rfl) (fun vs H Q E h => AM.aSp_len h) (fun cdv A outer s H vs Q E hr h => ⟨AM.aS K E m_Town_stands, (AM.dss_one (AM.ds_ret (AM.de_fld (C := "Town") rfl (AM.dv 0) (cl_Town T) (na_Town__stands T)))), AM.aSp_start (N := ["self"]) h⟩)
theorem sc_lines_of : FnScope ["town", "lines", "name", "size", "origin", "target", "time"] ["town"] (defScope s_lines_of) := ⟨rfl, rfl, rfl, by decide +kernel, rfl, by decide +kernel, by decide +kernel⟩
theorem ok_lines_of {P : Program} {w : World} {K : Frag} {mg : Str → Option Value} {base : Heap} (T : Tx P w K mg) : DOk P w K mg base 3 "lines_of" ["town"] (AM.aSp K F_lines_of) :=
  dok_of (FD_lines_of T) (g_lines_of T) sc_lines_of (fun _ _ _ _ _ _ us hl => match us, hl with | [_], _ => rfl) (fun vs H Q E h => AM.aSp_len h) (fun cdv A outer s H vs Q E hr h => ⟨AM.aS K E m_lines_of, (AM.dss_cons (AM.ds_set (i := 1) sc_lines_of.nd rfl (by first | exact Or.inl rfl | exact Or.inr rfl) (AM.de_lstM (AM.da_cons (AM.de_joinN (AM.DJ.cons AM.de_str (AM.DJ.cons (AM.de_fmt (AM.de_prop rfl (AM.dv 0) (cl_Town T) (propB_ok (pr_Town_slots T)) (ok_Town_slots T) (hr.mono (by decide)))) AM.DJ.nil))) AM.da_nil))) (AM.dss_cons (AM.ds_expr (AM.de_mut rfl PySem.F.slot_list_extend PySem.F.type_list_extend AM.ma_extend (AM.dv 1) (AM.da_cons (AM.de_lc (mu := false) (E0 := E0) (own := [("name", 2), ("size", 3)]) (by rfl) sc_lines_of.nd (AM.di_val rfl (AM.de_prop rfl (AM.dv 0) (cl_Town T) (propB_ok (pr_Town_stands T)) (ok_Town_stands T) (hr.mono (by decide)))) (blkOk_by (own := [("name", 2), ("size", 3)]) (N := ["town", "lines", "name", "size", "origin", "target", "time"]) (sc := defScope s_lines_of) (by decide +kernel)) (fun _ _ _ _ _ => (AM.dg_tup rfl rfl (AM.dgs_cons (AM.dg_name (i := 2) sc_lines_of.nd rfl (by first | exact Or.inl rfl | exact Or.inr rfl)) (AM.dgs_cons (AM.dg_name (i := 3) sc_lines_of.nd rfl (by first | exact Or.inl rfl | exact Or.inr rfl)) AM.dgs_nil)))) (fun _ _ _ _ _ => AM.dts_nil) (fun _ _ _ _ _ => (AM.de_joinN (AM.DJ.cons AM.de_str (AM.DJ.cons (AM.de_fmt (AM.dv 2)) (AM.DJ.cons AM.de_str (AM.DJ.cons (AM.de_fmt (AM.dv 3)) AM.DJ.nil))))))) AM.da_nil))) (AM.dss_cons (AM.ds_expr (AM.de_mut rfl PySem.F.slot_list_extend PySem.F.type_list_extend AM.ma_extend (AM.dv 1) (AM.da_cons (AM.de_lc (mu := false) (E0 := E0) (own := [("origin", 4), ("target", 5), ("time", 6)]) (by rfl) sc_lines_of.nd (AM.di_val rfl (AM.de_prop rfl (AM.dv 0) (cl_Town T) (propB_ok (pr_Town_roads T)) (ok_Town_roads T) (hr.mono (by decide)))) (blkOk_by (own := [("origin", 4), ("target", 5), ("time", 6)]) (N := ["town", "lines", "name", "size", "origin", "target", "time"]) (sc := defScope s_lines_of) (by decide +kernel)) (fun _ _ _ _ _ => (AM.dg_tup rfl rfl (AM.dgs_cons (AM.dg_name (i := 4) sc_lines_of.nd rfl (by first | exact Or.inl rfl | exact Or.inr rfl)) (AM.dgs_cons (AM.dg_name (i := 5) sc_lines_of.nd rfl (by first | exact Or.inl rfl | exact Or.inr rfl)) (AM.dgs_cons (AM.dg_name (i := 6) sc_lines_of.nd rfl (by first | exact Or.inl rfl | exact Or.inr rfl)) AM.dgs_nil))))) (fun _ _ _ _ _ => AM.dts_nil) (fun _ _ _ _ _ => (AM.de_joinN (AM.DJ.cons AM.de_str (AM.DJ.cons (AM.de_fmt (AM.dv 4)) (AM.DJ.cons AM.de_str (AM.DJ.cons (AM.de_fmt (AM.dv 5)) (AM.DJ.cons AM.de_str (AM.DJ.cons (AM.de_fmt (AM.dv 6)) AM.DJ.nil))))))))) AM.da_nil))) (AM.dss_one (AM.ds_ret (AM.dv 1)))))), AM.aSp_start (N := ["town", "lines", "name", "size", "origin", "target", "time"]) h⟩)
theorem sc_Town___str__ : FnScope ["self"] ["self"] (defScope s_Town___str__) := ⟨rfl, rfl, rfl, by decide +kernel, rfl, by decide +kernel, by decide +kernel⟩
theorem ok_Town___str__ {P : Program} {w : World} {K : Frag} {mg : Str → Option Value} {base : Heap} (T : Tx P w K mg) : MOk P w K mg base 4 (He.ma K (He.ga K "Town") "__str__") ["self"] (AM.aSp K F_Town___str__) :=
  mok_of (x := "__str__") (q := "Town.__str__") (FD_Town___str__ T) sc_Town___str__ (fun _ _ _ _ _ _ us hl => match us, hl with | [_], _ => rfl) (fun vs H Q E h => AM.aSp_len h) (fun cdv A outer s H vs Q E hr h => ⟨AM.aS K E m_Town___str__, (AM.dss_one (AM.ds_ret (AM.de_join rfl AM.de_str (AM.de_callD (ok_lines_of T) (hr.mono (by decide)) (by rfl) passE (AM.da_cons (AM.dv 0) AM.da_nil))))), AM.aSp_start (N := ["self"]) h⟩)
theorem sc_Town___eq__ : FnScope ["self", "other"] ["self", "other"] (defScope s_Town___eq__) := ⟨rfl, rfl, rfl, by decide +kernel, rfl, by decide +kernel, by decide +kernel⟩
theorem ok_Town___eq__ {P : Program} {w : World} {K : Frag} {mg : Str → Option Value} {base : Heap} (T : Tx P w K mg) : MOk P w K mg base 7 (He.ma K (He.ga K "Town") "__eq__") ["self", "other"] (AM.aSp K F_Town___eq__) :=
  mok_of (x := "__eq__") (q := "Town.__eq__") (FD_Town___eq__ T) sc_Town___eq__ (fun _ _ _ _ _ _ us hl => match us, hl with | [_, _], _ => rfl) (fun vs H Q E h => AM.aSp_len h) (fun cdv A outer s H vs Q E hr h => ⟨AM.aS K E m_Town___eq__, (AM.dss_one (AM.ds_ret (AM.de_and (AM.de_callB (AM.ca_isi rfl (own_ok T)) (by rfl) (b_isinstance T) (by decide +kernel) (AM.da_cons (AM.dv 1) (AM.da_cons (AM.de_cls (by rfl) (g_Town T)) AM.da_nil))) (AM.de_one (AM.de_cmp (AM.oa_eq rfl hr.units) (AM.de_callTy (AM.ca_strOwn (C := "Town") rfl (mt_Town___str__ T) (ok_Town___str__ T) (hr.mono (by decide)) passE) (by rfl) (b_str T) (by decide +kernel) (AM.da_cons (AM.dv 0) AM.da_nil)) (AM.de_callTy (AM.ca_strOwn (C := "Town") rfl (mt_Town___str__ T) (ok_Town___str__ T) (hr.mono (by decide)) passE) (by rfl) (b_str T) (by decide +kernel) (AM.da_cons (AM.dv 1) AM.da_nil)) (nomark _)))))), AM.aSp_start (N := ["self", "other"]) h⟩)
theorem sc_is_among : FnScope ["names", "value"] ["names", "value"] (defScope s_is_among) := ⟨rfl, rfl, rfl, by decide +kernel, rfl, by decide +kernel, by decide +kernel⟩
theorem ok_is_among {P : Program} {w : World} {K : Frag} {mg : Str → Option Value} {base : Heap} (T : Tx P w K mg) : DOk P w K mg base 1 "is_among" ["names", "value"] (AM.aSp K F_is_among) :=
  dok_of (FD_is_among T) (g_is_among T) sc_is_among (fun _ _ _ _ _ _ us hl => match us, hl with | [_, _], _ => rfl) (fun vs H Q E h => AM.aSp_len h) (fun cdv A outer s H vs Q E hr h => ⟨AM.aS K E m_is_among, (AM.dss_one (AM.ds_ret (AM.de_and (AM.de_callB (AM.ca_isi rfl (own_ok T)) (by rfl) (b_isinstance T) (by decide +kernel) (AM.da_cons (AM.dv 1) (AM.da_cons (AM.de_ty (by rfl) (b_str T) (by decide +kernel)) AM.da_nil))) (AM.de_one (AM.de_cmp (AM.oa_in rfl hr.units65) (AM.dv 1) (AM.dv 0) (by rfl)))))), AM.aSp_start (N := ["names", "value"]) h⟩)
theorem sc_is_integer : FnScope ["value"] ["value"] (defScope s_is_integer) := ⟨rfl, rfl, rfl, by decide +kernel, rfl, by decide +kernel, by decide +kernel⟩
theorem ok_is_integer {P : Program} {w : World} {K : Frag} {mg : Str → Option Value} {base : Heap} (T : Tx P w K mg) : DOk P w K mg base 1 "is_integer" ["value"] (AM.aSp K F_is_integer) :=
  dok_of (FD_is_integer T) (g_is_integer T) sc_is_integer (fun _ _ _ _ _ _ us hl => match us, hl with | [_], _ => rfl) (fun vs H Q E h => AM.aSp_len h) (fun cdv A outer s H vs Q E hr h => ⟨AM.aS K E m_is_integer, (AM.dss_one (AM.ds_ret (AM.de_and (AM.de_callB (AM.ca_isi rfl (own_ok T)) (by rfl) (b_isinstance T) (by decide +kernel) (AM.da_cons (AM.dv 0) (AM.da_cons (AM.de_ty (by rfl) (b_int T) (by decide +kernel)) AM.da_nil))) (AM.de_one (AM.de_not (AM.de_callB (AM.ca_isi rfl (own_ok T)) (by rfl) (b_isinstance T) (by decide +kernel) (AM.da_cons (AM.dv 0) (AM.da_cons (AM.de_ty (by rfl) (b_bool T) (by decide +kernel)) AM.da_nil)))))))), AM.aSp_start (N := ["value"]) h⟩)
theorem sc_is_between : FnScope ["value", "least", "most"] ["value", "least", "most"] (defScope s_is_between) := ⟨rfl, rfl, rfl, by decide +kernel, rfl, by decide +kernel, by decide +kernel⟩
theorem ok_is_between {P : Program} {w : World} {K : Frag} {mg : Str → Option Value} {base : Heap} (T : Tx P w K mg) : DOk P w K mg base 2 "is_between" ["value", "least", "most"] (AM.aSp K F_is_between) :=
  dok_of (FD_is_between T) (g_is_between T) sc_is_between (fun _ _ _ _ _ _ us hl => match us, hl with | [_, _, _], _ => rfl) (fun vs H Q E h => AM.aSp_len h) (fun cdv A outer s H vs Q E hr h => ⟨AM.aS K E m_is_between, (AM.dss_one (AM.ds_ret (AM.de_and (AM.de_callD (ok_is_integer T) (hr.mono (by decide)) (by rfl) passE (AM.da_cons (AM.dv 0) AM.da_nil)) (AM.de_one (AM.de_chain AM.oa_le AM.oa_le (AM.dv 1) (AM.dv 0) (AM.dv 2)))))), AM.aSp_start (N := ["value", "least", "most"]) h⟩)
theorem sc_is_road : FnScope ["names", "value"] ["names", "value"] (defScope s_is_road) := ⟨rfl, rfl, rfl, by decide +kernel, rfl, by decide +kernel, by decide +kernel⟩
theorem ok_is_road {P : Program} {w : World} {K : Frag} {mg : Str → Option Value} {base : Heap} (T : Tx P w K mg) : DOk P w K mg base 3 "is_road" ["names", "value"] (AM.aSp K F_is_road) :=
  dok_of (FD_is_road T) (g_is_road T) sc_is_road (fun _ _ _ _ _ _ us hl => match us, hl with | [_, _], _ => rfl) (fun vs H Q E h => AM.aSp_len h) (fun cdv A outer s H vs Q E hr h => ⟨AM.aS K E m_is_road, (AM.dss_cons (AM.ds_if (PW.pt (AM.dw_or (AM.dt_not (AM.dt_val (AM.de_callB (AM.ca_isi rfl (own_ok T)) (by rfl) (b_isinstance T) (by decide +kernel) (AM.da_cons (AM.dv 1) (AM.da_cons (AM.de_ty (by rfl) (b_tuple T) (by decide +kernel)) AM.da_nil))))) (AM.dw_or1 (AM.dt_cmp (AM.oa_ne rfl hr.units) (AM.de_callB (AM.ca_len rfl) (by rfl) (b_len T) (by decide +kernel) (AM.da_cons (AM.dv 1) AM.da_nil)) AM.de_int (nomark _))))) (AM.dss_one (AM.ds_ret AM.de_bl)) AM.dss_nil) (AM.dss_one (AM.ds_ret (AM.de_and (AM.de_callD (ok_is_among T) (hr.mono (by decide)) (by rfl) passE (AM.da_cons (AM.dv 0) (AM.da_cons (AM.de_ix rfl (AM.dv 1) AM.de_int) AM.da_nil))) (AM.de_and (AM.de_callD (ok_is_among T) (hr.mono (by decide)) (by rfl) passE (AM.da_cons (AM.dv 0) (AM.da_cons (AM.de_ix rfl (AM.dv 1) AM.de_int) AM.da_nil))) (AM.de_one (AM.de_callD (ok_is_between T) (hr.mono (by decide)) (by rfl) passE (AM.da_cons (AM.de_ix rfl (AM.dv 1) AM.de_int) (AM.da_cons AM.de_int (AM.da_cons (AM.de_gint (by rfl) (c_MOST_TIME T)) AM.da_nil)))))))))), AM.aSp_start (N := ["names", "value"]) h⟩)
theorem sc_check_roads : FnScope ["names", "roads", "pairs", "index", "road"] ["names", "roads"] (defScope s_check_roads) := ⟨rfl, rfl, rfl, by decide +kernel, rfl, by decide +kernel, by decide +kernel⟩
theorem ok_check_roads {P : Program} {w : World} {K : Frag} {mg : Str → Option Value} {base : Heap} (T : Tx P w K mg) : DOk P w K mg base 4 "check_roads" ["names", "roads"] (AM.aSp K F_check_roads) :=
  dok_of (FD_check_roads T) (g_check_roads T) sc_check_roads (fun _ _ _ _ _ _ us hl => match us, hl with | [_, _], _ => rfl) (fun vs H Q E h => AM.aSp_len h) (fun cdv A outer s H vs Q E hr h => ⟨AM.aS K E m_check_roads, (AM.dss_cons (AM.ds_if (AM.dt_not (AM.dt_val (AM.de_callB (AM.ca_isi rfl (own_ok T)) (by rfl) (b_isinstance T) (by decide +kernel) (AM.da_cons (AM.dv 1) (AM.da_cons (AM.de_ty (by rfl) (b_tuple T) (by decide +kernel)) AM.da_nil))))) (AM.dss_one AM.ds_bad) AM.dss_nil) (AM.dss_cons (AM.ds_set (i := 2) sc_check_roads.nd rfl (by first | exact Or.inl rfl | exact Or.inr rfl) (AM.de_lstM AM.da_nil)) (AM.dss_one (AM.ds_for ownE rfl (AM.di_enum rfl (by rfl) (b_enumerate T) (AM.da_cons (AM.dv 1) AM.da_nil)) (AM.dg_tup rfl rfl (AM.dgs_cons (AM.dg_name (i := 3) sc_check_roads.nd rfl (by first | exact Or.inl rfl | exact Or.inr rfl)) (AM.dgs_cons (AM.dg_name (i := 4) sc_check_roads.nd rfl (by first | exact Or.inl rfl | exact Or.inr rfl)) AM.dgs_nil))) (AM.dss_cons (AM.ds_if (PW.pt (AM.dw_or (AM.dt_cmp (AM.oa_eq rfl hr.units) (AM.dv 3) (AM.de_gint (by rfl) (c_MOST_ROADS T)) (nomark _)) (AM.dw_or (AM.dt_not (AM.dt_val (AM.de_callD (ok_is_road T) (hr.mono (by decide)) (by rfl) passE (AM.da_cons (AM.dv 0) (AM.da_cons (AM.dv 4) AM.da_nil))))) (AM.dw_or1 (AM.dt_cmp (AM.oa_in rfl hr.units65) (AM.de_slice rfl (AM.dv 4) AM.do_none (AM.do_some AM.de_int)) (AM.dv 2) (by rfl)))))) (AM.dss_one AM.ds_bad) AM.dss_nil) (AM.dss_one (AM.ds_expr (AM.de_mut rfl PySem.F.slot_list_append PySem.F.type_list_append AM.ma_append (AM.dv 2) (AM.da_cons (AM.de_slice rfl (AM.dv 4) AM.do_none (AM.do_some AM.de_int)) AM.da_nil))))))))), AM.aSp_start (N := ["names", "roads", "pairs", "index", "road"]) h⟩)
theorem sc_is_name : FnScope ["value", "sign"] ["value"] (defScope s_is_name) := ⟨rfl, rfl, rfl, by decide +kernel, rfl, by decide +kernel, by decide +kernel⟩
theorem ok_is_name {P : Program} {w : World} {K : Frag} {mg : Str → Option Value} {base : Heap} (T : Tx P w K mg) : DOk P w K mg base 1 "is_name" ["value"] (AM.aSp K F_is_name) :=
  dok_of (FD_is_name T) (g_is_name T) sc_is_name (fun _ _ _ _ _ _ us hl => match us, hl with | [_], _ => rfl) (fun vs H Q E h => AM.aSp_len h) (fun cdv A outer s H vs Q E hr h => ⟨AM.aS K E m_is_name, (AM.dss_one (AM.ds_ret (AM.de_and (AM.de_callB (AM.ca_isi rfl (own_ok T)) (by rfl) (b_isinstance T) (by decide +kernel) (AM.da_cons (AM.dv 0) (AM.da_cons (AM.de_ty (by rfl) (b_str T) (by decide +kernel)) AM.da_nil))) (AM.de_and (AM.de_chain AM.oa_lt AM.oa_lt AM.de_int (AM.de_callB (AM.ca_len rfl) (by rfl) (b_len T) (by decide +kernel) (AM.da_cons (AM.dv 0) AM.da_nil)) AM.de_int) (AM.de_one (AM.de_callB (AM.ca_all rfl rfl) (by rfl) (b_all T) (by decide +kernel) (AM.da_cons (AM.de_lc (mu := false) (E0 := E0) (own := [("sign", 1)]) (by rfl) sc_is_name.nd (AM.di_val rfl (AM.dv 0)) (blkOk_by (own := [("sign", 1)]) (N := ["value", "sign"]) (sc := defScope s_is_name) (by decide +kernel)) (fun _ _ _ _ _ => (AM.dg_name (i := 1) sc_is_name.nd rfl (by first | exact Or.inl rfl | exact Or.inr rfl))) (fun _ _ _ _ _ => AM.dts_nil) (fun _ _ _ _ _ => (AM.de_cmp (AM.oa_in rfl hr.units65) (AM.dv 1) (AM.de_gstr (by rfl) (c_LETTERS T)) (by rfl)))) AM.da_nil))))))), AM.aSp_start (N := ["value", "sign"]) h⟩)
theorem sc_is_stand : FnScope ["value"] ["value"] (defScope s_is_stand) := ⟨rfl, rfl, rfl, by decide +kernel, rfl, by decide +kernel, by decide +kernel⟩
theorem ok_is_stand {P : Program} {w : World} {K : Frag} {mg : Str → Option Value} {base : Heap} (T : Tx P w K mg) : DOk P w K mg base 3 "is_stand" ["value"] (AM.aSp K F_is_stand) :=
  dok_of (FD_is_stand T) (g_is_stand T) sc_is_stand (fun _ _ _ _ _ _ us hl => match us, hl with | [_], _ => rfl) (fun vs H Q E h => AM.aSp_len h) (fun cdv A outer s H vs Q E hr h => ⟨AM.aS K E m_is_stand, (AM.dss_cons (AM.ds_if (PW.pt (AM.dw_or (AM.dt_not (AM.dt_val (AM.de_callB (AM.ca_isi rfl (own_ok T)) (by rfl) (b_isinstance T) (by decide +kernel) (AM.da_cons (AM.dv 0) (AM.da_cons (AM.de_ty (by rfl) (b_tuple T) (by decide +kernel)) AM.da_nil))))) (AM.dw_or1 (AM.dt_cmp (AM.oa_ne rfl hr.units) (AM.de_callB (AM.ca_len rfl) (by rfl) (b_len T) (by decide +kernel) (AM.da_cons (AM.dv 0) AM.da_nil)) AM.de_int (nomark _))))) (AM.dss_one (AM.ds_ret AM.de_bl)) AM.dss_nil) (AM.dss_one (AM.ds_ret (AM.de_and (AM.de_callD (ok_is_name T) (hr.mono (by decide)) (by rfl) passE (AM.da_cons (AM.de_ix rfl (AM.dv 0) AM.de_int) AM.da_nil)) (AM.de_one (AM.de_callD (ok_is_between T) (hr.mono (by decide)) (by rfl) passE (AM.da_cons (AM.de_ix rfl (AM.dv 0) AM.de_int) (AM.da_cons AM.de_int (AM.da_cons (AM.de_gint (by rfl) (c_MOST_SIZE T)) AM.da_nil))))))))), AM.aSp_start (N := ["value"]) h⟩)
theorem sc_check_stands : FnScope ["stands", "names", "index", "stand"] ["stands"] (defScope s_check_stands) := ⟨rfl, rfl, rfl, by decide +kernel, rfl, by decide +kernel, by decide +kernel⟩
theorem ok_check_stands {P : Program} {w : World} {K : Frag} {mg : Str → Option Value} {base : Heap} (T : Tx P w K mg) : DOk P w K mg base 4 "check_stands" ["stands"] (AM.aSp K F_check_stands) :=
  dok_of (FD_check_stands T) (g_check_stands T) sc_check_stands (fun _ _ _ _ _ _ us hl => match us, hl with | [_], _ => rfl) (fun vs H Q E h => AM.aSp_len h) (fun cdv A outer s H vs Q E hr h => ⟨AM.aS K E m_check_stands, (AM.dss_cons (AM.ds_if (PW.pt (AM.dw_or (AM.dt_not (AM.dt_val (AM.de_callB (AM.ca_isi rfl (own_ok T)) (by rfl) (b_isinstance T) (by decide +kernel) (AM.da_cons (AM.dv 0) (AM.da_cons (AM.de_ty (by rfl) (b_tuple T) (by decide +kernel)) AM.da_nil))))) (AM.dw_or1 (AM.dt_cmp (AM.oa_eq rfl hr.units) (AM.de_callB (AM.ca_len rfl) (by rfl) (b_len T) (by decide +kernel) (AM.da_cons (AM.dv 0) AM.da_nil)) AM.de_int (nomark _))))) (AM.dss_one AM.ds_bad) AM.dss_nil) (AM.dss_cons (AM.ds_set (i := 1) sc_check_stands.nd rfl (by first | exact Or.inl rfl | exact Or.inr rfl) (AM.de_lstM AM.da_nil)) (AM.dss_one (AM.ds_for ownE rfl (AM.di_enum rfl (by rfl) (b_enumerate T) (AM.da_cons (AM.dv 0) AM.da_nil)) (AM.dg_tup rfl rfl (AM.dgs_cons (AM.dg_name (i := 2) sc_check_stands.nd rfl (by first | exact Or.inl rfl | exact Or.inr rfl)) (AM.dgs_cons (AM.dg_name (i := 3) sc_check_stands.nd rfl (by first | exact Or.inl rfl | exact Or.inr rfl)) AM.dgs_nil))) (AM.dss_cons (AM.ds_if (PW.pt (AM.dw_or (AM.dt_cmp (AM.oa_eq rfl hr.units) (AM.dv 2) (AM.de_gint (by rfl) (c_MOST_STANDS T)) (nomark _)) (AM.dw_or (AM.dt_not (AM.dt_val (AM.de_callD (ok_is_stand T) (hr.mono (by decide)) (by rfl) passE (AM.da_cons (AM.dv 3) AM.da_nil)))) (AM.dw_or1 (AM.dt_cmp (AM.oa_in rfl hr.units65) (AM.de_ix rfl (AM.dv 3) AM.de_int) (AM.dv 1) (by rfl)))))) (AM.dss_one AM.ds_bad) AM.dss_nil) (AM.dss_one (AM.ds_expr (AM.de_mut rfl PySem.F.slot_list_append PySem.F.type_list_append AM.ma_append (AM.dv 1) (AM.da_cons (AM.de_ix rfl (AM.dv 3) AM.de_int) AM.da_nil))))))))), AM.aSp_start (N := ["stands", "names", "index", "stand"]) h⟩)
theorem sc_Town___init__ : FnScope ["self", "slots", "stands", "roads", "names", "name", "size"] ["self", "slots", "stands", "roads"] (defScope s_Town___init__) := ⟨rfl, rfl, rfl, by decide +kernel, rfl, by decide +kernel, by decide +kernel⟩
theorem ok_Town___init__ {P : Program} {w : World} {K : Frag} {mg : Str → Option Value} {base : Heap} (T : Tx P w K mg) : MOk P w K mg base 5 (He.ma K (He.ga K "Town") "__init__") ["self", "slots", "stands", "roads"] (AM.aSp K F_Town___init__) :=
  mokD_of (x := "__init__") (q := "Town.__init__") (fun z => by cases z) (FD_Town___init__ T) sc_Town___init__ (fun _ _ _ _ _ _ _ us its hl hl2 => match us, hl, its, hl2 with | [_, _, _, _], _, [_], _ => ⟨_, rfl, rfl⟩) (fun vs H Q E h => AM.aSp_len h) (fun cdv A outer s H vs Q E hr h => ⟨AM.aS K E m_Town___init__, (AM.dss_cons (AM.ds_if (AM.dt_not (AM.dt_val (AM.de_callD (ok_is_between T) (hr.mono (by decide)) (by rfl) passE (AM.da_cons (AM.dv 1) (AM.da_cons AM.de_int (AM.da_cons (AM.de_gint (by rfl) (c_MOST_SLOTS T)) AM.da_nil)))))) (AM.dss_one AM.ds_bad) AM.dss_nil) (AM.dss_cons (AM.ds_expr (AM.de_callD (ok_check_stands T) (hr.mono (by decide)) (by rfl) passE (AM.da_cons (AM.dv 2) AM.da_nil))) (AM.dss_cons (AM.ds_set (i := 4) sc_Town___init__.nd rfl (by first | exact Or.inl rfl | exact Or.inr rfl) (AM.de_callTy (AM.ca_tupleX rfl) (by rfl) (b_tuple T) (by decide +kernel) (AM.da_cons (AM.de_lc (mu := false) (E0 := E0) (own := [("name", 5), ("size", 6)]) (by rfl) sc_Town___init__.nd (AM.di_val rfl (AM.dv 2)) (blkOk_by (own := [("name", 5), ("size", 6)]) (N := ["self", "slots", "stands", "roads", "names", "name", "size"]) (sc := defScope s_Town___init__) (by decide +kernel)) (fun _ _ _ _ _ => (AM.dg_tup rfl rfl (AM.dgs_cons (AM.dg_name (i := 5) sc_Town___init__.nd rfl (by first | exact Or.inl rfl | exact Or.inr rfl)) (AM.dgs_cons (AM.dg_name (i := 6) sc_Town___init__.nd rfl (by first | exact Or.inl rfl | exact Or.inr rfl)) AM.dgs_nil)))) (fun _ _ _ _ _ => AM.dts_nil) (fun _ _ _ _ _ => (AM.dv 5))) AM.da_nil))) (AM.dss_cons (AM.ds_expr (AM.de_callD (ok_check_roads T) (hr.mono (by decide)) (by rfl) passE (AM.da_cons (AM.dv 4) (AM.da_cons (AM.dv 3) AM.da_nil)))) (AM.dss_cons (AM.ds_fld (C := "Town") rfl (AM.dv 0) (AM.dv 1) (cl_Town T) (na_Town__slots T)) (AM.dss_cons (AM.ds_fld (C := "Town") rfl (AM.dv 0) (AM.dv 2) (cl_Town T) (na_Town__stands T)) (AM.dss_cons (AM.ds_fld (C := "Town") rfl (AM.dv 0) (AM.dv 3) (cl_Town T) (na_Town__roads T)) (AM.dss_one (AM.ds_fld (C := "Town") rfl (AM.dv 0) (AM.dv 4) (cl_Town T) (na_Town__names T)))))))))), AM.aSp_start (N := ["self", "slots", "stands", "roads", "names", "name", "size"]) h⟩)
theorem sc_Town___repr__ : FnScope ["self"] ["self"] (defScope s_Town___repr__) := ⟨rfl, rfl, rfl, by decide +kernel, rfl, by decide +kernel, by decide +kernel⟩
theorem ok_Town___repr__ {P : Program} {w : World} {K : Frag} {mg : Str → Option Value} {base : Heap} (T : Tx P w K mg) : MOk P w K mg base 1 (He.ma K (He.ga K "Town") "__repr__") ["self"] (AM.aSp K F_Town___repr__) :=
  mok_of (x := "__repr__") (q := "Town.__repr__") (FD_Town___repr__ T) sc_Town___repr__ (fun _ _ _ _ _ _ us hl => match us, hl with | [_], _ => rfl) (fun vs H Q E h => AM.aSp_len h) (fun cdv A outer s H vs Q E hr h => ⟨AM.aS K E m_Town___repr__, (AM.dss_one (AM.ds_ret (AM.de_joinN (AM.DJ.cons AM.de_str (AM.DJ.cons (AM.de_fmt (AM.de_callB (AM.ca_len rfl) (by rfl) (b_len T) (by decide +kernel) (AM.da_cons (AM.de_fld (C := "Town") rfl (AM.dv 0) (cl_Town T) (na_Town__stands T)) AM.da_nil))) (AM.DJ.cons AM.de_str AM.DJ.nil)))))), AM.aSp_start (N := ["self"]) h⟩)
theorem sc__law_named : FnScope ["_law_plan_here", "_law_lane"] ["_law_plan_here"] (defScope s__law_named) := ⟨rfl, rfl, rfl, by decide +kernel, rfl, by decide +kernel, by decide +kernel⟩
theorem ok__law_named {P : Program} {w : World} {K : Frag} {mg : Str → Option Value} {base : Heap} (T : Tx P w K mg) : DOk P w K mg base 1 "_law_named" ["_law_plan_here"] (AM.aSp K F__law_named) :=
  dok_of (FD__law_named T) (g__law_named T) sc__law_named (fun _ _ _ _ _ _ us hl => match us, hl with | [_], _ => rfl) (fun vs H Q E h => AM.aSp_len h) (fun cdv A outer s H vs Q E hr h => ⟨AM.aS K E m__law_named, (AM.dss_one (AM.ds_ret (AM.de_callTy (AM.ca_tuple rfl) (by rfl) (b_tuple T) (by decide +kernel) (AM.da_cons (AM.de_lc (mu := false) (E0 := E0) (own := [("_law_lane", 1)]) (by rfl) sc__law_named.nd (AM.di_val rfl (AM.de_ix rfl (AM.dv 0) AM.de_int)) (blkOk_by (own := [("_law_lane", 1)]) (N := ["_law_plan_here", "_law_lane"]) (sc := defScope s__law_named) (by decide +kernel)) (fun _ _ _ _ _ => (AM.dg_name (i := 1) sc__law_named.nd rfl (by first | exact Or.inl rfl | exact Or.inr rfl))) (fun _ _ _ _ _ => AM.dts_nil) (fun _ _ _ _ _ => (AM.de_tup (AM.da_cons (AM.de_ix rfl (AM.de_ix rfl (AM.de_ix rfl (AM.dv 0) AM.de_int) (AM.de_ix rfl (AM.dv 1) AM.de_int)) AM.de_int) (AM.da_cons (AM.de_ix rfl (AM.de_ix rfl (AM.de_ix rfl (AM.dv 0) AM.de_int) (AM.de_ix rfl (AM.dv 1) AM.de_int)) AM.de_int) (AM.da_cons (AM.de_ix rfl (AM.dv 1) AM.de_int) AM.da_nil)))))) AM.da_nil)))), AM.aSp_start (N := ["_law_plan_here", "_law_lane"]) h⟩)
theorem sc__law_draw : FnScope ["_law_source_here", "_law_many", "_law_state", "_law_stock", "_law_digit"] ["_law_source_here", "_law_many"] (defScope s__law_draw) := ⟨rfl, rfl, rfl, by decide +kernel, rfl, by decide +kernel, by decide +kernel⟩
theorem ok__law_draw {P : Program} {w : World} {K : Frag} {mg : Str → Option Value} {base : Heap} (T : Tx P w K mg) : DOk P w K mg base 1 "_law_draw" ["_law_source_here", "_law_many"] (AM.aSp K F__law_draw) :=
  dok_of (FD__law_draw T) (g__law_draw T) sc__law_draw (fun _ _ _ _ _ _ us hl => match us, hl with | [_, _], _ => rfl) (fun vs H Q E h => AM.aSp_len h) (fun cdv A outer s H vs Q E hr h => ⟨AM.aS K E m__law_draw, (AM.dss_cons (AM.ds_setIx (AM.de_op (AM.oa_add rfl) (AM.de_ix rfl (AM.dv 0) AM.de_int) AM.de_int) (AM.dv 0) AM.de_int) (AM.dss_cons (AM.ds_set (i := 2) sc__law_draw.nd rfl (by first | exact Or.inl rfl | exact Or.inr rfl) (AM.de_op AM.oa_mod (AM.de_callTy AM.ca_int (by rfl) (b_int T) (by decide +kernel) (AM.da_cons (AM.de_op (AM.oa_add rfl) (AM.de_ix rfl (AM.dv 0) AM.de_int) (AM.de_op AM.oa_mul AM.de_int (AM.de_ix rfl (AM.dv 0) AM.de_int))) AM.da_nil)) AM.de_int)) (AM.dss_cons (AM.ds_setIx (AM.de_op AM.oa_mod (AM.de_callTy AM.ca_int (by rfl) (b_int T) (by decide +kernel) (AM.da_cons (AM.de_op (AM.oa_add rfl) (AM.de_op (AM.oa_add rfl) (AM.de_op AM.oa_mul (AM.dv 2) (AM.dv 2)) (AM.de_op AM.oa_mul AM.de_int (AM.dv 2))) AM.de_int) AM.da_nil)) AM.de_int) (AM.dv 0) AM.de_int) (AM.dss_cons (AM.ds_if (AM.dt_cmp (AM.oa_eq rfl hr.units) (AM.de_ix rfl (AM.dv 0) AM.de_int) AM.de_int (nomark _)) (AM.dss_one (AM.ds_ret (AM.de_op AM.oa_mod (AM.de_callTy AM.ca_int (by rfl) (b_int T) (by decide +kernel) (AM.da_cons (AM.de_op AM.oa_fdiv (AM.de_ix rfl (AM.dv 0) AM.de_int) AM.de_int) AM.da_nil)) (AM.dv 1)))) AM.dss_nil) (AM.dss_cons (AM.ds_asg (AM.de_callB AM.ca_divmod (by rfl) (b_divmod T) (by decide +kernel) (AM.da_cons (AM.de_ix rfl (AM.dv 0) AM.de_int) (AM.da_cons (AM.dv 1) AM.da_nil))) (AM.dg_tup rfl rfl (AM.dgs_cons (AM.dg_name (i := 3) sc__law_draw.nd rfl (by first | exact Or.inl rfl | exact Or.inr rfl)) (AM.dgs_cons (AM.dg_name (i := 4) sc__law_draw.nd rfl (by first | exact Or.inl rfl | exact Or.inr rfl)) AM.dgs_nil)))) (AM.dss_cons (AM.ds_setIx (AM.dv 3) (AM.dv 0) AM.de_int) (AM.dss_one (AM.ds_ret (AM.dv 4))))))))), AM.aSp_start (N := ["_law_source_here", "_law_many", "_law_state", "_law_stock", "_law_digit"]) h⟩)
theorem sc__law_word : FnScope ["_law_source_here", "_law_taken", "_law_signs", "_law_kept_words", "_law_way", "_law_found", "_law_some", "_law_k", "_law_tries", "_law_sign", "_law_word_here"] ["_law_source_here", "_law_taken"] (defScope s__law_word) := ⟨rfl, rfl, rfl, by decide +kernel, rfl, by decide +kernel, by decide +kernel⟩
theorem ok__law_word {P : Program} {w : World} {K : Frag} {mg : Str → Option Value} {base : Heap} (T : Tx P w K mg) : DOk P w K mg base 2 "_law_word" ["_law_source_here", "_law_taken"] (AM.aSp K F__law_word) :=
  dok_of (FD__law_word T) (g__law_word T) sc__law_word (fun _ _ _ _ _ _ us hl => match us, hl with | [_, _], _ => rfl) (fun vs H Q E h => AM.aSp_len h) (fun cdv A outer s H vs Q E hr h => ⟨AM.aS K E m__law_word, (AM.dss_cons (AM.ds_set (i := 2) sc__law_word.nd rfl (by first | exact Or.inl rfl | exact Or.inr rfl) AM.de_str) (AM.dss_cons (AM.ds_set (i := 3) sc__law_word.nd rfl (by first | exact Or.inl rfl | exact Or.inr rfl) (AM.de_lst (AM.da_cons AM.de_str (AM.da_cons AM.de_str (AM.da_cons AM.de_str (AM.da_cons AM.de_str (AM.da_cons AM.de_str (AM.da_cons AM.de_str (AM.da_cons AM.de_str (AM.da_cons AM.de_str (AM.da_cons AM.de_str (AM.da_cons AM.de_str (AM.da_cons AM.de_str (AM.da_cons AM.de_str (AM.da_cons AM.de_str AM.da_nil))))))))))))))) (AM.dss_cons (AM.ds_set (i := 3) sc__law_word.nd rfl (by first | exact Or.inl rfl | exact Or.inr rfl) (AM.de_op (AM.oa_add rfl) (AM.dv 3) (AM.de_lst (AM.da_cons AM.de_str (AM.da_cons AM.de_str (AM.da_cons AM.de_str (AM.da_cons AM.de_str AM.da_nil))))))) (AM.dss_cons (AM.ds_set (i := 4) sc__law_word.nd rfl (by first | exact Or.inl rfl | exact Or.inr rfl) (AM.de_callD (ok__law_draw T) (hr.mono (by decide)) (by rfl) passE (AM.da_cons (AM.dv 0) (AM.da_cons AM.de_int AM.da_nil)))) (AM.dss_cons (AM.ds_if (AM.dt_cmp (AM.oa_eq rfl hr.units) (AM.dv 4) AM.de_int (nomark _)) (AM.dss_one (AM.ds_set (i := 5) sc__law_word.nd rfl (by first | exact Or.inl rfl | exact Or.inr rfl) (AM.de_ix rfl (AM.dv 3) (AM.de_callD (ok__law_draw T) (hr.mono (by decide)) (by rfl) passE (AM.da_cons (AM.dv 0) (AM.da_cons (AM.de_callB (AM.ca_len rfl) (by rfl) (b_len T) (by decide +kernel) (AM.da_cons (AM.dv 3) AM.da_nil)) AM.da_nil)))))) (AM.dss_cons (AM.ds_set (i := 6) sc__law_word.nd rfl (by first | exact Or.inl rfl | exact Or.inr rfl) (AM.de_if (AM.dt_cmp (AM.oa_eq rfl hr.units) (AM.dv 4) AM.de_int (nomark _)) AM.de_str (AM.dv 2))) (AM.dss_one (AM.ds_set (i := 5) sc__law_word.nd rfl (by first | exact Or.inl rfl | exact Or.inr rfl) (AM.de_join rfl AM.de_str (AM.de_lc (mu := false) (E0 := E0) (own := [("_law_k", 7)]) (by rfl) sc__law_word.nd (AM.di_range1 (by rfl) (b_range T) (AM.da_cons (AM.de_op (AM.oa_add rfl) AM.de_int (AM.de_callD (ok__law_draw T) (hr.mono (by decide)) (by rfl) passE (AM.da_cons (AM.dv 0) (AM.da_cons AM.de_int AM.da_nil)))) AM.da_nil)) (blkOk_by (own := [("_law_k", 7)]) (N := ["_law_source_here", "_law_taken", "_law_signs", "_law_kept_words", "_law_way", "_law_found", "_law_some", "_law_k", "_law_tries", "_law_sign", "_law_word_here"]) (sc := defScope s__law_word) (by decide +kernel)) (fun _ _ _ _ _ => (AM.dg_name (i := 7) sc__law_word.nd rfl (by first | exact Or.inl rfl | exact Or.inr rfl))) (fun _ _ _ _ _ => AM.dts_nil) (fun _ _ _ _ _ => (AM.de_ix rfl (AM.dv 6) (AM.de_callD (ok__law_draw T) (hr.mono (by decide)) (by rfl) passL (AM.da_cons (AM.dv 0) (AM.da_cons (AM.de_callB (AM.ca_len rfl) (by rfl) (b_len T) (by decide +kernel) (AM.da_cons (AM.dv 6) AM.da_nil)) AM.da_nil))))))))))) (AM.dss_cons (AM.ds_set (i := 8) sc__law_word.nd rfl (by first | exact Or.inl rfl | exact Or.inr rfl) (AM.de_op (AM.oa_add rfl) (AM.de_lst (AM.da_cons (AM.dv 5) AM.da_nil)) (AM.de_lc (mu := false) (E0 := E0) (own := [("_law_sign", 9)]) (by rfl) sc__law_word.nd (AM.di_val rfl (AM.dv 2)) (blkOk_by (own := [("_law_sign", 9)]) (N := ["_law_source_here", "_law_taken", "_law_signs", "_law_kept_words", "_law_way", "_law_found", "_law_some", "_law_k", "_law_tries", "_law_sign", "_law_word_here"]) (sc := defScope s__law_word) (by decide +kernel)) (fun _ _ _ _ _ => (AM.dg_name (i := 9) sc__law_word.nd rfl (by first | exact Or.inl rfl | exact Or.inr rfl))) (fun _ _ _ _ _ => AM.dts_nil) (fun _ _ _ _ _ => (AM.de_op (AM.oa_add rfl) (AM.de_slice rfl (AM.dv 5) AM.do_none (AM.do_some (AM.de_un AM.ua_neg AM.de_int))) (AM.dv 9)))))) (AM.dss_one (AM.ds_ret (AM.de_ix rfl (AM.de_lc (mu := false) (E0 := E0) (own := [("_law_word_here", 10)]) (by rfl) sc__law_word.nd (AM.di_val rfl (AM.dv 8)) (blkOk_by (own := [("_law_word_here", 10)]) (N := ["_law_source_here", "_law_taken", "_law_signs", "_law_kept_words", "_law_way", "_law_found", "_law_some", "_law_k", "_law_tries", "_law_sign", "_law_word_here"]) (sc := defScope s__law_word) (by decide +kernel)) (fun _ _ _ _ _ => (AM.dg_name (i := 10) sc__law_word.nd rfl (by first | exact Or.inl rfl | exact Or.inr rfl))) (fun _ _ _ _ _ => (pts_one (AM.dt_cmp (AM.oa_notIn rfl hr.units65) (AM.dv 10) (AM.dv 1) (by rfl)))) (fun _ _ _ _ _ => (AM.dv 10))) AM.de_int))))))))), AM.aSp_start (N := ["_law_source_here", "_law_taken", "_law_signs", "_law_kept_words", "_law_way", "_law_found", "_law_some", "_law_k", "_law_tries", "_law_sign", "_law_word_here"]) h⟩)
theorem sc__law_otherwise : FnScope ["_law_source_here", "_law_plan_here", "_law_hours", "_law_docks", "_law_lanes", "_law_way", "_law_at", "_law_last", "_law_word_here", "_law_size_here", "_law_fresh", "_law_dock", "_law_lane", "_law_spot", "_law_one", "_law_two", "_law_time_here"] ["_law_source_here", "_law_plan_here"] (defScope s__law_otherwise) := ⟨rfl, rfl, rfl, by decide +kernel, rfl, by decide +kernel, by decide +kernel⟩
theorem ok__law_otherwise {P : Program} {w : World} {K : Frag} {mg : Str → Option Value} {base : Heap} (T : Tx P w K mg) : DOk P w K mg base 3 "_law_otherwise" ["_law_source_here", "_law_plan_here"] (AM.aSp K F__law_otherwise) :=
  dok_of (FD__law_otherwise T) (g__law_otherwise T) sc__law_otherwise (fun _ _ _ _ _ _ us hl => match us, hl with | [_, _], _ => rfl) (fun vs H Q E h => AM.aSp_len h) (fun cdv A outer s H vs Q E hr h => ⟨AM.aS K E m__law_otherwise, (AM.dss_cons (AM.ds_asg (AM.dv 1) (AM.dg_tup rfl rfl (AM.dgs_cons (AM.dg_name (i := 2) sc__law_otherwise.nd rfl (by first | exact Or.inl rfl | exact Or.inr rfl)) (AM.dgs_cons (AM.dg_name (i := 3) sc__law_otherwise.nd rfl (by first | exact Or.inl rfl | exact Or.inr rfl)) (AM.dgs_cons (AM.dg_name (i := 4) sc__law_otherwise.nd rfl (by first | exact Or.inl rfl | exact Or.inr rfl)) AM.dgs_nil))))) (AM.dss_cons (AM.ds_parN rfl rfl (AM.dgn_cons (i := 5) sc__law_otherwise.nd rfl (by first | exact Or.inl rfl | exact Or.inr rfl) (AM.dgn_cons (i := 6) sc__law_otherwise.nd rfl (by first | exact Or.inl rfl | exact Or.inr rfl) (AM.dgn_cons (i := 7) sc__law_otherwise.nd rfl (by first | exact Or.inl rfl | exact Or.inr rfl) AM.dgn_nil))) (AM.da_cons (AM.de_callD (ok__law_draw T) (hr.mono (by decide)) (by rfl) passE (AM.da_cons (AM.dv 0) (AM.da_cons AM.de_int AM.da_nil))) (AM.da_cons (AM.de_callD (ok__law_draw T) (hr.mono (by decide)) (by rfl) passE (AM.da_cons (AM.dv 0) (AM.da_cons (AM.de_callB (AM.ca_len rfl) (by rfl) (b_len T) (by decide +kernel) (AM.da_cons (AM.dv 3) AM.da_nil)) AM.da_nil))) (AM.da_cons (AM.de_op AM.oa_sub (AM.de_callB (AM.ca_len rfl) (by rfl) (b_len T) (by decide +kernel) (AM.da_cons (AM.dv 3) AM.da_nil)) AM.de_int) AM.da_nil)))) (AM.dss_cons (AM.ds_asg (AM.de_ix rfl (AM.dv 3) (AM.dv 6)) (AM.dg_tup rfl rfl (AM.dgs_cons (AM.dg_name (i := 8) sc__law_otherwise.nd rfl (by first | exact Or.inl rfl | exact Or.inr rfl)) (AM.dgs_cons (AM.dg_name (i := 9) sc__law_otherwise.nd rfl (by first | exact Or.inl rfl | exact Or.inr rfl)) AM.dgs_nil)))) (AM.dss_cons (AM.ds_if (AM.dt_cmp (AM.oa_eq rfl hr.units) (AM.dv 5) AM.de_int (nomark _)) (AM.dss_one (AM.ds_ret (AM.de_tup (AM.da_cons (AM.dv 2) (AM.da_cons (AM.de_op (AM.oa_add rfl) (AM.de_op (AM.oa_add rfl) (AM.de_slice rfl (AM.dv 3) AM.do_none (AM.do_some (AM.dv 6))) (AM.de_tup (AM.da_cons (AM.de_tup (AM.da_cons (AM.dv 8) (AM.da_cons (AM.de_op (AM.oa_add rfl) (AM.de_op AM.oa_mod (AM.de_callTy AM.ca_int (by rfl) (b_int T) (by decide +kernel) (AM.da_cons (AM.dv 9) AM.da_nil)) AM.de_int) AM.de_int) AM.da_nil))) AM.da_nil))) (AM.de_slice rfl (AM.dv 3) (AM.do_some (AM.de_op (AM.oa_add rfl) (AM.dv 6) AM.de_int)) AM.do_none)) (AM.da_cons (AM.dv 4) AM.da_nil)))))) AM.dss_nil) (AM.dss_cons (AM.ds_if (AM.dt_cmp (AM.oa_eq rfl hr.units) (AM.dv 5) AM.de_int (nomark _)) (AM.dss_cons (AM.ds_set (i := 10) sc__law_otherwise.nd rfl (by first | exact Or.inl rfl | exact Or.inr rfl) (AM.de_callD (ok__law_word T) (hr.mono (by decide)) (by rfl) passE (AM.da_cons (AM.dv 0) (AM.da_cons (AM.de_lc (mu := false) (E0 := E0) (own := [("_law_dock", 11)]) (by rfl) sc__law_otherwise.nd (AM.di_val rfl (AM.dv 3)) (blkOk_by (own := [("_law_dock", 11)]) (N := ["_law_source_here", "_law_plan_here", "_law_hours", "_law_docks", "_law_lanes", "_law_way", "_law_at", "_law_last", "_law_word_here", "_law_size_here", "_law_fresh", "_law_dock", "_law_lane", "_law_spot", "_law_one", "_law_two", "_law_time_here"]) (sc := defScope s__law_otherwise) (by decide +kernel)) (fun _ _ _ _ _ => (AM.dg_name (i := 11) sc__law_otherwise.nd rfl (by first | exact Or.inl rfl | exact Or.inr rfl))) (fun _ _ _ _ _ => AM.dts_nil) (fun _ _ _ _ _ => (AM.de_ix rfl (AM.dv 11) AM.de_int))) AM.da_nil)))) (AM.dss_one (AM.ds_ret (AM.de_tup (AM.da_cons (AM.dv 2) (AM.da_cons (AM.de_op (AM.oa_add rfl) (AM.de_op (AM.oa_add rfl) (AM.de_slice rfl (AM.dv 3) AM.do_none (AM.do_some (AM.dv 6))) (AM.de_tup (AM.da_cons (AM.de_tup (AM.da_cons (AM.dv 10) (AM.da_cons (AM.dv 9) AM.da_nil))) AM.da_nil))) (AM.de_slice rfl (AM.dv 3) (AM.do_some (AM.de_op (AM.oa_add rfl) (AM.dv 6) AM.de_int)) AM.do_none)) (AM.da_cons (AM.dv 4) AM.da_nil))))))) AM.dss_nil) (AM.dss_cons (AM.ds_if (PW.pt (AM.dw_and (AM.dt_cmp (AM.oa_eq rfl hr.units) (AM.dv 5) AM.de_int (nomark _)) (AM.dw_and1 (AM.dt_cmp AM.oa_gt (AM.dv 7) AM.de_int (nomark _))))) (AM.dss_one (AM.ds_ret (AM.de_tup (AM.da_cons (AM.dv 2) (AM.da_cons (AM.de_rev rfl (AM.dv 3)) (AM.da_cons (AM.de_callTy (AM.ca_tuple rfl) (by rfl) (b_tuple T) (by decide +kernel) (AM.da_cons (AM.de_lc (mu := false) (E0 := E0) (own := [("_law_lane", 12)]) (by rfl) sc__law_otherwise.nd (AM.di_val rfl (AM.dv 4)) (blkOk_by (own := [("_law_lane", 12)]) (N := ["_law_source_here", "_law_plan_here", "_law_hours", "_law_docks", "_law_lanes", "_law_way", "_law_at", "_law_last", "_law_word_here", "_law_size_here", "_law_fresh", "_law_dock", "_law_lane", "_law_spot", "_law_one", "_law_two", "_law_time_here"]) (sc := defScope s__law_otherwise) (by decide +kernel)) (fun _ _ _ _ _ => (AM.dg_name (i := 12) sc__law_otherwise.nd rfl (by first | exact Or.inl rfl | exact Or.inr rfl))) (fun _ _ _ _ _ => AM.dts_nil) (fun _ _ _ _ _ => (AM.de_tup (AM.da_cons (AM.de_op AM.oa_sub (AM.dv 7) (AM.de_ix rfl (AM.dv 12) AM.de_int)) (AM.da_cons (AM.de_op AM.oa_sub (AM.dv 7) (AM.de_ix rfl (AM.dv 12) AM.de_int)) (AM.da_cons (AM.de_ix rfl (AM.dv 12) AM.de_int) AM.da_nil)))))) AM.da_nil)) AM.da_nil)))))) AM.dss_nil) (AM.dss_cons (AM.ds_if (PW.pt (AM.dw_and (AM.dt_cmp (AM.oa_eq rfl hr.units) (AM.dv 5) AM.de_int (nomark _)) (AM.dw_and1 (AM.dt_cmp AM.oa_gt (AM.de_callB (AM.ca_len rfl) (by rfl) (b_len T) (by decide +kernel) (AM.da_cons (AM.dv 4) AM.da_nil)) AM.de_int (nomark _))))) (AM.dss_one (AM.ds_ret (AM.de_tup (AM.da_cons (AM.dv 2) (AM.da_cons (AM.dv 3) (AM.da_cons (AM.de_rev rfl (AM.dv 4)) AM.da_nil)))))) AM.dss_nil) (AM.dss_cons (AM.ds_if (PW.pt (AM.dw_and (AM.dt_cmp AM.oa_gt (AM.dv 5) AM.de_int (nomark _)) (AM.dw_and1 (AM.dt_cmp (AM.oa_ne rfl hr.units) (AM.dv 4) (AM.de_tup AM.da_nil) (nomark _))))) (AM.dss_cons (AM.ds_set (i := 13) sc__law_otherwise.nd rfl (by first | exact Or.inl rfl | exact Or.inr rfl) (AM.de_callD (ok__law_draw T) (hr.mono (by decide)) (by rfl) passE (AM.da_cons (AM.dv 0) (AM.da_cons (AM.de_callB (AM.ca_len rfl) (by rfl) (b_len T) (by decide +kernel) (AM.da_cons (AM.dv 4) AM.da_nil)) AM.da_nil)))) (AM.dss_cons (AM.ds_asg (AM.de_ix rfl (AM.dv 4) (AM.dv 13)) (AM.dg_tup rfl rfl (AM.dgs_cons (AM.dg_name (i := 14) sc__law_otherwise.nd rfl (by first | exact Or.inl rfl | exact Or.inr rfl)) (AM.dgs_cons (AM.dg_name (i := 15) sc__law_otherwise.nd rfl (by first | exact Or.inl rfl | exact Or.inr rfl)) (AM.dgs_cons (AM.dg_name (i := 16) sc__law_otherwise.nd rfl (by first | exact Or.inl rfl | exact Or.inr rfl)) AM.dgs_nil))))) (AM.dss_cons (AM.ds_set (i := 10) sc__law_otherwise.nd rfl (by first | exact Or.inl rfl | exact Or.inr rfl) (AM.de_if (AM.dt_cmp (AM.oa_eq rfl hr.units) (AM.dv 5) AM.de_int (nomark _)) (AM.de_tup (AM.da_cons (AM.de_tup (AM.da_cons (AM.dv 14) (AM.da_cons (AM.dv 15) (AM.da_cons (AM.de_op (AM.oa_add rfl) (AM.de_op AM.oa_mod (AM.de_callTy AM.ca_int (by rfl) (b_int T) (by decide +kernel) (AM.da_cons (AM.dv 16) AM.da_nil)) AM.de_int) AM.de_int) AM.da_nil)))) AM.da_nil)) (AM.de_tup AM.da_nil))) (AM.dss_one (AM.ds_ret (AM.de_tup (AM.da_cons (AM.dv 2) (AM.da_cons (AM.dv 3) (AM.da_cons (AM.de_op (AM.oa_add rfl) (AM.de_op (AM.oa_add rfl) (AM.de_slice rfl (AM.dv 4) AM.do_none (AM.do_some (AM.dv 13))) (AM.dv 10)) (AM.de_slice rfl (AM.dv 4) (AM.do_some (AM.de_op (AM.oa_add rfl) (AM.dv 13) AM.de_int)) AM.do_none)) AM.da_nil))))))))) AM.dss_nil) (AM.dss_one (AM.ds_ret (AM.de_tup (AM.da_cons (AM.de_op (AM.oa_add rfl) (AM.de_op AM.oa_mod (AM.de_callTy AM.ca_int (by rfl) (b_int T) (by decide +kernel) (AM.da_cons (AM.dv 2) AM.da_nil)) AM.de_int) AM.de_int) (AM.da_cons (AM.dv 3) (AM.da_cons (AM.dv 4) AM.da_nil)))))))))))))), AM.aSp_start (N := ["_law_source_here", "_law_plan_here", "_law_hours", "_law_docks", "_law_lanes", "_law_way", "_law_at", "_law_last", "_law_word_here", "_law_size_here", "_law_fresh", "_law_dock", "_law_lane", "_law_spot", "_law_one", "_law_two", "_law_time_here"]) h⟩)
theorem sc__law_plan : FnScope ["_law_source_here", "_law_hours", "_law_docks", "_law_size_here", "_law_lanes", "_law_words", "_law_rows", "_law_pairs", "_law_found", "_law_many", "_law_k", "_law_way", "_law_least", "_law_at", "_law_pair"] ["_law_source_here", "_law_hours", "_law_docks", "_law_size_here", "_law_lanes"] (defScope s__law_plan) := ⟨rfl, rfl, rfl, by decide +kernel, rfl, by decide +kernel, by decide +kernel⟩
theorem ok__law_plan {P : Program} {w : World} {K : Frag} {mg : Str → Option Value} {base : Heap} (T : Tx P w K mg) : DOk P w K mg base 3 "_law_plan" ["_law_source_here", "_law_hours", "_law_docks", "_law_size_here", "_law_lanes"] (AM.aSp K F__law_plan) :=
  dok_of (FD__law_plan T) (g__law_plan T) sc__law_plan (fun _ _ _ _ _ _ us hl => match us, hl with | [_, _, _, _, _], _ => rfl) (fun vs H Q E h => AM.aSp_len h) (fun cdv A outer s H vs Q E hr h => ⟨AM.aS K E m__law_plan, (AM.dss_cons (AM.ds_parN rfl rfl (AM.dgn_cons (i := 5) sc__law_plan.nd rfl (by first | exact Or.inl rfl | exact Or.inr rfl) (AM.dgn_cons (i := 6) sc__law_plan.nd rfl (by first | exact Or.inl rfl | exact Or.inr rfl) (AM.dgn_cons (i := 7) sc__law_plan.nd rfl (by first | exact Or.inl rfl | exact Or.inr rfl) (AM.dgn_cons (i := 8) sc__law_plan.nd rfl (by first | exact Or.inl rfl | exact Or.inr rfl) AM.dgn_nil)))) (AM.da_cons (AM.de_lstM AM.da_nil) (AM.da_cons (AM.de_lstM AM.da_nil) (AM.da_cons (AM.de_lstM AM.da_nil) (AM.da_cons (AM.de_lstM AM.da_nil) AM.da_nil))))) (AM.dss_cons (AM.ds_set (i := 9) sc__law_plan.nd rfl (by first | exact Or.inl rfl | exact Or.inr rfl) (AM.de_op (AM.oa_add rfl) AM.de_int (AM.de_callD (ok__law_draw T) (hr.mono (by decide)) (by rfl) passE (AM.da_cons (AM.dv 0) (AM.da_cons (AM.dv 2) AM.da_nil))))) (AM.dss_cons (AM.ds_for ownE rfl (AM.di_range1 (by rfl) (b_range T) (AM.da_cons (AM.dv 9) AM.da_nil)) (AM.dg_name (i := 10) sc__law_plan.nd rfl (by first | exact Or.inl rfl | exact Or.inr rfl)) (AM.dss_cons (AM.ds_expr (AM.de_mut rfl PySem.F.slot_list_append PySem.F.type_list_append AM.ma_append (AM.dv 5) (AM.da_cons (AM.de_callD (ok__law_word T) (hr.mono (by decide)) (by rfl) passE (AM.da_cons (AM.dv 0) (AM.da_cons (AM.dv 5) AM.da_nil))) AM.da_nil))) (AM.dss_cons (AM.ds_set (i := 11) sc__law_plan.nd rfl (by first | exact Or.inl rfl | exact Or.inr rfl) (AM.de_callD (ok__law_draw T) (hr.mono (by decide)) (by rfl) passE (AM.da_cons (AM.dv 0) (AM.da_cons AM.de_int AM.da_nil)))) (AM.dss_cons (AM.ds_set (i := 12) sc__law_plan.nd rfl (by first | exact Or.inl rfl | exact Or.inr rfl) (AM.de_callB (AM.ca_min2 rfl) (by rfl) (b_min T) (by decide +kernel) (AM.da_cons AM.de_int (AM.da_cons (AM.dv 3) AM.da_nil)))) (AM.dss_cons (AM.ds_expr (AM.de_mut rfl PySem.F.slot_list_append PySem.F.type_list_append AM.ma_append (AM.dv 6) (AM.da_cons (AM.de_tup (AM.da_cons (AM.de_ix rfl (AM.dv 5) (AM.dv 10)) (AM.da_cons (AM.de_if (AM.dt_cmp (AM.oa_eq rfl hr.units) (AM.dv 11) AM.de_int (nomark _)) (AM.de_op (AM.oa_add rfl) AM.de_int (AM.de_callD (ok__law_draw T) (hr.mono (by decide)) (by rfl) passE (AM.da_cons (AM.dv 0) (AM.da_cons (AM.dv 12) AM.da_nil)))) (AM.de_op (AM.oa_add rfl) AM.de_int (AM.de_callD (ok__law_draw T) (hr.mono (by decide)) (by rfl) passE (AM.da_cons (AM.dv 0) (AM.da_cons (AM.dv 3) AM.da_nil))))) AM.da_nil))) AM.da_nil))) (AM.dss_one (AM.ds_expr (AM.de_mut rfl PySem.F.slot_list_extend PySem.F.type_list_extend AM.ma_extend (AM.dv 7) (AM.da_cons (AM.de_lc (mu := false) (E0 := E0) (own := [("_law_at", 13)]) (by rfl) sc__law_plan.nd (AM.di_range1 (by rfl) (b_range T) (AM.da_cons (AM.dv 9) AM.da_nil)) (blkOk_by (own := [("_law_at", 13)]) (N := ["_law_source_here", "_law_hours", "_law_docks", "_law_size_here", "_law_lanes", "_law_words", "_law_rows", "_law_pairs", "_law_found", "_law_many", "_law_k", "_law_way", "_law_least", "_law_at", "_law_pair"]) (sc := defScope s__law_plan) (by decide +kernel)) (fun _ _ _ _ _ => (AM.dg_name (i := 13) sc__law_plan.nd rfl (by first | exact Or.inl rfl | exact Or.inr rfl))) (fun _ _ _ _ _ => AM.dts_nil) (fun _ _ _ _ _ => (AM.de_tup (AM.da_cons (AM.dv 10) (AM.da_cons (AM.dv 13) AM.da_nil))))) AM.da_nil))))))))) (AM.dss_cons (AM.ds_for ownE rfl (AM.di_range1 (by rfl) (b_range T) (AM.da_cons (AM.de_callD (ok__law_draw T) (hr.mono (by decide)) (by rfl) passE (AM.da_cons (AM.dv 0) (AM.da_cons (AM.de_op (AM.oa_add rfl) (AM.de_callB (AM.ca_min2 rfl) (by rfl) (b_min T) (by decide +kernel) (AM.da_cons (AM.dv 4) (AM.da_cons (AM.de_callB (AM.ca_len rfl) (by rfl) (b_len T) (by decide +kernel) (AM.da_cons (AM.dv 7) AM.da_nil)) AM.da_nil))) AM.de_int) AM.da_nil))) AM.da_nil)) (AM.dg_name (i := 10) sc__law_plan.nd rfl (by first | exact Or.inl rfl | exact Or.inr rfl)) (AM.dss_cons (AM.ds_set (i := 14) sc__law_plan.nd rfl (by first | exact Or.inl rfl | exact Or.inr rfl) (AM.de_mut rfl PySem.F.slot_list_pop PySem.F.type_list_pop AM.ma_popAt (AM.dv 7) (AM.da_cons (AM.de_callD (ok__law_draw T) (hr.mono (by decide)) (by rfl) passE (AM.da_cons (AM.dv 0) (AM.da_cons (AM.de_callB (AM.ca_len rfl) (by rfl) (b_len T) (by decide +kernel) (AM.da_cons (AM.dv 7) AM.da_nil)) AM.da_nil))) AM.da_nil))) (AM.dss_one (AM.ds_expr (AM.de_mut rfl PySem.F.slot_list_append PySem.F.type_list_append AM.ma_append (AM.dv 8) (AM.da_cons (AM.de_tup (AM.da_cons (AM.de_ix rfl (AM.dv 14) AM.de_int) (AM.da_cons (AM.de_ix rfl (AM.dv 14) AM.de_int) (AM.da_cons (AM.de_op (AM.oa_add rfl) AM.de_int (AM.de_callD (ok__law_draw T) (hr.mono (by decide)) (by rfl) passE (AM.da_cons (AM.dv 0) (AM.da_cons AM.de_int AM.da_nil)))) AM.da_nil)))) AM.da_nil)))))) (AM.dss_one (AM.ds_ret (AM.de_tup (AM.da_cons (AM.de_op (AM.oa_add rfl) AM.de_int (AM.de_callD (ok__law_draw T) (hr.mono (by decide)) (by rfl) passE (AM.da_cons (AM.dv 0) (AM.da_cons (AM.dv 1) AM.da_nil)))) (AM.da_cons (AM.de_callTy (AM.ca_tuple rfl) (by rfl) (b_tuple T) (by decide +kernel) (AM.da_cons (AM.dv 6) AM.da_nil)) (AM.da_cons (AM.de_callTy (AM.ca_tuple rfl) (by rfl) (b_tuple T) (by decide +kernel) (AM.da_cons (AM.dv 8) AM.da_nil)) AM.da_nil)))))))))), AM.aSp_start (N := ["_law_source_here", "_law_hours", "_law_docks", "_law_size_here", "_law_lanes", "_law_words", "_law_rows", "_law_pairs", "_law_found", "_law_many", "_law_k", "_law_way", "_law_least", "_law_at", "_law_pair"]) h⟩)
theorem sc__law_lines : FnScope ["_law_plan_here", "_law_rows", "_law_dock", "_law_lane"] ["_law_plan_here"] (defScope s__law_lines) := ⟨rfl, rfl, rfl, by decide +kernel, rfl, by decide +kernel, by decide +kernel⟩
theorem ok__law_lines {P : Program} {w : World} {K : Frag} {mg : Str → Option Value} {base : Heap} (T : Tx P w K mg) : DOk P w K mg base 2 "_law_lines" ["_law_plan_here"] (AM.aSp K F__law_lines) :=
  dok_of (FD__law_lines T) (g__law_lines T) sc__law_lines (fun _ _ _ _ _ _ us hl => match us, hl with | [_], _ => rfl) (fun vs H Q E h => AM.aSp_len h) (fun cdv A outer s H vs Q E hr h => ⟨AM.aS K E m__law_lines, (AM.dss_cons (AM.ds_set (i := 1) sc__law_lines.nd rfl (by first | exact Or.inl rfl | exact Or.inr rfl) (AM.de_op (AM.oa_add rfl) (AM.de_lst (AM.da_cons (AM.de_op (AM.oa_add rfl) AM.de_str (AM.de_callTy AM.ca_str (by rfl) (b_str T) (by decide +kernel) (AM.da_cons (AM.de_ix rfl (AM.dv 0) AM.de_int) AM.da_nil))) AM.da_nil)) (AM.de_lc (mu := false) (E0 := E0) (own := [("_law_dock", 2)]) (by rfl) sc__law_lines.nd (AM.di_val rfl (AM.de_ix rfl (AM.dv 0) AM.de_int)) (blkOk_by (own := [("_law_dock", 2)]) (N := ["_law_plan_here", "_law_rows", "_law_dock", "_law_lane"]) (sc := defScope s__law_lines) (by decide +kernel)) (fun _ _ _ _ _ => (AM.dg_name (i := 2) sc__law_lines.nd rfl (by first | exact Or.inl rfl | exact Or.inr rfl))) (fun _ _ _ _ _ => AM.dts_nil) (fun _ _ _ _ _ => (AM.de_op (AM.oa_add rfl) (AM.de_op (AM.oa_add rfl) (AM.de_op (AM.oa_add rfl) AM.de_str (AM.de_ix rfl (AM.dv 2) AM.de_int)) AM.de_str) (AM.de_callTy AM.ca_str (by rfl) (b_str T) (by decide +kernel) (AM.da_cons (AM.de_ix rfl (AM.dv 2) AM.de_int) AM.da_nil))))))) (AM.dss_one (AM.ds_ret (AM.de_op (AM.oa_add rfl) (AM.dv 1) (AM.de_lc (mu := false) (E0 := E0) (own := [("_law_lane", 3)]) (by rfl) sc__law_lines.nd (AM.di_val rfl (AM.de_callD (ok__law_named T) (hr.mono (by decide)) (by rfl) passE (AM.da_cons (AM.dv 0) AM.da_nil))) (blkOk_by (own := [("_law_lane", 3)]) (N := ["_law_plan_here", "_law_rows", "_law_dock", "_law_lane"]) (sc := defScope s__law_lines) (by decide +kernel)) (fun _ _ _ _ _ => (AM.dg_name (i := 3) sc__law_lines.nd rfl (by first | exact Or.inl rfl | exact Or.inr rfl))) (fun _ _ _ _ _ => AM.dts_nil) (fun _ _ _ _ _ => (AM.de_op (AM.oa_add rfl) (AM.de_op (AM.oa_add rfl) (AM.de_op (AM.oa_add rfl) (AM.de_op (AM.oa_add rfl) (AM.de_op (AM.oa_add rfl) AM.de_str (AM.de_ix rfl (AM.dv 3) AM.de_int)) AM.de_str) (AM.de_ix rfl (AM.dv 3) AM.de_int)) AM.de_str) (AM.de_callTy AM.ca_str (by rfl) (b_str T) (by decide +kernel) (AM.da_cons (AM.de_ix rfl (AM.dv 3) AM.de_int) AM.da_nil))))))))), AM.aSp_start (N := ["_law_plan_here", "_law_rows", "_law_dock", "_law_lane"]) h⟩)
theorem sc__law_text : FnScope ["_law_plan_here"] ["_law_plan_here"] (defScope s__law_text) := ⟨rfl, rfl, rfl, by decide +kernel, rfl, by decide +kernel, by decide +kernel⟩
theorem ok__law_text {P : Program} {w : World} {K : Frag} {mg : Str → Option Value} {base : Heap} (T : Tx P w K mg) : DOk P w K mg base 3 "_law_text" ["_law_plan_here"] (AM.aSp K F__law_text) :=
  dok_of (FD__law_text T) (g__law_text T) sc__law_text (fun _ _ _ _ _ _ us hl => match us, hl with | [_], _ => rfl) (fun vs H Q E h => AM.aSp_len h) (fun cdv A outer s H vs Q E hr h => ⟨AM.aS K E m__law_text, (AM.dss_one (AM.ds_ret (AM.de_join rfl AM.de_str (AM.de_callD (ok__law_lines T) (hr.mono (by decide)) (by rfl) passE (AM.da_cons (AM.dv 0) AM.da_nil))))), AM.aSp_start (N := ["_law_plan_here"]) h⟩)
theorem sc__law_shown_right : FnScope ["_law_mine", "_law_plan_here", "_law_words", "_law_many", "_law_dock", "_law_told", "_law_due"] ["_law_mine", "_law_plan_here"] (defScope s__law_shown_right) := ⟨rfl, rfl, rfl, by decide +kernel, rfl, by decide +kernel, by decide +kernel⟩
theorem ok__law_shown_right {P : Program} {w : World} {K : Frag} {mg : Str → Option Value} {base : Heap} (T : Tx P w K mg) : GOk P w K mg base 7 "_law_shown_right" ["_law_mine", "_law_plan_here"] (AM.aSp K F__law_shown_right) :=
  gok_of (FD__law_shown_right T) (g__law_shown_right T) sc__law_shown_right (fun _ _ _ _ _ _ us hl => match us, hl with | [_, _], _ => rfl) (fun vs H Q E h => AM.aSp_len h) (fun cdv A outer s H vs Q E hG hr h => ⟨AM.aS K E m__law_shown_right, (AM.dss_cons (AM.ds_par (i := 2) (j := 3) (by rfl) sc__law_shown_right.nd rfl rfl (by decide) rfl rfl (AM.da_cons (AM.de_callTy (AM.ca_tuple rfl) (by rfl) (b_tuple T) (by decide +kernel) (AM.da_cons (AM.de_lc (mu := false) (E0 := E0) (own := [("_law_dock", 4)]) (by rfl) sc__law_shown_right.nd (AM.di_val rfl (AM.de_ix rfl (AM.dv 1) AM.de_int)) (blkOk_by (own := [("_law_dock", 4)]) (N := ["_law_mine", "_law_plan_here", "_law_words", "_law_many", "_law_dock", "_law_told", "_law_due"]) (sc := defScope s__law_shown_right) (by decide +kernel)) (fun _ _ _ _ _ => (AM.dg_name (i := 4) sc__law_shown_right.nd rfl (by first | exact Or.inl rfl | exact Or.inr rfl))) (fun _ _ _ _ _ => AM.dts_nil) (fun _ _ _ _ _ => (AM.de_ix rfl (AM.dv 4) AM.de_int))) AM.da_nil)) (AM.da_cons (AM.de_callB (AM.ca_len rfl) (by rfl) (b_len T) (by decide +kernel) (AM.da_cons (AM.de_ix rfl (AM.dv 1) AM.de_int) AM.da_nil)) AM.da_nil)) (by rfl)) (AM.dss_cons (AM.ds_set (i := 5) sc__law_shown_right.nd rfl (by first | exact Or.inl rfl | exact Or.inr rfl) (AM.de_lst (AM.da_cons (AM.de_prop rfl (AM.dv 0) (cl_Town T) (propB_ok (pr_Town_slots T)) (ok_Town_slots T) (hr.mono (by decide))) (AM.da_cons (AM.de_prop rfl (AM.dv 0) (cl_Town T) (propB_ok (pr_Town_stands T)) (ok_Town_stands T) (hr.mono (by decide))) (AM.da_cons (AM.de_prop rfl (AM.dv 0) (cl_Town T) (propB_ok (pr_Town_roads T)) (ok_Town_roads T) (hr.mono (by decide))) (AM.da_cons (AM.de_prop rfl (AM.dv 0) (cl_Town T) (propB_ok (pr_Town_names T)) (ok_Town_names T) (hr.mono (by decide))) (AM.da_cons (AM.de_callTy (AM.ca_strOwn (C := "Town") rfl (mt_Town___str__ T) (ok_Town___str__ T) (hr.mono (by decide)) passE) (by rfl) (b_str T) (by decide +kernel) (AM.da_cons (AM.dv 0) AM.da_nil)) (AM.da_cons (AM.de_callB (AM.ca_reprOwn (C := "Town") rfl (mt_Town___repr__ T) (ok_Town___repr__ T) (hr.mono (by decide)) passE) (by rfl) (b_repr T) (by decide +kernel) (AM.da_cons (AM.dv 0) AM.da_nil)) (AM.da_cons (AM.de_callTy (AM.ca_boolOwn (C := "Town") rfl (of_decide_eq_true (no_Town___bool__ T)) (of_decide_eq_true (no_Town___len__ T))) (by rfl) (b_bool T) (by decide +kernel) (AM.da_cons (AM.dv 0) AM.da_nil)) AM.da_nil))))))))) (AM.dss_cons (AM.ds_set (i := 6) sc__law_shown_right.nd rfl (by first | exact Or.inl rfl | exact Or.inr rfl) (AM.de_lst (AM.da_cons (AM.de_ix rfl (AM.dv 1) AM.de_int) (AM.da_cons (AM.de_ix rfl (AM.dv 1) AM.de_int) (AM.da_cons (AM.de_callD (ok__law_named T) (hr.mono (by decide)) (by rfl) passE (AM.da_cons (AM.dv 1) AM.da_nil)) (AM.da_cons (AM.dv 2) (AM.da_cons (AM.de_callD (ok__law_text T) (hr.mono (by decide)) (by rfl) passE (AM.da_cons (AM.dv 1) AM.da_nil)) (AM.da_cons (AM.de_op (AM.oa_add rfl) (AM.de_op (AM.oa_add rfl) AM.de_str (AM.de_callTy AM.ca_str (by rfl) (b_str T) (by decide +kernel) (AM.da_cons (AM.dv 3) AM.da_nil))) AM.de_str) (AM.da_cons AM.de_bl AM.da_nil))))))))) (AM.dss_one (AM.ds_ret (AM.de_cmp (AM.oa_eq rfl hr.units) (AM.de_callB (AM.ca_repr rfl hG hr.units) (by rfl) (b_repr T) (by decide +kernel) (AM.da_cons (AM.dv 5) AM.da_nil)) (AM.de_callB (AM.ca_repr rfl hG hr.units) (by rfl) (b_repr T) (by decide +kernel) (AM.da_cons (AM.dv 6) AM.da_nil)) (nomark _))))))), AM.aSp_start (N := ["_law_mine", "_law_plan_here", "_law_words", "_law_many", "_law_dock", "_law_told", "_law_due"]) h⟩)
theorem sc__law_town : FnScope ["_law_plan_here"] ["_law_plan_here"] (defScope s__law_town) := ⟨rfl, rfl, rfl, by decide +kernel, rfl, by decide +kernel, by decide +kernel⟩
theorem ok__law_town {P : Program} {w : World} {K : Frag} {mg : Str → Option Value} {base : Heap} (T : Tx P w K mg) : DOk P w K mg base 7 "_law_town" ["_law_plan_here"] (AM.aSp K F__law_town) :=
  dok_of (FD__law_town T) (g__law_town T) sc__law_town (fun _ _ _ _ _ _ us hl => match us, hl with | [_], _ => rfl) (fun vs H Q E h => AM.aSp_len h) (fun cdv A outer s H vs Q E hr h => ⟨AM.aS K E m__law_town, (AM.dss_one (AM.ds_ret (AM.de_make (mu := false) (C := "Town") rfl (mk_Town T) (ok_Town___init__ T) (hr.mono (by decide)) (by rfl) (g_Town T) passE (AM.da_cons (AM.de_ix rfl (AM.dv 0) AM.de_int) (AM.da_cons (AM.de_ix rfl (AM.dv 0) AM.de_int) (AM.da_cons (AM.de_callD (ok__law_named T) (hr.mono (by decide)) (by rfl) passE (AM.da_cons (AM.dv 0) AM.da_nil)) AM.da_nil)))))), AM.aSp_start (N := ["_law_plan_here"]) h⟩)
theorem sc__law_right : FnScope ["_law_source_here", "_law_plan_here", "_law_other", "_law_lanes", "_law_made", "_law_mate", "_law_one", "_law_told", "_law_two", "_law_thing"] ["_law_source_here"] (defScope s__law_right) := ⟨rfl, rfl, rfl, by decide +kernel, rfl, by decide +kernel, by decide +kernel⟩
theorem ok__law_right {P : Program} {w : World} {K : Frag} {mg : Str → Option Value} {base : Heap} (T : Tx P w K mg) : GOk P w K mg base 10 "_law_right" ["_law_source_here"] (AM.aSp K F__law_right) :=
  gok_of (FD__law_right T) (g__law_right T) sc__law_right (fun _ _ _ _ _ _ us hl => match us, hl with | [_], _ => rfl) (fun vs H Q E h => AM.aSp_len h) (fun cdv A outer s H vs Q E hG hr h => ⟨AM.aS K E m__law_right, (AM.dss_cons (AM.ds_set (i := 1) sc__law_right.nd rfl (by first | exact Or.inl rfl | exact Or.inr rfl) (AM.de_callD (ok__law_plan T) (hr.mono (by decide)) (by rfl) passE (AM.da_cons (AM.dv 0) (AM.da_cons AM.de_int (AM.da_cons AM.de_int (AM.da_cons AM.de_int (AM.da_cons AM.de_int AM.da_nil))))))) (AM.dss_cons (AM.ds_set (i := 2) sc__law_right.nd rfl (by first | exact Or.inl rfl | exact Or.inr rfl) (AM.de_callD (ok__law_otherwise T) (hr.mono (by decide)) (by rfl) passE (AM.da_cons (AM.dv 0) (AM.da_cons (AM.dv 1) AM.da_nil)))) (AM.dss_cons (AM.ds_set (i := 3) sc__law_right.nd rfl (by first | exact Or.inl rfl | exact Or.inr rfl) (AM.de_callD (ok__law_named T) (hr.mono (by decide)) (by rfl) passE (AM.da_cons (AM.dv 1) AM.da_nil))) (AM.dss_cons (AM.ds_set (i := 4) sc__law_right.nd rfl (by first | exact Or.inl rfl | exact Or.inr rfl) (AM.de_lst (AM.da_cons (AM.de_make (mu := false) (C := "Town") rfl (mk_Town T) (ok_Town___init__ T) (hr.mono (by decide)) (by rfl) (g_Town T) passE (AM.da_cons (AM.de_ix rfl (AM.dv 1) AM.de_int) (AM.da_cons (AM.de_ix rfl (AM.dv 1) AM.de_int) (AM.da_cons (AM.dv 3) AM.da_nil)))) (AM.da_cons (AM.de_makeKw (mu := false) (C := "Town") [0, 3, 4, 2] [.tup []] ["roads", "slots", "stands"] rfl (mk_Town T) (ok_Town___init__ T) (FD_Town___init__ T) (fun z => by cases z) (fun G => (.cons (AM.etB_rd (et_Town___init___0 T) G) .nil)) (fun _ _ _ _ _ _ _ us its ws hl hl2 hl3 => match us, hl, its, hl2, ws, hl3 with | [_], _, [_], _, [_, _, _], _ => ⟨_, rfl, rfl⟩) (hr.mono (by decide)) (by rfl) (g_Town T) passE (AM.dk_cons (AM.dv 3) (AM.dk_cons (AM.de_ix rfl (AM.dv 1) AM.de_int) (AM.dk_cons (AM.de_ix rfl (AM.dv 1) AM.de_int) AM.dk_nil)))) AM.da_nil)))) (AM.dss_cons (AM.ds_if (AM.dt_cmp (AM.oa_eq rfl hr.units) (AM.dv 3) (AM.de_tup AM.da_nil) (nomark _)) (AM.dss_one (AM.ds_set (i := 4) sc__law_right.nd rfl (by first | exact Or.inl rfl | exact Or.inr rfl) (AM.de_op (AM.oa_add rfl) (AM.dv 4) (AM.de_lst (AM.da_cons (AM.de_makeDf (mu := false) (C := "Town") 3 0 [.tup []] rfl (mk_Town T) (ok_Town___init__ T) (FD_Town___init__ T) (fun z => by cases z) (fun G => (.cons (AM.etB_rd (et_Town___init___0 T) G) .nil)) rfl (fun _ _ _ _ _ _ _ us its hl hl2 => match us, hl, its, hl2 with | [_, _, _], _, [_], _ => ⟨_, rfl, rfl⟩) (hr.mono (by decide)) (by rfl) (g_Town T) passE (AM.da_cons (AM.de_ix rfl (AM.dv 1) AM.de_int) (AM.da_cons (AM.de_ix rfl (AM.dv 1) AM.de_int) AM.da_nil))) (AM.da_cons (AM.de_makeKw (mu := false) (C := "Town") [0, 3, 2, 1] [.tup []] ["stands", "slots"] rfl (mk_Town T) (ok_Town___init__ T) (FD_Town___init__ T) (fun z => by cases z) (fun G => (.cons (AM.etB_rd (et_Town___init___0 T) G) .nil)) (fun _ _ _ _ _ _ _ us its ws hl hl2 hl3 => match us, hl, its, hl2, ws, hl3 with | [_], _, [_], _, [_, _], _ => ⟨_, rfl, rfl⟩) (hr.mono (by decide)) (by rfl) (g_Town T) passE (AM.dk_cons (AM.de_ix rfl (AM.dv 1) AM.de_int) (AM.dk_cons (AM.de_ix rfl (AM.dv 1) AM.de_int) AM.dk_nil))) AM.da_nil)))))) AM.dss_nil) (AM.dss_cons (AM.ds_set (i := 5) sc__law_right.nd rfl (by first | exact Or.inl rfl | exact Or.inr rfl) (AM.de_callD (ok__law_town T) (hr.mono (by decide)) (by rfl) passE (AM.da_cons (AM.dv 2) AM.da_nil))) (AM.dss_cons (AM.ds_if (PW.pt (AM.dw_or (AM.dt_cmp (AM.oa_eq rfl hr.units) (AM.de_callD (ok__law_text T) (hr.mono (by decide)) (by rfl) passE (AM.da_cons (AM.dv 2) AM.da_nil)) (AM.de_callD (ok__law_text T) (hr.mono (by decide)) (by rfl) passE (AM.da_cons (AM.dv 1) AM.da_nil)) (nomark _)) (AM.dw_or1 (AM.dt_not (AM.dt_val (AM.de_callG (ok__law_shown_right T) hG (hr.mono (by decide)) (by rfl) passE (AM.da_cons (AM.dv 5) (AM.da_cons (AM.dv 2) AM.da_nil)))))))) (AM.dss_one (AM.ds_ret AM.de_bl)) AM.dss_nil) (AM.dss_cons (AM.ds_for ownE rfl (AM.di_val rfl (AM.dv 4)) (AM.dg_name (i := 6) sc__law_right.nd rfl (by first | exact Or.inl rfl | exact Or.inr rfl)) (AM.dss_cons (AM.ds_if (PW.pt (AM.dw_or (AM.dt_not (AM.dt_val (AM.de_callG (ok__law_shown_right T) hG (hr.mono (by decide)) (by rfl) passE (AM.da_cons (AM.dv 6) (AM.da_cons (AM.dv 1) AM.da_nil))))) (AM.dw_or1 (AM.dt_cmp (AM.oa_ne rfl hr.units) (AM.de_callB (AM.ca_repr rfl hG hr.units) (by rfl) (b_repr T) (by decide +kernel) (AM.da_cons (AM.de_lst (AM.da_cons (AM.de_cmp (AM.oa_eqOwn (C := "Town") rfl (own_ok T) (by decide) (mt_Town___eq__ T) (ok_Town___eq__ T) (hr.mono (by decide)) passE) (AM.dv 6) (AM.dv 5) (nomark _)) (AM.da_cons (AM.de_cmp (AM.oa_eqOwn (C := "Town") rfl (own_ok T) (by decide) (mt_Town___eq__ T) (ok_Town___eq__ T) (hr.mono (by decide)) passE) (AM.dv 5) (AM.dv 6) (nomark _)) (AM.da_cons (AM.de_cmp (AM.oa_neOwn (C := "Town") rfl (own_ok T) (by decide) (mt_Town___eq__ T) (He.eqO_ok (ne_Town T)) (ok_Town___eq__ T) (hr.mono (by decide)) passE) (AM.dv 6) (AM.dv 5) (nomark _)) AM.da_nil)))) AM.da_nil)) AM.de_str (nomark _))))) (AM.dss_one (AM.ds_ret AM.de_bl)) AM.dss_nil) (AM.dss_cons (AM.ds_set (i := 7) sc__law_right.nd rfl (by first | exact Or.inl rfl | exact Or.inr rfl) (AM.de_op (AM.oa_add rfl) (AM.de_lc (mu := false) (E0 := E0) (own := [("_law_two", 8)]) (by rfl) sc__law_right.nd (AM.di_val rfl (AM.dv 4)) (blkOk_by (own := [("_law_two", 8)]) (N := ["_law_source_here", "_law_plan_here", "_law_other", "_law_lanes", "_law_made", "_law_mate", "_law_one", "_law_told", "_law_two", "_law_thing"]) (sc := defScope s__law_right) (by decide +kernel)) (fun _ _ _ _ _ => (AM.dg_name (i := 8) sc__law_right.nd rfl (by first | exact Or.inl rfl | exact Or.inr rfl))) (fun _ _ _ _ _ => AM.dts_nil) (fun _ _ _ _ _ => (AM.de_cmp (AM.oa_eqOwn (C := "Town") rfl (own_ok T) (by decide) (mt_Town___eq__ T) (ok_Town___eq__ T) (hr.mono (by decide)) passL) (AM.dv 6) (AM.dv 8) (nomark _)))) (AM.de_lc (mu := false) (E0 := E0) (own := [("_law_two", 8)]) (by rfl) sc__law_right.nd (AM.di_val rfl (AM.dv 4)) (blkOk_by (own := [("_law_two", 8)]) (N := ["_law_source_here", "_law_plan_here", "_law_other", "_law_lanes", "_law_made", "_law_mate", "_law_one", "_law_told", "_law_two", "_law_thing"]) (sc := defScope s__law_right) (by decide +kernel)) (fun _ _ _ _ _ => (AM.dg_name (i := 8) sc__law_right.nd rfl (by first | exact Or.inl rfl | exact Or.inr rfl))) (fun _ _ _ _ _ => AM.dts_nil) (fun _ _ _ _ _ => (AM.de_cmp (AM.oa_neOwn (C := "Town") rfl (own_ok T) (by decide) (mt_Town___eq__ T) (He.eqO_ok (ne_Town T)) (ok_Town___eq__ T) (hr.mono (by decide)) passL) (AM.dv 6) (AM.dv 8) (nomark _)))))) (AM.dss_cons (AM.ds_if (AM.dt_cmp (AM.oa_ne rfl hr.units) (AM.de_callB (AM.ca_repr rfl hG hr.units) (by rfl) (b_repr T) (by decide +kernel) (AM.da_cons (AM.dv 7) AM.da_nil)) (AM.de_callB (AM.ca_repr rfl hG hr.units) (by rfl) (b_repr T) (by decide +kernel) (AM.da_cons (AM.de_op (AM.oa_add rfl) (AM.de_lc (mu := false) (E0 := E0) (own := [("_law_two", 8)]) (by rfl) sc__law_right.nd (AM.di_val rfl (AM.dv 4)) (blkOk_by (own := [("_law_two", 8)]) (N := ["_law_source_here", "_law_plan_here", "_law_other", "_law_lanes", "_law_made", "_law_mate", "_law_one", "_law_told", "_law_two", "_law_thing"]) (sc := defScope s__law_right) (by decide +kernel)) (fun _ _ _ _ _ => (AM.dg_name (i := 8) sc__law_right.nd rfl (by first | exact Or.inl rfl | exact Or.inr rfl))) (fun _ _ _ _ _ => AM.dts_nil) (fun _ _ _ _ _ => AM.de_bl)) (AM.de_lc (mu := false) (E0 := E0) (own := [("_law_two", 8)]) (by rfl) sc__law_right.nd (AM.di_val rfl (AM.dv 4)) (blkOk_by (own := [("_law_two", 8)]) (N := ["_law_source_here", "_law_plan_here", "_law_other", "_law_lanes", "_law_made", "_law_mate", "_law_one", "_law_told", "_law_two", "_law_thing"]) (sc := defScope s__law_right) (by decide +kernel)) (fun _ _ _ _ _ => (AM.dg_name (i := 8) sc__law_right.nd rfl (by first | exact Or.inl rfl | exact Or.inr rfl))) (fun _ _ _ _ _ => AM.dts_nil) (fun _ _ _ _ _ => AM.de_bl))) AM.da_nil)) (nomark _)) (AM.dss_one (AM.ds_ret AM.de_bl)) AM.dss_nil) (AM.dss_one (AM.ds_for ownE rfl (AM.di_val rfl (AM.de_lst (AM.da_cons (AM.de_callTy (AM.ca_strOwn (C := "Town") rfl (mt_Town___str__ T) (ok_Town___str__ T) (hr.mono (by decide)) passE) (by rfl) (b_str T) (by decide +kernel) (AM.da_cons (AM.dv 6) AM.da_nil)) (AM.da_cons (AM.de_ix rfl (AM.dv 1) AM.de_int) (AM.da_cons AM.de_non (AM.da_cons AM.de_int (AM.da_cons AM.de_bl (AM.da_cons (AM.de_makeDf (mu := false) (C := "Log") 2 0 [.tup []] rfl (mk_Log T) (ok_Log___init__ T) (FD_Log___init__ T) (fun z => by cases z) (fun G => (.cons (AM.etB_rd (et_Log___init___0 T) G) .nil)) rfl (fun _ _ _ _ _ _ _ us its hl hl2 => match us, hl, its, hl2 with | [_, _], _, [_], _ => ⟨_, rfl, rfl⟩) (hr.mono (by decide)) (by rfl) (g_Log T) passE (AM.da_cons (AM.dv 6) AM.da_nil)) (AM.da_cons (AM.de_lst (AM.da_cons (AM.dv 6) AM.da_nil)) (AM.da_cons (AM.de_tup (AM.da_cons (AM.dv 6) AM.da_nil)) (AM.da_cons (AM.de_prop rfl (AM.dv 6) (cl_Town T) (propB_ok (pr_Town_names T)) (ok_Town_names T) (hr.mono (by decide))) (AM.da_cons (AM.de_callB (AM.ca_reprOwn (C := "Town") rfl (mt_Town___repr__ T) (ok_Town___repr__ T) (hr.mono (by decide)) passE) (by rfl) (b_repr T) (by decide +kernel) (AM.da_cons (AM.dv 6) AM.da_nil)) AM.da_nil)))))))))))) (AM.dg_name (i := 9) sc__law_right.nd rfl (by first | exact Or.inl rfl | exact Or.inr rfl)) (AM.dss_one (AM.ds_if (AM.dt_cmp (AM.oa_ne rfl hr.units) (AM.de_callB (AM.ca_repr rfl hG hr.units) (by rfl) (b_repr T) (by decide +kernel) (AM.da_cons (AM.de_lst (AM.da_cons (AM.de_cmp (AM.oa_eqOwn (C := "Town") rfl (own_ok T) (by decide) (mt_Town___eq__ T) (ok_Town___eq__ T) (hr.mono (by decide)) passE) (AM.dv 6) (AM.dv 9) (nomark _)) (AM.da_cons (AM.de_cmp (AM.oa_neOwn (C := "Town") rfl (own_ok T) (by decide) (mt_Town___eq__ T) (He.eqO_ok (ne_Town T)) (ok_Town___eq__ T) (hr.mono (by decide)) passE) (AM.dv 6) (AM.dv 9) (nomark _)) AM.da_nil))) AM.da_nil)) AM.de_str (nomark _)) (AM.dss_one (AM.ds_ret AM.de_bl)) AM.dss_nil)))))))) (AM.dss_one (AM.ds_ret (AM.de_callB (AM.ca_all rfl rfl) (by rfl) (b_all T) (by decide +kernel) (AM.da_cons (AM.de_lc (mu := false) (E0 := E0) (own := [("_law_one", 6)]) (by rfl) sc__law_right.nd (AM.di_val rfl (AM.dv 4)) (blkOk_by (own := [("_law_one", 6)]) (N := ["_law_source_here", "_law_plan_here", "_law_other", "_law_lanes", "_law_made", "_law_mate", "_law_one", "_law_told", "_law_two", "_law_thing"]) (sc := defScope s__law_right) (by decide +kernel)) (fun _ _ _ _ _ => (AM.dg_name (i := 6) sc__law_right.nd rfl (by first | exact Or.inl rfl | exact Or.inr rfl))) (fun _ _ _ _ _ => AM.dts_nil) (fun _ _ _ _ _ => (AM.de_callG (ok__law_shown_right T) hG (hr.mono (by decide)) (by rfl) passL (AM.da_cons (AM.dv 6) (AM.da_cons (AM.dv 1) AM.da_nil))))) AM.da_nil)))))))))))), AM.aSp_start (N := ["_law_source_here", "_law_plan_here", "_law_other", "_law_lanes", "_law_made", "_law_mate", "_law_one", "_law_told", "_law_two", "_law_thing"]) h⟩)
theorem sc__law_source : FnScope ["_law_cell_here", "_law_stock"] ["_law_cell_here"] (defScope s__law_source) := ⟨rfl, rfl, rfl, by decide +kernel, rfl, by decide +kernel, by decide +kernel⟩
theorem ok__law_source {P : Program} {w : World} {K : Frag} {mg : Str → Option Value} {base : Heap} (T : Tx P w K mg) : DOk P w K mg base 1 "_law_source" ["_law_cell_here"] (AM.aSp K F__law_source) :=
  dok_of (FD__law_source T) (g__law_source T) sc__law_source (fun _ _ _ _ _ _ us hl => match us, hl with | [_], _ => rfl) (fun vs H Q E h => AM.aSp_len h) (fun cdv A outer s H vs Q E hr h => ⟨AM.aS K E m__law_source, (AM.dss_cons (AM.ds_set (i := 1) sc__law_source.nd rfl (by first | exact Or.inl rfl | exact Or.inr rfl) AM.de_int) (AM.dss_cons (AM.ds_if (PW.pt (AM.dw_or (AM.dt_cmp AM.oa_lt (AM.dv 0) AM.de_int (nomark _)) (AM.dw_or1 (AM.dt_cmp AM.oa_ge (AM.dv 0) (AM.de_op AM.oa_pow AM.de_int AM.de_int) (nomark _))))) (AM.dss_one (AM.ds_set (i := 1) sc__law_source.nd rfl (by first | exact Or.inl rfl | exact Or.inr rfl) (AM.de_callB AM.ca_abs (by rfl) (b_abs T) (by decide +kernel) (AM.da_cons (AM.dv 0) AM.da_nil)))) AM.dss_nil) (AM.dss_one (AM.ds_ret (AM.de_lst (AM.da_cons (AM.dv 1) (AM.da_cons (AM.de_op AM.oa_mod (AM.de_callTy AM.ca_int (by rfl) (b_int T) (by decide +kernel) (AM.da_cons (AM.dv 0) AM.da_nil)) AM.de_int) (AM.da_cons AM.de_int AM.da_nil)))))))), AM.aSp_start (N := ["_law_cell_here", "_law_stock"]) h⟩)
theorem ok__law_source_M {P : Program} {w : World} {K : Frag} {mg : Str → Option Value} {base : Heap} (T : Tx P w K mg) : DOk P w K mg base 1 "_law_source" ["_law_cell_here"] (AM.aSp K F__law_source_M) :=
  dok_of (FD__law_source T) (g__law_source T) sc__law_source (fun _ _ _ _ _ _ us hl => match us, hl with | [_], _ => rfl) (fun vs H Q E h => AM.aSp_len h) (fun cdv A outer s H vs Q E hr h => ⟨AM.aS K E m__law_source_M, (AM.dss_cons (AM.ds_set (i := 1) sc__law_source.nd rfl (by first | exact Or.inl rfl | exact Or.inr rfl) AM.de_int) (AM.dss_cons (AM.ds_if (PW.pt (AM.dw_or (AM.dt_cmp AM.oa_lt (AM.dv 0) AM.de_int (nomark _)) (AM.dw_or1 (AM.dt_cmp AM.oa_ge (AM.dv 0) (AM.de_op AM.oa_pow AM.de_int AM.de_int) (nomark _))))) (AM.dss_one (AM.ds_set (i := 1) sc__law_source.nd rfl (by first | exact Or.inl rfl | exact Or.inr rfl) (AM.de_callB AM.ca_abs (by rfl) (b_abs T) (by decide +kernel) (AM.da_cons (AM.dv 0) AM.da_nil)))) AM.dss_nil) (AM.dss_one (AM.ds_ret (AM.de_lstM (AM.da_cons (AM.dv 1) (AM.da_cons (AM.de_op AM.oa_mod (AM.de_callTy AM.ca_int (by rfl) (b_int T) (by decide +kernel) (AM.da_cons (AM.dv 0) AM.da_nil)) AM.de_int) (AM.da_cons AM.de_int AM.da_nil)))))))), AM.aSp_start (N := ["_law_cell_here", "_law_stock"]) h⟩)
theorem sc_law : FnScope ["_law_cells", "_law_k"] ["_law_cells"] (defScope s_law) := ⟨rfl, rfl, rfl, by decide +kernel, rfl, by decide +kernel, by decide +kernel⟩
theorem ok_law {P : Program} {w : World} {K : Frag} {mg : Str → Option Value} (T : Tx P w K mg) : GLaw P w K mg 11 "law" ["_law_cells"] (AM.aSp K F_law) :=
  gokL_of (FD_law T) sc_law (fun _ _ _ _ _ _ us hl => match us, hl with | [_], _ => rfl) (fun vs H Q E h => AM.aSp_len h) (fun base cdv A outer s H vs Q E hG hr h => ⟨AM.aS K E m_law, (AM.dss_one (AM.ds_ret (AM.de_callB (AM.ca_all rfl rfl) (by rfl) (b_all T) (by decide +kernel) (AM.da_cons (AM.de_lc (mu := false) (E0 := E0) (own := [("_law_k", 1)]) (by rfl) sc_law.nd (AM.di_range1 (by rfl) (b_range T) (AM.da_cons (AM.de_callB (AM.ca_max2 rfl) (by rfl) (b_max T) (by decide +kernel) (AM.da_cons AM.de_int (AM.da_cons (AM.de_callB (AM.ca_min2 rfl) (by rfl) (b_min T) (by decide +kernel) (AM.da_cons (AM.de_callB (AM.ca_len rfl) (by rfl) (b_len T) (by decide +kernel) (AM.da_cons (AM.dv 0) AM.da_nil)) (AM.da_cons AM.de_int AM.da_nil))) AM.da_nil))) AM.da_nil)) (blkOk_by (own := [("_law_k", 1)]) (N := ["_law_cells", "_law_k"]) (sc := defScope s_law) (by decide +kernel)) (fun _ _ _ _ _ => (AM.dg_name (i := 1) sc_law.nd rfl (by first | exact Or.inl rfl | exact Or.inr rfl))) (fun _ _ _ _ _ => AM.dts_nil) (fun _ _ _ _ _ => (AM.de_callG (ok__law_right T) hG (hr.mono (by decide)) (by rfl) passL (AM.da_cons (AM.de_callD (ok__law_source_M T) (hr.mono (by decide)) (by rfl) passL (AM.da_cons (AM.de_callD (ok__law_cell T) (hr.mono (by decide)) (by rfl) passL (AM.da_cons (AM.dv 0) (AM.da_cons (AM.dv 1) AM.da_nil))) AM.da_nil)) AM.da_nil)))) AM.da_nil)))), AM.aSp_start (N := ["_law_cells", "_law_k"]) h⟩)
end Bk
set_option Elab.async false
set_option linter.all false
set_option maxRecDepth 100000
set_option maxHeartbeats 0
namespace Bk
open PySem PySem.Spec PyProof.Rows L2
open PySem.W (Frag)
abbrev R : PySem.W.OpenRow := PySem.W.OpenLaw.row PySem.Challenge.rw_bikestands_k02_towns_made
abbrev hk : PySem.W.Hook := hookE 620 fileN ex fn fx dn
def ob (s : PySem.W.SharedT) : AlE := obsEG 620 fileN ex fn fx dn (HandSHeadRun.getT s)
theorem ob_eq (s : PySem.W.SharedT) : ob s = hk.obs s.abs := obsEG_eq (HandSHeadRun.getT_eq s)
theorem run_f (w : World) : HandSHeadRun.RunEq R (PySem.W.view R.prog [61]) hk ob 20000 loose (w.withFollow "special-get-raises" false) := by
  intro os
  kernel_rfl
theorem run_t (w : World) : HandSHeadRun.RunEq R (PySem.W.view R.prog [61]) hk ob 20000 loose (w.withFollow "special-get-raises" true) := by
  intro os
  kernel_rfl
theorem run (w : World) : HandSHeadRun.RunEq R (PySem.W.view R.prog [61]) hk ob 20000 loose w :=
  PySem.W.byRow2 "special-get-raises" (P := fun w => HandSHeadRun.RunEq R (PySem.W.view R.prog [61]) hk ob 20000 loose w) run_f run_t w
theorem rds_ints {K : Frag} {G : Hp} : ∀ ns : List Int, AM.Rds K G (ns.map AM.D.int) (ns.map V.int)
  | [] => .nil
  | n :: ns => .cons (.int n) (rds_ints ns)
theorem sp_true {K : Frag} (H : Hp) (a : Addr) (ns : List Int) (hl : ns.length ≤ 63) (hS : SqL K H a (ns.map V.int)) : AM.aSp K F_law [.ref a] H (fun v _ => v = .bl true) fun _ _ _ => False :=
  ⟨⟨H, [], [], H, fun _ _ e => e, rfl, List.nodup_nil, fun n a ob e => by simp at e, fun n a ob e => by simp at e⟩, [.val (.fl (ns.map AM.D.int))], rfl, .cons (AM.Rd.fl hS (rds_ints ns)) .nil, by
    show AM.AP _ (F_law [.val (.fl (ns.map AM.D.int))] []) _ _
    obtain ⟨S', e⟩ := law_true ns hl
    rw [e]
    intro c' _ _ u r
    cases r
    rfl⟩
end Bk
open PySem PySem.W PySem.Calls PyProof.Rows
theorem PySem.Challenge.cw_bikestands_k02_towns_made_holds : PySem.Challenge.rw_bikestands_k02_towns_made.Holds := by
  w_on; o_law
  refine HandSHeadRun.head_any (r := OpenLaw.row PySem.Challenge.rw_bikestands_k02_towns_made) (q := view (OpenLaw.row PySem.Challenge.rw_bikestands_k02_towns_made).prog [61]) (H := Bk.hk) (ob := Bk.ob) (M := 20000) (loose := Bk.loose) (d := HandSHeadRun.topDef (OpenLaw.row PySem.Challenge.rw_bikestands_k02_towns_made).prog 61) (kwd := []) Bk.ob_eq
    (by kernel_rfl) (fun s => by kernel_rfl) Bk.run (by kernel_rfl) (by kernel_rfl) (by kernel_rfl) (by rfl) (by first | assumption | decide +kernel) (by decide +kernel) ⟨rfl, rfl, rfl, rfl, rfl, by decide +kernel⟩ ?hw ?hc
  case hw => w_witness2
  case hc =>
    refine Bk.walk_ofG (l := PySem.Challenge.rw_bikestands_k02_towns_made) (n := 63) (k := 11) (x := "_law_cells") rfl (by decide) (by kernel_rfl) ⟨rfl, by decide, by decide⟩ ?F
    intro w mg fa h Y G hn
    obtain ⟨K, KX, c⟩ := Y
    have en : (HandSHeadRun.topDef (OpenLaw.row PySem.Challenge.rw_bikestands_k02_towns_made).prog 61).name = ("law" : PySem.Str) := by kernel_rfl
    rw [en] at hn
    have T : Bk.Tx (PySem.Challenge.rw_bikestands_k02_towns_made).prog w K mg := ⟨c, ⟨h, KX, G⟩, by decide +kernel, by decide +kernel⟩
    have e := hn.symm.trans (Bk.g_law T)
    cases e
    obtain ⟨fd, hb, hF⟩ := (Bk.ok_law (P := (PySem.Challenge.rw_bikestands_k02_towns_made).prog) (w := w) T).ok
    exact ⟨K, fd, AM.aSp K Bk.F_law, KX, fun s u => hb s [u] rfl, fun H a ns hl _ hS => Bk.sp_true H a ns hl hS, fun base _ _ => hF base⟩
