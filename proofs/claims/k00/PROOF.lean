import PyProof.Rows.All
import Wide.All
import OpenK.AllK
import Wide.FinOn
import KE.KStateDown
import Lean
import PyProof.ReprRoads
import KE.KExcIs
import HandS.Base
import HandS.Call
import HandS.List
import HandS.Comp
import HandS.Ends
import HandS.Exc
import HandS.ExcOwn
import HandS.ExcInit
import HandS.ExcField
import HandS.ExcIs
import HandS.TryOnly
import HandS.Dict
import HandS.Iter
import HandS.Text
import HandS.More
import HandS.Words
import HandS.WordsList
import HandS.WordsDict
import HandS.WordsExc
import HandS.Defaults
import HandS.IsInst
import HandS.Wide
import HandS.Zip
import HandS.Conv
import HandS.Codes
import HandS.TupAny
import HandS.DeepEq
import HandS.Head0
import HandS.Head1
import HandS.Head2
import HandS.HeadEnd
import HandS.HeadHook1
import HandS.HeadHook2
import HandS.HeadNt
import KE.GoesMore
import KE.GoesEnum
import HandS.Rev
import HandS.Walk
import PyProof.CallFns
import KE.GoesComp
import KE.GoesRaise
import HandS.CallSlots
import HandS.GenList
import OpenK.XSeg
import PyProof.StrBlock2
import HandS.OwnEq
import HandS.ClsMeth
import PyProof.InstNe
import PySem.Challenge.RW_fewfetches_k00_boxes_by_their_points
import KE.SortData
import KE.KDictPairs
import HandS.SortOrd
import HandS.SortRule
import HandS.Lambda
import HandS.Nested
import KE.SortKeyHeap
import HandS.ExcValue
import HandS.HeadHook4
import HandS.EndTab
import HandS.TryMany
import HandS.SetFor
import HandS.Strs
import HandS.SortInts
import HandS.Flow
import HandS.TupMul
import HandS.TupLe
import KE.KNestM
set_option Elab.async false
set_option linter.all false
set_option maxRecDepth 100000
set_option maxHeartbeats 4000000
/-! What all our proofs share: how a caller takes a def, heaps, an exception's isinstance, repr of data. -/
namespace Q
open PySem PySem.Spec PyProof.Rows L2
/-! ### a def as its callers take it -/
structure Cal (P : Program) (w : World) (K : PySem.W.Frag) (mg : Str → Option Value) (base : Heap) (CX : CXT) (k : Nat) (x : Str) (ps : List Str) (dvs : List V) (sp : Sp) : Prop where
  ex : ∃ (f : Addr) (fd : FuncData) (ds : List Value), FnOk P w K mg base CX k f fd ps sp ∧ mg x = some (.ref f) ∧ PySem.W.keepIn K (.ref f) = true ∧ Binds K fd ps ds ∧ Vals dvs ds
section
variable {X : Cx} {CX : CXT} {k : Nat} {ps : List Str} {sp : Sp} {dvs : List V} {E : XK} {x : Str} {p pos : Pos} {e : Expr} {es : List Expr} {t : TA}
theorem pe_cal (C : Cal X.prog X.w X.K X.mg X.base CX k x ps dvs sp) (hr : Room k X.A) (hx : Passes CX X E) (ha : PA X (e :: es) t) (hg : Gl X x := by rfl) (hdb : (x == ("__debug__" : Str)) = false := by decide)
    (he : starEach (e :: es) X.env = (false, eval e X.env) :: starEach es X.env := by rfl) (hpl : (backTo pos (starEach es X.env)).any (·.1) = false := by rfl) :
    PE X (.Call (.Name x p) (e :: es) [] pos) (tCall sp dvs E t) := by
  obtain ⟨f, fd, ds, G, g, kp, b, v⟩ := C.ex
  exact pe_call G hr hg g kp b v hx ha hdb he hpl
theorem pe_cal0 (C : Cal X.prog X.w X.K X.mg X.base CX k x ps dvs sp) (hr : Room k X.A) (hx : Passes CX X E) (hg : Gl X x := by rfl) (hdb : (x == ("__debug__" : Str)) = false := by decide) :
    PE X (.Call (.Name x p) [] [] pos) (tCall sp dvs E tNil) := by
  obtain ⟨f, fd, ds, G, g, kp, b, v⟩ := C.ex
  exact pe_call0 G hr hg g kp b v hx hdb
end
section
variable {X : Cx} {CX : CXT} {k : Nat} {ps : List Str} {sp : Sp} {E : L2.St → XK} {x : Str} {p pos : Pos} {e : Expr} {es : List Expr} {t : TA}
theorem pe_calS (C : Cal X.prog X.w X.K X.mg X.base CX k x ps [] sp) (hr : Room k X.A) (hx : ∀ σ, PassesAt CX X σ (E σ)) (ha : PA X (e :: es) t) (hg : Gl X x := by rfl) (hdb : (x == ("__debug__" : Str)) = false := by decide)
    (he : starEach (e :: es) X.env = (false, eval e X.env) :: starEach es X.env := by rfl) (hpl : (backTo pos (starEach es X.env)).any (·.1) = false := by rfl) :
    PE X (.Call (.Name x p) (e :: es) [] pos) (tCallS sp E t) := by
  obtain ⟨f, fd, ds, G, g, kp, b, v⟩ := C.ex
  cases v
  exact pe_callS G hr hg g kp b hx ha hdb he hpl
end
/-! ### an instance made by an __init__ that may raise, in a try's body -/
section
variable {X : Cx} {CX : CXT} {k : Nat} {f C : Addr} {fd : FuncData} {ps : List Str} {sp : Sp} {E : L2.St → XK} {x : Str} {p pos : Pos} {e : Expr} {es : List Expr} {t : TA}
theorem run_newS {pins : List (Addr × Obj)} {σ : L2.St} {H : Hp} {s : Shared} {Q : VK} {us : List Value} {vs : List V} (M : Mk X.K C f) (F : FnOk X.prog X.w X.K X.mg X.base CX k f fd ps sp) (hr : Room (k + 1) X.A) (hb : Binds X.K fd ps [])
    (hx : PassesAt CX X σ (E σ)) (I : Inv X pins σ H s) (r : Vals vs us)
    (h : ∀ y dy, H y = none → H dy = none → dy ≠ y → sp (.ref y :: vs) (upd (upd H dy (.own y)) y (.ins C dy [])) (fun v H2 => v = .non ∧ Q (.ref y) H2) (E σ)) :
    wpAny (model X.prog X.w) X.A (call (.ref C) us) (EP X pins σ Q) X.xe s := by
  have n1 : H (s.heap.objs.size + 1) = none := I.hok.fresh (Nat.le_succ _)
  have n0 : H s.heap.objs.size = none := I.hok.fresh (Nat.le_refl _)
  have todo := h _ _ n1 n0 (Nat.ne_of_lt (Nat.lt_succ_self _))
  have J := Inv.made (C := C) I
  have rr : Vals (V.ref (s.heap.objs.size + 1) :: vs) (Value.ref (s.heap.objs.size + 1) :: us) := .cons rfl r
  have ln : (Value.ref (s.heap.objs.size + 1) :: us).length = ps.length := by
    have e1 := rr.length
    have e2 := F.len _ _ _ _ todo
    omega
  have bb := hb _ (Value.ref (s.heap.objs.size + 1) :: us) J.kIn (by rw [List.append_nil]; exact ln)
  rw [List.append_nil] at bb
  refine wpAny_call (make_map (f := f) I.kIn M.makes M.init (beq_iff_eq.mp M.fn) (codeAny_mono
    (F.run _ X.stack _ _ ⟨Value.ref (s.heap.objs.size + 1) :: us, []⟩ _ _ _ (E σ) (hr.make C us []) (J.env0.make C us []) bb rr todo) fun r s' z => ?_))
  cases r with
  | error er => exact hx pins _ _ er s' J z
  | ok fl =>
    cases fl with
    | ret u =>
      obtain ⟨v, H', I3, rv, ev, q3⟩ := J.after z
      subst ev
      exact ⟨rv, V.ref (s.heap.objs.size + 1), H', I3, rfl, q3⟩
    | next => exact z.elim
    | brk => exact z.elim
    | cont => exact z.elim
def tNewS (C : Addr) (sp : Sp) (E : L2.St → XK) (t : TA) : TE := fun σ H Q => t σ H fun vs H1 => ∀ y dy, H1 y = none → H1 dy = none → dy ≠ y →
  sp (.ref y :: vs) (upd (upd H1 dy (.own y)) y (.ins C dy [])) (fun v H2 => v = .non ∧ Q (.ref y) H2) (E σ)
theorem pe_newS (M : Mk X.K C f) (F : FnOk X.prog X.w X.K X.mg X.base CX k f fd ps sp) (hr : Room (k + 1) X.A) (hm : X.mg x = some (.ref C)) (hb : Binds X.K fd ps []) (hx : ∀ σ, PassesAt CX X σ (E σ))
    (ha : PA X (e :: es) t) (hg : Gl X x := by rfl) (hdb : (x == ("__debug__" : Str)) = false := by decide) (he : starEach (e :: es) X.env = (false, eval e X.env) :: starEach es X.env := by rfl)
    (hpl : (backTo pos (starEach es X.env)).any (·.1) = false := by rfl) : PE X (.Call (.Name x p) (e :: es) [] pos) (tNewS C sp E t) := by
  refine ⟨fun pins s σ H Q I h => wpAny_Call_Name_kw (ld_glob I hg hm ?_ hdb)⟩
  refine PySem.W.callWith_K (h₀ := X.base) I.ok.mod.kin M.kp (thn (ha.run pos pins s σ H _ I h) fun us s1 ⟨vs, H1, I1, r, q⟩ => ⟨I1.kIn, ?_⟩) he hpl
  exact run_newS M F hr hb (hx σ) I1 r q
end
/-! ### isinstance of a caught exception, its dict there or not -/
def rIsX (K : PySem.W.Frag) (D a : Addr) (cls : Value) (d : Option Addr) : List V → Hp → VK → Prop := fun xs H Q => cls = .ref D ∧ (∀ dd, d = some dd → ∃ o, H dd = some o) ∧ rIsE K D a xs H Q
theorem call_isX {X : Cx} {a D : Addr} {oe : Obj} {cls : Value} {d : Option Addr} {pn : List (Addr × Obj)} (T : ExcC X.K D) (hz : Zc cls d oe) (hf : ∃ vs, oe.data = .fields vs) : CallR (X.suite a ((a, oe) :: pn)) (.builtin "isinstance") (rIsX X.K D a cls d) := by
  intro pins s σ H xs us Q I r h
  obtain ⟨rfl, there, c, cv, b, rfl, hcv, e, q⟩ := h
  obtain ⟨u1, u2, rfl, r1, r2⟩ := vals2 r
  obtain rfl : u1 = Value.ref a := r1
  obtain rfl := hcv _ r2
  have got := (I.pin (a, oe) (List.mem_append_left _ List.mem_cons_self)).1
  obtain ⟨vs, hv⟩ := hf
  have nc : PySem.W.notCls oe := by
    unfold PySem.W.notCls
    rw [hv]
  obtain ⟨od, hod⟩ : ∃ od : Option Obj, PySem.W.InstAt s.heap a oe D od := by
    cases d with
    | none => exact ⟨none, got, hz.1, nc, by rw [hz.2]; trivial⟩
    | some dd =>
      obtain ⟨o, ho⟩ := there dd rfl
      obtain ⟨u, hu⟩ := objOk_get (I.hok dd o ho)
      exact ⟨some u, got, hz.1, nc, by rw [hz.2]; exact hu⟩
  exact PySem.W.kia_one (PySem.W.kitx_exc (od := od) (by obtain ⟨cd, hc, _⟩ := PySem.W.any_some T.hd; rw [hc]; rfl) T.hg T.hk T.hs T.ha T.hn T.ht T.hm) I.kIn hod e (fun z => nomatch z) fun tk => ⟨.bl b, H, I.kept (t' := tk) fun _ _ z => z, rfl, q⟩
/-! ### repr of data that stands in the heap: asked where no repr runs around -/
def rReprD (K : PySem.W.Frag) : List V → Hp → VK → Prop := fun xs H Q => ∃ (x : V) (d : PyData), xs = [x] ∧ Dp K H x d ∧ (∃ a, x = .ref a) ∧ d.showable = true ∧ d.hasDict = false ∧ d.depth ≤ 60 ∧ d.shown.length ≤ sizeLine ∧ Q (.str d.shown) H
theorem call_reprD {X : Cx} (hg : X.A.guards = some []) (hu : X.A.units + 64 < cLine) : CallR X (.builtin "repr") (rReprD X.K) := by
  intro pins s σ H xs us Q I r h
  obtain ⟨x, d, rfl, hD, ⟨a, rfl⟩, hs, hno, hdp, hl, q⟩ := h
  obtain ⟨u, rfl, r1⟩ := vals1 r
  obtain rfl : u = Value.ref a := r1
  obtain ⟨as, rd⟩ := Dp.reads I d _ _ hD rfl
  refine repr_of_reads' rd hs (fun z => by rw [hno] at z; cases z) hg (by omega) (fun _ _ e => e) (fun h' t tk hk => ⟨.str d.shown, H, I.kept (t' := tk) hk, ⟨t, rfl⟩, q⟩) hl
/-! ### defs that ask for this: their promise is kept where no repr runs around -/
structure FnG (P : Program) (w : World) (K : PySem.W.Frag) (mg : Str → Option Value) (base : Heap) (CX : CXT) (k : Nat) (f : Addr) (fd : FuncData) (ps : List Str) (sp : Sp) : Prop where
  len : ∀ vs H Q E, sp vs H Q E → vs.length = ps.length
  run : ∀ (A : Around) (outer : List Env) (s : Shared) (H : Hp) (args : Args) (us : List Value) (vs : List V) (Q : VK) (E : XK), A.guards = some [] → Room k A → Env0 P w K mg base A outer s H → BindsTo s fd args (ps.zip us) → Vals vs us →
    sp vs H Q E → codeAny (model P w) A (.call (.ref f) args) (CR CX outer P w H s Q E) s
theorem FnG.of {P : Program} {w : World} {K : PySem.W.Frag} {mg : Str → Option Value} {base : Heap} {CX : CXT} {k : Nat} {f : Addr} {fd : FuncData} {ps : List Str} {sp : Sp} (F : FnOk P w K mg base CX k f fd ps sp) : FnG P w K mg base CX k f fd ps sp :=
  ⟨F.len, fun A outer s H args us vs Q E _ => F.run A outer s H args us vs Q E⟩
section
variable {P : Program} {w : World} {K : PySem.W.Frag} {mg : Str → Option Value} {base : Heap} {x qual : Str} {params : Arguments} {body : List Stmt} {scope : Scope} {dvs : List V} {kws : List (Str × V)} {f : Addr} {fd : FuncData} {CX : CXT} {N ps : List Str} {k : Nat} {sp : Sp}
theorem funG (F : FunD K x qual params body scope dvs kws f fd) (S : FnScope N ps scope) (len : ∀ vs H Q E, sp vs H Q E → vs.length = ps.length)
    (hbody : ∀ (cdv : Value) (A : Around) (outer : List Env) (s : Shared) (H : Hp) (vs : List V) (Q : VK) (E : XK), A.guards = some [] → Room k (A.deeper (envOfC qual scope s.heap.objs.size f cdv)) → sp vs H Q E →
      ∃ t, PSs (cxOf CX P w K mg base N qual scope f cdv A outer s H E) body t ∧ t { nx := fun _ H' => Q .non H', rt := Q } (start N vs) H) : FnG P w K mg base CX (k + 1) f fd ps sp := by
  obtain ⟨oc, od, dV, kV, doc, pm, an, cdv, ct, osl, rfl, lk, hcd, -, -⟩ := F.ex
  refine ⟨len, fun A outer s H args us vs Q E gd hr e0 hb r todo => ?_⟩
  have hlen := len _ _ _ _ todo
  have inH : K.In s.heap := e0.mod.kin.keeps fun b o z => (e0.bs b o z).1
  have noLim : s.heap.NoLimit := e0.mod.nolimit.keeps fun b o z => (e0.bs b o z).1
  refine codeAny_call_function hr.depth (inH _ _ lk) rfl S.co S.gen rfl (PySem.W.codeRec_of inH hcd) (hb _ _ _ _ (wpAny_newFunctionEnv_cells S.kind (fun y hy => ?_) fun env he s1 entered => ?_))
  · rcases S.par y.1 (List.of_mem_zip (show (y.1, y.2) ∈ ps.zip us from hy)).1 with c | c
    · exact .inl c
    · exact .inr ⟨c, PySem.W.cellsFrom_some _ _ _ (.inl c)⟩
  · subst he
    obtain ⟨t, ht, hq⟩ := hbody cdv A outer s H vs Q E gd (hr.deeper _) todo
    have J : Inv (cxOf CX P w K mg base N qual scope f cdv A outer s H E) [] (start N vs) H s1 := inv_start S hr.hd e0 hlen r entered
    refine ⟨noLim.keeps entered.toInCall.keep, codeAny_func (wpAny_mono (ht.run [] s1 (start N vs) H _ J hq) (fun fl s' over => ?_) fun _ _ z => z)⟩
    cases fl with
    | ret u => exact let ⟨v, _, H', J', rv, qv⟩ := over; ⟨v, H', J'.os, J'.bare, J'.base, J'.hok, rv, qv⟩
    | next => exact let ⟨_, H', J', qv⟩ := over; ⟨V.non, H', J'.os, J'.bare, J'.base, J'.hok, rfl, qv⟩
    | brk => exact let ⟨_, _, _, z⟩ := over; False.elim z
    | cont => exact let ⟨_, _, _, z⟩ := over; False.elim z
end
structure CalG (P : Program) (w : World) (K : PySem.W.Frag) (mg : Str → Option Value) (base : Heap) (CX : CXT) (k : Nat) (x : Str) (ps : List Str) (dvs : List V) (sp : Sp) : Prop where
  ex : ∃ (f : Addr) (fd : FuncData) (ds : List Value), FnG P w K mg base CX k f fd ps sp ∧ mg x = some (.ref f) ∧ PySem.W.keepIn K (.ref f) = true ∧ Binds K fd ps ds ∧ Vals dvs ds
section
variable {X : Cx} {CX : CXT} {k : Nat} {ps : List Str} {sp : Sp} {dvs : List V} {E : XK} {x : Str} {p pos : Pos} {e : Expr} {es : List Expr} {t : TA}
theorem pe_calG (C : CalG X.prog X.w X.K X.mg X.base CX k x ps dvs sp) (gd : X.A.guards = some []) (hr : Room k X.A) (hx : Passes CX X E) (ha : PA X (e :: es) t) (hg : Gl X x := by rfl) (hdb : (x == ("__debug__" : Str)) = false := by decide)
    (he : starEach (e :: es) X.env = (false, eval e X.env) :: starEach es X.env := by rfl) (hpl : (backTo pos (starEach es X.env)).any (·.1) = false := by rfl) :
    PE X (.Call (.Name x p) (e :: es) [] pos) (tCall sp dvs E t) := by
  obtain ⟨f, fd, ds, G, g, kp, hb, hd⟩ := C.ex
  refine ⟨fun pins s σ H Q I h => wpAny_Call_Name_kw (ld_glob I hg g ?_ hdb)⟩
  refine PySem.W.callWith_K (h₀ := X.base) I.ok.mod.kin kp (thn (ha.run pos pins s σ H _ I h) fun us s1 ⟨vs, H1, I1, r, q⟩ => ⟨I1.kIn, ?_⟩) he hpl
  have rr : Vals (vs ++ dvs) (us ++ ds) := r.append hd
  have ln : (us ++ ds).length = ps.length := rr.length.symm.trans (G.len _ _ _ _ q)
  refine wpAny_call (codeAny_mono (G.run X.A X.stack s1 H1 ⟨us, []⟩ _ _ Q E gd hr I1.env0 (hb s1 us I1.kIn ln) rr q) fun res s' z => ?_)
  cases res with
  | error er => exact hx pins σ H1 s1 er s' I1 z
  | ok fl =>
    cases fl with
    | ret u => exact I1.after z
    | next => exact z.elim
    | brk => exact z.elim
    | cont => exact z.elim
end
/-! ### the law's end, its def's promise kept where no repr runs around -/
section
open PySem.W
/-- the heap in which the script alone is tracked (as the object that it is), or nothing -/
def scriptH (K : Frag) (a : Addr) (vs : List Value) (ns : List Int) : Hp := fun b => if b = a ∧ K.lookup a = none then some (.frz { cls := .type "list", data := .seq vs.toArray } (.lst (ns.map V.int))) else none
theorem scriptH_some {K : Frag} {a b : Addr} {vs : List Value} {ns : List Int} {u : HO} (h : scriptH K a vs ns b = some u) : b = a ∧ K.lookup a = none ∧ u = .frz { cls := .type "list", data := .seq vs.toArray } (.lst (ns.map V.int)) := by
  unfold scriptH at h
  split at h
  · rename_i c
    exact ⟨c.1, c.2, (Option.some.inj h).symm⟩
  · cases h
theorem law_callG {P : Program} {w : World} {K : Frag} {mg mb : Str → Option Value} {CX : CXT} {k : Nat} {fa a : Addr} {fd : FuncData} {x : Str} {sp : Sp} {s₁ : Shared} {vs : List Value} {ns : List Int}
    (KX : K.In s₁.heap) (hns : s₁.heap.Ns mainGlobals mg) (hb : s₁.heap.Ns builtinsNs mb) (hbb : ∀ x : Str, x ≠ "__name__" → mb x = bootBuiltins x) (hlim : s₁.heap.NoLimit) (hg : s₁.gens = #[])
    (ha : s₁.heap.get? a = some { cls := .type "list", data := .seq vs.toArray }) (hi : IntsAre vs ns) (hl : ns.length ≤ sizeLine) (hr : Room k callerA)
    (F : ∀ base : Heap, K.In base → base.Ns mainGlobals mg → FnG P w K mg base CX k fa fd [x] sp) (hbind : ∀ (s : Shared) (u : Value), BindsTo s fd ⟨[u], []⟩ [(x, u)])
    (hsp : ∀ H : Hp, Only H → SqL K H a (ns.map V.int) → sp [.ref a] H (fun v _ => v = .bl true) fun _ _ _ => False) (hCX : ∀ H e s', CX [] H s₁ (fun _ _ _ => False) e s' → False) :
    codeAny (model P w) callerA (.call (.ref fa) ⟨[.ref a], []⟩) (fun r s' => r = .ok (.ret (.bool true)) ∧ OldK s₁.heap s'.heap ∧ s'.os = s₁.os ∧ AllBare s'.gens) s₁ := by
  generalize hH : scriptH K a vs ns = H
  have only : Only H := fun b => by
    cases q : H b with
    | none => exact .inl rfl
    | some u =>
      rw [← hH] at q
      obtain ⟨-, -, rfl⟩ := scriptH_some q
      exact .inr ⟨_, _, rfl⟩
  have ok : HOk P w H s₁.heap := fun b u q => by
    rw [← hH] at q
    obtain ⟨rfl, -, rfl⟩ := scriptH_some q
    exact ⟨ha, by rw [List.length_map]; exact hl, vs, _, vals_ints hi, ha⟩
  have isA : ∀ b u, H b = some u → b = a ∧ K.lookup a = none := fun b u q => by
    rw [← hH] at q
    exact ⟨(scriptH_some q).1, (scriptH_some q).2.1⟩
  have seen : SqL K H a (ns.map V.int) := by
    cases hk : K.lookup a with
    | some o =>
      have z := KX a o hk
      rw [ha] at z
      cases z
      exact .inr ⟨_, vs.toArray, _, hk, rfl, rfl, rfl, by rw [List.size_toArray, hi.length]; exact hl, by simpa using vals_ints hi⟩
    | none => exact .inl (.inr ⟨{ cls := .type "list", data := .seq vs.toArray }, by rw [← hH]; unfold scriptH; rw [if_pos ⟨rfl, hk⟩]⟩)
  have dictFree : ∀ {b : Addr} {o : Obj} {es : Array DictEntry} {ep : Nat}, s₁.heap.get? b = some o → o.data = .dict es ep → H b = none := fun {b o es ep} e d => by
    cases q : H b with
    | none => rfl
    | some u =>
      obtain ⟨rfl, -⟩ := isA b u q
      rw [ha] at e
      cases e
      cases d
  have nsOn : ∀ {b : Addr} {m : Str → Option Value}, s₁.heap.Ns b m → (hidT s₁.heap H).Ns b m := fun {b m} ⟨o, es, ep, e, d, r⟩ => ⟨o, es, ep, hidT_get e (dictFree e d), d, r⟩
  have kinB : K.In (hidT s₁.heap H) := fun b o e => hidT_get (KX b o e) (by
    cases q : H b with
    | none => rfl
    | some u =>
      obtain ⟨rfl, z⟩ := isA b u q
      rw [z] at e
      cases e)
  have e0 : Env0 P w K mg (hidT s₁.heap H) callerA [] s₁ H :=
    ⟨rfl, ⟨kinB, nsOn hns, ⟨mb, nsOn hb, hbb⟩, let ⟨mc, h1, h2⟩ := hlim; ⟨mc, nsOn h1, h2⟩⟩, fun b o e => of_hidT e, Nat.le_of_eq (hidT_size _ _), trivial, fun b hb => absurd (show b ∈ ([] : List Addr) from hb) (by simp), ok, .of_eq hg⟩
  refine codeAny_mono ((F _ kinB (nsOn hns)).run callerA [] s₁ H ⟨[.ref a], []⟩ [.ref a] [.ref a] _ _ rfl hr e0 (hbind s₁ (.ref a)) (.cons rfl .nil) (hsp H only seen)) fun res s' z => ?_
  cases res with
  | error e => exact (hCX H e s' z).elim
  | ok fl =>
    cases fl with
    | ret u =>
      obtain ⟨v, H', os, bare, un, hok', rv, qv⟩ := z
      have ev : v = .bl true := qv
      subst ev
      obtain rfl : u = Value.bool true := rv
      refine ⟨rfl, OldK.of_keep fun b o e => ?_, os, bare⟩
      cases q : H b with
      | none => exact un.keep b o e q (fun z => absurd (show b ∈ ([] : List Addr) from z) (by simp)) (by simp)
      | some u =>
        rcases only b with z | ⟨ob, xs, z⟩
        · rw [z] at q
          cases q
        · have now := (hok' b _ (un.frzs b ob _ z)).1
          have old := (ok b _ z).1
          rw [e] at old
          cases old
          exact now
    | next => exact z.elim
    | brk => exact z.elim
    | cont => exact z.elim
theorem walk_ofG {l : PySem.W.OpenLaw} {n k : Nat} {q : Program} {loose : List Str} {XP : (Str → Option Value) → Heap → Prop} {YP : World → Heap → Prop} {d : DefRec} {CX : CXT} {x : Str}
    (hn : l.most = some n) (hn2 : n ≤ sizeLine) (hdf : d.params.defaults = []) (hr : Room k callerA)
    (F : ∀ (w : World) (mg : Str → Option Value) (fa : Addr) (h : Heap), YP w h → h.Ns mainGlobals mg → mg d.name = some (.ref fa) →
      ∃ (K : PySem.W.Frag) (fd : FuncData) (sp : Sp), K.In h ∧ (∀ (s : Shared) (u : Value), BindsTo s fd ⟨[u], []⟩ [(x, u)]) ∧
        (∀ (H : Hp) (a : Addr) (ns : List Int), ns.length ≤ n → Only H → SqL K H a (ns.map V.int) → sp [.ref a] H (fun v _ => v = .bl true) fun _ _ _ => False) ∧
        ∀ base : Heap, K.In base → base.Ns mainGlobals mg → FnG l.prog w K mg base CX k fa fd [x] sp)
    (hCX : ∀ (H : Hp) (s : Shared) (e : Value) (s' : Shared), CX [] H s (fun _ _ _ => False) e s' → False) : PySem.W.WalkO q loose XP YP l.row.toRowW d [] (fun f vs => PySem.call f vs) := by
  refine Att.attach_call hn hdf fun w s₀ s₁ mg mb fa o pm cd doc a vs ns G Y _ _ _ hmg hobj hints hlen hg => ?_
  obtain ⟨K, fd, sp, KX, hbd, hsp, hF⟩ := F w mg fa _ Y G.T.g hmg
  exact law_callG KX G.T.g G.T.b G.T.builtins G.T.nolimit hg hobj hints (Nat.le_trans hlen hn2) hr hF hbd (fun H hO hS => hsp H a ns hlen hO hS) fun H e s' => hCX H s₁ e s'
end
/-! ### facts of the top, told by one Bool -/
section
open PySem.W
def obsF (fb : Frag → Bool) (fn : List He.DefD) (K : Frag) : He.AlD := (fb K && fn.all fun d => d.ok K, fn.map fun d => He.fnW K d.at_)
def SaysF (fb : Frag → Bool) (fn : List He.DefD) (K : Frag) : Prop := obsF fb fn K = He.valD fn
def obsFG (n : Nat) (fb : Frag → Bool) (fn : List He.DefD) (g : Addr → Option Obj) : He.AlD := obsF fb fn (He.frG g (He5.asA g n))
def hookF (n : Nat) (fb : Frag → Bool) (fn : List He.DefD) : Hook where
  α := He.AlD
  obs := fun s => obsFG n fb fn s.heap.get?
  val := fun _ => He.valD fn
  says := fun _ h => ∃ K : Frag, K.In h ∧ SaysF fb fn K
  of := fun _ _ e => ⟨_, He.frG_in, e⟩
  keeps := fun _ _ _ ⟨K, inK, c⟩ k => ⟨K, Frag.In.keeps inK k, c⟩
theorem obsFG_eq {n : Nat} {fb : Frag → Bool} {fn : List He.DefD} {g : Addr → Option Obj} {s : Shared} (h : ∀ a, g a = s.heap.get? a) : obsFG n fb fn g = (hookF n fb fn).obs s := by
  obtain rfl : g = s.heap.get? := funext h
  rfl
theorem SaysF.all {fb : Frag → Bool} {fn : List He.DefD} {K : Frag} (c : SaysF fb fn K) : fb K = true ∧ ∀ d ∈ fn, d.ok K = true := by
  have z : (fb K && fn.all fun d => d.ok K) = true := congrArg (fun z : He.AlD => z.1) c
  exact ⟨(Bool.and_eq_true_iff.mp z).1, List.all_eq_true.mp (Bool.and_eq_true_iff.mp z).2⟩
theorem SaysF.def_ {fb : Frag → Bool} {fn : List He.DefD} {K : Frag} (c : SaysF fb fn K) {d : He.DefD} (h : d ∈ fn) : ∃ fd, FunD K d.name d.qual d.params d.body d.scope (d.dvs K) (d.kws K) (He.fAd K d.at_) fd := by
  have e : fn.map (fun d => He.fnW K d.at_) = fn.map He.DefD.val := congrArg (fun z : He.AlD => z.2) c
  exact He.DefD.funD (List.map_inj_left.mp e d h) (c.all.2 d h)
end
/-! ### an own exception class with an __init__ of its own, as one Bool -/
section
open PySem.W
def oexB (K : Frag) (C : Addr) : Bool := (match K.lookup C with
  | some ⟨.type "type", _, .cls cd, sl⟩ => (match cd.mro, sl.toList with
    | .ref C' :: bm, [_, _, _, _, some (.builtin n), _] => C' == C && (n == "ValueError.__new__" && (!cd.hasDel && (cd.hasDict && HandSPX.refsVE bm)))
    | _, _ => false)
  | _ => false) && (decide (findIn K (.ref C) "__setattr__" = some (some (.builtin "object.__setattr__"))) && (decide (subIn K (.ref C) (.type "BaseException") = some true) && (decide (typeIn K (.ref C) = some (.type "type")) && keepIn K (.ref C))))
theorem oexB_ok {K : Frag} {C : Addr} (h : oexB K C = true) : OexC K C := by
  obtain ⟨h1, h⟩ := He.ba h
  obtain ⟨h2, h⟩ := He.ba h
  obtain ⟨h3, h⟩ := He.ba h
  obtain ⟨h4, h5⟩ := He.ba h
  refine ⟨?_, of_decide_eq_true h2, of_decide_eq_true h3, of_decide_eq_true h4, h5⟩
  split at h1
  · rename_i dd cd sl found
    split at h1
    · rename_i C' bm k0 k1 k2 k3 n k5 isMro isSl
      obtain ⟨e1, h1⟩ := He.ba h1
      obtain ⟨e2, h1⟩ := He.ba h1
      obtain ⟨e3, h1⟩ := He.ba h1
      obtain ⟨e4, e5⟩ := He.ba h1
      obtain rfl := beq_iff_eq.mp e1
      obtain rfl := beq_iff_eq.mp e2
      obtain ⟨nm, bs, mro, ns, qn, hd, sn, sub, ab, col, del⟩ := cd
      obtain ⟨l⟩ := sl
      dsimp only at isMro isSl e3 e4
      subst isMro isSl e4
      obtain rfl : del = false := by simpa using e3
      exact ⟨nm, qn, ns, bs, bm, sn, sub, ab, col, dd, k0, k1, k2, k3, k5, found, e5⟩
    · cases h1
  · cases h1
def excB (K : Frag) (D : Addr) : Bool := decide (findIn K (.ref D) "__getattribute__" = some (some (.builtin "BaseException.__getattribute__"))) && (decide (findIn K (.ref D) "__getattr__" = some none) && (decide (subIn K (.ref D) (.type "BaseException") = some true) && (hasDictIn K D &&
  (decide (findIn K (.ref D) "__class__" = some (some (.builtin "object.__class__"))) && (decide (specialIn K (.builtin "object.__class__") "__get__" = some (some (.builtin "getset_descriptor.__get__"))) && (decide (takesIn K (.builtin "object.__class__") = some true) && decide (mroIn K D (.type "object") = some true)))))))
theorem excB_ok {K : Frag} {D : Addr} (h : excB K D = true) : ExcC K D := by
  obtain ⟨h1, h⟩ := He.ba h
  obtain ⟨h2, h⟩ := He.ba h
  obtain ⟨h3, h⟩ := He.ba h
  obtain ⟨h4, h⟩ := He.ba h
  obtain ⟨h5, h⟩ := He.ba h
  obtain ⟨h6, h⟩ := He.ba h
  obtain ⟨h7, h8⟩ := He.ba h
  exact ⟨of_decide_eq_true h1, of_decide_eq_true h2, of_decide_eq_true h3, h4, of_decide_eq_true h5, of_decide_eq_true h6, of_decide_eq_true h7, of_decide_eq_true h8⟩
theorem xfC_of {K : Frag} {D : Addr} (h : ExcC K D) : XfC K D := ⟨h.hg, h.hk, h.hs, h.hd⟩
end
/-! ### constants of the top; heaps that part at one address alone; the laws' bag of draws -/
section
variable {X : Cx} {x : Str} {pos : Pos}
theorem pe_gint {i : Int} (h : ∃ t, X.mg x = some (.int i t)) (hg : Gl X x := by rfl) (hd : (x == ("__debug__" : Str)) = false := by decide) : PE X (.Name x pos) (tC (.int i)) := by
  obtain ⟨t, e⟩ := h
  exact pe_glob hg e ⟨t, rfl⟩ hd
theorem pe_gstr {z : Str} (h : ∃ t, X.mg x = some (.str z t)) (hg : Gl X x := by rfl) (hd : (x == ("__debug__" : Str)) = false := by decide) : PE X (.Name x pos) (tC (.str z)) := by
  obtain ⟨t, e⟩ := h
  exact pe_glob hg e ⟨t, rfl⟩ hd
end
/-- H' is H but at b -/
def Off (b : Addr) (H H' : Hp) : Prop := ∀ a, a ≠ b → H' a = H a
theorem Off.refl (b : Addr) (H : Hp) : Off b H H := fun _ _ => rfl
theorem Off.trans {b : Addr} {H H1 H2 : Hp} (h : Off b H H1) (h' : Off b H1 H2) : Off b H H2 := fun a n => (h' a n).trans (h a n)
theorem Off.upd {b : Addr} {H : Hp} {o : HO} : Off b H (upd H b o) := fun _ n => upd_ne n
theorem Off.at {b a : Addr} {H H' : Hp} {o : HO} (h : Off b H H') (n : a ≠ b) (e : H a = some o) : H' a = some o := (h a n).trans e
theorem same_new {H : Hp} {p : Addr} {o : HO} (h : H p = none) : Same H (upd H p o) := fun b x e => by
  rw [upd_ne (ne_of_none e h)]
  exact e
/-- all that was tracked, but for the object at b, is as it was -/
def Kb (b : Addr) (H H' : Hp) : Prop := ∀ a o, a ≠ b → H a = some o → H' a = some o
theorem Kb.refl (b : Addr) (H : Hp) : Kb b H H := fun _ _ _ e => e
theorem Kb.trans {b : Addr} {H H1 H2 : Hp} (h : Kb b H H1) (h' : Kb b H1 H2) : Kb b H H2 := fun a o n e => h' a o n (h a o n e)
theorem Off.kb {b : Addr} {H H' : Hp} (h : Off b H H') : Kb b H H' := fun _ _ n e => h.at n e
theorem Kb.of_same {b : Addr} {H H' : Hp} (h : Same H H') : Kb b H H' := fun a o _ e => h a o e
theorem kb_new {b : Addr} {H : Hp} {p : Addr} {o : HO} (h : H p = none) : Kb b H (L2.upd H p o) := .of_same (same_new h)
abbrev bagO (c : Addr) (p r k m : Int) : HO := .lst [.ref c, .int p, .int r, .int k, .int m]
/-- a bag at b, its cells at c, of which at most n draws were made -/
def BagAt (H : Hp) (b c : Addr) (n : Int) : Prop := ∃ (ns : List Int) (p : Nat) (r k m : Int), H b = some (bagO c p r k m) ∧ H c = some (.lst (ns.map V.int)) ∧ 0 ≤ k ∧ k ≤ n ∧ 0 ≤ m ∧ m < 2147483647
theorem BagAt.mono {H : Hp} {b c : Addr} {n n' : Int} (h : BagAt H b c n) (l : n ≤ n') : BagAt H b c n' := by
  obtain ⟨ns, p, r, k, m, h1, h2, h3, h4, h5, h6⟩ := h
  exact ⟨ns, p, r, k, m, h1, h2, h3, Int.le_trans h4 l, h5, h6⟩
theorem BagAt.there {H : Hp} {b c : Addr} {n : Int} (h : BagAt H b c n) : (∃ o, H b = some o) ∧ ∃ o, H c = some o := by
  obtain ⟨ns, p, r, k, m, h1, h2, _⟩ := h
  exact ⟨⟨_, h1⟩, _, h2⟩
theorem BagAt.new {H : Hp} {a b c : Addr} {n : Int} (h : BagAt H b c n) (na : H a = none) : a ≠ b ∧ a ≠ c := by
  obtain ⟨⟨_, h1⟩, _, h2⟩ := h.there
  exact ⟨(ne_of_none h1 na).symm, (ne_of_none h2 na).symm⟩
theorem BagAt.two {H : Hp} {b c : Addr} {n : Int} (h : BagAt H b c n) : c ≠ b := fun z => by
  obtain ⟨ns, p, r, k, m, h1, h2, _⟩ := h
  rw [z, h1] at h2
  cases ns with
  | nil => cases h2
  | cons n ns => cases h2
/-- the bag stays where what was tracked stays -/
theorem BagAt.same {H H' : Hp} {b c : Addr} {n : Int} (h : BagAt H b c n) (e : Same H H') : BagAt H' b c n := by
  obtain ⟨ns, p, r, k, m, h1, h2, h3⟩ := h
  exact ⟨ns, p, r, k, m, e _ _ h1, e _ _ h2, h3⟩
theorem BagAt.upd {H : Hp} {a b c : Addr} {n : Int} {o : HO} (h : BagAt H b c n) (nb : a ≠ b) (nc : a ≠ c) : BagAt (L2.upd H a o) b c n := by
  obtain ⟨ns, p, r, k, m, h1, h2, h3⟩ := h
  exact ⟨ns, p, r, k, m, by rw [upd_ne nb.symm]; exact h1, by rw [upd_ne nc.symm]; exact h2, h3⟩
theorem BagAt.updNew {H : Hp} {a b c : Addr} {n : Int} {o : HO} (h : BagAt H b c n) (na : H a = none) : BagAt (L2.upd H a o) b c n := h.upd (h.new na).1 (h.new na).2
/-- _law_bag(script) -/
def spBag (K : PySem.W.Frag) : Sp := fun vs H Q _ => ∃ (a : Addr) (ns : List Int), vs = [.ref a] ∧ SqL K H a (ns.map V.int) ∧ ∀ b c H', H b = none → H c = none → Same H H' → BagAt H' b c 0 → Q (.ref b) H'
/-- _law_draw(bag, limit): a number from 0 to limit - 1, the bag turned -/
def spDraw : Sp := fun vs H Q _ => ∃ (b c : Addr) (lim n : Int), vs = [.ref b, .int lim] ∧ BagAt H b c n ∧ 0 < lim ∧ lim < 2 ^ 200 ∧ n < 2 ^ 60 ∧ ∀ (r : Int) (H' : Hp), 0 ≤ r → r < lim → Off b H H' → BagAt H' b c (n + 1) → Q (.int r) H'
theorem cut63 {ns : List Int} : cutV (ns.map V.int) none (some 63) = (ns.take 63).map V.int := by
  unfold cutV
  rw [show HT.sIx (ns.map V.int).length (ns.map V.int).length (some 63) = min 63 (ns.map V.int).length from HT.sIx_nat _ _ 63, HT.sIx_none, List.drop_zero, Nat.sub_zero, ← List.map_take]
  congr 1
  rw [List.length_map, Nat.min_comm]
  by_cases h : ns.length ≤ 63
  · rw [Nat.min_eq_left h, List.take_of_length_le (Nat.le_refl _), List.take_of_length_le h]
  · rw [Nat.min_eq_right (by omega)]
/-! ### own exceptions whose __init__ stores its arguments, one a field -/
/-- __init__(self, ..) of the class at C keeps this: the fields are fs of the arguments -/
def spXI (C : Addr) (n : Nat) (fs : List V → List (Str × V)) : Sp := fun vs H Q _ => ∃ (a : Addr) (ws : List V), vs = .ref a :: ws ∧ ws.length = n ∧ H a = some (exo a C none) ∧
  ∀ dx, H dx = none → dx ≠ a → Q .non (L2.upd (L2.upd H dx (exd dx (fs ws))) a (exo a C (some dx)))
/-- C(e, ..): for every new d the error, its dict at d -/
def tMkF (C : Addr) (n : Nat) (fs : List V → List (Str × V)) (ta : TA) : L2.St → Hp → XK → Prop := fun σ H Q => ta σ H fun vs H1 => vs.length = n ∧ ∀ d, H1 d = none → Q (.ref C) (some d) (L2.upd H1 d (.xd (fs vs)))
theorem pmk_fld {X : Cx} {CX : CXT} {x : Str} {C fI : Addr} {k n : Nat} {fd : FuncData} {ps : List Str} {fs : List V → List (Str × V)} {e : Expr} {es : List Expr} {ta : TA} {p pos : Pos} (T : OexC X.K C) (iC : PySem.W.findIn X.K (.ref C) "__init__" = some (some (.ref fI))) (tI : PySem.W.typeIn X.K (.ref fI) = some (.type "function"))
    (F1 : FnOk X.prog X.w X.K X.mg X.base CX k fI fd ps (spXI C n fs)) (hr : Room (k + 1) X.A) (hb : Binds X.K fd ps []) (hx : Passes CX X (fun _ _ _ => False)) (hm : X.mg x = some (.ref C)) (hn : n ≤ 1000) (ha : PA X (e :: es) ta)
    (mono : ∀ σ H (R R' : List V → Hp → Prop), (∀ vs H1, R vs H1 → R' vs H1) → ta σ H R → ta σ H R') (hg : Gl X x := by rfl)
    (hdb : (x == ("__debug__" : Str)) = false := by decide) (he : starEach (e :: es) X.env = (false, eval e X.env) :: starEach es X.env := by rfl) (hpl : (backTo pos (starEach es X.env)).any (·.1) = false := by rfl) :
    PMk X (.Call (.Name x p) (e :: es) [] pos) (tMkF C n fs ta) := by
  have base := pmk_oex (p := p) (pos := pos) (dvs := []) (ds := []) T iC tI F1 hr hb .nil hx hg hm ha hdb he hpl
  intro pins s σ H Q I h
  refine base pins s σ H Q I (mono σ H _ _ (fun vs H1 q => ?_) h)
  obtain ⟨hl, q⟩ := q
  refine ⟨by omega, fun a na => ⟨a, vs, by rw [List.append_nil], hl, upd_same, fun dx nd ne => ⟨rfl, dx, fs vs, upd_same, by rw [upd_ne ne, upd_same], ?_, ?_⟩⟩⟩
  · rw [upd_ne ne] at nd
    exact nd
  · have nd1 : H1 dx = none := by
      rw [upd_ne ne] at nd
      exact nd
    have e : L2.upd (L2.del (L2.upd (L2.upd (L2.upd H1 a (exo a C none)) dx (exd dx (fs vs))) a (exo a C (some dx))) a) dx (.xd (fs vs)) = L2.upd H1 dx (.xd (fs vs)) := by
      funext b
      by_cases h1 : b = dx
      · rw [h1, upd_same, upd_same]
      · rw [upd_ne h1, upd_ne h1]
        by_cases h2 : b = a
        · rw [h2, del_same, na]
        · rw [del_ne h2, upd_ne h2, upd_ne h1, upd_ne h2]
    rw [e]
    exact q dx nd1
theorem xi_two {H : Hp} {a dx C : Addr} {f1 f2 : Str} {y1 y2 : V} (ne : dx ≠ a) : L2.upd (L2.upd (L2.upd H dx (exd dx [(f1, y1)])) a (exo a C (some dx))) dx (exd dx [(f2, y2), (f1, y1)]) = L2.upd (L2.upd H dx (exd dx [(f2, y2), (f1, y1)])) a (exo a C (some dx)) := by
  funext b
  by_cases h1 : b = dx
  · rw [h1, upd_same, upd_ne ne, upd_same]
  · by_cases h2 : b = a
    · rw [h2, upd_ne ne.symm, upd_same, upd_same]
    · rw [upd_ne h1, upd_ne h2, upd_ne h1, upd_ne h2, upd_ne h1]
/-! ### what a value is, by its built-in class -/
inductive Kn (H : Hp) : V → String → Prop
  | non : Kn H .non "NoneType"
  | bl (b : Bool) : Kn H (.bl b) "bool"
  | int (i : Int) : Kn H (.int i) "int"
  | str (x : Str) : Kn H (.str x) "str"
  | lst {a : Addr} {xs : List V} (e : H a = some (.lst xs)) : Kn H (.ref a) "list"
  | tup {a : Addr} {xs : List V} (e : H a = some (.tup xs)) : Kn H (.ref a) "tuple"
  | dct {a : Addr} {kvs : List (Key × V)} (e : H a = some (.dK kvs)) : Kn H (.ref a) "dict"
theorem Kn.ty {K : PySem.W.Frag} {H : Hp} {v : V} {T : String} (h : Kn H v T) : TyX K H v (.type T) := by
  cases h with
  | non => exact .base .non
  | bl b => exact .base (.bl b)
  | int i => exact .base (.int i)
  | str x => exact .base (.str x)
  | lst e => exact .base (.lst e)
  | tup e => exact .base (.tup e)
  | dct e => exact .base (.dK e)
def wholeV (v : V) (lo hi : Int) : Bool := match v with
  | .int i => decide (lo ≤ i) && decide (i ≤ hi)
  | _ => false
/-- an int, a truth, or neither -/
theorem Kn.whole {K : PySem.W.Frag} {H : Hp} {v : V} {T : String} (h : Kn H v T) : (∃ i, v = .int i ∧ PySem.W.kitOne K (.type T) (.type "int") = some true ∧ PySem.W.kitOne K (.type T) (.type "bool") = some false) ∨
    (((PySem.W.kitOne K (.type T) (.type "int") = some true ∧ PySem.W.kitOne K (.type T) (.type "bool") = some true) ∨ PySem.W.kitOne K (.type T) (.type "int") = some false) ∧ (∀ i, v ≠ .int i) ∧ ∀ lo hi, wholeV v lo hi = false) := by
  cases h with
  | int i => exact .inl ⟨i, rfl, kit_ty (by decide +kernel), kit_ty (by decide +kernel)⟩
  | bl b => exact .inr ⟨.inl ⟨kit_ty (by decide +kernel), kit_ty (by decide +kernel)⟩, (fun _ z => nomatch z), fun _ _ => rfl⟩
  | non => exact .inr ⟨.inr (kit_ty (by decide +kernel)), (fun _ z => nomatch z), fun _ _ => rfl⟩
  | str x => exact .inr ⟨.inr (kit_ty (by decide +kernel)), (fun _ z => nomatch z), fun _ _ => rfl⟩
  | lst e => exact .inr ⟨.inr (kit_ty (by decide +kernel)), (fun _ z => nomatch z), fun _ _ => rfl⟩
  | tup e => exact .inr ⟨.inr (kit_ty (by decide +kernel)), (fun _ z => nomatch z), fun _ _ => rfl⟩
  | dct e => exact .inr ⟨.inr (kit_ty (by decide +kernel)), (fun _ z => nomatch z), fun _ _ => rfl⟩
/-- isinstance(v, (list, tuple)) -/
def seqT (T : String) : Bool := decide (T = "list") || decide (T = "tuple")
theorem Kn.seq {K : PySem.W.Frag} {H : Hp} {v : V} {T : String} (h : Kn H v T) : PySem.W.kitAny K (.type T) [.type "list", .type "tuple"] = some (seqT T) := by
  have two : ∀ {a b : Bool}, PySem.W.kitOne K (.type T) (.type "list") = some a → PySem.W.kitOne K (.type T) (.type "tuple") = some b → PySem.W.kitAny K (.type T) [.type "list", .type "tuple"] = some (a || b) := fun {a b} e1 e2 =>
    kitAny_cons e1 (fun ea => by rw [ea]; exact kitAny_cons e2 (fun eb => by rw [eb]; exact kitAny_nil) (fun eb => by rw [eb]; rfl)) (fun ea => by rw [ea]; rfl)
  cases h with
  | int i => exact two (a := false) (b := false) (kit_ty (by decide +kernel)) (kit_ty (by decide +kernel))
  | bl b => exact two (a := false) (b := false) (kit_ty (by decide +kernel)) (kit_ty (by decide +kernel))
  | non => exact two (a := false) (b := false) (kit_ty (by decide +kernel)) (kit_ty (by decide +kernel))
  | str x => exact two (a := false) (b := false) (kit_ty (by decide +kernel)) (kit_ty (by decide +kernel))
  | lst e => exact two (a := true) (b := false) (kit_ty (by decide +kernel)) (kit_ty (by decide +kernel))
  | tup e => exact two (a := false) (b := true) (kit_ty (by decide +kernel)) (kit_ty (by decide +kernel))
  | dct e => exact two (a := false) (b := false) (kit_ty (by decide +kernel)) (kit_ty (by decide +kernel))
/-- the items of a list or a tuple; none of another thing -/
def seqOf (H : Hp) : V → Option (List V)
  | .ref a => match H a with
    | some (.lst xs) => some xs
    | some (.tup xs) => some xs
    | _ => none
  | _ => none
theorem Kn.seqSome {H : Hp} {v : V} {T : String} (h : Kn H v T) : (seqT T = true ∧ ∃ a xs, v = .ref a ∧ seqOf H v = some xs ∧ ((H a = some (.lst xs)) ∨ H a = some (.tup xs))) ∨ (seqT T = false ∧ seqOf H v = none) := by
  cases h with
  | @lst a xs e => exact .inl ⟨rfl, a, xs, rfl, by simp only [seqOf, e], .inl e⟩
  | @tup a xs e => exact .inl ⟨rfl, a, xs, rfl, by simp only [seqOf, e], .inr e⟩
  | dct e => exact .inr ⟨rfl, by simp only [seqOf, e]⟩
  | int i => exact .inr ⟨rfl, rfl⟩
  | bl b => exact .inr ⟨rfl, rfl⟩
  | non => exact .inr ⟨rfl, rfl⟩
  | str x => exact .inr ⟨rfl, rfl⟩
theorem seqOf_lst {H : Hp} {a : Addr} {xs : List V} (h : H a = some (.lst xs)) : seqOf H (.ref a) = some xs := by simp only [seqOf, h]
theorem seqOf_tup {H : Hp} {a : Addr} {xs : List V} (h : H a = some (.tup xs)) : seqOf H (.ref a) = some xs := by simp only [seqOf, h]
theorem Kn.keep {H H' : Hp} {v : V} {T : String} (h : Kn H v T) (k : ∀ a o, v = .ref a → H a = some o → H' a = some o) : Kn H' v T := by
  cases h with
  | non => exact .non
  | bl b => exact .bl b
  | int i => exact .int i
  | str x => exact .str x
  | lst e => exact .lst (k _ _ rfl e)
  | tup e => exact .tup (k _ _ rfl e)
  | dct e => exact .dct (k _ _ rfl e)
theorem Kn.same {H H' : Hp} {v : V} {T : String} (h : Kn H v T) (k : Same H H') : Kn H' v T := h.keep fun a o _ e => k a o e
theorem Kn.seqOf {H H' : Hp} {v : V} {T : String} (h : Kn H v T) (k : Same H H') : seqOf H' v = Q.seqOf H v := by
  cases h with
  | lst e => simp only [Q.seqOf, k _ _ e, e]
  | tup e => simp only [Q.seqOf, k _ _ e, e]
  | dct e => simp only [Q.seqOf, k _ _ e, e]
  | _ => rfl
theorem seqOf_same {H H' : Hp} {v : V} {xs : List V} (h : seqOf H v = some xs) (k : Same H H') : seqOf H' v = some xs := by
  cases v with
  | ref a =>
    simp only [seqOf] at h ⊢
    cases e : H a with
    | none => rw [e] at h; cases h
    | some o =>
      rw [k _ _ e]
      rw [e] at h
      exact h
  | _ => cases h
/-- is_whole(thing, low, high), all three given -/
def spWhole : Sp := fun vs H Q _ => ∃ (v : V) (lo hi : Int) (T : String), vs = [v, .int lo, .int hi] ∧ Kn H v T ∧ Q (.bl (wholeV v lo hi)) H
/-! ### a list or a tuple, whichever -/
def Sq (K : PySem.W.Frag) (H : Hp) (a : Addr) (xs : List V) : Prop := SqL K H a xs ∨ SqT K H a xs
theorem sq_of {K : PySem.W.Frag} {H : Hp} {a : Addr} {xs : List V} (h : H a = some (.lst xs) ∨ H a = some (.tup xs)) : Sq K H a xs := h.elim (fun e => .inl (SqL.of e)) fun e => .inr (SqT.of e)
theorem sqT_same {K : PySem.W.Frag} {H H' : Hp} {a : Addr} {xs : List V} (e : Same H H') (h : SqT K H a xs) : SqT K H' a xs := by
  rcases h with (h | ⟨o, h⟩) | h
  · exact .inl (.inl (e _ _ h))
  · exact .inl (.inr ⟨o, e _ _ h⟩)
  · exact .inr h
theorem Sq.same {K : PySem.W.Frag} {H H' : Hp} {a : Addr} {xs : List V} (h : Sq K H a xs) (e : Same H H') : Sq K H' a xs := h.elim (fun z => .inl (e.seq z)) fun z => .inr (sqT_same e z)
theorem rix_of {K : PySem.W.Frag} {H : Hp} {a : Addr} {xs : List V} {i : Int} {v : V} {R : VK} (h : Sq K H a xs) (e : atI xs i = some v) (q : R v H) : rIx K (.ref a) (.int i) H R :=
  h.elim (fun z => .inl ⟨a, xs, i, v, rfl, rfl, z, e, q⟩) fun z => .inr (.inl ⟨a, xs, i, v, rfl, rfl, z, e, q⟩)
@[irreducible] def rTupOf (K : PySem.W.Frag) : List V → Hp → VK → Prop := fun xs H R => ∃ p ys, xs = [V.ref p] ∧ ((SqL K H p ys ∧ ∀ l, H l = none → R (.ref l) (L2.upd H l (.tup ys))) ∨ (SqT K H p ys ∧ R (.ref p) H))
theorem call_tupOf {X : Cx} : CallR X (.type "tuple") (rTupOf X.K) := by
  unfold rTupOf
  exact call_tuple_of
theorem tupOf_of {K : PySem.W.Frag} {H : Hp} {a : Addr} {xs : List V} {R : VK} (h : Sq K H a xs) (q : ∀ (l : Addr) (H' : Hp), SqT K H' l xs → Same H H' → (∀ b, H b = none → b ≠ l → H' b = none) → R (.ref l) H') : rTupOf K [.ref a] H R := by
  unfold rTupOf
  exact ⟨a, xs, rfl, h.elim (fun z => .inl ⟨z, fun l hl => q l _ (SqT.of upd_same) (same_new hl) fun b e n => by rw [upd_ne n]; exact e⟩) fun z => .inr ⟨z, q a H z (Same.refl H) fun b e _ => e⟩⟩
/-! ### rows of whole numbers as data -/
theorem dpAll_ints {K : PySem.W.Frag} {H : Hp} : ∀ ns : List Int, DpAll K H (ns.map V.int) (ns.map PyData.int)
  | [] => .nil
  | n :: ns => .cons (.int n) (dpAll_ints ns)
theorem lay_ints : ∀ ns : List Int, PyData.canLayAll0 (ns.map PyData.int) = true
  | [] => rfl
  | n :: ns => by
    show (true && PyData.canLayAll0 (ns.map PyData.int)) = true
    rw [lay_ints ns]
    rfl
theorem depth_ints : ∀ ns : List Int, PyData.depthAll (ns.map PyData.int) = 0
  | [] => rfl
  | n :: ns => by
    show max 0 (PyData.depthAll (ns.map PyData.int)) = 0
    rw [depth_ints ns]
    rfl
theorem shaped_ints (ns : List Int) : SeqAt.shaped (.tuple (ns.map PyData.int)) = true := by
  show (PyData.canLayAll0 (ns.map PyData.int) && decide (PyData.depthAll (ns.map PyData.int) + 1 ≤ 64)) = true
  rw [lay_ints, depth_ints]
  rfl
theorem eqvAll_ints : ∀ ns ms : List Int, PyData.eqvAll (ns.map PyData.int) (ms.map PyData.int) = decide (ns = ms)
  | [], [] => rfl
  | [], _ :: _ => rfl
  | _ :: _, [] => rfl
  | n :: ns, m :: ms => by
    show ((n == m) && PyData.eqvAll (ns.map PyData.int) (ms.map PyData.int)) = _
    rw [eqvAll_ints ns ms]
    by_cases h : n = m
    · subst h
      rw [beq_self_eq_true, Bool.true_and]
      by_cases h2 : ns = ms
      · rw [decide_eq_true h2, h2]
        exact (decide_eq_true rfl).symm
      · rw [decide_eq_false h2]
        exact (decide_eq_false fun z => h2 (List.cons.inj z).2).symm
    · rw [beq_eq_false_iff_ne.mpr h, Bool.false_and]
      exact (decide_eq_false fun z => h (List.cons.inj z).1).symm
theorem eqv_ints (ns ms : List Int) : PyData.eqv (.tuple (ns.map PyData.int)) (.tuple (ms.map PyData.int)) = decide (ns = ms) := eqvAll_ints ns ms
theorem dp_ints {K : PySem.W.Frag} {H : Hp} {p : Addr} {ns : List Int} (h : SqT K H p (ns.map V.int)) : Dp K H (.ref p) (.tuple (ns.map PyData.int)) := .tup h (dpAll_ints ns)
theorem ix_nat {n j : Nat} (h : j < n) : ixN n (j : Int) = some j := by
  unfold ixN
  rw [if_pos (by omega), if_pos (by omega), Int.toNat_natCast]
/-- tuple(a list that stands) is new -/
theorem tupL_of {K : PySem.W.Frag} {H : Hp} {a : Addr} {xs : List V} {R : VK} (h : SqL K H a xs) (q : ∀ l : Addr, H l = none → R (.ref l) (L2.upd H l (.tup xs))) : rTupOf K [.ref a] H R := by
  unfold rTupOf
  exact ⟨a, xs, rfl, .inl ⟨h, q⟩⟩
/-! ### data stand where what was tracked stands -/
mutual
theorem dp_same {K : PySem.W.Frag} {H H' : Hp} (e : Same H H') : ∀ (d : PyData) (v : V), Dp K H v d → Dp K H' v d
  | .none, _, h => by
    cases h
    exact .non
  | .bool b, _, h => by
    cases h
    exact .bl b
  | .int i, _, h => by
    cases h
    exact .int i
  | .str x, _, h => by
    cases h
    exact .str x
  | .list ds, _, h => by
    cases h with
    | lst s a => exact .lst (e.seq s) (dpAll_same e ds _ a)
  | .tuple ds, _, h => by
    cases h with
    | tup s a => exact .tup (sqT_same e s) (dpAll_same e ds _ a)
  | .dict _, _, h => by cases h
theorem dpAll_same {K : PySem.W.Frag} {H H' : Hp} (e : Same H H') : ∀ (ds : List PyData) (vs : List V), DpAll K H vs ds → DpAll K H' vs ds
  | [], _, h => by
    cases h
    exact .nil
  | d :: ds, _, h => by
    cases h with
    | cons a b => exact .cons (dp_same e d _ a) (dpAll_same e ds _ b)
end
end Q

set_option maxRecDepth 100000
set_option maxHeartbeats 4000000
/-! Loops and zips over a list or a tuple, whichever it is. -/
namespace Q
open PySem PySem.Spec PyProof.Rows L2
/-- a list (true), a tuple (false) -/
def SqB (k : Bool) (K : PySem.W.Frag) (H : Hp) (a : Addr) (xs : List V) : Prop := match k with
  | true => SqL K H a xs
  | false => SqT K H a xs
theorem Sq.b {K : PySem.W.Frag} {H : Hp} {a : Addr} {xs : List V} (h : Sq K H a xs) : ∃ k, SqB k K H a xs := h.elim (fun z => ⟨true, z⟩) fun z => ⟨false, z⟩
theorem SqB.sq {k : Bool} {K : PySem.W.Frag} {H : Hp} {a : Addr} {xs : List V} (h : SqB k K H a xs) : Sq K H a xs := match k, h with
  | true, h => .inl h
  | false, h => .inr h
theorem SqB.same {k : Bool} {K : PySem.W.Frag} {H H' : Hp} {a : Addr} {xs : List V} (h : SqB k K H a xs) (e : Same H H') : SqB k K H' a xs := match k, h with
  | true, h => e.seq h
  | false, h => sqT_same e h
def ItS (k : Bool) (K : PySem.W.Frag) (a : Addr) : It := match k with
  | true => Itl K a
  | false => Itt K a
def iSeq (K : PySem.W.Frag) (tl : TE) : TI := fun σ H R => tl σ H fun x H1 => ∃ a xs k, x = .ref a ∧ SqB k K H1 a xs ∧ R (ItS k K a) H1
section
variable {X : Cx} {tg : Expr}
theorem pi_seq {l : Expr} {tl : TE} (hl : PE X l tl) : PI X tg l (iSeq X.K tl) := by
  refine ⟨fun pins s σ H R I h => ?_⟩
  refine thn (hl.run pins s σ H _ I h) fun v s1 ⟨x, H1, I1, r1, q1⟩ => ?_
  obtain ⟨a, xs, k, e, hq, q⟩ := q1
  subst e
  cases r1
  have new : ∀ b ∈ [s1.heap.objs.size], FpOk X pins H1 b := fun b hb => by
    have e : b = s1.heap.objs.size := by simpa using hb
    subst e
    exact I1.fpOk (Nat.le_refl _) (I1.hok.fresh (Nat.le_refl _))
  cases k with
  | true =>
    obtain ⟨its, rv, p, hz⟩ := I1.list hq
    refine wpAny_pyIter_list p.isList ?_
    exact ⟨s1.heap.objs.size, [s1.heap.objs.size], _, _, H1, rfl, I1.kept (t' := s1.toks) fun b o e => Heap.get?_push_of_some _ e, turn_list a _, ⟨_, Heap.get?_push_size _ rfl, rfl, rfl⟩, new, q⟩
  | false =>
    obtain ⟨its, rv, p, hz⟩ := I1.tuple hq
    refine wpAny_pyIter_tuple (show s1.heap.IsTuple a its.toArray from p) ?_
    exact ⟨s1.heap.objs.size, [s1.heap.objs.size], _, _, H1, rfl, I1.kept (t' := s1.toks) fun b o e => Heap.get?_push_of_some _ e, turn_tuple a _, ⟨_, Heap.get?_push_size _ rfl, rfl, rfl⟩, new, q⟩
end
theorem for_seq {K : PySem.W.Frag} {k : Bool} {a : Addr} {xs : List V} {g : TG} {tb : TS} {D : Ends} {σ : L2.St} {H : Hp} (Pv : Nat → L2.St → Hp → Prop) (h0 : Pv 0 σ H) (hl : ∀ i σ H, i ≤ xs.length → Pv i σ H → SqB k K H a xs)
    (hs : ∀ i x σ H, xs[i]? = some x → Pv i σ H → g x σ H fun σ2 H2 => tb { D with nx := Pv (i + 1), ct := Pv (i + 1), bk := D.nx } σ2 H2) (hd : ∀ σ H, Pv xs.length σ H → D.nx σ H) :
    ∃ W : Nat → Nat → L2.St → Hp → Prop, (∃ m, W 0 m σ H) ∧ ∀ i m σ H, W i m σ H →
      ((ItS k K a).stop i H ∧ D.nx σ H) ∨ ((ItS k K a).go i H ∧ ∃ N : L2.St → Hp → Prop, (∀ σ' H', N σ' H' → ∃ m', m' < m ∧ W (i + 1) m' σ' H') ∧ ∀ x H', (ItS k K a).yld i H x H' → g x σ H' fun σ2 H2 => tb { D with nx := N, ct := N, bk := D.nx } σ2 H2) := by
  cases k with
  | true => exact for_list Pv h0 hl hs hd
  | false => exact for_tup Pv h0 hl hs hd
/-! ### zip -/
def itB (k : Bool) (h : Heap) (it l : Addr) (i : Nat) : Prop := match k with
  | true => h.IsListIter it l i
  | false => h.IsTupleIter it l i
def isB (k : Bool) (h : Heap) (l : Addr) (its : List Value) : Prop := match k with
  | true => h.IsList l its.toArray
  | false => h.IsTuple l its.toArray
theorem drawsB {P : Program} {w : World} {A : Around} {k : Bool} {it l : Addr} {its : List Value} (hh : A.handled = none) (ne : l ≠ it) :
    Draws P w A it [it, l] its.length (fun i v => its[i]? = some v) (fun i h => itB k h it l i ∧ isB k h l its) := by
  cases k with
  | true =>
    have D := Draws.list (prog := P) (w := w) hh it l ne its.toArray
    simp only [List.size_toArray, List.getElem?_toArray] at D
    exact D
  | false =>
    have D := Draws.tuple (prog := P) (w := w) hh it l ne its.toArray
    simp only [List.size_toArray, List.getElem?_toArray] at D
    exact D
theorem seqB {X : Cx} {pins : List (Addr × Obj)} {σ : L2.St} {H : Hp} {s : Shared} {k : Bool} {a : Addr} {xs : List V} (I : Inv X pins σ H s) (h : SqB k X.K H a xs) : ∃ its, Vals xs its ∧ isB k s.heap a its ∧ a < s.heap.objs.size := by
  cases k with
  | true =>
    obtain ⟨its, rv, p, _⟩ := I.list h
    exact ⟨its, rv, p.isList, p.lt⟩
  | false =>
    obtain ⟨its, rv, p, _⟩ := I.tuple h
    obtain ⟨o, ho, _⟩ := id p
    exact ⟨its, rv, p, Heap.lt_size ho⟩
theorem seqB_inj {X : Cx} {pins : List (Addr × Obj)} {σ : L2.St} {H : Hp} {s : Shared} {k : Bool} {a : Addr} {xs ys : List V} (I : Inv X pins σ H s) (h : SqB k X.K H a xs) (h' : SqB k X.K H a ys) : ys = xs := by
  cases k with
  | true => exact I.list_inj h' h
  | false => exact I.tuple_inj h' h
/-- the two as they stand at each turn, the items in new pairs -/
def ItzS (k1 k2 : Bool) (K : PySem.W.Frag) (a b : Addr) : It :=
  ⟨fun i H => ∃ (xs ys : List V) (x y : V), SqB k1 K H a xs ∧ SqB k2 K H b ys ∧ xs[i]? = some x ∧ ys[i]? = some y,
    fun i H v H' => ∃ T x y, v = .ref T ∧ H T = none ∧ H' = upd H T (.tup [x, y]) ∧ (∀ xs, SqB k1 K H a xs → xs[i]? = some x) ∧ ∀ ys, SqB k2 K H b ys → ys[i]? = some y,
    fun i H => ∃ xs ys : List V, SqB k1 K H a xs ∧ SqB k2 K H b ys ∧ xs.length = i ∧ ys.length = i⟩
theorem itB_at {k : Bool} {h h' : Heap} {it l : Addr} {i : Nat} (st : itB k h it l i) (q : ∀ o, h.get? it = some o → h'.get? it = some o) : itB k h' it l i := by
  cases k with
  | true => exact Heap.IsListIter.at st q
  | false => exact Heap.IsTupleIter.at st q
theorem itB_ob {k : Bool} {h : Heap} {it l : Addr} {i : Nat} (st : itB k h it l i) : ∃ o, h.get? it = some o ∧ ∀ v, o.data ≠ .cell v := by
  cases k with
  | true =>
    obtain ⟨o, e, _, d⟩ := st
    exact ⟨o, e, fun v q => by rw [d] at q; cases q⟩
  | false =>
    obtain ⟨o, e, _, d⟩ := st
    exact ⟨o, e, fun v q => by rw [d] at q; cases q⟩
theorem turn_zipS {P : Program} {w : World} {K : PySem.W.Frag} {elts : List Expr} {kk : Nat} {tpos : Pos} {k1 k2 : Bool} {a b z TI TO i1 i2 : Addr} (S : ZipSep2 z TI TO i1 i2 [i1, a] [i2, b]) (n1 : a ≠ i1) (n2 : b ≠ i2) :
    Turn P w K (.Tuple elts kk tpos) (ItzS k1 k2 K a b) [z, TI, TO, i1, i2] z (fun i h => IsZip h z TI TO .none ∧ IsTupOf2 h TI (.ref i1) (.ref i2) ∧ (∃ x y, IsTupOf2 h TO x y) ∧ itB k1 h i1 a i ∧ itB k2 h i2 b i) where
  mem := by simp
  obj := fun i h st c hc => by
    obtain ⟨hz, hTI, ⟨x, y, hTO⟩, t1, t2⟩ := st
    have e' : c = z ∨ c = TI ∨ c = TO ∨ c = i1 ∨ c = i2 := by simpa using hc
    rcases e' with rfl | rfl | rfl | rfl | rfl
    · exact ⟨_, hz, fun v q => nomatch q⟩
    · exact ⟨_, hTI, fun v q => nomatch q⟩
    · exact ⟨_, hTO, fun v q => nomatch q⟩
    · exact itB_ob t1
    · exact itB_ob t2
  keep := fun i h h' st k => by
    obtain ⟨hz, hTI, ⟨x, y, hTO⟩, h1, h2⟩ := st
    exact ⟨k z (by simp) _ hz, k TI (by simp) _ hTI, ⟨x, y, k TO (by simp) _ hTO⟩, itB_at h1 fun o q => k i1 (by simp) o q, itB_at h2 fun o q => k i2 (by simp) o q⟩
  item := by
    intro X hP hw hK hc i pins s σ H E I hf st hg
    subst hP hw hK
    obtain ⟨hz, hTI, ⟨x0, y0, hTO⟩, h1, h2⟩ := st
    obtain ⟨xs, ys, x, y, hqx, hqy, hx, hy⟩ := hg
    obtain ⟨its, rv, p, _⟩ := seqB I hqx
    obtain ⟨its2, rv2, p2, _⟩ := seqB I hqy
    obtain ⟨u, hu, ru⟩ := rv.get hx
    obtain ⟨u2, hu2, ru2⟩ := rv2.get hy
    have hzl : z < s.heap.objs.size := Heap.lt_size hz
    have hh : X.A.in1.handled = none := I.ok.hd hc
    refine wpAny_pyNext_zipD2_item S (drawsB (k := k1) (its := its) hh n1) (drawsB (k := k2) (its := its2) hh n2) hz hTI hTO ⟨h1, p⟩ ⟨h2, p2⟩ (List.getElem?_eq_some_iff.mp hu).1 (List.getElem?_eq_some_iff.mp hu2).1
      fun v1 v2 h' tk e1 e2 z' TO' st1 st2 hT hsz hk => ?_
    obtain rfl : u = v1 := Option.some.inj (hu.symm.trans e1)
    obtain rfl : u2 = v2 := Option.some.inj (hu2.symm.trans e2)
    refine ⟨_, rfl, wpAny_letOwnedTupleGo_zip (s := { s with heap := h', toks := tk }) z' fun h'' z'' sb => ?_⟩
    have hT2 : h''.get? s.heap.objs.size = some { cls := .type "tuple", data := .seq #[u, u2] } := (sb.2 _ (Nat.ne_of_gt hzl)).trans hT
    have new : ObjOk X.prog X.w (upd H s.heap.objs.size (.tup [x, y])) h'' s.heap.objs.size (.tup [x, y]) :=
      ⟨by show 2 ≤ sizeLine; decide, [u, u2], .cons ru (.cons ru2 .nil), ⟨_, hT2, rfl, _, rfl⟩⟩
    have I1 : Inv X pins σ (upd H s.heap.objs.size (.tup [x, y])) { s with heap := h'', toks := tk } :=
      I.turnedNew (t' := tk) (ch := [z, TI, TO, i1, i2]) (fun c o hb q => (sb.2 c (fun q' => hb (by simp [q']))).trans (hk c o (fun q' => hb (by simp [q'])) (fun q' => hb (by simp [q'])) (fun q' => hb (by simp [q'])) (fun q' => hb (by simp [q'])) q)) hf (Nat.le_refl _) new
    refine ⟨.ref s.heap.objs.size, _, I1, rfl, ⟨_, x, y, rfl, I.hok.fresh (Nat.le_refl _), rfl, fun l hl => by rw [seqB_inj I hqx hl]; exact hx, fun l hl => by rw [seqB_inj I hqy hl]; exact hy⟩, ⟨z'', ?_, ⟨u, u2, ?_⟩, ?_, ?_⟩, fun c hcm => ?_⟩
    · exact (sb.2 _ S.TIz).trans (hk _ _ S.TIz S.TITO S.TIi1 S.TIi2 hTI)
    · exact (sb.2 _ S.TOz).trans TO'
    · exact itB_at st1.1 fun o q => (sb.2 _ S.zi1.symm).trans q
    · exact itB_at st2.1 fun o q => (sb.2 _ S.zi2.symm).trans q
    · have hlt : c < s.heap.objs.size := by
        have e' : c = z ∨ c = TI ∨ c = TO ∨ c = i1 ∨ c = i2 := by simpa using hcm
        rcases e' with rfl | rfl | rfl | rfl | rfl
        · exact hzl
        · exact Heap.lt_size hTI
        · exact Heap.lt_size hTO
        · obtain ⟨_, e1, _⟩ := itB_ob h1; exact Heap.lt_size e1
        · obtain ⟨_, e1, _⟩ := itB_ob h2; exact Heap.lt_size e1
      rw [upd_ne (Nat.ne_of_lt hlt)]
      exact (hf c hcm).1
  done := by
    intro X hP hw hK hc i pins s σ H E I hf st hg
    subst hP hw hK
    obtain ⟨hz, hTI, ⟨x0, y0, hTO⟩, h1, h2⟩ := st
    obtain ⟨xs, ys, hqx, hqy, e1, e2⟩ := hg
    obtain ⟨its, rv, p, _⟩ := seqB I hqx
    obtain ⟨its2, rv2, p2, _⟩ := seqB I hqy
    have l1 := rv.length
    have l2 := rv2.length
    have hh : X.A.in1.handled = none := I.ok.hd hc
    exact wpAny_pyNext_zipD2_end S (drawsB (k := k1) (its := its) hh n1) (drawsB (k := k2) (its := its2) hh n2) hz hTI hTO ⟨h1, p⟩ ⟨h2, p2⟩ (by omega) (by omega) (.inl (by omega)) fun h' tk hk => ⟨rfl, I.turnedL (t' := tk) (ch := [z, TI, TO, i1, i2]) (fun c o hb q =>
      hk c o (fun q' => hb (by simp [q'])) (fun q' => hb (by simp [q'])) (fun q' => hb (by simp [q'])) (fun q' => hb (by simp [q'])) q) hf⟩
  self := fun A i s Q E st h => wpAny_pyIter_zip st.1 h
def obB (k : Bool) (l : Addr) : Obj := match k with
  | true => { cls := .type "list_iterator", data := .fields #[.ref l, .int 0 0] }
  | false => { cls := .type "tuple_iterator", data := .fields #[.ref l, .int 0 0] }
theorem beginsB {k : Bool} {l : Addr} {its : List Value} : Begins (.ref l) (obB k l) fun h => isB k h l its := by
  cases k with
  | true => exact begins_list l its.toArray
  | false => exact begins_tuple l its.toArray
theorem itB_new {k : Bool} {h : Heap} {it l : Addr} (e : h.get? it = some (obB k l)) : itB k h it l 0 := by
  cases k with
  | true => exact ⟨_, e, rfl, rfl⟩
  | false => exact ⟨_, e, rfl, rfl⟩
def iZipS (K : PySem.W.Frag) (ta : TA) : TI := fun σ H R => ta σ H fun vs H1 => ∃ a b xs ys k1 k2, vs = [.ref a, .ref b] ∧ SqB k1 K H1 a xs ∧ SqB k2 K H1 b ys ∧ R (ItzS k1 k2 K a b) H1
theorem pi_zipS {X : Cx} {e e2 : Expr} {ta : TA} {p pos tpos : Pos} {elts : List Expr} {kk : Nat} (hg : Gl X "zip") (hm : X.mg "zip" = none) (ha : PA X [e, e2] ta)
    (hs : starEach [e, e2] X.env = (false, eval e X.env) :: starEach [e2] X.env := by rfl) (hpl : (backTo pos (starEach [e2] X.env)).any (·.1) = false := by rfl) :
    PI X (.Tuple elts kk tpos) (.Call (.Name "zip" p) [e, e2] [] pos) (iZipS X.K ta) := by
  refine ⟨fun pins s σ H R I h => ?_⟩
  refine Call_ (ld_blt I hg hm PyProof.Rows.boot_zip (PyProof.Rows.callWith_type1 (thn (ha.run pos pins s σ H _ I h) fun us s1 ⟨vs, H1, I1, r1, q1⟩ => ?_) hs hpl))
  obtain ⟨a, b, xs, ys, k1, k2, rfl, hqx, hqy, q⟩ := q1
  obtain ⟨u1, u2, rfl, rr1, rr2⟩ := vals2 r1
  obtain rfl : u1 = Value.ref a := rr1
  obtain rfl : u2 = Value.ref b := rr2
  obtain ⟨its, rv, p1, la⟩ := seqB I1 hqx
  obtain ⟨its2, rv2, p2, lb⟩ := seqB I1 hqy
  refine zip_begins2 (beginsB (k := k1)) (beginsB (k := k2)) p1 p2 fun h' hz hTI hTO g1 g2 hsz hk => wpAny_pyIter_zip hz ?_
  have I2 : Inv X pins σ H1 { s1 with heap := h' } := I1.kept (t' := s1.toks) hk
  refine ⟨s1.heap.objs.size + 4, [s1.heap.objs.size + 4, s1.heap.objs.size + 2, s1.heap.objs.size + 3, s1.heap.objs.size, s1.heap.objs.size + 1], _, _, H1, rfl, I2,
    turn_zipS (zip_sep2 (fp1 := [a]) (fp2 := [b]) (fun c hc => by obtain rfl := List.mem_singleton.mp hc; exact la) (fun c hc => by obtain rfl := List.mem_singleton.mp hc; exact lb)) (Nat.ne_of_lt la) (Nat.ne_of_lt (Nat.lt_succ_of_lt lb)), ⟨hz, hTI, ⟨_, _, hTO⟩, itB_new g1, itB_new g2⟩, fun c hcm => ?_, q⟩
  have e' : c = s1.heap.objs.size + 4 ∨ c = s1.heap.objs.size + 2 ∨ c = s1.heap.objs.size + 3 ∨ c = s1.heap.objs.size ∨ c = s1.heap.objs.size + 1 := by simpa using hcm
  have hle : s1.heap.objs.size ≤ c := by
    rcases e' with z | z | z | z | z
    · rw [z]; exact Nat.le_add_right _ _
    · rw [z]; exact Nat.le_add_right _ _
    · rw [z]; exact Nat.le_add_right _ _
    · rw [z]; exact Nat.le_refl _
    · rw [z]; exact Nat.le_add_right _ _
  exact I1.fpOk hle (I1.hok.fresh hle)
/-- a loop over zip of two of one length -/
theorem for_zipS {K : PySem.W.Frag} {k1 k2 : Bool} {a b : Addr} {xs ys : List V} {g : TG} {tb : TS} {D : Ends} {σ : L2.St} {H : Hp} (hl : xs.length = ys.length) (Pv : Nat → L2.St → Hp → Prop) (h0 : Pv 0 σ H) (hq : ∀ i σ H, Pv i σ H → SqB k1 K H a xs ∧ SqB k2 K H b ys)
    (hs : ∀ (i : Nat) (x y : V) (T : Addr) (σ : L2.St) (H : Hp), xs[i]? = some x → ys[i]? = some y → Pv i σ H → H T = none → g (.ref T) σ (upd H T (.tup [x, y])) fun σ2 H2 => tb { D with nx := Pv (i + 1), ct := Pv (i + 1), bk := D.nx } σ2 H2) (hd : ∀ σ H, Pv xs.length σ H → D.nx σ H) :
    ∃ W : Nat → Nat → L2.St → Hp → Prop, (∃ m, W 0 m σ H) ∧ ∀ i m σ H, W i m σ H →
      ((ItzS k1 k2 K a b).stop i H ∧ D.nx σ H) ∨ ((ItzS k1 k2 K a b).go i H ∧ ∃ N : L2.St → Hp → Prop, (∀ σ' H', N σ' H' → ∃ m', m' < m ∧ W (i + 1) m' σ' H') ∧ ∀ v H', (ItzS k1 k2 K a b).yld i H v H' → g v σ H' fun σ2 H2 => tb { D with nx := N, ct := N, bk := D.nx } σ2 H2) := by
  refine ⟨fun i m σ H => m = xs.length - i ∧ i ≤ xs.length ∧ Pv i σ H, ⟨xs.length, rfl, Nat.zero_le _, h0⟩, ?_⟩
  rintro i m σ H ⟨rfl, hi, p⟩
  obtain ⟨qx, qy⟩ := hq i σ H p
  by_cases hlt : i < xs.length
  · have hx : xs[i]? = some xs[i] := List.getElem?_eq_getElem hlt
    have hlt2 : i < ys.length := by omega
    have hy : ys[i]? = some ys[i] := List.getElem?_eq_getElem hlt2
    refine .inr ⟨⟨xs, ys, _, _, qx, qy, hx, hy⟩, Pv (i + 1), fun σ' H' p' => ⟨xs.length - (i + 1), by omega, rfl, hlt, p'⟩, fun v H' y => ?_⟩
    obtain ⟨T, x', y', rfl, hT, rfl, f1, f2⟩ := y
    exact hs i x' y' T σ H (f1 xs qx) (f2 ys qy) p hT
  · obtain rfl : i = xs.length := by omega
    exact .inl ⟨⟨xs, ys, qx, qy, rfl, by omega⟩, hd σ H p⟩
end Q

set_option maxRecDepth 100000
set_option maxHeartbeats 4000000
/-! More that the laws share: own errors without arguments, repr of any data, small data, whole numbers in rows. -/
namespace Q
open PySem PySem.Spec PyProof.Rows L2
/-- X(), X an own exception class without own __init__ -/
theorem pmk_own0 {X : Cx} {C : Addr} {x : Str} {p pos : Pos} (q : PySem.W.excIn X.K C He.veBase "ValueError.__new__" = true) (gC : X.mg x = some (.ref C)) (kC : PySem.W.keepIn X.K (.ref C) = true) (r : Raises X (.ref C)) (hg : Gl X x := by rfl)
    (hdb : (x == ("__debug__" : Str)) = false := by decide) : PMk X (.Call (.Name x p) [] [] pos) (fun _ H Q => Q (.ref C) none H) := by
  intro pins s σ H Q I h
  refine wpAny_Call_Name_kw (ld_glob I hg gC ?_ hdb)
  refine PySem.W.callWith_K0 I.kIn kC ?_
  show wpAny _ _ (call (.ref C) []) _ _ _
  obtain ⟨bm, N, nm, qn, bs, hdct, sn, sub, ab, col, dd, k0, k1, k2, k3, k5, mN, hC, hN, hni, T⟩ := exc_obj I.kIn q
  refine wpAny_call_exc_subT PySem.F.excBase_ValueError T hC hN hni (fun h' e hm => ?_) (by show 0 ≤ sizeLine; exact Nat.zero_le _)
  exact mk_of I hm r h (I.hok.gone hm.new)
/-- repr of data: asked where no repr runs around -/
def rReprV (K : PySem.W.Frag) : List V → Hp → VK → Prop := fun xs H Q => ∃ (x : V) (d : PyData), xs = [x] ∧ Dp K H x d ∧ d.showable = true ∧ d.hasDict = false ∧ d.depth ≤ 60 ∧ d.shown.length ≤ sizeLine ∧ Q (.str d.shown) H
theorem call_reprV {X : Cx} (hg : X.A.guards = some []) (hu : X.A.units + 64 < cLine) : CallR X (.builtin "repr") (rReprV X.K) := by
  intro pins s σ H xs us Q I r h
  obtain ⟨x, d, rfl, hD, hs, hno, hdp, hl, q⟩ := h
  obtain ⟨u, rfl, r1⟩ := vals1 r
  have D := hD
  cases hD with
  | non =>
    obtain rfl : u = Value.none := r1
    exact PySem.P.repr_of_none ⟨.str _, H, I.tok _, ⟨_, rfl⟩, q⟩
  | bl b =>
    obtain rfl : u = Value.bool b := r1
    exact PySem.P.repr_of_bool ⟨.str _, H, I.tok _, ⟨_, by cases b <;> rfl⟩, q⟩
  | int i =>
    obtain ⟨t, rfl⟩ := r1
    exact PySem.P.repr_of_int (of_decide_eq_true hs) ⟨.str _, H, I.tok _, ⟨_, rfl⟩, q⟩
  | str z =>
    obtain ⟨t, rfl⟩ := r1
    exact PySem.P.repr_of_str ⟨.str _, H, I.tok _, ⟨_, rfl⟩, q⟩ hl
  | lst hq da =>
    exact call_reprD hg hu pins s σ H _ _ Q I r ⟨_, _, rfl, D, ⟨_, rfl⟩, hs, hno, hdp, hl, q⟩
  | tup hq da =>
    exact call_reprD hg hu pins s σ H _ _ Q I r ⟨_, _, rfl, D, ⟨_, rfl⟩, hs, hno, hdp, hl, q⟩
theorem call_reprVS {X : Cx} {a : Addr} {pn : List (Addr × Obj)} (hg : X.A.guards = some []) (hu : X.A.units + 64 < cLine) : CallR (X.suite a pn) (.builtin "repr") (rReprV X.K) := call_reprV (X := X.suite a pn) hg hu
/-! ### whole numbers, with bounds or without -/
def loB (lo : V) (i : Int) : Bool := match lo with
  | .int l => decide (l ≤ i)
  | _ => true
def hiB (hi : V) (i : Int) : Bool := match hi with
  | .int h => decide (i ≤ h)
  | _ => true
def wholeG (v lo hi : V) : Bool := match v with
  | .int i => loB lo i && hiB hi i
  | _ => false
def Bnd (v : V) : Prop := v = .non ∨ ∃ i, v = .int i
theorem wholeG_int {v : V} {lo hi : Int} : wholeG v (.int lo) (.int hi) = wholeV v lo hi := by cases v <;> rfl
theorem wholeG_no {v lo hi : V} (h : ∀ i, v ≠ .int i) : wholeG v lo hi = false := by
  cases v with
  | int i => exact absurd rfl (h i)
  | _ => rfl
def spWholeG : Sp := fun vs H Q _ => ∃ (v lo hi : V) (T : String), vs = [v, lo, hi] ∧ Kn H v T ∧ Bnd lo ∧ Bnd hi ∧ Q (.bl (wholeG v lo hi)) H
/-! ### rows and their numbers; both read from the back -/
def prodR : List Int → Int
  | [] => 1
  | w :: ws => prodR ws * w
def numR : List Int → List Int → Int
  | w :: ws, v :: vs => numR ws vs * w + v
  | _, _ => 0
def digs : List Int → Int → List Int
  | [], _ => []
  | w :: ws, n => n % w :: digs ws (n / w)
def quoR : List Int → Int → Int
  | [], n => n
  | w :: ws, n => quoR ws (n / w)
/-- each in its width -/
def InR : List Int → List Int → Prop
  | [], [] => True
  | w :: ws, v :: vs => 0 ≤ v ∧ v < w ∧ InR ws vs
  | _, _ => False
theorem InR.len : ∀ {ws vs : List Int}, InR ws vs → vs.length = ws.length
  | [], [], _ => rfl
  | [], _ :: _, h => h.elim
  | _ :: _, [], h => h.elim
  | _ :: ws, _ :: vs, h => by
    have := InR.len (ws := ws) (vs := vs) h.2.2
    simp [this]
theorem InR.get : ∀ {ws vs : List Int} {i : Nat} {w v : Int}, InR ws vs → ws[i]? = some w → vs[i]? = some v → 0 ≤ v ∧ v < w
  | [], _, _, _, _, _, h, _ => by simp at h
  | _ :: _, [], _, _, _, h, _, _ => h.elim
  | a :: ws, b :: vs, 0, w, v, h, h1, h2 => by
    simp at h1 h2
    subst h1 h2
    exact ⟨h.1, h.2.1⟩
  | a :: ws, b :: vs, i + 1, w, v, h, h1, h2 => InR.get (ws := ws) (vs := vs) (i := i) h.2.2 (by simpa using h1) (by simpa using h2)
theorem InR.of_get : ∀ {ws vs : List Int}, vs.length = ws.length → (∀ (i : Nat) (w v : Int), ws[i]? = some w → vs[i]? = some v → 0 ≤ v ∧ v < w) → InR ws vs
  | [], [], _, _ => trivial
  | [], _ :: _, h, _ => by simp at h
  | _ :: _, [], h, _ => by simp at h
  | a :: ws, b :: vs, h, k => by
    have z := k 0 a b rfl rfl
    exact ⟨z.1, z.2, InR.of_get (by simpa using h) fun i w v h1 h2 => k (i + 1) w v (by simpa using h1) (by simpa using h2)⟩
theorem InR.rev {ws vs : List Int} (h : InR ws vs) : InR ws.reverse vs.reverse := by
  have hl := h.len
  refine InR.of_get (by rw [List.length_reverse, List.length_reverse, hl]) fun i w v h1 h2 => ?_
  have hi : i < ws.length := by
    have := (List.getElem?_eq_some_iff.mp h1).1
    rwa [List.length_reverse] at this
  rw [List.getElem?_reverse hi] at h1
  rw [List.getElem?_reverse (by omega), hl] at h2
  exact h.get h1 h2
theorem num_bounds : ∀ {ws vs : List Int}, InR ws vs → 0 ≤ numR ws vs ∧ numR ws vs < prodR ws
  | [], [], _ => ⟨Int.le_refl _, by decide⟩
  | [], _ :: _, h => h.elim
  | _ :: _, [], h => h.elim
  | w :: ws, v :: vs, ⟨h0, h1, h⟩ => by
    obtain ⟨a, b⟩ := num_bounds (ws := ws) (vs := vs) h
    show 0 ≤ numR ws vs * w + v ∧ numR ws vs * w + v < prodR ws * w
    have w0 : 0 < w := by omega
    have e1 : 0 ≤ numR ws vs * w := Int.mul_nonneg a (Int.le_of_lt w0)
    have e2 : (numR ws vs + 1) * w ≤ prodR ws * w := Int.mul_le_mul_of_nonneg_right (by omega) (Int.le_of_lt w0)
    rw [Int.add_mul, Int.one_mul] at e2
    constructor <;> omega
theorem digs_num : ∀ {ws vs : List Int}, InR ws vs → digs ws (numR ws vs) = vs
  | [], [], _ => rfl
  | [], _ :: _, h => h.elim
  | _ :: _, [], h => h.elim
  | w :: ws, v :: vs, ⟨h0, h1, h⟩ => by
    have e1 : (numR ws vs * w + v) % w = v := by
      rw [Int.add_comm, Int.add_mul_emod_self_right]
      exact Int.emod_eq_of_lt h0 h1
    have e2 : (numR ws vs * w + v) / w = numR ws vs := by
      rw [Int.add_comm, Int.add_mul_ediv_right _ _ (by omega), Int.ediv_eq_zero_of_lt h0 h1, Int.zero_add]
    show (numR ws vs * w + v) % w :: digs ws ((numR ws vs * w + v) / w) = v :: vs
    rw [e1, e2, digs_num h]
theorem digs_len : ∀ (ws : List Int) (n : Int), (digs ws n).length = ws.length
  | [], _ => rfl
  | w :: ws, n => by
    show (digs ws (n / w)).length + 1 = ws.length + 1
    rw [digs_len]
theorem digs_in : ∀ {ws : List Int} {n : Int}, (∀ w ∈ ws, 0 < w) → 0 ≤ n → n < prodR ws → InR ws (digs ws n) ∧ numR ws (digs ws n) = n
  | [], n, _, h0, h1 => ⟨trivial, by
    have : n < 1 := h1
    show (0 : Int) = n
    omega⟩
  | w :: ws, n, hw, h0, h1 => by
    have w0 : 0 < w := hw w List.mem_cons_self
    have q0 : 0 ≤ n / w := Int.ediv_nonneg h0 (Int.le_of_lt w0)
    have q1 : n / w < prodR ws := Int.ediv_lt_of_lt_mul w0 h1
    obtain ⟨a, b⟩ := digs_in (ws := ws) (n := n / w) (fun x m => hw x (List.mem_cons_of_mem _ m)) q0 q1
    refine ⟨⟨Int.emod_nonneg _ (by omega), Int.emod_lt_of_pos _ w0, a⟩, ?_⟩
    show numR ws (digs ws (n / w)) * w + n % w = n
    rw [b, Int.mul_comm]
    exact Int.mul_ediv_add_emod n w
theorem digs_snoc : ∀ (ws : List Int) (w n : Int), digs (ws ++ [w]) n = digs ws n ++ [quoR ws n % w] ∧ quoR (ws ++ [w]) n = quoR ws n / w
  | [], w, n => ⟨rfl, rfl⟩
  | a :: ws, w, n => by
    obtain ⟨e1, e2⟩ := digs_snoc ws w (n / a)
    exact ⟨by show n % a :: digs (ws ++ [w]) (n / a) = n % a :: (digs ws (n / a) ++ [quoR ws (n / a) % w]); rw [e1], e2⟩
theorem prodR_pos : ∀ {ws : List Int}, (∀ w ∈ ws, 0 < w) → 0 < prodR ws
  | [], _ => by decide
  | w :: ws, h => Int.mul_pos (prodR_pos fun x m => h x (List.mem_cons_of_mem _ m)) (h w List.mem_cons_self)
theorem take_rev {α : Type} {l : List α} {i : Nat} {x : α} (h : l[i]? = some x) : (l.take (i + 1)).reverse = x :: (l.take i).reverse := by
  rw [List.take_add_one, h, List.reverse_append]
  rfl
theorem getMap {ws : List Int} {i : Nat} {x : V} (h : (ws.map V.int)[i]? = some x) : ∃ w, ws[i]? = some w ∧ x = .int w := by
  rw [List.getElem?_map] at h
  cases e : ws[i]? with
  | none => rw [e] at h; cases h
  | some w => rw [e] at h; exact ⟨w, rfl, (Option.some.inj h).symm⟩
/-! ### what check_widths and check_row look at -/
def unI : V → Int
  | .int i => i
  | _ => 0
def widthsOk (o : Option (List V)) : Bool := match o with
  | some xs => (decide (1 ≤ xs.length) && decide (xs.length ≤ 3)) && (xs.all (fun v => wholeV v 1 64) && decide (prodR (xs.map unI).reverse ≤ 4096))
  | none => false
def allIn : List Int → List V → Bool
  | w :: ws, x :: xs => wholeV x 0 (w - 1) && allIn ws xs
  | _, _ => true
def rowOk (ws : List Int) (o : Option (List V)) : Bool := match o with
  | some xs => decide (xs.length = ws.length) && allIn ws xs
  | none => false
theorem whole_is {v : V} {lo hi : Int} (h : wholeV v lo hi = true) : ∃ i, v = .int i ∧ lo ≤ i ∧ i ≤ hi := by
  cases v with
  | int i =>
    have z : (decide (lo ≤ i) && decide (i ≤ hi)) = true := h
    rw [Bool.and_eq_true] at z
    exact ⟨i, rfl, of_decide_eq_true z.1, of_decide_eq_true z.2⟩
  | _ => cases h
theorem all_whole {lo hi : Int} : ∀ {xs : List V}, xs.all (fun v => wholeV v lo hi) = true → xs = (xs.map unI).map V.int ∧ ∀ w ∈ xs.map unI, lo ≤ w ∧ w ≤ hi
  | [], _ => ⟨rfl, fun _ m => by cases m⟩
  | x :: xs, h => by
    rw [List.all_cons, Bool.and_eq_true] at h
    obtain ⟨i, rfl, h1, h2⟩ := whole_is h.1
    obtain ⟨e, k⟩ := all_whole h.2
    refine ⟨by rw [List.map_cons, List.map_cons, ← e]; rfl, fun w m => ?_⟩
    rcases List.mem_cons.mp (show w ∈ i :: xs.map unI from m) with rfl | m
    · exact ⟨h1, h2⟩
    · exact k w m
theorem unI_int (ns : List Int) : (ns.map V.int).map unI = ns := by
  rw [List.map_map]
  exact List.map_id'' (fun _ => rfl) ns
theorem allIn_is : ∀ {ws : List Int} {xs : List V}, xs.length = ws.length → allIn ws xs = true → xs = (xs.map unI).map V.int ∧ InR ws (xs.map unI)
  | [], [], _, _ => ⟨rfl, trivial⟩
  | [], _ :: _, h, _ => by simp at h
  | _ :: _, [], h, _ => by simp at h
  | w :: ws, x :: xs, hl, h => by
    have h' : (wholeV x 0 (w - 1) && allIn ws xs) = true := h
    rw [Bool.and_eq_true] at h'
    obtain ⟨i, rfl, h1, h2⟩ := whole_is h'.1
    obtain ⟨e, k⟩ := allIn_is (ws := ws) (xs := xs) (by simpa using hl) h'.2
    exact ⟨by rw [List.map_cons, List.map_cons, ← e]; rfl, h1, by show i < w; omega, k⟩
theorem allIn_of : ∀ {ws rs : List Int}, InR ws rs → allIn ws (rs.map V.int) = true
  | [], [], _ => rfl
  | [], _ :: _, h => h.elim
  | _ :: _, [], h => h.elim
  | w :: ws, r :: rs, ⟨h0, h1, h⟩ => by
    show ((decide (0 ≤ r) && decide (r ≤ w - 1)) && allIn ws (rs.map V.int)) = true
    rw [decide_eq_true h0, decide_eq_true (show r ≤ w - 1 by omega), allIn_of h]
    rfl
theorem rowOk_of {ws rs : List Int} (h : InR ws rs) : rowOk ws (some (rs.map V.int)) = true := by
  show (decide ((rs.map V.int).length = ws.length) && allIn ws (rs.map V.int)) = true
  rw [List.length_map, h.len, decide_eq_true rfl, allIn_of h]
  rfl
/-- the items of a list or a tuple are of known kinds -/
def Itm (H : Hp) (v : V) : Prop := ∀ xs, seqOf H v = some xs → ∀ x ∈ xs, ∃ T, Kn H x T
theorem Itm.ints {H : Hp} {v : V} {ns : List Int} (h : seqOf H v = some (ns.map V.int)) : Itm H v := fun xs hx x m => by
  rw [h] at hx
  cases hx
  obtain ⟨n, -, rfl⟩ := List.mem_map.mp m
  exact ⟨_, .int n⟩
theorem Itm.none {H : Hp} {v : V} (h : seqOf H v = none) : Itm H v := fun xs hx => by
  rw [h] at hx
  cases hx
theorem Itm.same {H H' : Hp} {v : V} {T : String} (h : Itm H v) (k : Kn H v T) (e : Same H H') : Itm H' v := fun xs hx x m => by
  rw [k.seqOf e] at hx
  obtain ⟨U, u⟩ := h xs hx x m
  exact ⟨U, u.same e⟩
/-! ### names -/
def lettersT : Str := "abcdefghijklmnopqrstuvwxyz"
def inLetters (c : Nat) : Bool := decide (c ∈ lettersT.cps.toList)
def nameV (v : V) : Bool := match v with
  | .str x => (decide (1 ≤ x.length) && decide (x.length ≤ 12)) && x.cps.toList.all inLetters
  | _ => false
theorem Kn.isStr {K : PySem.W.Frag} {H : Hp} {v : V} {T : String} (h : Kn H v T) : (∃ x, v = .str x ∧ PySem.W.kitOne K (.type T) (.type "str") = some true) ∨ (PySem.W.kitOne K (.type T) (.type "str") = some false ∧ nameV v = false) := by
  cases h with
  | str x => exact .inl ⟨x, rfl, kit_ty (by decide +kernel)⟩
  | int i => exact .inr ⟨kit_ty (by decide +kernel), rfl⟩
  | bl b => exact .inr ⟨kit_ty (by decide +kernel), rfl⟩
  | non => exact .inr ⟨kit_ty (by decide +kernel), rfl⟩
  | lst e => exact .inr ⟨kit_ty (by decide +kernel), rfl⟩
  | tup e => exact .inr ⟨kit_ty (by decide +kernel), rfl⟩
  | dct e => exact .inr ⟨kit_ty (by decide +kernel), rfl⟩
def spName : Sp := fun vs H Q _ => ∃ (v : V) (T : String), vs = [v] ∧ Kn H v T ∧ (∀ x, v = .str x → x.length ≤ 1000) ∧ ∀ H', Same H H' → Q (.bl (nameV v)) H'
end Q

set_option maxRecDepth 100000
set_option maxHeartbeats 4000000
/-! An exception that leaves a list comprehension. -/
namespace Q
open PySem PySem.Spec PyProof.Rows L2
theorem funFrames_less {h B B0 : Heap} (g : ∀ b, B.get? b = none → B0.get? b = none) : ∀ {l : List Env}, h.FunFrames B l → h.FunFrames B0 l
  | [], _ => trivial
  | e :: l, ⟨h1, ⟨L, o, h2, h3, h4, h5⟩, r⟩ => ⟨h1, ⟨L, o, h2, g L h3, h4, h5⟩, funFrames_less g r⟩
/-- a callee's exception, noted in the comprehension's frame, let go with its names, taken where the def takes it -/
theorem blk_raise {X : Cx} {W : WX} {E : XK} {pins pins' : List (Addr × Obj)} {σ σ' : L2.St} {H3 H : Hp} {s3 s s' : Shared} {scope : Scope} {ce : Env} {fp : List Addr} {xe' : Value → Shared → Prop} {u : Value} {E₁ : Value → Shared → Prop}
    (tk : Takes X W) (hs : X.stack = X.env :: X.outer) (hf : X.env.frame = some X.env.locals) (I3 : Inv X pins σ H3 s3) (hL : ce.locals = s3.heap.objs.size) (hcf : ce.frame = X.env.frame)
    (hfp : ∀ b ∈ fp, (b ∈ X.ex ∨ X.s_0.heap.objs.size ≤ b) ∧ b ≠ X.env.locals ∧ (∀ x c, X.env.cells.lookup x = some c → c ≠ b) ∧ ∀ p ∈ X.pn ++ pins, p.1 ≠ b)
    (hE : ∀ cls d H', E cls d H' → W cls d σ H') (I' : Inv ((X.blk s3 H3 scope ce fp).tr [] xe') pins' σ' H s) (c : L2.CX X.prog X.w X.stack H s E u s') :
    wpAny (model X.prog X.w) X.A (noteFrame u ce) (fun _ s'' => CompFails (model X.prog X.w) X.A X.xe ce u s'') E₁ s' := by
  obtain ⟨a, B, H', cls, d, rfl, fl, hok, ub, na, os, ag, hw⟩ := c
  have hfr : X.A.frames = some (X.env :: X.outer) := by rw [I3.ok.frames, hs]
  have frlt : ∀ b, b ∈ frs X.stack → b < s3.heap.objs.size := fun b hm => by
    rcases List.mem_cons.mp (I3.stkSub b hm) with z | z
    · obtain ⟨m, hn, _⟩ := I3.loc
      obtain ⟨o, es, ep, e, _⟩ := hn
      rw [z]
      exact Heap.lt_size e
    · obtain ⟨_, o, e, _⟩ := I3.ok.funs.mem z
      exact Nat.lt_of_lt_of_le (Heap.lt_size e) I3.sz
  have cN : ce.locals ∉ frs X.stack := fun z => by
    have := frlt _ z
    rw [hL] at this
    exact absurd this (Nat.lt_irrefl _)
  have lt3 : ∀ {b : Addr} {o : Obj}, s3.heap.get? b = some o → b ≠ ce.locals := fun {b o} e z => by
    have := Heap.lt_size e
    rw [z, hL] at this
    exact absurd this (Nat.lt_irrefl _)
  obtain ⟨m, hn, _⟩ := I'.loc
  have hn : s.heap.Ns ce.locals m := hn
  have hHC : H ce.locals = none := I'.free
  obtain ⟨oC, es, ep, eC, dC, rC⟩ := hn
  have eB : B.get? ce.locals = some oC := ub.keep _ _ eC hHC cN
  have hH'C : H' ce.locals = none := ub.free _ _ eC hHC
  obtain ⟨B0, g1, g2⟩ := restrict B fun b => decide (b ≠ ce.locals)
  have gk : ∀ b, b ≠ ce.locals → B0.get? b = B.get? b := fun b hb => g1 b (decide_eq_true hb)
  have gC : B0.get? ce.locals = none := g2 _ (decide_eq_false fun z => z rfl)
  have gs : ∀ b o, B0.get? b = some o → B.get? b = some o ∧ b ≠ ce.locals := fun b o e => by
    have hb : b ≠ ce.locals := fun z => by rw [z, gC] at e; cases e
    exact ⟨(gk b hb).symm.trans e, hb⟩
  have gn : ∀ b, B.get? b = none → B0.get? b = none := fun b e => by
    cases q : B0.get? b with
    | none => rfl
    | some o => rw [(gs b o q).1] at e; cases e
  have fl0 : HandSPX.FlyingZ B0 X.stack a (Zc cls d) s'.heap := by
    obtain ⟨f1, f2, f3, oe, vs, T, oT, ts, t1, t2, t3, t4, t5, t6⟩ := fl
    exact ⟨fun b o e => f1 b o (gs b o e).1, gn a f2, funFrames_less gn f3, oe, vs, T, oT, ts, t1, t2, t3, t4, gn T t5, t6⟩
  have flS := fl.1
  rw [hs] at fl0
  rw [noteFrame_env _ hcf]
  refine HandSPX.looks_onZ Zc.steady hfr hf fl0 fun h' held up => ?_
  have nf : ∀ vs, oC.data ≠ .fields vs := fun vs q => by rw [dC] at q; cases q
  obtain ⟨slC, eC'⟩ := up _ _ (flS _ _ eB) nf
  have hnC : h'.Ns ce.locals m := ⟨_, es, ep, eC', dC, rC⟩
  refine ⟨m, hnC, fun h₂ m₂ hn₂ hs₂ => ?_⟩
  have neD : ∀ {b : Addr} {o : Obj} {vs : Array Value}, h'.get? b = some o → o.data = .fields vs → b ≠ ce.locals := fun {b o vs} e q z => by
    rw [z, eC'] at e
    cases e
    rw [show ({ oC with slots := slC } : Obj).data = oC.data from rfl, dC] at q
    cases q
  have held2 : HandSPX.HeldZ B0 (X.env :: X.outer) a (Zc cls d) X.env.locals h₂ := by
    obtain ⟨f1, f2, f3, oe, vs, T, oT, ts, t1, t2, t3, t4, t5, t6, t7, t8, t9⟩ := held
    exact ⟨fun b o e => (hs₂.2 b (gs b o e).2).trans (f1 b o e), f2, Heap.FunFrames.sameBut hs₂ hn₂ f3, oe, vs, T, oT, ts, (hs₂.2 a (neD t1 t3)).trans t1, t2, t3, t4, t5, t6, (hs₂.2 T (neD t7 t8)).trans t7, t8, t9⟩
  unfold PySem.passOn
  obtain ⟨oe, vs, T, oT, ts, t1, t2, t3, t4, -⟩ := id held2.2.2.2
  refine wpAny_bind (wpAny_field t1 t3 t4 ?_)
  rw [if_neg (show ¬ ((Value.ref T == Value.none) = true) from by simp)]
  rw [hcf, hf]
  refine wpAny_bind (HandSPX.setFlight_onZ held2 fun h₃ held3 up3 => ?_)
  refine wpAny_throw (tk _ _ ?_)
  obtain ⟨G, k1, k2⟩ := restrict s'.heap fun b => (B0.get? b).isSome || decide (b ∈ frs X.stack)
  have st0 : ∀ b o, B0.get? b = some o → s'.heap.get? b = some o := fun b o e => flS b o (gs b o e).1
  have gB : ∀ b o, B0.get? b = some o → G.get? b = some o := fun b o e => by
    rw [k1 b (by simp [e])]
    exact st0 b o e
  have gF : ∀ b, b ∈ frs X.stack → G.get? b = s'.heap.get? b := fun b hb => k1 b (by simp [hb])
  have og : ∀ b o, G.get? b = some o → s'.heap.get? b = some o ∧ ((B0.get? b).isSome = true ∨ b ∈ frs X.stack) := fun b o e => by
    cases q : ((B0.get? b).isSome || decide (b ∈ frs X.stack)) with
    | false => rw [k2 b q] at e; cases e
    | true =>
      rw [k1 b q] at e
      exact ⟨e, by simpa [Bool.or_eq_true] using q⟩
  have oC' : ∀ b o, G.get? b = some o → b ≠ ce.locals := fun b o e z => by
    rcases (og b o e).2 with q | q
    · rw [z, gC] at q
      cases q
    · rw [z] at q
      exact cN q
  have base := I'.base
  have U : Un (frs X.stack) fp H3 H' s3.heap G := {
    keep := fun b o e n hb hx => gB b o (by rw [gk b (lt3 e)]; exact ub.keep b o (base.keep b o e n hb hx) (base.free b o e n hx) hb)
    slot := fun b o e n hb hx => by
      obtain ⟨sl, e1⟩ := base.slot b o e n hb hx
      obtain ⟨sl2, e2⟩ := ub.slot b _ e1 hb
      exact ⟨sl2, by rw [gF b hb]; exact e2⟩
    free := fun b o e n hx => by
      by_cases hb : b ∈ frs X.stack
      · obtain ⟨sl, e1⟩ := base.slot b o e n hb hx
        exact ub.free b _ e1 (base.free b o e n hx)
      · exact ub.free b o (base.keep b o e n hb hx) (base.free b o e n hx)
    there := fun b o e hx => by
      obtain ⟨o', e1⟩ := base.there b o e hx
      by_cases hb : b ∈ frs X.stack
      · obtain ⟨sl, e2⟩ := ub.slot b o' e1 hb
        exact ⟨_, by rw [gF b hb]; exact e2⟩
      · obtain ⟨o2, e2⟩ := ub.there b o' e1 hb
        exact ⟨o2, gB b o2 (by rw [gk b (lt3 e)]; exact e2)⟩
    tups := fun b xs e => ub.tups b xs (base.tups b xs e)
    frzs := fun b o v e => ub.frzs b o v (base.frzs b o v e)
    tbls := fun b ps e => by
      obtain ⟨m1, e1⟩ := base.tbls b ps e
      obtain ⟨m2, e2⟩ := ub.tbls b _ e1
      exact ⟨m1 ++ m2, by rw [e2, Array.append_assoc]⟩ }
  have hokG : HOk X.prog X.w H' G := fun b o z => (hok b o z).stay (fun x v hx e => by
      have nx : x ≠ ce.locals := fun q => by
        rcases hx with hx | hx
        · rw [← hx, q, hH'C] at z
          cases z
        · rw [q, hH'C] at hx
          cases hx
      exact gB x v (by rw [gk x nx]; exact e)) (fun _ h => h) fun _ _ h => h
  refine ⟨a, B0, { s3 with heap := G, gens := s'.gens, drawn := s'.drawn, toks := s'.toks }, pins, σ, H', cls, d, rfl, I3.call' (ch := fp) rfl U hokG ag hfp, fun b o e hb => ?_, ?_, .inr (.inr (by rw [hs]; exact held3)), na, os.trans I'.os, ag, hE _ _ _ hw⟩
  · obtain ⟨e1, q | q⟩ := og b o e
    · obtain ⟨o2, e2⟩ := Option.isSome_iff_exists.mp q
      have e3 := st0 b o2 e2
      rw [e1] at e3
      cases e3
      exact e2
    · exact absurd q hb
  · intro b o e nf'
    obtain ⟨sl, e1⟩ := up b o (og b o e).1 nf'
    obtain ⟨sl2, e2⟩ := up3 b _ ((hs₂.2 b (oC' b o e)).trans e1) nf'
    exact ⟨sl2, e2⟩
/-- the context of a comprehension's block from which an exception may come -/
abbrev blkX (X : Cx) (s : Shared) (H : Hp) (scope : Scope) (ce : Env) (fp : List Addr) (xe : Value → Shared → Prop) : Cx := (X.blk s H scope ce fp).tr [] xe
/-- what a callee within may let out -/
abbrev LetsOut (X : Cx) (E : XK) : Prop := ∀ σ, PassesAt (L2.CX X.prog X.w) X σ E
section
variable {X : Cx} {W : WX} {E : XK}
theorem lc_raise {pins : List (Addr × Obj)} {s : Shared} {σ : L2.St} {H : Hp} {Q : VK} {elt tg iter : Expr} {ifs : List Expr} {scope : Scope} {own : List (Str × Nat)} {pos pos2 : Pos} {wi : TI} {g : TG} {tt : TT} {te : TE} {use : Option (Value → Sem Unit)} {Qf : Value → Shared → Prop}
    (tk : Takes X W) (hW : ∀ cls d τ H', E cls d H' → W cls d τ H') (hs : X.stack = X.env :: X.outer) (hf : X.env.frame = some X.env.locals) (hc : X.calm = true) (hN : X.N.Nodup) (I : Inv X pins σ H s) (hi : PI X tg iter wi) (ok : BlkOk X.N X.env.scope scope own)
    (hg : ∀ (s : Shared) (H : Hp) (C : Addr) (cl : List (Str × Addr)) (fp : List Addr) (xe : Value → Shared → Prop), PG (blkX X s H scope (compEnvC scope cl C X.env) fp xe) tg g)
    (ht : ∀ (s : Shared) (H : Hp) (C : Addr) (cl : List (Str × Addr)) (fp : List Addr) (xe : Value → Shared → Prop), PTs (blkX X s H scope (compEnvC scope cl C X.env) fp xe) ifs tt)
    (he : ∀ (s : Shared) (H : Hp) (C : Addr) (cl : List (Str × Addr)) (fp : List Addr) (xe : Value → Shared → Prop), LetsOut (blkX X s H scope (compEnvC scope cl C X.env) fp xe) E → PE (blkX X s H scope (compEnvC scope cl C X.env) fp xe) elt te)
    (hset : ∀ x, foldedSetIterable iter X.env x = pure x) (h : tLc wi g tt te (own.map (·.2)) σ H Q)
    (fin : ∀ (D : Addr) (ce : Env) (s' : Shared) (m : Str → Option Value) (H' : Hp), Inv X pins σ H' s' → Q (.ref D) H' → s'.heap.Ns ce.locals m → FpOk X pins H' ce.locals → compEnds (model X.prog X.w) X.A X.xe use Qf (.ref D) ce (.ok .next) s') :
    wpAny (model X.prog X.w) X.A (comprehension (.ListComp elt [⟨tg, iter, ifs, 0⟩] scope pos) scope X.env pos2 (newList []) false (eval iter X.env) use) Qf X.xe s := by
  have cells : ∀ y ∈ scope.names, y.2 = .free → ∃ c, X.env.cells.lookup y.1 = some c := fun y hy e => (ok.free y hy e).elim (fun k => I.ok.has _ (.inl k)) fun k => I.ok.has _ (.inr k)
  refine comprehension_at (use := use) rfl hset (closure_ok cells) ok.kind (fun y hy e => by rw [ok.uniq y hy, e]) (thn (hi.run pins s σ H _ I h) fun xv s1 hx => thn hx fun itv s2 ⟨it, fp, tn, J, H2, e, I2, T, st2, f2, q⟩ => ?_)
  subst e
  refine wpAny_newObj_type (newEnv_comp ?_) (by show 0 ≤ sizeLine; exact Nat.zero_le _)
  generalize hD : s2.heap.objs.size = D
  have freeD : H2 D = none := I2.hok.fresh (Nat.le_of_eq hD)
  obtain ⟨V2, ⟨m0, v0⟩, turn⟩ := q D freeD
  generalize hl3 : ({ s2 with heap := s2.heap.push { cls := .type "list", data := .seq ([] : List Value).toArray } } : Shared) = s3
  have h3 : s3.heap = s2.heap.push { cls := .type "list", data := .seq ([] : List Value).toArray } := by rw [← hl3]
  have J3 : Inv X pins σ (upd H2 D (.lst [])) s3 := by
    subst hl3
    refine I2.laid (t' := s2.toks) (fun b o e => Heap.get?_push_of_some _ e) (Nat.le_of_eq hD) ⟨Nat.zero_le _, [], 0, .nil, ?_⟩
    exact hD ▸ Heap.get?_push_size _ rfl
  have low : ∀ b ∈ fp, b < s2.heap.objs.size := fun b hb => (T.obj _ _ st2 b hb).elim fun o e => Heap.lt_size e.1
  have F3 : ∀ b ∈ fp, FpOk X pins (upd H2 D (.lst [])) b ∧ b < s3.heap.objs.size := fun b hb =>
    ⟨⟨by rw [upd_ne (by rw [← hD]; exact Nat.ne_of_lt (low b hb))]; exact (f2 b hb).1, (f2 b hb).2⟩, by rw [h3, Heap.size_push]; exact Nat.lt_succ_of_lt (low b hb)⟩
  have st3 : tn 0 s3.heap := T.keep _ _ _ st2 fun b _ o e => by rw [h3]; exact Heap.get?_push_of_some _ e
  have J4 := block_start J3 ok hN F3
  generalize hce : compEnvC scope (cellsFrom (s3.heap.objs.size + 1) scope.names (cloFrom X.env.cells scope.names [])) s3.heap.objs.size X.env = ce at J4
  have gce : ∃ C cl, ce = compEnvC scope cl C X.env := ⟨_, _, hce.symm⟩
  have cL : ce.locals = s3.heap.objs.size := by rw [← hce]; rfl
  have cF : ce.frame = X.env.frame := by rw [← hce]; rfl
  show codeAny _ _ (.compStart (.ListComp elt [⟨tg, iter, ifs, 0⟩] scope pos) 0 (.ref it) (.ref D) (compEnvC scope (cellsFrom (s3.heap.objs.size + 1) scope.names (cloFrom X.env.cells scope.names [])) s3.heap.objs.size X.env)) (compEnds (model X.prog X.w) X.A X.xe use Qf (.ref D) (compEnvC scope (cellsFrom (s3.heap.objs.size + 1) scope.names (cloFrom X.env.cells scope.names [])) s3.heap.objs.size X.env)) { s3 with heap := pushCells (s3.heap.push { cls := .type "dict", data := .dict #[] }) scope.names }
  rw [hce]
  generalize hH3 : upd H2 D (.lst []) = H3 at J3 J4 v0 F3
  generalize hs4 : ({ s3 with heap := pushCells (s3.heap.push { cls := .type "dict", data := .dict #[] }) scope.names } : Shared) = s4 at J4 ⊢
  obtain ⟨xe', hxe⟩ : ∃ xe', xe' = notedBy (model X.prog X.w) X.A ce (fun e s' => compEnds (model X.prog X.w) X.A X.xe use Qf (.ref D) ce (.error e) s') := ⟨_, rfl⟩
  have J5 : Inv (blkX X s3 H3 scope ce fp xe') [] (wipe σ (own.map (·.2))) H3 s4 := J4.toTry xe'
  have st4 : tn 0 s4.heap := T.keep _ _ _ st3 fun b _ o e => by rw [← hs4]; exact pushCells_keeps _ _ _ _ (Heap.get?_push_of_some _ e)
  have none3 : ∀ b ∈ fp, H3 b = none := fun b hb => (F3 b hb).1.1
  have out3 : ∀ b ∈ fp, (b ∈ X.ex ∨ X.s_0.heap.objs.size ≤ b) ∧ b ≠ X.env.locals ∧ (∀ x c, X.env.cells.lookup x = some c → c ≠ b) ∧ ∀ p ∈ X.pn ++ pins, p.1 ≠ b := fun b hb => let z := (F3 b hb).1; ⟨z.2.2.2.1, z.2.1, z.2.2.2.2.1, z.2.2.2.2.2⟩
  have lets : LetsOut (blkX X s3 H3 scope ce fp xe') E := fun τ ps Hc sc u s' Ic cx => by
    show xe' u s'
    rw [hxe]
    have z := blk_raise (E₁ := fun e s' => compEnds (model X.prog X.w) X.A X.xe use Qf (.ref D) ce (.error e) s') tk hs hf J3 cL cF out3 (fun c d H' q => hW c d σ H' q) Ic cx
    show wpAny _ _ (noteFrame u ce) _ _ s'
    exact wpAny_mono z (fun _ s'' y => by cases use <;> exact y) fun _ _ y => y
  obtain ⟨C, cl, rfl⟩ := gce
  have pg := hg s3 H3 C cl fp xe'
  have pt := ht s3 H3 C cl fp xe'
  have pe := he s3 H3 C cl fp xe' lets
  have stat : ∀ {τ : L2.St} {H' : Hp} {s' : Shared}, Inv (blkX X s3 H3 scope (compEnvC scope cl C X.env) fp xe') [] τ H' s' → (∀ b ∈ fp, H' b = none) → ∀ b ∈ fp, FpOk (blkX X s3 H3 scope (compEnvC scope cl C X.env) fp xe') [] H' b := fun {τ H' s'} Ix nx b hb =>
    ⟨nx b hb, (Ix.ok.exf b hb).1, Ix.ok.exfs b hb, .inl hb, fun x c e => (Ix.ok.exf b hb).2 x c e, fun p hp => absurd (show p ∈ ([] : List (Addr × Obj)) from hp) (by simp)⟩
  have loop : codeAny (model X.prog X.w) X.A (.compLoop (.ListComp elt [⟨tg, iter, ifs, 0⟩] scope pos) 0 (.ref it) (.ref D) (compEnvC scope cl C X.env)) (compEnds (model X.prog X.w) X.A X.xe use Qf (.ref D) (compEnvC scope cl C X.env)) s4 := by
    refine compLoop_any (fun n s' => ∃ i H', Inv (blkX X s3 H3 scope (compEnvC scope cl C X.env) fp xe') [] (wipe σ (own.map (·.2))) H' s' ∧ tn i s'.heap ∧ (∀ b ∈ fp, H' b = none) ∧ V2 i n H') ?_ m0 ⟨0, H3, J5, st4, none3, v0⟩
    rintro n s5 ⟨i, H5, I5, st5, n5, v5⟩
    rw [← hxe]
    rcases turn i n H5 v5 with ⟨stop, qq⟩ | ⟨go, Nx, hNx, step⟩
    · refine wpAny_mono (T.done (blkX X s3 H3 scope (compEnvC scope cl C X.env) fp xe') rfl rfl rfl hc i [] s5 _ H5 xe' I5 (stat I5 n5) st5 stop) (fun r s6 ⟨hr, I6⟩ => ?_) fun _ _ z => z
      subst hr
      have I7 : Inv X pins σ H5 s6 := J3.call' (ch := fp) I6.os I6.base I6.hok I6.bare out3
      obtain ⟨m, hn, _⟩ := I6.loc
      have nC : H5 (compEnvC scope cl C X.env).locals = none := I6.free
      exact fin D _ s6 m H5 I7 qq hn (J3.fpOk (Nat.le_of_eq cL.symm) nC)
    · refine wpAny_mono (T.item (blkX X s3 H3 scope (compEnvC scope cl C X.env) fp xe') rfl rfl rfl hc i [] s5 _ H5 xe' I5 (stat I5 n5) st5 go) (fun r s6 ⟨u, hr, h6⟩ => ?_) fun _ _ z => z
      subst hr
      refine wpAny_mono h6 (fun _ s7 ⟨x, H7, I7, r7, y7, st7, n7⟩ => ?_) fun _ _ z => z
      have P7 := I7.pinned (stat I7 n7) (T.obj _ _ st7)
      refine thn (pg.run _ s7 _ H7 x u _ P7 r7 (step x H7 y7)) fun _ s8 ⟨σ8, H8, I8, hw8, q8⟩ => ?_
      refine thn (pt.run _ s8 σ8 H8 _ I8 q8) fun b s9 ⟨H9, I9, q9⟩ => ?_
      have ends : ∀ {s' : Shared} {H' : Hp}, Inv (blkX X s3 H3 scope (compEnvC scope cl C X.env) fp xe') ([] ++ pinsAt fp s7.heap) σ8 H' s' → Nx H' → ∃ m, m < n ∧ ∃ i H', Inv (blkX X s3 H3 scope (compEnvC scope cl C X.env) fp xe') [] (wipe σ (own.map (·.2))) H' s' ∧ tn i s'.heap ∧ (∀ b ∈ fp, H' b = none) ∧ V2 i m H' := fun {s' H'} Ix nx => by
        obtain ⟨m', hm, w'⟩ := hNx H' nx
        have pin' : ∀ b ∈ fp, ∀ o, s7.heap.get? b = some o → s'.heap.get? b = some o ∧ H' b = none := fun b hb o e =>
          let z := Ix.pin (b, o) (List.mem_append_right _ (List.mem_append_right _ (mem_pinsAt hb e)))
          ⟨z.1, z.2.1⟩
        refine ⟨m', hm, i + 1, H', (Ix.unpinned (pins := [])).weak (by rw [← hw8, wipe_length]) (fun j v e => (wipe_some (by rw [hw8]; exact e)).1), T.keep _ _ _ st7 fun b hb o e => (pin' b hb o e).1, fun b hb => ?_, w'⟩
        obtain ⟨o, e, _⟩ := T.obj _ _ st7 b hb
        exact (pin' b hb o e).2
      cases b with
      | false => exact ends I9 q9
      | true =>
        refine thn (pe.run _ s9 σ8 H9 _ I9 q9) fun z s10 ⟨yv, H10, I10, r10, acc, hD10, hz10, nx⟩ => ?_
        exact app_ok (X := blkX X s3 H3 scope (compEnvC scope cl C X.env) fp xe') I10 hD10 hz10 r10 fun s11 I11 => ends I11 nx
  exact codeAny_compStart_list loop (T.self X.A 0 _ _ _ st4 loop)
/-- [elt for target in iter if ..], its element a call that may raise: the exception goes where the def's own goes -/
theorem pe_lcX {elt tg iter : Expr} {ifs : List Expr} {scope : Scope} {own : List (Str × Nat)} {pos : Pos} {wi : TI} {g : TG} {tt : TT} {te : TE} (tk : Takes X W) (hW : ∀ cls d τ H', E cls d H' → W cls d τ H') (hs : X.stack = X.env :: X.outer) (hf : X.env.frame = some X.env.locals)
    (hc : X.calm = true) (hN : X.N.Nodup) (hi : PI X tg iter wi) (ok : BlkOk X.N X.env.scope scope own)
    (hg : ∀ (s : Shared) (H : Hp) (C : Addr) (cl : List (Str × Addr)) (fp : List Addr) (xe : Value → Shared → Prop), PG (blkX X s H scope (compEnvC scope cl C X.env) fp xe) tg g)
    (ht : ∀ (s : Shared) (H : Hp) (C : Addr) (cl : List (Str × Addr)) (fp : List Addr) (xe : Value → Shared → Prop), PTs (blkX X s H scope (compEnvC scope cl C X.env) fp xe) ifs tt)
    (he : ∀ (s : Shared) (H : Hp) (C : Addr) (cl : List (Str × Addr)) (fp : List Addr) (xe : Value → Shared → Prop), LetsOut (blkX X s H scope (compEnvC scope cl C X.env) fp xe) E → PE (blkX X s H scope (compEnvC scope cl C X.env) fp xe) elt te)
    (hset : ∀ x, foldedSetIterable iter X.env x = pure x := by intro _; rfl) : PE X (.ListComp elt [⟨tg, iter, ifs, 0⟩] scope pos) (tLc wi g tt te (own.map (·.2))) := by
  refine ⟨fun pins s σ H Q I h => ?_⟩
  rw [eval_ListComp]
  refine lc_raise tk hW hs hf hc hN I hi ok hg ht he hset h fun D ce s' m H' I' q hn ⟨f0, f1, f2, f3, f4, f5⟩ => ⟨m, hn, fun h2 sb => ?_⟩
  exact ⟨.ref D, H', I'.turned (t' := s'.toks) (fun b o hb e => (sb.2 b hb).trans e) f0 f1 f3 f4 f5, rfl, q⟩
end
/-- a callee that may raise, and does not here -/
theorem passX {P : Program} {w : World} {X : Cx} : Passes (L2.CX P w) X (fun _ _ _ => False) := fun _ _ _ _ _ _ _ h => by
  obtain ⟨_, _, _, _, _, h⟩ := h
  exact h.2.2.2.2.2.2.2.elim
/-! isinstance in an except suite -/
theorem call_isiS {X : Cx} {a : Addr} {pn : List (Addr × Obj)} : CallR (X.suite a pn) (.builtin "isinstance") (rIsi X.K) := call_isi (X := X.suite a pn)
theorem call_isiTS {X : Cx} {a : Addr} {pn : List (Addr × Obj)} : CallR (X.suite a pn) (.builtin "isinstance") (rIsiT X.K) := call_isiT (X := X.suite a pn)
section
variable {X : Cx} {CX : CXT} {k : Nat} {ps : List Str} {sp : Sp} {dvs : List V} {E : L2.St → XK} {x : Str} {p pos : Pos} {e : Expr} {es : List Expr} {t : TA}
theorem pe_calSD (C : Cal X.prog X.w X.K X.mg X.base CX k x ps dvs sp) (hr : Room k X.A) (hx : ∀ σ, PassesAt CX X σ (E σ)) (ha : PA X (e :: es) t) (hg : Gl X x := by rfl) (hdb : (x == ("__debug__" : Str)) = false := by decide)
    (he : starEach (e :: es) X.env = (false, eval e X.env) :: starEach es X.env := by rfl) (hpl : (backTo pos (starEach es X.env)).any (·.1) = false := by rfl) :
    PE X (.Call (.Name x p) (e :: es) [] pos) (tCallSD sp dvs E t) := by
  obtain ⟨f, fd, ds, G, g, kp, b, v⟩ := C.ex
  exact pe_callSD G hr hg g kp b v hx ha hdb he hpl
end
end Q

set_option maxRecDepth 100000
set_option maxHeartbeats 4000000
/-! What runs while generators sleep leaves their states alone. -/
namespace Q
open PySem PySem.Spec PyProof.Rows L2 GenW
open Sem (wp)
/-- a sleeping generator whose way on is hidden -/
def decoy : GenState → GenState
  | .suspended _ l c p fs cl => .suspended (fun _ => .unsupported "") l c p fs cl
  | x => x
def asleep : GenState → Bool
  | .suspended .. => true
  | _ => false
def tidy : GenState → Bool
  | .suspended _ _ _ _ fs _ => (splitAtGen fs).isNone
  | _ => true
theorem decoy_seen (x : GenState) : (decoy x).seen = x.seen := by cases x <;> rfl
theorem decoy_bare (x : GenState) : (decoy x).bare = x.bare := by cases x <;> rfl
theorem decoy_asleep {x : GenState} (h : asleep x = true) : ∃ l c p fs cl, decoy x = .suspended (fun _ => .unsupported "") l c p fs cl := by
  cases x <;> first | exact ⟨_, _, _, _, _, rfl⟩ | cases h
theorem stuck {M : Model} {Γ : PySem.Ctx} {p : Pos} {t : Sem PySem.Fin} {fs : List Frame} {s s' : Shared} {e : End} (h : Runs M Γ p t fs s e s') : t ≠ .unsupported "" := by
  induction h <;> intro z <;> first | cases z; done | (rename_i ih _; exact ih z) | (rename_i ih; exact ih z) | (rename_i _ _ ih; exact ih z) | (rename_i ih1 _ ih2 ih3; exact ih1 z) | (rename_i ih1 ih2; exact ih1 z)
/-- the true states of those that are hidden -/
abbrev Own := Nat → Option GenState
def undo (O : Own) (s : Shared) : Shared := { s with gens := s.gens.mapIdx fun i x => (O i).getD x }
structure Hid (O : Own) (G : Array GenState) : Prop where
  own : ∀ i x, O i = some x → asleep x = true ∧ G[i]? = some (decoy x)
  oth : ∀ i x, O i = none → G[i]? = some x → tidy x = true
theorem undo_get {O : Own} {s : Shared} {i : Nat} : (undo O s).gens[i]? = (s.gens[i]?).map fun x => (O i).getD x := by
  show (s.gens.mapIdx _)[i]? = _
  rw [Array.getElem?_mapIdx]
theorem undo_size {O : Own} {s : Shared} : (undo O s).gens.size = s.gens.size := by
  show (s.gens.mapIdx _).size = _
  rw [Array.size_mapIdx]
theorem undo_push {O : Own} {s : Shared} {x : GenState} (h : O s.gens.size = none) : undo O { s with gens := s.gens.push x } = { undo O s with gens := (undo O s).gens.push x } := by
  show ({ s with gens := (s.gens.push x).mapIdx _ } : Shared) = { s with gens := (s.gens.mapIdx _).push x }
  rw [Array.mapIdx_push, h]
  rfl
theorem set_get {G : Array GenState} {g i : Nat} {x : GenState} : (G.setIfInBounds g x)[i]? = if i = g then (if g < G.size then some x else none) else G[i]? := by
  by_cases h : i = g
  · subst h
    rw [if_pos rfl]
    by_cases h2 : i < G.size
    · rw [if_pos h2, Array.getElem?_setIfInBounds_self_of_lt h2]
    · rw [if_neg h2, Array.getElem?_eq_none]
      simp
      omega
  · rw [if_neg h, Array.getElem?_setIfInBounds_ne (Ne.symm h)]
theorem undo_set {O : Own} {s : Shared} {g : Nat} {x : GenState} (h : O g = none) : undo O (s.setGen g x) = (undo O s).setGen g x := by
  show ({ s with gens := (s.gens.setIfInBounds g x).mapIdx _ } : Shared) = { s with gens := (s.gens.mapIdx _).setIfInBounds g x }
  congr 1
  apply Array.ext_getElem?
  intro i
  rw [Array.getElem?_mapIdx, set_get, set_get, Array.getElem?_mapIdx, Array.size_mapIdx]
  by_cases a : i = g
  · subst a
    rw [if_pos rfl, if_pos rfl]
    split
    · rw [h]; rfl
    · rfl
  · rw [if_neg a, if_neg a]
theorem Hid.lt {O : Own} {G : Array GenState} (h : Hid O G) : O G.size = none := by
  cases q : O G.size with
  | none => rfl
  | some x =>
    have := (h.own _ _ q).2
    rw [Array.getElem?_eq_none (Nat.le_refl _)] at this
    cases this
theorem Hid.push {O : Own} {G : Array GenState} {x : GenState} (h : Hid O G) (hx : tidy x = true) : Hid O (G.push x) := by
  refine ⟨fun i y q => ?_, fun i y q e => ?_⟩
  · obtain ⟨a, b⟩ := h.own i y q
    refine ⟨a, ?_⟩
    have := (Array.getElem?_eq_some_iff.mp b).1
    rw [Array.getElem?_push, if_neg (Nat.ne_of_lt this)]
    exact b
  · rw [Array.getElem?_push] at e
    split at e
    · cases e; exact hx
    · exact h.oth i y q e
theorem Hid.set {O : Own} {G : Array GenState} {g : Nat} {x : GenState} (h : Hid O G) (hg : O g = none) (hx : tidy x = true) : Hid O (G.setIfInBounds g x) := by
  refine ⟨fun i y q => ?_, fun i y q e => ?_⟩
  · obtain ⟨a, b⟩ := h.own i y q
    refine ⟨a, ?_⟩
    rw [set_get, if_neg (fun z => by subst z; rw [hg] at q; cases q)]
    exact b
  · rw [set_get] at e
    split at e
    · split at e
      · cases e; exact hx
      · cases e
    · exact h.oth i y q e
theorem Hid.free {O : Own} {G : Array GenState} {g : Nat} {x : GenState} (h : Hid O G) (hg : G[g]? = some x) (hx : asleep x = false) : O g = none := by
  cases q : O g with
  | none => rfl
  | some y =>
    obtain ⟨a, b⟩ := h.own _ _ q
    rw [hg] at b
    cases b
    obtain ⟨l, c, p, fs, cl, e⟩ := decoy_asleep a
    rw [e] at hx
    cases hx
theorem Hid.state {O : Own} {s : Shared} {g : Nat} {x : GenState} (h : Hid O s.gens) (hg : s.gens[g]? = some x) : ∃ y, (undo O s).gens[g]? = some y ∧ y.seen = x.seen := by
  rw [undo_get, hg]
  cases q : O g with
  | none => exact ⟨_, rfl, rfl⟩
  | some y =>
    obtain ⟨_, b⟩ := h.own _ _ q
    rw [hg] at b
    cases b
    exact ⟨y, rfl, (decoy_seen y).symm⟩
theorem undo_at {O : Own} {s : Shared} {g : Nat} {x : GenState} (hg : s.gens[g]? = some x) (h : O g = none) : (undo O s).gens[g]? = some x := by
  rw [undo_get, hg, h]; rfl
def endTidy : End → Prop
  | .ret _ => True
  | .susp _ _ _ _ _ _ fs => splitAtGen fs = none
theorem endTidy.state {e : End} (h : endTidy e) : tidy e.genState = true := by
  cases e with
  | ret _ => rfl
  | susp v g l k c p fs =>
    show (splitAtGen fs).isNone = true
    rw [show splitAtGen fs = none from h]; rfl
theorem split_tail {k : Result → Sem PySem.Fin} {h : Option Value} {g : Bool} {l kp : List Value} {c : Code} {p : Pos} {fs : List Frame} (e : splitAtGen (.ret k h g l c p kp :: fs) = none) : splitAtGen fs = none := by
  have e : (splitAtGen fs).map _ = none := e
  cases q : splitAtGen fs with
  | none => rfl
  | some x => rw [q] at e; cases e

theorem runs_undo {O : Own} {M : Model} {Γ : PySem.Ctx} {p : Pos} {t : Sem PySem.Fin} {fs : List Frame} {s s' : Shared} {e : End} (h : Runs M Γ p t fs s e s') :
    splitAtGen fs = none → Hid O s.gens → Hid O s'.gens ∧ endTidy e ∧ Runs M Γ p t fs (undo O s) e (undo O s') := by
  induction h with
  | done => exact fun _ hI => ⟨hI, trivial, .done⟩
  | raise => exact fun _ hI => ⟨hI, trivial, .raise⟩
  | again q _ ih => exact fun hf hI => let ⟨a, b, c⟩ := ih hf hI; ⟨a, b, .again q c⟩
  | rule _ ih => exact fun hf hI => let ⟨a, b, c⟩ := ih hf hI; ⟨a, b, .rule c⟩
  | «at» _ ih => exact fun hf hI => let ⟨a, b, c⟩ := ih hf hI; ⟨a, b, .at c⟩
  | load q _ ih => exact fun hf hI => let ⟨a, b, c⟩ := ih hf hI; ⟨a, b, .load q c⟩
  | update q _ ih => exact fun hf hI => let ⟨a, b, c⟩ := ih hf hI; ⟨a, b, .update q c⟩
  | loadIfAlive _ ih => exact fun hf hI => let ⟨a, b, c⟩ := ih hf hI; ⟨a, b, .loadIfAlive c⟩
  | point _ ih => exact fun hf hI => let ⟨a, b, c⟩ := ih hf hI; ⟨a, b, .point c⟩
  | alloc _ ih => exact fun hf hI => let ⟨a, b, c⟩ := ih hf hI; ⟨a, b, .alloc c⟩
  | fresh _ ih => exact fun hf hI => let ⟨a, b, c⟩ := ih hf hI; ⟨a, b, .fresh c⟩
  | ask _ ih => exact fun hf hI => let ⟨a, b, c⟩ := ih hf hI; ⟨a, b, .ask c⟩
  | choose q _ ih => exact fun hf hI => let ⟨a, b, c⟩ := ih hf hI; ⟨a, b, .choose q c⟩
  | os _ ih => exact fun hf hI => let ⟨a, b, c⟩ := ih hf hI; ⟨a, b, .os c⟩
  | handled _ ih => exact fun hf hI => let ⟨a, b, c⟩ := ih hf hI; ⟨a, b, .handled c⟩
  | stack _ ih => exact fun hf hI => let ⟨a, b, c⟩ := ih hf hI; ⟨a, b, .stack c⟩
  | thread _ ih => exact fun hf hI => let ⟨a, b, c⟩ := ih hf hI; ⟨a, b, .thread c⟩
  | genState q _ ih =>
    intro hf hI
    obtain ⟨a, b, c⟩ := ih hf hI
    obtain ⟨y, h1, h2⟩ := hI.state q
    exact ⟨a, b, .genState h1 (by rw [h2]; exact c)⟩
  | @newGen Γ p k s c e s' _ ih =>
    intro hf hI
    obtain ⟨a, b, c'⟩ := ih hf (hI.push rfl)
    refine ⟨a, b, .newGen ?_⟩
    rw [undo_push hI.lt] at c'
    rw [undo_size] at *
    exact c'
  | call _ _ ih1 ih2 =>
    intro hf hI
    obtain ⟨a, _, c⟩ := ih1 rfl hI
    obtain ⟨a2, b2, c2⟩ := ih2 hf a
    exact ⟨a2, b2, .call c c2⟩
  | callSusp _ ih =>
    intro hf hI
    obtain ⟨a, b, c⟩ := ih rfl hI
    refine ⟨a, ?_, .callSusp c⟩
    show splitAtGen _ = none
    rw [splitAtGen_append_none _ b]; rfl
  | yield => exact fun _ hI => ⟨hI, rfl, .yield⟩
  | @resumeFresh Γ p g l k s c e₁ s₁ e s' q _ hq _ ih1 ih2 =>
    intro hf hI
    have hg : O g = none := hI.free q rfl
    obtain ⟨a, b, c1⟩ := ih1 rfl (hI.set hg rfl)
    obtain ⟨a2, b2, c2⟩ := ih2 hf (a.set hg b.state)
    rw [undo_set hg] at c1 c2
    exact ⟨a2, b2, .resumeFresh (undo_at q hg) c1 hq c2⟩
  | @resumeSuspended Γ p g r l k s k₀ l₀ c₀ p₀ fs cl e₁ s₁ e s' q h1 hq _ ih1 ih2 =>
    intro hf hI
    cases z : O g with
    | some x =>
      obtain ⟨z1, z2⟩ := hI.own _ _ z
      obtain ⟨l', c', p', fs', cl', e'⟩ := decoy_asleep z1
      rw [q, e'] at z2
      cases z2
      exact absurd rfl (stuck h1)
    | none =>
      have ht := hI.oth _ _ z q
      have hfs : splitAtGen fs = none := by
        cases y : splitAtGen fs with
        | none => rfl
        | some x => rw [show tidy _ = (splitAtGen fs).isNone from rfl, y] at ht; cases ht
      obtain ⟨a, b, c1⟩ := ih1 hfs (hI.set z rfl)
      obtain ⟨a2, b2, c2⟩ := ih2 hf (a.set z b.state)
      rw [undo_set z] at c1 c2
      exact ⟨a2, b2, .resumeSuspended (undo_at q z) c1 hq c2⟩
  | resumeJustStarted q n _ ih => exact fun hf hI => let ⟨a, b, c⟩ := ih hf hI; ⟨a, b, .resumeJustStarted (undo_at q (hI.free q rfl)) n c⟩
  | resumeThrowFresh q _ ih =>
    intro hf hI
    have hg := hI.free q rfl
    obtain ⟨a, b, c1⟩ := ih hf (hI.set hg rfl)
    rw [undo_set hg] at c1
    exact ⟨a, b, .resumeThrowFresh (undo_at q hg) c1⟩
  | resumeRunning q _ ih => exact fun hf hI => let ⟨a, b, c⟩ := ih hf hI; ⟨a, b, .resumeRunning (undo_at q (hI.free q rfl)) c⟩
  | resumeFinished q _ ih => exact fun hf hI => let ⟨a, b, c⟩ := ih hf hI; ⟨a, b, .resumeFinished (undo_at q (hI.free q rfl)) c⟩
  | segRet _ _ ih1 ih2 =>
    intro hf hI
    obtain ⟨a, _, c⟩ := ih1 rfl hI
    obtain ⟨a2, b2, c2⟩ := ih2 (split_tail hf) a
    exact ⟨a2, b2, .segRet c c2⟩
  | segGen _ _ _ _ => exact fun hf _ => nomatch hf
  | segSuspOut q _ ih =>
    intro hf hI
    obtain ⟨a, b, c⟩ := ih rfl hI
    refine ⟨a, ?_, .segSuspOut q c⟩
    show splitAtGen _ = none
    rw [splitAtGen_append_none _ b, q]; rfl
  | segSuspGen q _ _ _ _ _ => exact fun hf _ => by rw [hf] at q; cases q
theorem wakes_undo {O : Own} {M : Model} {Γ : PySem.Ctx} {p : Pos} {g : Nat} {r : Resume} {s s' : Shared} {res : GenResult} (hI : Hid O s.gens) (h : Wakes M Γ p g r s res s') : Hid O s'.gens ∧ Wakes M Γ p g r (undo O s) res (undo O s') := by
  unfold Wakes at h
  split at h
  · exact h.elim
  · rename_i c q
    have hg : O g = none := hI.free q rfl
    split at h
    · obtain ⟨e₁, s₁, hr, hq, rfl, rfl⟩ := h
      obtain ⟨a, b, c1⟩ := runs_undo hr rfl (hI.set hg rfl)
      rw [undo_set hg] at c1
      refine ⟨a.set hg b.state, ?_⟩
      unfold Wakes
      rw [undo_at q hg, undo_set hg]
      exact ⟨e₁, _, c1, hq, rfl, rfl⟩
    · obtain ⟨rfl, rfl⟩ := h
      refine ⟨hI, ?_⟩
      unfold Wakes
      rw [undo_at q hg]
      rename_i v hv
      cases v <;> first | exact (hv rfl).elim | exact ⟨rfl, rfl⟩
    · obtain ⟨rfl, rfl⟩ := h
      refine ⟨hI.set hg rfl, ?_⟩
      unfold Wakes
      rw [undo_at q hg, undo_set hg]
      exact ⟨rfl, rfl⟩
  · rename_i k₀ l₀ c₀ p₀ fs cl q
    obtain ⟨e₁, s₁, hr, hq, rfl, rfl⟩ := h
    cases z : O g with
    | some x =>
      obtain ⟨z1, z2⟩ := hI.own _ _ z
      obtain ⟨l', c', p', fs', cl', e'⟩ := decoy_asleep z1
      rw [q, e'] at z2
      cases z2
      exact absurd rfl (stuck hr)
    | none =>
      have ht := hI.oth _ _ z q
      have hfs : splitAtGen fs = none := by
        cases y : splitAtGen fs with
        | none => rfl
        | some x => rw [show tidy _ = (splitAtGen fs).isNone from rfl, y] at ht; cases ht
      obtain ⟨a, b, c1⟩ := runs_undo hr hfs (hI.set z rfl)
      rw [undo_set z] at c1
      refine ⟨a.set z b.state, ?_⟩
      unfold Wakes
      rw [undo_at q z, undo_set z]
      exact ⟨e₁, _, c1, hq, rfl, rfl⟩
  · rename_i q
    obtain ⟨rfl, rfl⟩ := h
    refine ⟨hI, ?_⟩
    unfold Wakes
    rw [undo_at q (hI.free q rfl)]
    exact ⟨rfl, rfl⟩
  · rename_i q
    obtain ⟨rfl, rfl⟩ := h
    refine ⟨hI, ?_⟩
    unfold Wakes
    rw [undo_at q (hI.free q rfl)]
    exact ⟨rfl, rfl⟩
theorem wp_undo {α : Type} {O : Own} (M : Model) (Γ : PySem.Ctx) (t : Sem α) : ∀ (Q : α → Pos → Shared → Prop) (E : Value → Pos → Shared → Prop) (p : Pos) (s : Shared), Hid O s.gens → wp M Γ t Q E p s →
    wp M Γ t (fun a p' s' => ∃ s1, s' = undo O s1 ∧ Hid O s1.gens ∧ Q a p' s1) (fun e p' s' => ∃ s1, s' = undo O s1 ∧ Hid O s1.gens ∧ E e p' s1) p (undo O s) := by
  induction t with
  | pure a => intro Q E p s hn h; exact ⟨s, rfl, hn, h⟩
  | raise e => intro Q E p s hn h; exact ⟨s, rfl, hn, h⟩
  | unsupported _ => intro Q E p s _ h; exact h
  | finish _ => intro Q E p s _ h; exact h
  | rule _ k ih => intro Q E p s hn h; exact ih () Q E p s hn h
  | «at» p' k ih => intro Q E p s hn h; exact ih () Q E p' s hn h
  | load a _ k ih => intro Q E p s hn h; obtain ⟨o, ho, h⟩ := h; exact ⟨o, ho, ih o Q E p s hn h⟩
  | update a _ f k ih => intro Q E p s hn h; exact ⟨h.1, ih () Q E p { s with heap := s.heap.update a f } hn h.2⟩
  | loadIfAlive a k ih => intro Q E p s hn h; exact ih _ Q E p s hn h
  | point _ k ih => intro Q E p s hn h; exact ih () Q E p s hn h
  | register _ _ => intro Q E p s _ h; exact h
  | alloc o k ih => intro Q E p s hn h; exact ih _ Q E p { s with heap := s.heap.push o } hn h
  | fresh k ih => intro Q E p s hn h; exact ih _ Q E p { s with toks := s.toks + 1 } hn h
  | ask k ih => intro Q E p s hn h; exact ih _ Q E p s hn h
  | choose src m k ih => intro Q E p s hn h; exact ⟨h.1, ih _ Q E p { s with drawn := s.drawn.bump src } hn h.2⟩
  | os q _ k ih => intro Q E p s hn h; exact ih _ Q E p { s with os := (Os.step s.os q).1 } hn h
  | call c hd _ _ k ih =>
    intro Q E p s hn h
    obtain ⟨r, s', hr, h⟩ := h
    obtain ⟨a, _, c⟩ := runs_undo hr rfl hn
    exact ⟨r, undo O s', c, ih r Q E p s' a h⟩
  | handled own k ih => intro Q E p s hn h; exact ih _ Q E p s hn h
  | genState g k ih =>
    intro Q E p s hn h
    obtain ⟨st, hs, h⟩ := h
    obtain ⟨y, h1, h2⟩ := hn.state hs
    refine ⟨y, h1, ?_⟩
    rw [h2]
    exact ih _ Q E p s hn h
  | newGen c k ih =>
    intro Q E p s hn h
    have := ih _ Q E p _ (show Hid O ({ s with gens := s.gens.push (.fresh c) } : Shared).gens from hn.push rfl) h
    rw [undo_push hn.lt] at this
    show wp M Γ (k (undo O s).gens.size) _ _ p { undo O s with gens := (undo O s).gens.push (.fresh c) }
    rw [undo_size]
    exact this
  | resume g r _ k ih =>
    intro Q E p s hn h
    obtain ⟨res, s', hw, h⟩ := h
    obtain ⟨a, b⟩ := wakes_undo hn hw
    exact ⟨res, undo O s', b, ih res Q E p s' a h⟩
  | yield _ _ _ _ => intro Q E p s _ h; exact h
  | stack k ih => intro Q E p s hn h; exact ih _ Q E p s hn h
  | fork _ _ => intro Q E p s _ h; exact h
  | thread k ih => intro Q E p s hn h; exact ih _ Q E p s hn h
  | await _ _ _ _ _ => intro Q E p s _ h; exact h
theorem wpAny_undo {α : Type} {O : Own} {M : Model} {A : Around} {s : Shared} {t : Sem α} {Q Q' : α → Shared → Prop} {E E' : Value → Shared → Prop} (hn : Hid O s.gens) (h : wpAny M A t Q E s)
    (hQ : ∀ a s1, Hid O s1.gens → Q a s1 → Q' a (undo O s1)) (hE : ∀ e s1, Hid O s1.gens → E e s1 → E' e (undo O s1)) : wpAny M A t Q' E' (undo O s) :=
  wpAny_mono (fun Γ p hΓ => wp_undo M Γ t _ _ p s hn (h Γ p hΓ) : wpAny M A t (fun a s' => ∃ s1, s' = undo O s1 ∧ Hid O s1.gens ∧ Q a s1) (fun e s' => ∃ s1, s' = undo O s1 ∧ Hid O s1.gens ∧ E e s1) (undo O s))
    (fun a _ ⟨s1, z, n, q⟩ => z ▸ hQ a s1 n q) fun e _ ⟨s1, z, n, q⟩ => z ▸ hE e s1 n q
/-- all that sleep, hidden -/
def ownOf (s : Shared) : Own := fun i => match s.gens[i]? with | some x => if asleep x then some x else none | none => none
def hush (s : Shared) : Shared := { s with gens := s.gens.map decoy }
theorem decoy_awake {x : GenState} (h : asleep x = false) : decoy x = x := by cases x <;> first | rfl | cases h
theorem undo_hush (s : Shared) : undo (ownOf s) (hush s) = s := by
  show ({ s with gens := (s.gens.map decoy).mapIdx _ } : Shared) = s
  have : (s.gens.map decoy).mapIdx (fun i x => (ownOf s i).getD x) = s.gens := by
    apply Array.ext_getElem?
    intro i
    rw [Array.getElem?_mapIdx, Array.getElem?_map]
    unfold ownOf
    cases q : s.gens[i]? with
    | none => rfl
    | some x =>
      cases a : asleep x with
      | true => simp [a]
      | false => simp [a, decoy_awake a]
  rw [this]
theorem hush_hid (s : Shared) : Hid (ownOf s) (hush s).gens := by
  refine ⟨fun i x e => ?_, fun i x e q => ?_⟩
  · unfold ownOf at e
    show _ ∧ (s.gens.map decoy)[i]? = _
    rw [Array.getElem?_map]
    cases q : s.gens[i]? with
    | none => rw [q] at e; cases e
    | some y =>
      rw [q] at e
      cases a : asleep y with
      | true => simp only [a, if_true] at e; cases e; exact ⟨a, rfl⟩
      | false => simp [a] at e
  · have q : (s.gens.map decoy)[i]? = some x := q
    rw [Array.getElem?_map] at q
    unfold ownOf at e
    cases z : s.gens[i]? with
    | none => rw [z] at q; cases q
    | some y =>
      rw [z] at q e
      cases a : asleep y with
      | true => simp [a] at e
      | false =>
        have q : decoy y = x := Option.some.inj q
        rw [decoy_awake a] at q
        subst q
        cases y <;> first | rfl | cases a
theorem hush_bare {s : Shared} (h : AllBare s.gens) : AllBare (hush s).gens := fun x hx => by
  obtain ⟨y, hy, rfl⟩ := Array.mem_map.mp (show x ∈ s.gens.map decoy from hx)
  rw [decoy_bare]
  exact h y hy
theorem undo_bare {O : Own} {s : Shared} (hn : Hid O s.gens) (h : AllBare s.gens) : AllBare (undo O s).gens := fun x hx => by
  obtain ⟨i, hi, e⟩ := Array.mem_iff_getElem.mp hx
  have e2 : (undo O s).gens[i]? = some x := by rw [Array.getElem?_eq_getElem hi, e]
  rw [undo_get] at e2
  cases q : s.gens[i]? with
  | none => rw [q] at e2; cases e2
  | some y =>
    rw [q] at e2
    have hy : y.bare = true := h y (Array.mem_of_getElem? q)
    cases o : O i with
    | none => rw [o] at e2; cases e2; exact hy
    | some z =>
      rw [o] at e2
      cases e2
      have := (hn.own _ _ o).2
      rw [q] at this
      cases this
      rw [← decoy_bare]
      exact hy
theorem undo_keeps {O : Own} {s : Shared} {g : Nat} {x : GenState} (hn : Hid O s.gens) (h : O g = some x) : (undo O s).gens[g]? = some x := by
  rw [undo_get, (hn.own _ _ h).2, h]; rfl
theorem ownOf_at {s : Shared} {g : Nat} {x : GenState} (h : s.gens[g]? = some x) (a : asleep x = true) : ownOf s g = some x := by
  unfold ownOf
  rw [h]
  simp [a]
end Q

set_option maxRecDepth 100000
set_option maxHeartbeats 4000000
/-! One turn of a generator: from its waking to its next yield, or to its end. -/
namespace Q
open PySem PySem.Spec PyProof.Rows L2 GenW
open PySem.W.X (SegX)
section
variable {prog : Program} {w : World} {A : Around} {c : Code} {fs : List Frame} {P : End → Shared → Prop} {s : Shared} {env : Env}
  {K : Flow → Sem PySem.Fin} {J : Value → Sem PySem.Fin} {gd : Bool → Bool} {lv : List Value → List Value}
theorem sx_wrap {α : Type} {m : Sem α} {K : α → Sem PySem.Fin} (h : wpAny (model prog w) (A.over c fs) m (fun a s' => SegX (model prog w) A c (K a) fs s' P) (fun x s' => SegX (model prog w) A c (J x) fs s' P) s) :
    SegX (model prog w) A c (m.wrap K J gd lv) fs s P := by
  rintro Γ p rfl hΓ
  obtain ⟨e, s', hr, hq⟩ := runs_wrap_of_wp (Φ := fun e s' => e.quiet = true ∧ P e s') K J gd lv m (h (Γ.over fs) p (hΓ.over fs)) (fun a p' s' h' => h' Γ p' rfl hΓ) (fun x p' s' h' => h' Γ p' rfl hΓ)
  exact ⟨e, s', hr, hq⟩
theorem sx_at {p' : Pos} {k : Unit → Sem PySem.Fin} (h : SegX (model prog w) A c (k ()) fs s P) : SegX (model prog w) A c (.at p' k) fs s P :=
  sx_wrap (m := standAt p') (K := k) (J := .raise) (gd := id) (lv := id) (wpAny_standAt h)
theorem sx_point {l : List Value} {k : Unit → Sem PySem.Fin} (h : SegX (model prog w) A c (k ()) fs s P) : SegX (model prog w) A c (.point l k) fs s P :=
  sx_wrap (m := point) (K := k) (J := .raise) (gd := id) (lv := fun _ => l) (wpAny_point h)
theorem sx_call {c' : Code} {h : Option Value} {g : Bool} {l : List Value} {k : Result → Sem PySem.Fin} (hc : ∀ p, SegX (model prog w) A c' ((model prog w).den c') (.ret k h g l c p [] :: fs) s P) : SegX (model prog w) A c (.call c' h g l k) fs s P := by
  rintro Γ p rfl hΓ
  obtain ⟨e, s', hr, he⟩ := hc p (Γ.goto c') p rfl (hΓ.goto c')
  exact ⟨e, s', runs_call_seg hr, he⟩
theorem sx_leaf {k : Result → Sem PySem.Fin} {h : Option Value} {g : Bool} {l kp : List Value} {c₁ : Code} {p₁ : Pos} (r : Result) (hk : SegX (model prog w) A c₁ (k r) fs s P) : SegX (model prog w) A c (leafOf r) (.ret k h g l c₁ p₁ kp :: fs) s P := by
  rintro Γ p rfl hΓ
  obtain ⟨e, s', hr, he⟩ := hk (Γ.goto c₁) p₁ rfl (hΓ.goto c₁)
  exact ⟨e, s', Runs.pop r hr, he⟩
theorem sx_again {c' : Code} (hq : c'.quiet = true) (hc : SegX (model prog w) A c' ((model prog w).den c') fs s P) : SegX (model prog w) A c (.pure (.again c')) fs s P := by
  rintro Γ p rfl hΓ
  obtain ⟨e, s', hr, he⟩ := hc (Γ.goto c') p rfl (hΓ.goto c')
  exact ⟨e, s', Runs.head (c₁ := c') (fun _ _ x => .again hq x) hr, he⟩
theorem sx_end (r : Result) (h : P (.ret r) s) : SegX (model prog w) A c (leafOf r) [] s P := by
  rintro Γ p rfl _
  exact ⟨.ret r, s, Runs.leaf r, rfl, h⟩
theorem sx_execs_cons {st : Stmt} {rest : List Stmt} (h : SegX (model prog w) A c ((exec st env).wrap (fun f => match f with | .next => (execs rest env).wrap K J gd lv | f => K f) J gd lv) fs s P) :
    SegX (model prog w) A c ((execs (st :: rest) env).wrap K J gd lv) fs s P := by rw [execs_cons_wrap]; exact h
theorem sx_execs_nil (h : SegX (model prog w) A c (K .next) fs s P) : SegX (model prog w) A c ((execs [] env).wrap K J gd lv) fs s P := h
theorem sx_yield {e : Expr} {ypos pos : Pos} (hfs : splitAtGen fs = none) (hgd : gd false = false) (hfg : fs.any Frame.guarded = false)
    (h : wpAny (model prog w) (A.over c fs) (eval e env) (fun v s' => ∀ p l k, k (.send .none) = K .next → P (.susp v false l k c p fs) s') (fun _ _ => False) s)
    (hco : env.scope.isCoroutine = false := by rfl) (hi : interactive env = false := by rfl) :
    SegX (model prog w) A c ((exec (.Expr (.Yield (some e) ypos) pos) env).wrap K J gd lv) fs s P := by
  rw [exec_Expr env _ pos hi rfl]
  show SegX (model prog w) A c (.at pos fun _ => ((eval e env >>= fun v => (standAt ypos >>= fun _ => yieldOut env v)) >>= fun x =>
    dropValue (.Yield (some e) ypos) pos x).wrap K J gd lv) fs s P
  have hy : ∀ v, yieldOut env v = yieldValue v := fun v => by simp only [yieldOut, hco, Bool.false_eq_true, if_false]
  simp only [hy]
  refine sx_at ?_
  rw [Sem.bind_eq_wrap', Sem.bind_eq_wrap', Sem.wrap_wrap, Sem.wrap_wrap]
  refine sx_wrap (wpAny_mono h (fun v s' h' => ?_) fun _ _ x => x.elim)
  refine sx_at ?_
  rintro Γ p rfl _
  refine ⟨_, s', Runs.yield' fs hfs, ?_, ?_⟩
  · show (!((gd false) || fs.any Frame.guarded)) = true
    rw [hgd, hfg]; rfl
  · have z : (fun g => gd (id g)) false = false := hgd
    rw [z]
    exact h' p _ _ rfl
theorem sx_While {test : Expr} {body : List Stmt} {pos : Pos}
    (h : ∀ (p : Pos) (J' : Value → Sem PySem.Fin), SegX (model prog w) A (.whileLoop test body [] env) ((model prog w).den (.whileLoop test body [] env)) (.ret (fun r => match r with | .ok f => K f | .error e => J' e) none (gd false) (lv []) c p [] :: fs) s P) :
    SegX (model prog w) A c ((exec (.While test body [] pos) env).wrap K J gd lv) fs s P := by
  refine sx_at (sx_call fun p => ?_)
  have := h p fun e => ((Sem.raise e : Sem Flow).onRaise fun (x : Value) => do
        if (← field x 1) == Value.none then unsupported "frame.own-activation:exception-without-traceback"
        setFlight x env.frame).wrap K J gd lv
  refine cast ?_ this
  congr 2
  congr 1
  funext r
  cases r <;> rfl
theorem sx_whileLoop {test : Expr} {body : List Stmt}
    (h : ∀ J, wpAny (model prog w) (A.over (.whileLoop test body [] env) fs) (isTrue test env (eval test env)) (fun b s' =>
        if b = true then
          SegX (model prog w) A (.whileLoop test body [] env) ((execs body env).wrap (fun f => match f with
            | .next | .cont => .pure (.again (.whileLoop test body [] env))
            | .brk => .pure (.done .next)
            | .ret v => .pure (.done (.ret v))) J id id) fs s' P
        else SegX (model prog w) A (.whileLoop test body [] env) (.pure (.done .next)) fs s' P) (fun _ _ => False) s) :
    SegX (model prog w) A (.whileLoop test body [] env) ((model prog w).den (.whileLoop test body [] env)) fs s P := by
  show SegX _ A _ ((whileTurn test body [] env).onRaise (fun x => do noteFrame x env; theTreesLotGoes x)) fs s P
  unfold whileTurn
  rw [Sem.onRaise_eq_wrap, Sem.bind_eq_wrap', Sem.wrap_wrap]
  refine sx_wrap (wpAny_mono (h fun e => (do noteFrame e env; theTreesLotGoes e : Sem Unit).bind fun _ => .raise e) (fun b s' hb => ?_) fun x s' hx => hx.elim)
  cases b with
  | true =>
    rw [if_pos rfl] at hb
    show SegX _ A _ (Sem.wrap _ _ _ _ (if true = true then _ else _)) fs s' P
    rw [if_pos rfl, Sem.bind_eq_wrap', Sem.wrap_wrap]
    refine cast ?_ hb
    congr 1
    exact Sem.wrap_congr (execs body env) _ _ (fun f => by cases f <;> rfl) (fun e => rfl)
  | false =>
    rw [if_neg Bool.false_ne_true] at hb
    exact hb
theorem sx_func {body : List Stmt}
    (h : ∀ J, SegX (model prog w) A (.func body env) ((execs body env).wrap (fun f => .pure (.done (.ret (match f with | .ret v => v | _ => .none)))) J id id) fs s P) :
    SegX (model prog w) A (.func body env) ((model prog w).den (.func body env)) fs s P := by
  show SegX _ A _ (.point [] fun _ => ((execs body env).onRaise (leaving env)) >>= _) fs s P
  refine sx_point ?_
  rw [Sem.onRaise_eq_wrap, Sem.bind_eq_wrap', Sem.wrap_wrap]
  refine cast ?_ (h fun e => (leaving env e).wrap (fun _ => .raise e) .raise id id)
  congr 1
  exact Sem.wrap_congr (execs body env) _ _ (fun f => by cases f <;> rfl) (fun e => by rw [Sem.bind_eq_wrap, Sem.wrap_wrap]; rfl)
end
end Q

set_option maxRecDepth 100000
set_option maxHeartbeats 4000000
/-! The context of a generator's turn: its own things by themselves, its consumer's locked. -/
namespace Q
open PySem PySem.Spec PyProof.Rows L2 GenW
open PySem.W.X (SegX)
/-- the first n objects -/
def cutH (h : Heap) (n : Nat) : Heap := { h with objs := h.objs.extract 0 n }
theorem cut_size {h : Heap} {n : Nat} (l : n ≤ h.objs.size) : (cutH h n).objs.size = n := by
  show (h.objs.extract 0 n).size = n
  simp
  omega
theorem cut_eq (h : Heap) (n b : Nat) : (cutH h n).get? b = if b < n then h.get? b else none := by
  unfold Heap.get? cutH
  show (match (h.objs.extract 0 n)[b]? with | some ⟨_, _, .freed, _⟩ => none | o => o) = _
  rw [Array.getElem?_extract]
  by_cases l : b < n
  · rw [if_pos l]
    by_cases l2 : b < h.objs.size
    · rw [if_pos (by omega), Nat.zero_add]
      rfl
    · rw [if_neg (by omega), Array.getElem?_eq_none (Nat.le_of_not_lt l2)]
  · rw [if_neg l, if_neg (by omega)]
theorem of_cut {h : Heap} {n b : Nat} {o : Obj} (e : (cutH h n).get? b = some o) : b < n ∧ h.get? b = some o := by
  rw [cut_eq] at e
  split at e
  · exact ⟨by assumption, e⟩
  · cases e
theorem cut_of {h : Heap} {n b : Nat} {o : Obj} (l : b < n) (e : h.get? b = some o) : (cutH h n).get? b = some o := by
  rw [cut_eq, if_pos l]; exact e
/-- the generator's abstract heap: its own lists (pv) and records (fr), its consumer's tracked things, all else that is younger locked -/
def gH (Hc : Hp) (n : Nat) (h : Heap) (fr : List Addr) (pv : Addr → Option (List V)) : Hp := fun b =>
  if b ∈ fr then none else match pv b with
    | some xs => some (.lst xs)
    | none => match Hc b with
      | some u => some u
      | none => if n ≤ b then (h.get? b).map fun o => .frz o (.ext fun _ => True) else none
section
variable {Hc : Hp} {n : Nat} {h : Heap} {fr : List Addr} {pv : Addr → Option (List V)} {b : Addr}
theorem gH_old (hf : b ∉ fr) (hp : pv b = none) {u : HO} (e : Hc b = some u) : gH Hc n h fr pv b = some u := by
  unfold gH
  rw [if_neg hf, hp]
  show (match Hc b with | some u => some u | none => _) = _
  rw [e]
theorem gH_fr (hf : b ∈ fr) : gH Hc n h fr pv b = none := by
  unfold gH
  rw [if_pos hf]
theorem gH_pv (hf : b ∉ fr) {xs : List V} (e : pv b = some xs) : gH Hc n h fr pv b = some (.lst xs) := by
  unfold gH
  rw [if_neg hf, e]
theorem gH_lock (hf : b ∉ fr) (hp : pv b = none) (e : Hc b = none) (l : n ≤ b) {o : Obj} (g : h.get? b = some o) : gH Hc n h fr pv b = some (.frz o (.ext fun _ => True)) := by
  unfold gH
  rw [if_neg hf, hp]
  show (match Hc b with | some u => some u | none => _) = _
  rw [e]
  show (if n ≤ b then _ else _) = _
  rw [if_pos l, g]
  rfl
theorem gH_low (hf : b ∉ fr) (hp : pv b = none) (e : Hc b = none) (l : b < n) : gH Hc n h fr pv b = none := by
  unfold gH
  rw [if_neg hf, hp]
  show (match Hc b with | some u => some u | none => _) = _
  rw [e]
  show (if n ≤ b then _ else _) = _
  rw [if_neg (Nat.not_le_of_lt l)]
theorem gH_some {u : HO} (e : gH Hc n h fr pv b = some u) : b ∉ fr ∧ ((∃ xs, pv b = some xs ∧ u = .lst xs) ∨ (pv b = none ∧ Hc b = some u) ∨ (pv b = none ∧ Hc b = none ∧ n ≤ b ∧ ∃ o, h.get? b = some o ∧ u = .frz o (.ext fun _ => True))) := by
  unfold gH at e
  split at e
  · cases e
  · refine ⟨by assumption, ?_⟩
    cases q : pv b with
    | some xs => rw [q] at e; cases e; exact .inl ⟨xs, rfl, rfl⟩
    | none =>
      rw [q] at e
      cases z : Hc b with
      | some v =>
        have e : (match Hc b with | some u => some u | none => (if n ≤ b then (h.get? b).map fun o => HO.frz o (.ext fun _ => True) else none)) = some u := e
        rw [z] at e
        cases e
        exact .inr (.inl ⟨rfl, rfl⟩)
      | none =>
        have e : (match Hc b with | some u => some u | none => (if n ≤ b then (h.get? b).map fun o => HO.frz o (.ext fun _ => True) else none)) = some u := e
        rw [z] at e
        have e : (if n ≤ b then (h.get? b).map fun o => HO.frz o (.ext fun _ => True) else none) = some u := e
        split at e
        · rename_i l
          cases y : h.get? b with
          | none => rw [y] at e; cases e
          | some o => rw [y] at e; cases e; exact .inr (.inr ⟨rfl, rfl, l, o, rfl, rfl⟩)
        · cases e
end
/-- a generator's turn: n: the heap's size when it was called -/
def gx (P : Program) (w : World) (K : PySem.W.Frag) (mg : Str → Option Value) (base : Heap) (N : List Str) (qual : Str) (scope : Scope) (f : Addr) (cd : Value) (A : Around) (outer : List Env) (n : Nat) (s : Shared) (H : Hp) : Cx where
  prog := P
  w := w
  K := K
  mg := mg
  base := base
  A := A.deeper (envOfC qual scope n f cd)
  N := N
  s_0 := { s with heap := cutH s.heap n }
  H_0 := H
  env := envOfC qual scope n f cd
  outer := outer
  stack := envOfC qual scope n f cd :: outer
  ex := []
  calm := true
  fn := fun _ => true
  pn := []
  xe := fun _ _ => False
/-- a generator def's names: no cells -/
structure NoCells (sc : Scope) : Prop where
  kind : sc.kind = .function
  none : ∀ x, sc.names.lookup x ≠ some .cell ∧ sc.names.lookup x ≠ some .free
theorem cellsFrom_nil : ∀ (l : List (Str × NameKind)) (m : Nat), (∀ y ∈ l, y.2 ≠ .cell) → cellsFrom m l [] = []
  | [], _, _ => rfl
  | (x, k) :: l, m, h => by
    have hk := h (x, k) List.mem_cons_self
    have ih := fun m => cellsFrom_nil l m fun y hy => h y (List.mem_cons_of_mem _ hy)
    cases k <;> first | exact absurd rfl hk | exact ih _
/-- the names' values, as they stand -/
def LocAt (N : List Str) (sc : Scope) (n : Nat) (σ : L2.St) (h : Heap) : Prop :=
  ∃ m, h.Ns n m ∧ ∀ (i : Nat) (x : Str) (v : V), N[i]? = some x → σ[i]? = some (some v) → Vis sc x → ∃ u, RelV v u ∧ sc.names.lookup x = some .local ∧ m x = some u
section
variable {P : Program} {w : World} {K : PySem.W.Frag} {mg : Str → Option Value} {base : Heap} {N : List Str} {qual : Str} {scope : Scope} {f : Addr} {cd : Value} {A : Around} {outer : List Env} {n : Nat} {s : Shared} {Hc : Hp} {fr : List Addr} {pv : Addr → Option (List V)} {σ : L2.St}
theorem cut_funs {h base : Heap} {n : Nat} : ∀ {l : List Env}, (∀ b ∈ frs l, b < n) → h.FunFrames base l → (cutH h n).FunFrames base l
  | [], _, _ => trivial
  | e :: l, hb, ⟨h1, ⟨L, o, h2, h3, h4, h5⟩, h6⟩ => by
    refine ⟨h1, ⟨L, o, h2, h3, cut_of (hb L ?_) h4, h5⟩, cut_funs (fun b hm => hb b ?_) h6⟩
    · unfold frs; rw [List.filterMap_cons, h2]; exact List.mem_cons_self
    · unfold frs; rw [List.filterMap_cons, h2]; exact List.mem_cons_of_mem _ hm
theorem gx_inv (hn : base.objs.size ≤ n) (hs : n ≤ s.heap.objs.size) (hfs : ∀ b ∈ frs outer, b < n) (sc : NoCells scope) (hc : ∀ m, cellsFrom m scope.names [] = []) (hd : A.handled = none) (e0 : Env0 P w K mg base A outer s Hc) (hl : σ.length = N.length)
    (loc : LocAt N scope n σ s.heap) (hnf : n ∈ fr) (hfr : ∀ b ∈ fr, n ≤ b ∧ Hc b = none) (hpv : ∀ b xs, pv b = some xs → n ≤ b ∧ Hc b = none ∧ ObjOk P w Hc s.heap b (.lst xs)) {G : Array GenState} (hG : AllBare G) :
    Inv (gx P w K mg base N qual scope f cd A outer n s (gH Hc n s.heap fr pv)) [] σ (gH Hc n s.heap fr pv) { s with gens := G } := by
  have low : ∀ b, b < n → b ∉ fr ∧ pv b = none := fun b l => ⟨fun z => Nat.lt_irrefl _ (Nat.lt_of_lt_of_le l (hfr b z).1), by
    cases q : pv b with
    | none => rfl
    | some xs => exact absurd (Nat.lt_of_lt_of_le l (hpv b xs q).1) (Nat.lt_irrefl _)⟩
  have lb : ∀ b o, base.get? b = some o → b < n := fun b o e => Nat.lt_of_lt_of_le (Heap.lt_size e) hn
  have ccl : (envOfC qual scope n f cd).cells = [] := hc (n + 1)
  have nocl : ∀ x c, (envOfC qual scope n f cd).cells.lookup x ≠ some c := fun x c z => by rw [ccl] at z; cases z
  have noA : ∀ b : Addr, b ∉ ([] : List Addr) := fun b z => nomatch z
  have ins : ∀ {b u}, Hc b = some u → gH Hc n s.heap fr pv b = some u := fun {b u} e => gH_old (fun z => by rw [(hfr b z).2] at e; cases e) (by
    cases q : pv b with
    | none => rfl
    | some xs => rw [(hpv b xs q).2.1] at e; cases e) e
  refine ⟨⟨e0.mod, sc.kind, rfl, rfl, ?_, fun y z c h1 h2 => absurd h1 (nocl y c), fun y hy => ?_, fun y c _ h => absurd h (nocl y c), fun _ => hd, Around.frames_deeper e0.frames, .inr ⟨rfl, rfl⟩, fun b z => absurd z (noA b), fun b o e => ?_, ?_, fun b _ _ => noA b, fun b z => absurd z (noA b), ?_, fun b hb => ?_⟩,
    rfl, hG, ?_, ?_, fun y c h => absurd h (nocl y c), gH_fr hnf, fun y c h => absurd h (nocl y c), fun p hp => absurd hp (List.not_mem_nil), ?_, hl⟩
  · show (cutH s.heap n).objs.size ≤ n
    rw [cut_size hs]
    exact Nat.le_refl _
  · exact hy.elim (fun z => absurd z (sc.none y).1) fun z => absurd z (sc.none y).2
  · have l := lb b o e
    exact ⟨cut_of l (e0.bs b o e).1, gH_low (low b l).1 (low b l).2 (e0.bs b o e).2 l⟩
  · show base.objs.size ≤ (cutH s.heap n).objs.size
    rw [cut_size hs]
    exact hn
  · exact cut_funs hfs e0.funs
  · have l := hfs b hb
    exact gH_low (low b l).1 (low b l).2 (e0.frf b hb) l
  · exact Un.kept fun b u e => (of_cut e).2
  · obtain ⟨m, h1, h2⟩ := loc
    refine ⟨m, h1, fun i x v e1 e2 e3 => ?_⟩
    obtain ⟨u, r, k, q⟩ := h2 i x v e1 e2 e3
    exact ⟨u, r, .inl ⟨k, q⟩⟩
  · intro b u e
    obtain ⟨nf, q | q | q⟩ := gH_some e
    · obtain ⟨xs, q, rfl⟩ := q
      exact (hpv b xs q).2.2
    · exact (e0.hok b u q.2).stay (fun _ _ _ z => z) (fun d z => ins z) fun d xs z => ins z
    · obtain ⟨_, _, _, o, g, rfl⟩ := q
      exact ⟨g, trivial, ⟨o, g⟩, fun _ _ _ _ => trivial⟩
end
end Q

set_option maxRecDepth 100000
set_option maxHeartbeats 4000000
/-! An address without an object stays so. -/
namespace Q
open PySem PySem.Spec PyProof.Rows L2 GenW
open PySem.W.X (SegX)
def Dead (h : Heap) (b : Addr) : Prop := b < h.objs.size ∧ h.get? b = none
theorem dead_push {h : Heap} {b : Addr} {o : Obj} (d : Dead h b) : Dead (h.push o) b :=
  ⟨by rw [Heap.size_push]; exact Nat.lt_succ_of_lt d.1, by rw [Heap.get?_push_ne h b o (Nat.ne_of_lt d.1)]; exact d.2⟩
theorem dead_update {h : Heap} {a b : Addr} {f : Obj → Obj} (d : Dead h b) (ha : (h.get? a).isSome) : Dead (h.update a f) b :=
  ⟨by rw [Heap.size_update]; exact d.1, by
    rw [Heap.get?_update_other h f (fun z => by subst z; rw [d.2] at ha; cases ha)]
    exact d.2⟩
theorem runs_dead {M : Model} {Γ : PySem.Ctx} {p : Pos} {t : Sem PySem.Fin} {fs : List Frame} {s s' : Shared} {e : End} {b : Addr} (h : Runs M Γ p t fs s e s') : Dead s.heap b → Dead s'.heap b := by
  induction h with
  | update q _ ih => exact fun d => ih (dead_update d q)
  | alloc _ ih => exact fun d => ih (dead_push d)
  | _ => intro d; first | exact d | (rename_i ih; exact ih d) | (rename_i ih1 ih2; exact ih2 (ih1 d))
theorem sx_dead {M : Model} {A : Around} {c : Code} {t : Sem PySem.Fin} {fs : List Frame} {s : Shared} {P : End → Shared → Prop} (x : SegX M A c t fs s P) : SegX M A c t fs s fun e s' => (∀ b, Dead s.heap b → Dead s'.heap b) ∧ P e s' := fun Γ p hc hΓ =>
  let ⟨e, s', hr, hq, hp⟩ := x Γ p hc hΓ
  ⟨e, s', hr, hq, fun _ d => runs_dead hr d, hp⟩
end Q

set_option maxRecDepth 100000
set_option maxHeartbeats 4000000
/-! A generator's turn, seen by its consumer; how it goes on. -/
namespace Q
open PySem PySem.Spec PyProof.Rows L2 GenW
open PySem.W.X (SegX wake_any)
theorem objOk_there {P : Program} {w : World} {H : Hp} {h : Heap} {a : Addr} {o : HO} (x : ObjOk P w H h a o) : ∃ ob, h.get? a = some ob := by
  cases o with
  | lst xs => obtain ⟨_, _, _, _, e⟩ := x; exact ⟨_, e⟩
  | tup xs => obtain ⟨_, _, _, ob, e, _⟩ := x; exact ⟨_, e⟩
  | dK kvs => obtain ⟨_, _, _, _, o, _, _, e, _⟩ := x; exact ⟨_, e⟩
  | dT kvs => obtain ⟨_, _, _, _, o, _, _, e, _⟩ := x; exact ⟨_, e⟩
  | set S n => obtain ⟨o, _, _, _, e, _⟩ := x; exact ⟨_, e⟩
  | ins C dx fs => obtain ⟨_, _, _, e, _⟩ := x; exact ⟨_, e⟩
  | own y => obtain ⟨_, e⟩ := x; exact ⟨_, e⟩
  | xd fs => obtain ⟨_, ⟨_, _, _, e, _⟩, _⟩ := x; exact ⟨_, e⟩
  | rng lo hi => obtain ⟨_, _, _, e⟩ := x; exact ⟨_, e⟩
  | frz ob u => obtain ⟨e, _⟩ := x; exact ⟨_, e⟩
  | tbl ps => exact ⟨_, (show h.get? a = some _ from x)⟩
  | met f y => exact ⟨_, (show h.get? a = some _ from x)⟩
  | ext φ => obtain ⟨_, ⟨_, e⟩, _⟩ := x; exact ⟨_, e⟩
/-- the consumer's abstract heap behind a turn -/
def back (Hc : Hp) (h : Heap) (pn' : List (Addr × Obj)) (H' : Hp) : Hp := fun b =>
  if ((Hc b).isNone && (h.get? b).isSome) || (pn'.map (·.1)).contains b then none else H' b
theorem back_eq {Hc : Hp} {h : Heap} {pn' : List (Addr × Obj)} {H' : Hp} {b : Addr} (h1 : Hc b ≠ none ∨ h.get? b = none) (h2 : ∀ p ∈ pn', p.1 ≠ b) : back Hc h pn' H' b = H' b := by
  unfold back
  have e1 : ((Hc b).isNone && (h.get? b).isSome) = false := by
    rcases h1 with z | z
    · cases q : Hc b with
      | none => exact absurd q z
      | some u => rfl
    · rw [z]; simp
  have e2 : (pn'.map (·.1)).contains b = false := by
    cases q : (pn'.map (·.1)).contains b with
    | false => rfl
    | true =>
      obtain ⟨p, hp, e⟩ := List.mem_map.mp (List.contains_iff_mem.mp q)
      exact absurd e (h2 p hp)
  rw [e1, e2]
  rfl
theorem back_none {Hc : Hp} {h : Heap} {pn' : List (Addr × Obj)} {H' : Hp} {b : Addr} {o : Obj} (h1 : Hc b = none) (h2 : h.get? b = some o) : back Hc h pn' H' b = none := by
  unfold back
  rw [h1, h2]
  rfl
theorem back_pin {Hc : Hp} {h : Heap} {pn' : List (Addr × Obj)} {H' : Hp} {p : Addr × Obj} (hp : p ∈ pn') : back Hc h pn' H' p.1 = none := by
  unfold back
  have e2 : (pn'.map (·.1)).contains p.1 = true := List.contains_iff_mem.mpr (List.mem_map_of_mem hp)
  rw [e2, Bool.or_true, if_pos rfl]
theorem back_some {Hc : Hp} {h : Heap} {pn' : List (Addr × Obj)} {H' : Hp} {b : Addr} {u : HO} (e : back Hc h pn' H' b = some u) : H' b = some u := by
  unfold back at e
  split at e
  · cases e
  · exact e
/-- a turn's end, for the consumer: pn, pn': the generator's own objects ahead of it and behind it -/
structure Left (P : Program) (w : World) (outer : List Env) (n : Nat) (pn pn' : List (Addr × Obj)) (s : Shared) (Hc : Hp) (s1 : Shared) (Hc1 : Hp) : Prop where
  os : s1.os = s.os
  bare : AllBare s1.gens
  un : Un (frs outer) (pn.map (·.1)) Hc Hc1 s.heap s1.heap
  hok : HOk P w Hc1 s1.heap
  same : L2.Same Hc Hc1
  pins : ∀ p ∈ pn', s1.heap.get? p.1 = some p.2 ∧ Hc1 p.1 = none
  own : ∀ p ∈ pn', (p.1 ∈ pn.map (·.1) ∨ s.heap.get? p.1 = none) ∧ ∀ v, p.2.data ≠ .cell v
section
variable {P : Program} {w : World} {K : PySem.W.Frag} {mg : Str → Option Value} {base : Heap} {N : List Str} {qual : Str} {scope : Scope} {f : Addr} {cd : Value} {A : Around} {outer : List Env} {n : Nat} {s s1 : Shared} {Hc H' : Hp} {fr : List Addr} {pv : Addr → Option (List V)} {σ : L2.St} {ps pn pn' : List (Addr × Obj)}
theorem gx_left (I : Inv (gx P w K mg base N qual scope f cd A outer n s (gH Hc n s.heap fr pv)) ps σ H' s1) (hfs : ∀ b ∈ frs outer, b < n)
    (hfr : ∀ b ∈ fr, n ≤ b ∧ b ∈ pn.map (·.1)) (hpv : ∀ b xs, pv b = some xs → n ≤ b ∧ b ∈ pn.map (·.1)) (hpn : ∀ p ∈ pn, Hc p.1 = none) (ok : HOk P w Hc s.heap) (same : L2.Same Hc H')
    (pr : ∀ b, b ∈ pn.map (·.1) ∨ b ∈ pn'.map (·.1) → ∀ u, H' b = some u → ∃ xs, u = .lst xs)
    (pins : ∀ p ∈ pn', s1.heap.get? p.1 = some p.2) (own : ∀ p ∈ pn', (p.1 ∈ pn.map (·.1) ∨ s.heap.get? p.1 = none) ∧ ∀ v, p.2.data ≠ .cell v) :
    Left P w outer n pn pn' s Hc s1 (back Hc s.heap pn' H') ∧ (∀ c u, H' c = some u → (∀ xs, u ≠ .lst xs) → (∀ o φ, u ≠ .frz o (.ext φ)) → back Hc s.heap pn' H' c = some u) := by
  have noA : ∀ b : Addr, b ∉ ([] : List Addr) := fun b z => nomatch z
  have low : ∀ b, b < n → b ∉ fr ∧ pv b = none := fun b l => ⟨fun z => Nat.lt_irrefl _ (Nat.lt_of_lt_of_le l (hfr b z).1), by
    cases q : pv b with
    | none => rfl
    | some xs => exact absurd (Nat.lt_of_lt_of_le l (hpv b xs q).1) (Nat.lt_irrefl _)⟩
  have off : ∀ b, b ∉ pn.map (·.1) → b ∉ fr ∧ pv b = none := fun b l => ⟨fun z => l (hfr b z).2, by
    cases q : pv b with
    | none => rfl
    | some xs => exact absurd (hpv b xs q).2 l⟩
  have npn : ∀ b u, Hc b = some u → b ∉ pn.map (·.1) := fun b u e z => by
    obtain ⟨p, hp, rfl⟩ := List.mem_map.mp z
    rw [hpn p hp] at e; cases e
  have npn' : ∀ b u, Hc b = some u → ∀ p ∈ pn', p.1 ≠ b := fun b u e p hp z => by
    subst z
    rcases (own p hp).1 with q | q
    · exact npn _ u e q
    · obtain ⟨o, z⟩ := objOk_there (ok _ u e)
      rw [q] at z; cases z
  have lock : ∀ b o, s.heap.get? b = some o → Hc b = none → n ≤ b → b ∉ pn.map (·.1) → H' b = some (.frz o (.ext fun _ => True)) := fun b o e1 e2 l z =>
    I.base.frzs b o _ (gH_lock (off b z).1 (off b z).2 e2 l e1)
  have live : ∀ c u, H' c = some u → (∀ xs, u ≠ .lst xs) → (∀ o φ, u ≠ .frz o (.ext φ)) → back Hc s.heap pn' H' c = some u := fun c u e nl nf => by
    rw [back_eq ?_ ?_]
    · exact e
    · cases q : Hc c with
      | some v => exact .inl (fun z => nomatch z)
      | none =>
        refine .inr ?_
        cases g : s.heap.get? c with
        | none => rfl
        | some o =>
          exfalso
          by_cases l : c < n
          · have := I.base.free c o (cut_of l g) (gH_low (low c l).1 (low c l).2 q l) (noA c)
            rw [e] at this
            cases this
          · by_cases z : c ∈ pn.map (·.1)
            · obtain ⟨xs, y⟩ := pr c (.inl z) u e
              exact nl xs y
            · have := lock c o g q (Nat.le_of_not_lt l) z
              rw [e] at this
              cases this
              exact nf _ _ rfl
    · intro p hp z
      subst z
      have z := List.mem_map_of_mem (f := fun x : Addr × Obj => x.1) hp
      obtain ⟨xs, y⟩ := pr p.1 (.inr z) u e
      exact nl xs y
  have sm : L2.Same Hc (back Hc s.heap pn' H') := fun b u e => by
    rw [back_eq (.inl (by rw [e]; exact fun z => nomatch z)) (npn' b u e)]
    exact same b u e
  refine ⟨⟨I.os, I.bare, ⟨fun b o e1 e2 e3 e4 => ?_, fun b o e1 e2 e3 e4 => ?_, fun b o e1 e2 _ => back_none e2 e1, fun b o e1 e2 => ?_, fun b xs e => sm _ _ e, fun b o u e => sm _ _ e, fun b qs e => ⟨#[], by rw [Array.append_empty]; exact sm _ _ e⟩⟩, fun b u e => ?_, sm, fun p hp => ⟨pins p hp, back_pin hp⟩, own⟩, live⟩
  · by_cases l : b < n
    · exact I.base.keep b o (cut_of l e1) (gH_low (low b l).1 (low b l).2 e2 l) e3 (noA b)
    · obtain ⟨q, _⟩ := I.hok b _ (lock b o e1 e2 (Nat.le_of_not_lt l) e4)
      exact q
  · have l := hfs b e3
    exact I.base.slot b o (cut_of l e1) (gH_low (low b l).1 (low b l).2 e2 l) e3 (noA b)
  · by_cases l : b < n
    · exact I.base.there b o (cut_of l e1) (noA b)
    · cases q : Hc b with
      | none => exact objOk_there (I.hok b _ (lock b o e1 q (Nat.le_of_not_lt l) e2))
      | some u => exact objOk_there (I.hok b u (same b u q))
  · exact (I.hok b u (back_some e)).stay (fun _ _ _ z => z) (fun d z => live d _ z (fun _ y => nomatch y) fun _ _ y => nomatch y) fun d xs z => live d _ z (fun _ y => nomatch y) fun _ _ y => nomatch y
end
/-- what a turn hands out -/
abbrev Item := V → Hp → Prop
/-- ahead of a turn: D: what the generator reads of its consumer's things -/
structure Good (P : Program) (w : World) (K : PySem.W.Frag) (mg : Str → Option Value) (base : Heap) (A : Around) (outer : List Env) (n : Nat) (D : Hp → Prop) (pn : List (Addr × Obj)) (s : Shared) (Hc : Hp) : Prop where
  e0 : Env0 P w K mg base A outer s Hc
  d : D Hc
  sz : n ≤ s.heap.objs.size
  pins : ∀ p ∈ pn, s.heap.get? p.1 = some p.2 ∧ Hc p.1 = none ∧ n ≤ p.1
/-- the generator that stands so hands out these items, then ends -/
def Going (P : Program) (w : World) (K : PySem.W.Frag) (mg : Str → Option Value) (base : Heap) (A : Around) (outer : List Env) (n : Nat) (D : Hp → Prop) : List Item → List (Addr × Obj) → Code → Sem PySem.Fin → List Frame → Prop
  | [], pn, c, t, fs => ∀ s Hc, Good P w K mg base A outer n D pn s Hc → SegX (model P w) A c t fs s fun e s1 => (e = .ret (.ok (.ret .none)) ∨ e = .ret (.ok .next)) ∧ ∃ Hc1, Left P w outer n pn [] s Hc s1 Hc1
  | it :: L, pn, c, t, fs => ∀ s Hc, Good P w K mg base A outer n D pn s Hc → SegX (model P w) A c t fs s fun e s1 => ∃ v l k c' p fs' x Hc1 pn', e = .susp v false l k c' p fs' ∧ RelV x v ∧ it x Hc1 ∧ Left P w outer n pn pn' s Hc s1 Hc1 ∧
      Going P w K mg base A outer n D L pn' c' (k (.send .none)) fs'
/-- the state of a generator that is to be woken -/
def Stands (gs : GenState) (c : Code) (t : Sem PySem.Fin) (fs : List Frame) : Prop :=
  (gs = .fresh c ∧ Resume.send Value.none = .send .none ∧ t = denote table c ∧ fs = []) ∨ ∃ k l p cl, gs = .suspended k l c p fs cl ∧ t = k (.send .none)
theorem gnext {P : Program} {w : World} {A : Around} {a : Addr} {g : Nat} {gs : GenState} {s : Shared} {c : Code} {t : Sem PySem.Fin} {fs : List Frame} {Φ : End → Shared → Prop} {Q : Option Value → Shared → Prop} {E : Value → Shared → Prop} (hh : A.handled = none) (hl : s.heap.NoLimit) (hroom : A.depth < recursionLimit) (hg : s.heap.IsGen a g) (hgs : s.gens[g]? = some gs)
    (st : Stands gs c t fs) (go : SegX (model P w) A.in1 c t fs (s.setGen g .running) Φ)
    (hΦ : ∀ e s1, Φ e s1 → (∃ v l k c' p fs', e = .susp v false l k c' p fs' ∧ Q (some v) (s1.setGen g e.genState)) ∨
      ((e = .ret (.ok (.ret .none)) ∨ e = .ret (.ok .next)) ∧ ∀ h', (∀ b o, s1.heap.get? b = some o → h'.get? b = some o) → Q none { s1.setGen g .finished with heap := h' })) :
    wpAny (model P w) A (pyNext (.ref a)) Q E s := by
  unfold pyNext
  refine wpAny_bind (wpAny_attempt (wpAny_callSpecial?_slot (name := Str.ofString "__next__") hg.typeIs slot_gen_next
    (wpAny_call_entry slot_gen_next hg.typeIs entry_gen_next ?_ (args_gen_next _))))
  show wpAny _ A.in1 (Builtin.Generator.genWake (.ref a) (.send .none)) _ _ s
  unfold Builtin.Generator.genWake
  refine wpAny_bind (wpAny_holding (wpAny_genNumber hg (wpAny_bind (wpAny_genState hgs ?_))))
  cases gs with
  | running => rcases st with ⟨z, _⟩ | ⟨_, _, _, _, z, _⟩ <;> cases z
  | finished => rcases st with ⟨z, _⟩ | ⟨_, _, _, _, z, _⟩ <;> cases z
  | _ =>
    refine wpAny_bind (wpAny_roomToWake hl hroom ?_)
    show wpAny _ A.in1 (.resume g (.send .none) [] _) _ _ s
    refine fun Γ p hΓ => wake_any _ P w hgs st (fun Γ => Γ.In A.in1) (fun _ h => h) (go.mono fun e s1 h Γ p hC => ?_) Γ p hΓ
    refine (?_ : wpAny (model P w) A.in1 _ _ _ _) Γ p hC
    rcases hΦ e s1 h with ⟨v, l, k, c', p', fs', rfl, hq⟩ | ⟨hr, hq⟩
    · exact wpAny_pure ⟨v, rfl, wpAny_pure hq⟩
    · have hres : e.result = .returned .none ∧ e.genState = .finished := by
        rcases hr with rfl | rfl <;> exact ⟨rfl, rfl⟩
      rw [hres.1, hres.2]
      show wpAny _ A.in1 (newExc (.type "StopIteration") [] >>= _) _ _ _
      refine wpAny_bind ?_
      simp only [newExc, newTuple]
      refine wpAny_bind (wpAny_newObj_type ?_ (by size_fits))
      refine wpAny_bind (m := firstArgMember _ _) (wpAny_of_eq (a := Value.none) (by first | rfl | (simp only [firstArgMember]; rfl)) ?_)
      refine wpAny_newObj_type ?_ (by size_fits)
      simp only [raiseNew]
      refine wpAny_bind (wpAny_bind (wpAny_handled ?_))
      first | rw [show A.in1.handled = none from hh] | rw [hh]
      refine wpAny_throw ?_
      refine wpAny_bind (wpAny_isInstance (T := "StopIteration") (b := true) ⟨_, Heap.get?_push_size _ rfl, rfl⟩ isSubtype_stop ?_)
      exact wpAny_pure (hq _ fun b o hb => Heap.get?_push_of_some _ (Heap.get?_push_of_some _ hb))
end Q

set_option maxRecDepth 100000
set_option maxHeartbeats 4000000
/-! for x in g(..): -/
namespace Q
open PySem PySem.Spec PyProof.Rows L2 GenW
open PySem.W.X (SegX wake_any)
theorem sx_quiet {M : Model} {A : Around} {c : Code} {t : Sem PySem.Fin} {fs : List Frame} {s : Shared} {P : End → Shared → Prop} (x : SegX M A c t fs s P) : SegX M A c t fs s fun e s' => e.quiet = true ∧ P e s' := fun Γ p hc hΓ =>
  let ⟨e, s', hr, hq, hp⟩ := x Γ p hc hΓ
  ⟨e, s', hr, hq, hq, hp⟩
/-- an exception's fate asks nothing of the generators' table -/
def XU (X : Cx) : Prop := ∀ (O : Own) (e : Value) (s : Shared), Hid O s.gens → X.xe e s → X.xe e (undo O s)
theorem inv_gens {X : Cx} {pins : List (Addr × Obj)} {σ : L2.St} {H : Hp} {s : Shared} {G : Array GenState} (I : Inv X pins σ H s) (hG : AllBare G) : Inv X pins σ H { s with gens := G } :=
  ⟨I.ok, I.os, hG, I.base, I.loc, I.cell, I.free, I.freeC, I.pin, I.hok, I.len⟩
theorem inv_undo {X : Cx} {pins : List (Addr × Obj)} {σ : L2.St} {H : Hp} {s : Shared} {O : Own} (I : Inv X pins σ H s) (h : Hid O s.gens) : Inv X pins σ H (undo O s) := inv_gens I (undo_bare h I.bare)
def GenObj (g : Nat) (o : Obj) : Prop := ∃ nm qn, o.cls = .type "generator" ∧ o.data = .fields #[.int g 0, nm, qn] ∧ o.slots = #[]
/-- the generator a (number g; called when the heap had n objects), between two turns; pn: its own objects -/
structure Held (X : Cx) (pins : List (Addr × Obj)) (n a g : Nat) (go : Obj) (pn : List (Addr × Obj)) (σ : L2.St) (H : Hp) (s : Shared) : Prop where
  inv : Inv X (pins ++ [(a, go)]) σ H s
  obj : GenObj g go
  an : n ≤ a
  pn : ∀ p ∈ pn, s.heap.get? p.1 = some p.2 ∧ FpOk X (pins ++ [(a, go)]) H p.1 ∧ n ≤ p.1 ∧ ∀ v, p.2.data ≠ .cell v
def SleepsA (X : Cx) (A : Around) (n g : Nat) (D : Hp → Prop) (L : List Item) (pn : List (Addr × Obj)) (s : Shared) : Prop :=
  ∃ gs c t fs, s.gens[g]? = some gs ∧ Stands gs c t fs ∧ Going X.prog X.w X.K X.mg X.base A.in1 X.stack n D L pn c t fs
abbrev Sleeps (X : Cx) := SleepsA X X.A
/-- it has not begun -/
def Begins (X : Cx) (k n g : Nat) (D : Hp → Prop) (L : List Item) (pn : List (Addr × Obj)) (s : Shared) : Prop :=
  ∃ c, s.gens[g]? = some (.fresh c) ∧ ∀ A, Room k A → A.frames = some X.stack → Going X.prog X.w X.K X.mg X.base A X.stack n D L pn c (denote table c) []
theorem room_in1 {k : Nat} {A : Around} (h : Room (k + 1) A) : Room k A.in1 := ⟨h.hd, by have := h.dp; show A.depth + 3 * k + 5 < _; omega, by have := h.un; show A.units + 1 + 16 * k + 200 < _; omega⟩
theorem Begins.at {X : Cx} {k n g : Nat} {D : Hp → Prop} {L : List Item} {pn : List (Addr × Obj)} {s : Shared} {A : Around} (h : Begins X k n g D L pn s) (hr : Room (k + 1) A) (hf : A.frames = some X.stack) : SleepsA X A n g D L pn s := by
  obtain ⟨c, h1, h3⟩ := h
  exact ⟨_, c, _, [], h1, .inl ⟨rfl, rfl, rfl, rfl⟩, h3 _ (room_in1 hr) hf⟩
section
variable {X : Cx} {A : Around} {pins pn : List (Addr × Obj)} {n a g : Nat} {go : Obj} {σ : L2.St} {H : Hp} {s : Shared} {D : Hp → Prop} {L : List Item} {it : Item}
theorem Held.at (h : Held X pins n a g go pn σ H s) : s.heap.get? a = some go ∧ H a = none := by
  obtain ⟨e, z, _⟩ := h.inv.pin (a, go) (List.mem_append_right _ (List.mem_append_right _ List.mem_cons_self))
  exact ⟨e, z⟩
theorem Held.isGen (h : Held X pins n a g go pn σ H s) : s.heap.IsGen a g := by
  obtain ⟨nm, qn, h1, h2, h3⟩ := h.obj
  exact ⟨go, nm, qn, h.at.1, h1, h2, h3⟩
theorem Held.good (h : Held X pins n a g go pn σ H s) (hf : A.frames = some X.stack) (d : D H) : Good X.prog X.w X.K X.mg X.base A.in1 X.stack n D pn s H :=
  ⟨⟨hf, h.inv.env0.mod, h.inv.env0.bs, h.inv.env0.bsz, h.inv.env0.funs, h.inv.env0.frf, h.inv.env0.hok, h.inv.env0.bare⟩, d, Nat.le_trans h.an (Nat.le_of_lt (Heap.lt_size h.at.1)), fun p hp => ⟨(h.pn p hp).1, (h.pn p hp).2.1.1, (h.pn p hp).2.2.1⟩⟩
/-- all pins, for what runs while it sleeps -/
theorem Held.all (h : Held X pins n a g go pn σ H s) : Inv X (pins ++ [(a, go)] ++ pn) σ H s := h.inv.pins_of fun p hp => by
  rcases List.mem_append.mp hp with z | z
  · exact h.inv.pin p (List.mem_append_right _ z)
  · obtain ⟨h1, ⟨f0, f1, f2, _⟩, _, h5⟩ := h.pn p z
    exact ⟨h1, f0, f1, f2, h5⟩
theorem Held.of_all {σ' : L2.St} {H' : Hp} {s' : Shared} (h : Held X pins n a g go pn σ H s) (I : Inv X (pins ++ [(a, go)] ++ pn) σ' H' s') : Held X pins n a g go pn σ' H' s' := by
  refine ⟨I.pins_of fun p hp => I.pin p (List.mem_append_right _ (List.mem_append_left _ hp)), h.obj, h.an, fun p hp => ?_⟩
  obtain ⟨_, ⟨_, f⟩, h3, h5⟩ := h.pn p hp
  obtain ⟨e1, e2, _⟩ := I.pin p (List.mem_append_right _ (List.mem_append_right _ hp))
  exact ⟨e1, ⟨e2, f⟩, h3, h5⟩
/-- behind a turn -/
theorem Held.left {pn' : List (Addr × Obj)} {s1 : Shared} {H1 : Hp} {G : Array GenState} {G0 : Array GenState} (h : Held X pins n a g go pn σ H s) (l : Left X.prog X.w X.stack n pn pn' { s with gens := G0 } H s1 H1) (dd : ∀ b, Dead s.heap b → Dead s1.heap b) (hG : AllBare G) : Held X pins n a g go pn' σ H1 { s1 with gens := G } := by
  have asz := Heap.lt_size h.at.1
  refine ⟨h.inv.call' (ch := pn.map (·.1)) l.os l.un l.hok hG fun b hb => ?_, h.obj, h.an, fun p hp => ?_⟩
  · obtain ⟨p, hp, rfl⟩ := List.mem_map.mp hb
    obtain ⟨_, ⟨_, f1, f2, f3, f4, f5⟩, _⟩ := h.pn p hp
    exact ⟨f3, f1, f4, f5⟩
  · obtain ⟨e1, e2⟩ := l.pins p hp
    obtain ⟨h1, h3⟩ := l.own p hp
    rcases h1 with y | y
    · obtain ⟨q, hq, e⟩ := List.mem_map.mp y
      obtain ⟨_, ⟨_, f⟩, g3, _⟩ := h.pn q hq
      exact ⟨e1, ⟨e2, e ▸ f⟩, e ▸ g3, h3⟩
    · have yy : s.heap.objs.size ≤ p.1 := Nat.le_of_not_lt fun q => by
        have := (dd p.1 ⟨q, y⟩).2
        rw [e1] at this
        cases this
      exact ⟨e1, h.inv.fpOk yy e2, Nat.le_trans h.an (Nat.le_trans (Nat.le_of_lt asz) yy), h3⟩
theorem Good.run {P : Program} {w : World} {K : PySem.W.Frag} {mg : Str → Option Value} {base : Heap} {outer : List Env} {Hc : Hp} (h : Good P w K mg base A outer n D pn s Hc) : Good P w K mg base A outer n D pn (s.setGen g .running) Hc :=
  ⟨⟨h.e0.frames, h.e0.mod, h.e0.bs, h.e0.bsz, h.e0.funs, h.e0.frf, h.e0.hok, allBare_setGen h.e0.bare rfl⟩, h.d, h.sz, h.pins⟩
theorem next_item {E : Value → Shared → Prop} (hh : A.handled = none) (hd : A.depth < recursionLimit) (hf : A.frames = some X.stack) (h : Held X pins n a g go pn σ H s) (z : SleepsA X A n g D (it :: L) pn s) (d : D H) :
    wpAny (model X.prog X.w) A (pyNext (.ref a)) (fun r s1 => ∃ v x H1 pn', r = some v ∧ RelV x v ∧ it x H1 ∧ L2.Same H H1 ∧ Held X pins n a g go pn' σ H1 s1 ∧ SleepsA X A n g D L pn' s1 ∧ ∃ gs, s1.gens[g]? = some gs ∧ asleep gs = true) E s := by
  obtain ⟨gs, c, t, fs, e, st, G⟩ := z
  have hgl : g < s.gens.size := (Array.getElem?_eq_some_iff.mp e).1
  refine wpAny_gsz (n := g + 1) hgl (gnext hh h.inv.nolimit hd h.isGen e st (sx_quiet (sx_dead (G _ H (h.good hf d).run))) fun en s1 he => ?_)
  obtain ⟨hq, dd, v, l, k, c', p, fs', x, H1, pn', rfl, rv, hi, lf, G'⟩ := he
  refine .inl ⟨v, l, k, c', p, fs', rfl, fun hsz => ?_⟩
  have hb : (End.genState (.susp v false l k c' p fs')).bare = true := End.bare_of_quiet hq
  have hsz1 : g < s1.gens.size := by
    rw [setGen_size] at hsz
    exact hsz
  exact ⟨v, x, H1, pn', rfl, rv, hi, lf.same, h.left lf dd (allBare_setGen lf.bare hb), ⟨_, c', _, fs', setGen_at hsz1, .inr ⟨k, l, p, _, rfl, rfl⟩, G'⟩, _, setGen_at hsz1, rfl⟩
theorem next_end {E : Value → Shared → Prop} (hh : A.handled = none) (hd : A.depth < recursionLimit) (hf : A.frames = some X.stack) (h : Held X pins n a g go pn σ H s) (z : SleepsA X A n g D [] pn s) (d : D H) :
    wpAny (model X.prog X.w) A (pyNext (.ref a)) (fun r s1 => r = none ∧ ∃ H1, L2.Same H H1 ∧ Inv X pins σ H1 s1) E s := by
  obtain ⟨gs, c, t, fs, e, st, G⟩ := z
  refine gnext hh h.inv.nolimit hd h.isGen e st (sx_dead (G _ H (h.good hf d).run)) fun en s1 he => ?_
  obtain ⟨dd, hr, H1, lf⟩ := he
  refine .inr ⟨hr, fun h' hk => ⟨rfl, H1, lf.same, ?_⟩⟩
  have I := (h.left lf dd (allBare_setGen (g := g) (x := .finished) lf.bare rfl)).inv
  have I2 : Inv X pins σ H1 { s1 with gens := (s1.setGen g .finished).gens } := I.pins_of fun p hp => I.pin p (List.mem_append_right _ (List.mem_append_left _ hp))
  exact I2.kept (t' := s1.toks) hk
end
end Q

set_option maxRecDepth 100000
set_option maxHeartbeats 4000000
/-! for x in g(..): the rule. -/
namespace Q
open PySem PySem.Spec PyProof.Rows L2 GenW
/-- an expression whose value is a generator that has not begun: what it hands out, what it reads -/
abbrev TGn := L2.St → Hp → (List Item → (Hp → Prop) → Hp → Prop) → Prop
structure PGn (X : Cx) (k : Nat) (e : Expr) (tg : TGn) : Prop where
  run : ∀ (pins : List (Addr × Obj)) (s : Shared) (σ : L2.St) (H : Hp) (cont : List Item → (Hp → Prop) → Hp → Prop), Inv X pins σ H s → tg σ H cont → wpAny (model X.prog X.w) X.A (eval e X.env)
    (fun u s' => ∃ H1 n a g go pn L D sc, u = .ref a ∧ (Inv X pins σ H1 sc ∧ n = sc.heap.objs.size ∧ s'.os = sc.os ∧ ∀ b o, sc.heap.get? b = some o → s'.heap.get? b = some o) ∧ Held X pins n a g go pn σ H1 s' ∧ Begins X k n g D L pn s' ∧ cont L D H1) X.xe s
/-- W: the invariant by what has been handed out -/
def tForG (tg : TGn) (g : TG) (tb : TS) : TS := fun D σ H => tg σ H fun L Dd H1 => ∃ W : Nat → L2.St → Hp → Prop, W 0 σ H1 ∧
  (∀ j it σ H, L[j]? = some it → W j σ H → Dd H ∧ ∀ x H', L2.Same H H' → it x H' → g x σ H' fun σ2 H2 => tb { D with nx := W (j + 1), ct := W (j + 1), bk := D.nx } σ2 H2) ∧
  ∀ σ H, W L.length σ H → Dd H ∧ ∀ H', L2.Same H H' → D.nx σ H'
section
variable {X : Cx}
theorem drop_get {α : Type} {L : List α} {j : Nat} {x : α} (h : L[j]? = some x) : L.drop j = x :: L.drop (j + 1) := by
  obtain ⟨h1, h2⟩ := List.getElem?_eq_some_iff.mp h
  rw [List.drop_eq_getElem_cons h1, h2]
theorem sp_undo {pins : List (Addr × Obj)} {D : Ends} {f : Flow} {s : Shared} {O : Own} (h : L2.SP X pins D f s) (hi : Hid O s.gens) : L2.SP X pins D f (undo O s) := by
  cases f with
  | next => obtain ⟨σ, H, I, q⟩ := h; exact ⟨σ, H, inv_undo I hi, q⟩
  | brk => obtain ⟨σ, H, I, q⟩ := h; exact ⟨σ, H, inv_undo I hi, q⟩
  | cont => obtain ⟨σ, H, I, q⟩ := h; exact ⟨σ, H, inv_undo I hi, q⟩
  | ret u => obtain ⟨v, σ, H, I, r1, q⟩ := h; exact ⟨v, σ, H, inv_undo I hi, r1, q⟩
theorem ps_forG {x : Str} {xp : Pos} {iter : Expr} {body : List Stmt} {tg : TGn} {g : TG} {tb : TS} {pos : Pos} {k : Nat} (hp : PassesOwn (model X.prog X.w) X.A X.env X.xe) (hc : X.calm = true) (hxu : XU X) (hr : Room (k + 1) X.A) (hi : PGn X k iter tg) (hg : PG X (.Name x xp) g) (hb : PSs X body tb)
    (hs : ∀ x, foldedSetIterable iter X.env x = pure x := by intro _; rfl) : PS X (.For (.Name x xp) iter body [] pos) (tForG tg g tb) := by
  refine ⟨fun pins s σ H D I h => ?_⟩
  refine wpAny_For (thn (hi.run pins s σ H _ I h) fun v s1 h1 => ?_) hs
  obtain ⟨H1, n, a, gn, go, pn, L, Dd, _, rfl, _, hl, hb0, W, w0, turn, done⟩ := h1
  have hd := hr.depth
  have hf := hl.inv.ok.frames
  have hz := hb0.at hr hf
  have hh : X.A.handled = none := hl.inv.ok.hd hc
  refine wpAny_pyIter_gen hl.isGen ?_
  refine codeAny_forLoop_any (fun m s' => ∃ j σ' H' pn', m = L.length - j ∧ j ≤ L.length ∧ Held X pins n a gn go pn' σ' H' s' ∧ Sleeps X n gn Dd (L.drop j) pn' s' ∧ W j σ' H') ?_ L.length ⟨0, σ, H1, pn, by simp, Nat.zero_le _, hl, hz, w0⟩
  rintro m s3 ⟨j, σ3, H3, pn3, rfl, hj, hl3, hz3, w3⟩
  by_cases hlt : j < L.length
  · have hit : L[j]? = some L[j] := by simp [hlt]
    obtain ⟨d3, body3⟩ := turn j L[j] σ3 H3 hit w3
    rw [drop_get hit] at hz3
    refine thn (next_item hh hd hf hl3 hz3 d3) fun r s4 h4 => ?_
    obtain ⟨v, xv, H4, pn4, rfl, rv, hx, sm, hl4, hz4, gs, hgs, has⟩ := h4
    refine wpAny_pure ?_
    have st := body3 xv H4 sm hx
    have hO := ownOf_at hgs has
    have I4 : Inv X (pins ++ [(a, go)] ++ pn4) σ3 H4 (hush s4) := inv_gens hl4.all (hush_bare hl4.inv.bare)
    have r4 : s4 = undo (ownOf s4) (hush s4) := (undo_hush s4).symm
    have keep : ∀ {s7 : Shared}, Hid (ownOf s4) s7.gens → Sleeps X n gn Dd (L.drop (j + 1)) pn4 (undo (ownOf s4) s7) := fun {s7} hid => by
      obtain ⟨gs', c, t, fs, e, q⟩ := hz4
      rw [hgs] at e
      cases e
      exact ⟨gs, c, t, fs, undo_keeps hid hO, q⟩
    have hid4 := hush_hid s4
    generalize ownOf s4 = O at *
    have pass : ∀ {α : Type} {t : Sem α} {Q Q' : α → Shared → Prop} {s : Shared}, Hid O s.gens → wpAny (model X.prog X.w) X.A t Q X.xe s → (∀ r s1, Hid O s1.gens → Q r s1 → Q' r (undo O s1)) → wpAny (model X.prog X.w) X.A t Q' X.xe (undo O s) := fun hid h hq =>
      wpAny_undo hid h hq fun e s1 hid1 hx => hxu O e s1 hid1 hx
    rw [r4]
    refine wpAny_passesOwn hp (pass hid4 (hg.run _ _ σ3 H4 xv v _ I4 rv st) fun _ s5 hid5 ⟨σ5, H5, I5, q5⟩ => ?_)
    refine wpAny_passesOwn hp (pass hid5 (hb.run _ s5 σ5 H5 _ I5 q5) fun f s6 hid6 q6 => ?_)
    have q7 := sp_undo q6 hid6
    have un : ∀ {σ7 : L2.St} {H7 : Hp}, Inv X (pins ++ [(a, go)] ++ pn4) σ7 H7 (undo O s6) → Inv X pins σ7 H7 (undo O s6) := fun {σ7 H7} J => J.pins_of fun p hp => J.pin p (List.mem_append_right _ (List.mem_append_left _ (List.mem_append_left _ hp)))
    have again : ∀ {σ7 : L2.St} {H7 : Hp}, Inv X (pins ++ [(a, go)] ++ pn4) σ7 H7 (undo O s6) → W (j + 1) σ7 H7 → ∃ m, m < L.length - j ∧ ∃ j' σ' H' pn', m = L.length - j' ∧ j' ≤ L.length ∧ Held X pins n a gn go pn' σ' H' (undo O s6) ∧ Sleeps X n gn Dd (L.drop j') pn' (undo O s6) ∧ W j' σ' H' := fun {σ7 H7} I7 w7 =>
      ⟨L.length - (j + 1), by omega, j + 1, σ7, H7, pn4, rfl, hlt, hl4.of_all I7, keep hid6, w7⟩
    cases f with
    | next => obtain ⟨σ7, H7, I7, n7⟩ := q7; exact again I7 n7
    | cont => obtain ⟨σ7, H7, I7, n7⟩ := q7; exact again I7 n7
    | brk => obtain ⟨σ7, H7, I7, q7⟩ := q7; exact ⟨σ7, H7, un I7, q7⟩
    | ret v => obtain ⟨x7, σ7, H7, I7, r7, q7⟩ := q7; exact ⟨x7, σ7, H7, un I7, r7, q7⟩
  · have e : j = L.length := by omega
    subst e
    obtain ⟨d3, nx⟩ := done σ3 H3 w3
    rw [List.drop_length] at hz3
    refine thn (next_end hh hd hf hl3 hz3 d3) fun r s4 h4 => ?_
    obtain ⟨rfl, H4, sm, I4⟩ := h4
    exact wpAny_execs_nil ⟨σ3, H4, I4, nx H4 sm⟩
end
end Q

set_option maxRecDepth 100000
set_option maxHeartbeats 4000000
/-! A generator def: its call, its body's statements. -/
namespace Q
open PySem PySem.Spec PyProof.Rows L2 GenW
open PySem.W.X (SegX wake_any)
theorem cx_undo {P : Program} {w : World} {outer : List Env} {H : Hp} {s s' : Shared} {E : XK} {e : Value} {O : Own} (hi : Hid O s'.gens) (c : L2.CX P w outer H s E e s') : L2.CX P w outer H s E e (undo O s') := by
  obtain ⟨a, B, H', cls, d, h1, h2, h3, h4, h5, h6, h7, h8⟩ := c
  exact ⟨a, B, H', cls, d, h1, h2, h3, h4, h5, h6, undo_bare hi h7, h8⟩
theorem xu_cx {P : Program} {w : World} {K : PySem.W.Frag} {mg : Str → Option Value} {base : Heap} {N : List Str} {qual : Str} {scope : Scope} {f : Addr} {cd : Value} {A : Around} {outer : List Env} {s : Shared} {H : Hp} {E : XK} :
    XU (cxOf (L2.CX P w) P w K mg base N qual scope f cd A outer s H E) := fun O e s' hi x =>
  wpAny_undo hi x (fun _ s1 h1 c => cx_undo h1 c) fun _ s1 h1 c => cx_undo h1 c
/-! ### the call -/
abbrev SpX := List V → List Item → (Hp → Prop) → Prop
/-- what a call gives -/
def GxMade (P : Program) (w : World) (K : PySem.W.Frag) (mg : Str → Option Value) (base : Heap) (k : Nat) (outer : List Env) (s : Shared) (L : List Item) (D : Hp → Prop) (u : Value) (s' : Shared) : Prop :=
  ∃ (a : Addr) (g : Nat) (c : Code) (go oL : Obj), u = .ref a ∧ GenObj g go ∧ s'.heap.get? a = some go ∧ s.heap.objs.size < a ∧ s'.heap.get? s.heap.objs.size = some oL ∧ (∀ v, oL.data ≠ .cell v) ∧ s'.gens[g]? = some (.fresh c) ∧ s'.os = s.os ∧ AllBare s'.gens ∧
    (∀ b o, s.heap.get? b = some o → s'.heap.get? b = some o) ∧ ∀ A, Room k A → A.frames = some outer → Going P w K mg base A outer s.heap.objs.size D L [(s.heap.objs.size, oL)] c (denote table c) []
structure GFx (P : Program) (w : World) (K : PySem.W.Frag) (mg : Str → Option Value) (base : Heap) (k : Nat) (f : Addr) (fd : FuncData) (ps : List Str) (sp : SpX) : Prop where
  len : ∀ vs L D, sp vs L D → vs.length = ps.length
  run : ∀ (A : Around) (outer : List Env) (s : Shared) (H : Hp) (args : Args) (us : List Value) (vs : List V) (L : List Item) (D : Hp → Prop), Room k A → Env0 P w K mg base A outer s H → BindsTo s fd args (ps.zip us) → Vals vs us → sp vs L D →
    codeAny (model P w) A (.call (.ref f) args) (fun r s' => match r with | .ok (.ret u) => GxMade P w K mg base k outer s L D u s' | _ => False) s
/-- what a generator def's body is to show -/
def BodyX (P : Program) (w : World) (K : PySem.W.Frag) (mg : Str → Option Value) (base : Heap) (N : List Str) (qual : Str) (scope : Scope) (f : Addr) (body : List Stmt) (k : Nat) (sp : SpX) : Prop :=
  ∀ (cdv : Value) (A : Around) (outer : List Env) (n : Nat) (oL : Obj) (vs : List V) (L : List Item) (D : Hp → Prop), Room k (A.deeper (envOfC qual scope n f cdv)) → sp vs L D → base.objs.size ≤ n → (∀ b ∈ frs outer, b < n) →
    (∀ h : Heap, h.get? n = some oL → LocAt N scope n (start N vs) h) → (start N vs).length = N.length → Going P w K mg base A outer n D L [(n, oL)] (.func body (envOfC qual scope n f cdv)) (denote table (.func body (envOfC qual scope n f cdv))) []
theorem frs_lt {h base : Heap} : ∀ {l : List Env}, h.FunFrames base l → ∀ b ∈ frs l, b < h.objs.size
  | [], _, b, hb => nomatch hb
  | e :: l, ⟨_, ⟨L, o, h2, _, h4, _⟩, h6⟩, b, hb => by
    unfold frs at hb
    rw [List.filterMap_cons, h2] at hb
    rcases List.mem_cons.mp hb with z | z
    · rw [z]; exact Heap.lt_size h4
    · exact frs_lt h6 b z
theorem FunD.okX {P : Program} {w : World} {K : PySem.W.Frag} {mg : Str → Option Value} {base : Heap} {x qual : Str} {params : Arguments} {body : List Stmt} {scope : Scope} {dvs : List V} {kws : List (Str × V)} {f : Addr} {fd : FuncData} {N ps : List Str} {k : Nat} {sp : SpX}
    (F : FunD K x qual params body scope dvs kws f fd) (S : GScope N ps scope) (nc : NoCells scope) (len : ∀ vs L D, sp vs L D → vs.length = ps.length) (hbody : BodyX P w K mg base N qual scope f body k sp) : GFx P w K mg base (k + 1) f fd ps sp := by
  obtain ⟨oc, od, dV, kV, doc, pm, an, cdv, ct, osl, rfl, lk, hcd, _, _⟩ := F.ex
  refine ⟨len, fun A outer s H args us vs L D hr e0 hb r hsp => ?_⟩
  have hl := len _ _ _ hsp
  have KX : K.In s.heap := e0.mod.kin.keeps fun b o e => (e0.bs b o e).1
  have lim : s.heap.NoLimit := e0.mod.nolimit.keeps fun b o e => (e0.bs b o e).1
  have hkind : ∀ y ∈ ps.zip us, scope.names.lookup y.1 = some .local ∨ (scope.names.lookup y.1 = some .cell ∧ ((cellsFrom (s.heap.objs.size + 1) scope.names []).lookup y.1).isSome = true) := fun ⟨n, v⟩ hy => by
    rcases S.par n (List.of_mem_zip hy).1 with q | q
    · exact .inl q
    · exact .inr ⟨q, PySem.W.cellsFrom_some _ _ _ (.inl q)⟩
  refine codeAny_call_generator hr.depth (KX _ _ lk) rfl S.co S.gen rfl (PySem.W.codeRec_of KX hcd) (hb _ _ _ _ ?_)
  refine wpAny_newFunctionEnv_cells S.kind hkind fun env he s1 x => ?_
  subst he
  have lim1 : s1.heap.NoLimit := lim.keeps x.toInCall.keep
  refine ⟨lim1, ?_⟩
  have I1 : Inv (gcxOf P w K mg base N qual scope f cdv A outer s H (fun _ _ _ => False) []) [] (start N vs) H s1 := inv_startG S hr.hd e0 hl r x
  obtain ⟨h1, tk, es1, hk1⟩ := x.done
  have os1 : s1.os = s.os := by rw [es1]
  have gen1 : s1.gens = s.gens := by rw [es1]
  have lt1 : s.heap.objs.size < s1.heap.objs.size := x.toInCall.ns.lt
  have kp1 : ∀ b o, s.heap.get? b = some o → s1.heap.get? b = some o := x.toInCall.keep
  have locs : LocAt N scope s.heap.objs.size (start N vs) s1.heap := by
    obtain ⟨m, h1, h2⟩ := I1.loc
    refine ⟨m, h1, fun i y v e1 e2 e3 => ?_⟩
    obtain ⟨u, ru, q⟩ := h2 i y v e1 e2 e3
    refine ⟨u, ru, ?_⟩
    rcases q with q | ⟨q, _⟩
    · exact q
    · exact absurd q fun z => z.elim (fun y => (nc.none _).1 y) fun y => (nc.none _).2 y
  obtain ⟨oL, heL⟩ : ∃ oL, s1.heap.get? s.heap.objs.size = some oL := by
    obtain ⟨m, ⟨o, _, _, e, _⟩, _⟩ := locs
    exact ⟨o, e⟩
  have noc : ∀ v, oL.data ≠ .cell v := fun v z => by
    obtain ⟨m, ⟨o, es, ep, e, d, _⟩, _⟩ := locs
    rw [heL] at e
    cases e
    rw [z] at d
    cases d
  have mv : ∀ h : Heap, h.get? s.heap.objs.size = some oL → LocAt N scope s.heap.objs.size (start N vs) h := fun h e => by
    obtain ⟨m, ⟨o, es, ep, e', d⟩, h2⟩ := locs
    rw [heL] at e'
    cases e'
    exact ⟨m, ⟨oL, es, ep, e, d⟩, h2⟩
  have main : ∀ (go : Obj) (nm qn : Value) (tk2 : Nat), go.cls = .type "generator" → go.data = .fields #[.int s1.gens.size 0, nm, qn] → go.slots = #[] → (∀ h : Heap, (h.push go).get? h.objs.size = some go) →
      GxMade P w K mg base (k + 1) outer s L D (.ref s1.heap.objs.size) { s1 with gens := s1.gens.push (.fresh (.func body (envOfC qual scope s.heap.objs.size f cdv))), toks := tk2, heap := s1.heap.push go } := by
    intro go nm qn tk2 hgc hgd hgs hgp
    refine ⟨s1.heap.objs.size, s1.gens.size, _, go, oL, rfl, ⟨nm, qn, hgc, hgd, hgs⟩, hgp _, lt1, Heap.get?_push_of_some _ heL, noc, Array.getElem?_push_size .., os1, AllBare.push (by rw [gen1]; exact e0.bare) rfl, fun b o e => Heap.get?_push_of_some _ (kp1 b o e), fun Aw hrw hfr => ?_⟩
    exact hbody cdv Aw outer s.heap.objs.size oL vs L D (hrw.deeper _) hsp e0.bsz (frs_lt e0.funs) mv I1.len
  exact main _ _ _ _ rfl rfl rfl fun h => Heap.get?_push_size _ rfl
/-- a generator def by its name -/
structure CalX (P : Program) (w : World) (K : PySem.W.Frag) (mg : Str → Option Value) (base : Heap) (k : Nat) (x : Str) (ps : List Str) (dvs : List V) (sp : SpX) : Prop where
  ex : ∃ (f : Addr) (fd : FuncData) (ds : List Value), GFx P w K mg base k f fd ps sp ∧ mg x = some (.ref f) ∧ PySem.W.keepIn K (.ref f) = true ∧ Binds K fd ps ds ∧ Vals dvs ds
def tCalX (sp : SpX) (dvs : List V) (t : TA) : TGn := fun σ H cont => t σ H fun vs H1 => ∃ L D, sp (vs ++ dvs) L D ∧ cont L D H1
theorem pgn_cal {X : Cx} {k : Nat} {ps : List Str} {sp : SpX} {dvs : List V} {x : Str} {p pos : Pos} {e : Expr} {es : List Expr} {t : TA} (C : CalX X.prog X.w X.K X.mg X.base k x ps dvs sp) (hr : Room k X.A) (ha : PA X (e :: es) t) (hg : Gl X x := by rfl) (hdb : (x == ("__debug__" : Str)) = false := by decide)
    (he : starEach (e :: es) X.env = (false, eval e X.env) :: starEach es X.env := by rfl) (hpl : (backTo pos (starEach es X.env)).any (·.1) = false := by rfl) :
    PGn X k (.Call (.Name x p) (e :: es) [] pos) (tCalX sp dvs t) := by
  obtain ⟨f, fd, ds, G, hm, hk, hb, hd⟩ := C.ex
  refine ⟨fun pins s σ H cont I h => ?_⟩
  refine wpAny_Call_Name_kw (ld_glob I hg hm ?_ hdb)
  refine PySem.W.callWith_K (h₀ := X.base) I.ok.mod.kin hk (thn (ha.run pos pins s σ H _ I h) fun us s1 ⟨vs, H1, I1, r, L, D, q, ct⟩ => ⟨I1.kIn, ?_⟩) he hpl
  have r2 : Vals (vs ++ dvs) (us ++ ds) := r.append hd
  have hl2 : (us ++ ds).length = ps.length := by rw [← r2.length]; exact G.len _ _ _ q
  refine wpAny_call (codeAny_mono (G.run X.A X.stack s1 H1 ⟨us, []⟩ (us ++ ds) (vs ++ dvs) L D hr I1.env0 (hb s1 us I1.kIn hl2) r2 q) fun r s' hq => ?_)
  cases r with
  | error e => exact False.elim hq
  | ok fl =>
    cases fl with
    | ret u =>
      obtain ⟨a, g, c, go, oL, rfl, ob, ga, an, gL, nc, gg, os, bare, kp, go2⟩ := hq
      have J : Inv X pins σ H1 s' := I1.call' (ch := []) os (Un.kept kp) (I1.hok.kept kp) bare fun b z => by simp at z
      have yo : ∀ b, s1.heap.objs.size ≤ b → H1 b = none ∧ b ≠ X.env.locals ∧ b ∉ X.fs := fun b hb => ⟨I1.hok.fresh hb, Nat.ne_of_gt (Nat.lt_of_lt_of_le I1.lt hb), I1.nofs hb⟩
      refine ⟨H1, s1.heap.objs.size, a, g, go, [(s1.heap.objs.size, oL)], L, D, s1, rfl, ⟨I1, rfl, os, kp⟩, ⟨J.pins_of fun p hp => ?_, ob, Nat.le_of_lt an, fun p hp => ?_⟩, ⟨c, gg, go2⟩, ct⟩
      · rcases List.mem_append.mp hp with z | z
        · exact J.pin p (List.mem_append_right _ z)
        · rw [List.mem_singleton.mp z]
          obtain ⟨y1, y2, y3⟩ := yo a (Nat.le_of_lt an)
          obtain ⟨nm, qn, _, hd, _⟩ := ob
          exact ⟨ga, y1, y2, y3, fun v z => by rw [hd] at z; cases z⟩
      · rw [List.mem_singleton.mp hp]
        obtain ⟨f0, f1, f2, f3, f4, f5⟩ := I1.fpOk (H' := H1) (Nat.le_refl _) (yo _ (Nat.le_refl _)).1
        refine ⟨gL, ⟨f0, f1, f2, f3, f4, fun q hq => ?_⟩, Nat.le_refl _, nc⟩
        rcases List.mem_append.mp hq with y | y
        · exact f5 q (List.mem_append_left _ y)
        · rcases List.mem_append.mp y with y | y
          · exact f5 q (List.mem_append_right _ y)
          · rw [List.mem_singleton.mp y]
            exact Nat.ne_of_gt an
    | next => exact False.elim hq
    | brk => exact False.elim hq
    | cont => exact False.elim hq
/-! ### the body's statements, within a turn -/
section
variable {X : Cx} {A : Around} {c : Code} {fs : List Frame} {P : End → Shared → Prop} {s : Shared} {pins : List (Addr × Obj)} {σ : L2.St} {H : Hp} {K : Flow → Sem PySem.Fin} {J : Value → Sem PySem.Fin} {gd : Bool → Bool} {lv : List Value → List Value}
theorem sx_ps {st : Stmt} {t : TS} (h : PS X st t) (I : Inv X pins σ H s) (Nx : L2.St → Hp → Prop) (q : t { nx := Nx, rt := fun _ _ => False } σ H) (over : A.over c fs = X.A) (hxe : ∀ e s, ¬ X.xe e s)
    (k : ∀ s' σ' H', Inv X pins σ' H' s' → Nx σ' H' → SegX (model X.prog X.w) A c (K .next) fs s' P) : SegX (model X.prog X.w) A c ((exec st X.env).wrap K J gd lv) fs s P := by
  refine sx_wrap ?_
  rw [over]
  refine wpAny_mono (h.run pins s σ H _ I q) (fun f s' hs => ?_) fun e s' hx => absurd hx (hxe e s')
  cases f with
  | next => obtain ⟨σ', H', I', n'⟩ := hs; exact k s' σ' H' I' n'
  | brk => obtain ⟨_, _, _, q⟩ := hs; exact False.elim q
  | cont => obtain ⟨_, _, _, q⟩ := hs; exact False.elim q
  | ret v => obtain ⟨_, _, _, _, _, q⟩ := hs; exact False.elim q
theorem sx_pss {st : List Stmt} {t : TS} (h : PSs X st t) (I : Inv X pins σ H s) (Nx : L2.St → Hp → Prop) (q : t { nx := Nx, rt := fun _ _ => False } σ H) (over : A.over c fs = X.A) (hxe : ∀ e s, ¬ X.xe e s)
    (k : ∀ s' σ' H', Inv X pins σ' H' s' → Nx σ' H' → SegX (model X.prog X.w) A c (K .next) fs s' P) : SegX (model X.prog X.w) A c ((execs st X.env).wrap K J gd lv) fs s P := by
  refine sx_wrap ?_
  rw [over]
  refine wpAny_mono (h.run pins s σ H _ I q) (fun f s' hs => ?_) fun e s' hx => absurd hx (hxe e s')
  cases f with
  | next => obtain ⟨σ', H', I', n'⟩ := hs; exact k s' σ' H' I' n'
  | brk => obtain ⟨_, _, _, q⟩ := hs; exact False.elim q
  | cont => obtain ⟨_, _, _, q⟩ := hs; exact False.elim q
  | ret v => obtain ⟨_, _, _, _, _, q⟩ := hs; exact False.elim q
end
end Q

set_option maxRecDepth 100000
set_option maxHeartbeats 4000000
/-! The points of a box, in ascending order. -/
namespace Q
/-- lo, lo + 1, .. below hi -/
def upTo (lo hi : Int) : List Int := (List.range (hi - lo).toNat).map fun (k : Nat) => lo + (k : Int)
def spots : List Int → List Int → List (List Int)
  | l :: ls, h :: hs => (upTo l h).flatMap fun v => (spots ls hs).map (v :: ·)
  | _, _ => [[]]
/-- those behind pt -/
def after : List Int → List Int → List Int → List (List Int)
  | _ :: ls, h :: hs, p :: pt => (after ls hs pt).map (p :: ·) ++ (upTo (p + 1) h).flatMap fun v => (spots ls hs).map (v :: ·)
  | _, _, _ => []
/-- the next one -/
def succ : List Int → List Int → List Int → Option (List Int)
  | _ :: ls, h :: hs, p :: pt => match succ ls hs pt with
    | some q => some (p :: q)
    | none => if p + 1 < h then some ((p + 1) :: ls) else none
  | _, _, _ => none
/-- a point within -/
inductive Within : List Int → List Int → List Int → Prop
  | nil : Within [] [] []
  | cons {l h p : Int} {ls hs pt : List Int} (a : l ≤ p) (b : p < h) (r : Within ls hs pt) : Within (l :: ls) (h :: hs) (p :: pt)
theorem upTo_cons {lo hi : Int} (h : lo < hi) : upTo lo hi = lo :: upTo (lo + 1) hi := by
  unfold upTo
  obtain ⟨n, e⟩ : ∃ n : Nat, (hi - lo).toNat = n + 1 := ⟨(hi - lo).toNat - 1, by omega⟩
  have e2 : (hi - (lo + 1)).toNat = n := by omega
  rw [e, e2, List.range_succ_eq_map, List.map_cons, List.map_map]
  congr 1
  · simp
  · apply List.map_congr_left
    intro k _
    show lo + ((k + 1 : Nat) : Int) = lo + 1 + (k : Int)
    omega
theorem upTo_nil {lo hi : Int} (h : hi ≤ lo) : upTo lo hi = [] := by
  unfold upTo
  rw [show (hi - lo).toNat = 0 by omega]
  rfl
theorem Within.low : ∀ {ls hs pt : List Int}, Within ls hs pt → Within ls hs ls
  | _, _, _, .nil => .nil
  | _, _, _, .cons a b r => .cons (Int.le_refl _) (by omega) r.low
theorem Within.length {ls hs pt : List Int} (h : Within ls hs pt) : hs.length = ls.length ∧ pt.length = ls.length := by
  induction h with
  | nil => exact ⟨rfl, rfl⟩
  | cons _ _ _ ih => exact ⟨by rw [List.length_cons, List.length_cons, ih.1], by rw [List.length_cons, List.length_cons, ih.2]⟩
theorem spots_low : ∀ {ls hs pt : List Int}, Within ls hs pt → spots ls hs = ls :: after ls hs ls
  | _, _, _, .nil => rfl
  | l :: ls, h :: hs, _, .cons a b r => by
    show (upTo l h).flatMap _ = _
    rw [upTo_cons (by omega), List.flatMap_cons]
    exact congrArg (fun z => z.map (l :: ·) ++ (upTo (l + 1) h).flatMap fun v => (spots ls hs).map (v :: ·)) (spots_low r)
theorem succ_in : ∀ {ls hs pt q : List Int}, Within ls hs pt → succ ls hs pt = some q → Within ls hs q
  | _, _, _, _, .nil, e => by cases e
  | l :: ls, h :: hs, p :: pt, q, .cons a b r, e => by
    unfold succ at e
    cases z : succ ls hs pt with
    | some q' =>
      rw [z] at e
      cases e
      exact .cons a b (succ_in r z)
    | none =>
      rw [z] at e
      have e : (if p + 1 < h then some ((p + 1) :: ls) else none) = some q := e
      split at e
      · cases e
        exact .cons (by omega) (by assumption) r.low
      · cases e
theorem after_eq : ∀ {ls hs pt : List Int}, Within ls hs pt → after ls hs pt = match succ ls hs pt with | some q => q :: after ls hs q | none => []
  | _, _, _, .nil => rfl
  | l :: ls, h :: hs, p :: pt, .cons a b r => by
    have ih := after_eq r
    show (after ls hs pt).map (p :: ·) ++ (upTo (p + 1) h).flatMap (fun v => (spots ls hs).map (v :: ·)) = _
    unfold succ
    cases z : succ ls hs pt with
    | some q =>
      rw [z] at ih
      have ih : after ls hs pt = q :: after ls hs q := ih
      rw [ih]
      rfl
    | none =>
      rw [z] at ih
      have ih : after ls hs pt = [] := ih
      rw [ih]
      show [] ++ _ = match (if p + 1 < h then some ((p + 1) :: ls) else none) with | some q => q :: after (l :: ls) (h :: hs) q | none => []
      by_cases c : p + 1 < h
      · rw [if_pos c, upTo_cons c, List.flatMap_cons]
        exact congrArg (fun z => z.map ((p + 1) :: ·) ++ (upTo (p + 1 + 1) h).flatMap fun v => (spots ls hs).map (v :: ·)) (spots_low r)
      · rw [if_neg c, upTo_nil (by omega)]
        rfl
/-! ### by columns, from the right -/
theorem succ_step {ls hs pt : List Int} (h1 : hs.length = ls.length) (h2 : pt.length = ls.length) {c : Nat} (hc : c < ls.length) :
    succ (ls.drop c) (hs.drop c) (pt.drop c) = match succ (ls.drop (c + 1)) (hs.drop (c + 1)) (pt.drop (c + 1)) with
      | some q => some (pt.getD c 0 :: q)
      | none => if pt.getD c 0 + 1 < hs.getD c 0 then some ((pt.getD c 0 + 1) :: ls.drop (c + 1)) else none := by
  have l1 : c < hs.length := by omega
  have l2 : c < pt.length := by omega
  have e1 : pt.getD c 0 = pt[c] := by rw [List.getD_eq_getElem?_getD, List.getElem?_eq_getElem l2]; rfl
  have e2 : hs.getD c 0 = hs[c] := by rw [List.getD_eq_getElem?_getD, List.getElem?_eq_getElem l1]; rfl
  rw [e1, e2, List.drop_eq_getElem_cons hc, List.drop_eq_getElem_cons l1, List.drop_eq_getElem_cons l2]
  rfl
theorem succ_up {ls hs pt : List Int} (h1 : hs.length = ls.length) (h2 : pt.length = ls.length) : ∀ {c : Nat} {q : List Int}, c ≤ ls.length → succ (ls.drop c) (hs.drop c) (pt.drop c) = some q → succ ls hs pt = some (pt.take c ++ q)
  | 0, q, _, e => e
  | c + 1, q, hc, e => by
    have l2 : c < pt.length := by omega
    have e1 : pt.getD c 0 = pt[c] := by rw [List.getD_eq_getElem?_getD, List.getElem?_eq_getElem l2]; rfl
    have z := succ_step h1 h2 (c := c) (by omega)
    rw [e] at z
    have z : succ (ls.drop c) (hs.drop c) (pt.drop c) = some (pt.getD c 0 :: q) := z
    have y := succ_up h1 h2 (by omega) z
    rw [y, e1, List.take_succ_eq_append_getElem l2, List.append_assoc]
    rfl
theorem within_get {ls hs pt : List Int} (h : Within ls hs pt) : ∀ {c : Nat}, c < ls.length → ls.getD c 0 ≤ pt.getD c 0 ∧ pt.getD c 0 < hs.getD c 0 := by
  induction h with
  | nil => intro c hc; exact absurd hc (Nat.not_lt_zero _)
  | cons a b r ih =>
    intro c hc
    cases c with
    | zero => exact ⟨a, b⟩
    | succ c => exact ih (by rw [List.length_cons] at hc; omega)
/-- the point while column c is looked at: all behind it is set back -/
def turned (ls pt : List Int) (c : Nat) : List Int := pt.take c ++ ls.drop c
theorem turned_length {ls pt : List Int} {c : Nat} (h : pt.length = ls.length) : (turned ls pt c).length = ls.length := by
  unfold turned
  rw [List.length_append, List.length_take, List.length_drop]
  omega
theorem turned_all {ls pt : List Int} (h : pt.length = ls.length) : turned ls pt ls.length = pt := by
  unfold turned
  rw [List.drop_length, List.append_nil, ← h, List.take_length]
theorem turned_at {ls pt : List Int} {c : Nat} (h : pt.length = ls.length) (hc : c < ls.length) : (turned ls pt (c + 1))[c]? = some (pt.getD c 0) := by
  have l2 : c < pt.length := by omega
  unfold turned
  rw [List.getElem?_append_left (by rw [List.length_take]; omega), List.getElem?_take_of_lt (by omega), List.getElem?_eq_getElem l2, List.getD_eq_getElem?_getD, List.getElem?_eq_getElem l2]
  rfl
theorem turned_set {ls pt : List Int} {c : Nat} {v : Int} (h : pt.length = ls.length) (hc : c < ls.length) : (turned ls pt (c + 1)).set c v = pt.take c ++ v :: ls.drop (c + 1) := by
  have l2 : c < pt.length := by omega
  unfold turned
  rw [List.take_succ_eq_append_getElem l2, List.append_assoc, List.set_append_right _ _ (by rw [List.length_take]; omega)]
  rw [List.length_take, show c - min c pt.length = 0 by omega]
  rfl
theorem turned_back {ls pt : List Int} {c : Nat} (h : pt.length = ls.length) (hc : c < ls.length) : (turned ls pt (c + 1)).set c (ls.getD c 0) = turned ls pt c := by
  rw [turned_set h hc]
  unfold turned
  rw [List.drop_eq_getElem_cons hc, List.getD_eq_getElem?_getD, List.getElem?_eq_getElem hc]
  rfl
end Q

set_option maxRecDepth 100000
set_option maxHeartbeats 4000000
/-! Texts repeated, great powers. -/
namespace Q
open PySem PySem.Spec PyProof.Rows L2
def rMulS : R2 := fun x y H Q => ∃ a n, x = .str a ∧ y = .int n ∧ MulOk a n ∧ Q (.str (Txt.mul a n)) H
theorem op_mulS {X : Cx} : OpR X (binaryOp .Mult) rMulS := by
  intro pins s σ H x y v u Q I rx ry h
  obtain ⟨a, n, rfl, rfl, hm, q⟩ := h
  obtain ⟨t, rfl⟩ := rx
  obtain ⟨t2, rfl⟩ := ry
  exact SB.mul hm fun t' k => ⟨.str _, H, I.tok _, ⟨_, rfl⟩, q⟩
theorem mul_len (x : Str) {n : Int} (h : 1 ≤ n) : (Txt.mul x n).length ≤ x.length * n.toNat := by
  unfold Txt.mul
  rw [if_neg (by omega)]
  split
  · exact Nat.le_mul_of_pos_right _ (by omega)
  · have e : ∀ (k : Nat) (acc : Array Nat), ((List.replicate k x.cps).foldl (· ++ ·) acc).size = acc.size + x.cps.size * k := by
      intro k
      induction k with
      | zero => intro acc; rfl
      | succ k ih =>
        intro acc
        rw [List.replicate_succ, List.foldl_cons, ih, Array.size_append, Nat.mul_succ]
        omega
    show ((List.replicate n.toNat x.cps).foldl (· ++ ·) #[]).size ≤ _
    rw [e]
    show 0 + _ ≤ _
    rw [Nat.zero_add]
    exact Nat.le_refl _
theorem op_powW {X : Cx} : OpR X (binaryOp .Pow) (rI (fun i j => 0 ≤ j ∧ (Builtin.Int.intBits i : Int) * j ≤ 2 ^ 27) fun i j => .int (i ^ j.toNat)) := opI fun _ _ _ _ _ _ _ hc q => pow_int hc.1 hc.2 q
/-- a power whose value is told -/
theorem op_powR {X : Cx} : OpR X (binaryOp .Pow) (fun x y H Q => ∃ i j r, x = .int i ∧ y = .int j ∧ (0 ≤ j ∧ (Builtin.Int.intBits i : Int) * j ≤ 2 ^ 27) ∧ i ^ j.toNat = r ∧ Q (.int r) H) := by
  intro pins s σ H x y v u Q I rx ry h
  obtain ⟨i, j, r, rfl, rfl, hc, rfl, q⟩ := h
  exact op_powW pins s σ H _ _ v u Q I rx ry ⟨i, j, rfl, rfl, hc, q⟩
end Q

set_option maxRecDepth 100000
set_option maxHeartbeats 4000000
/-! == and != of a class of one's own with __eq__ (either answer). -/
namespace Q
open PySem PySem.Spec PyProof.Rows L2
section
variable {prog : Program} {w : World} {A : Around} {E : Value → Shared → Prop} {s : Shared} {K : PySem.W.Frag} {x y C f : Addr} {ox : Obj} {od : Option Obj}
theorem ifBound_blt {M : Model} {id : String} {name : Str} {args : List Value} {Q : Option Value → Shared → Prop} (X : K.In s.heap) (I : PySem.W.InstAt s.heap x ox C od) (hs : PySem.W.findIn K (.ref C) name = some (some (.builtin id)))
    (hb : bindSpecial (.builtin id) (.ref x) = pure (.builtin id, [.ref x])) (h : wpAny M A (call (.builtin id) (.ref x :: args)) (fun v => Q (some v)) E s) : wpAny M A (callSpecialIfBound? (.ref x) name args) Q E s := by
  simp only [callSpecialIfBound?, bindSpecialIfBound?]
  refine wpAny_holding (wpAny_bind (wpAny_bind (wpAny_bind (I.type.here ((PySem.W.looks_findIn X hs).here ?_)))))
  refine wpAny_bind (wpAny_askSetting (wpAny_ite ?_))
  have fin : wpAny M A (call (.builtin id) ([.ref x] ++ args) >>= fun v => pure (some v)) Q E s := wpAny_bind (wpAny_mono h (fun v s' h' => wpAny_pure h') fun _ _ h' => h')
  rw [hb]
  split
  · exact wpAny_bind (wpAny_pure (wpAny_pure (by exact fin)))
  · exact wpAny_tryCatch (wpAny_bind (wpAny_pure (wpAny_pure (by exact fin))))
theorem ne_body {Q : PySem.Fin → Shared → Prop} (X : K.In s.heap) (I : PySem.W.InstAt s.heap x ox C od) (hs : PySem.W.findIn K (.ref C) "__eq__" = some (some (.ref f))) (hf : PySem.W.isFn K (.ref f) = true) (hu : A.units < cLine)
    (hcall : wpAny (model prog w) A (call (.ref f) [.ref x, .ref y]) (fun v s' => ∃ b, v = .bool b ∧ Q (.done (.ret (.bool (!b)))) s') E s) : wpAny (model prog w) A (Builtin.«object.__ne__» ⟨[.ref x, .ref y], []⟩) Q E s := by
  obtain ⟨h, g, d, t, os⟩ := s
  unfold Builtin.«object.__ne__»
  repeat (first
    | with_reducible refine wpAny_cRoomFor hu ?_
    | (refine wpAny_bind (m := callSpecialIfBound? (.ref x) (Str.ofString "__eq__") [.ref y])
        (PySem.W.ifBound_K X I hs hf (wpAny_mono hcall (fun r s' hr => by
          obtain ⟨b, rfl, hq⟩ := hr
          repeat (first | exact hq | exact wpAny_pure hq | exact wpAny_truthy_bool hq | (refine wpAny_bind (m := truthy (.bool _)) (wpAny_truthy_bool ?_)) | wp_step)) fun _ _ e => e)))
    | wp_step)
end
/-- what such a comparison wants -/
def rOwnEq (C : Addr) (sp : Sp) (E : XK) (flip : Bool) : R2 := fun x y H Q => ∃ a b dx dy fs gs, x = .ref a ∧ y = .ref b ∧ H a = some (.ins C dx fs) ∧ H b = some (.ins C dy gs) ∧ sp [.ref a, .ref b] H (fun v H' => ∃ r, v = .bl r ∧ Q (.bl (if flip then !r else r)) H') E
section
variable {X : Cx} {CX : CXT} {k : Nat} {C f : Addr} {fd : FuncData} {ps : List Str} {sp : Sp} {E : XK}
theorem op_eqO (F : FnOk X.prog X.w X.K X.mg X.base CX k f fd ps sp) (hr : Room k X.A) (hs : PySem.W.findIn X.K (.ref C) "__eq__" = some (some (.ref f))) (hf : PySem.W.isFn X.K (.ref f) = true) (hb : Binds X.K fd ps []) (hx : Passes CX X E) :
    OpR X (compareOp .Eq) (rOwnEq C sp E false) := by
  intro pins s σ H x y v u Q I rx ry h
  obtain ⟨a, b, dx, dy, fs, gs, rfl, rfl, ha, hb', q⟩ := h
  cases rx
  cases ry
  obtain ⟨mA, J, _⟩ := ins_get I.hok ha
  obtain ⟨mB, J', _⟩ := ins_get I.hok hb'
  obtain ⟨od, J, _⟩ := J.look
  obtain ⟨od', J', _⟩ := J'.look
  obtain ⟨m, hF⟩ := I.fr
  show wpAny (model X.prog X.w) X.A (richCompare .Eq (.ref a) (.ref b)) (EP X pins σ Q) X.xe s
  refine PySem.W.cmp_K (op := .Eq) (tb := .ref C) hr.units0 hF I.ok.mod.kin J J'.type (by simp [PySem.W.notFirst]) hs hf ?_
  refine wpAny_mono (run_fn (us := [.ref a, .ref b]) (vs := [.ref a, .ref b]) (dvs := []) (ds := []) F hr hb .nil hx I (.cons rfl (.cons rfl .nil)) q) (fun w s' hw => ?_) fun _ _ z => z
  obtain ⟨z, H', I', rz, r, rfl, qq⟩ := hw
  cases rz
  exact ⟨.bl r, H', I', rfl, qq⟩
theorem op_neO (F : FnOk X.prog X.w X.K X.mg X.base CX k f fd ps sp) (hr : Room (k + 1) X.A) (hs : PySem.W.findIn X.K (.ref C) "__eq__" = some (some (.ref f))) (hn : PySem.W.findIn X.K (.ref C) "__ne__" = some (some (.builtin "object.__ne__"))) (ho : PySem.W.subIn X.K (.ref C) (.type "object") = some true)
    (hf : PySem.W.isFn X.K (.ref f) = true) (hb : Binds X.K fd ps []) (hx : Passes CX X E) : OpR X (compareOp .NotEq) (rOwnEq C sp E true) := by
  intro pins s σ H x y v u Q I rx ry h
  obtain ⟨a, b, dx, dy, fs, gs, rfl, rfl, ha, hb', q⟩ := h
  cases rx
  cases ry
  obtain ⟨mA, J, _⟩ := ins_get I.hok ha
  obtain ⟨mB, J', _⟩ := ins_get I.hok hb'
  obtain ⟨od, J, _⟩ := J.look
  obtain ⟨od', J', _⟩ := J'.look
  show wpAny (model X.prog X.w) X.A (richCompare .NotEq (.ref a) (.ref b)) (EP X pins σ Q) X.xe s
  unfold richCompare
  simp only [oneThing_ref]
  refine wpAny_holding (wpAny_bind (wpAny_cRoomFor hr.units0 ?_))
  rw [cmpInfo_NotEq]
  dsimp only
  refine wpAny_bind (J.type.here (wpAny_bind (J'.type.here ?_)))
  have e1 : ((Value.ref C) != (Value.ref C)) = false := by simp
  rw [e1]
  simp only [Bool.false_eq_true, if_false]
  refine wpAny_bind (wpAny_pure ?_)
  simp only [Bool.false_eq_true, if_false]
  refine wpAny_bind (m := tryCompare (.ref a) (Str.ofString "__ne__") (.ref b)) ?_
  unfold tryCompare
  refine wpAny_bind (ifBound_blt I.kIn J hn (PySem.F.cmp_object.ne.bind _) ?_)
  refine wpAny_call (codeAny_call_builtin PySem.F.cmp_object.ne.plain PySem.F.cmpEntry_ne (PySem.W.check_slot PySem.F.cmpKind_ne PySem.F.cmpSplit_ne (J.type.andThen (PySem.W.looks_subIn I.kIn ho)) (PySem.F.cmpArgs_ne _ _) ?_))
  refine ne_body I.kIn J hs hf (by have := hr.un; show X.A.units + 1 < _; omega) ?_
  have hl := F.len _ _ _ _ q
  have bn := hb s [.ref a, .ref b] I.kIn (by simpa using hl)
  have rr : Room k X.A.in1 := ⟨hr.hd, by have := hr.dp; show X.A.depth + 3 * k + 5 < _; omega, by have := hr.un; show X.A.units + 1 + 16 * k + 200 < _; omega⟩
  refine wpAny_call (codeAny_mono (F.run X.A.in1 X.stack s H ⟨[.ref a, .ref b], []⟩ [.ref a, .ref b] [.ref a, .ref b] _ E rr I.env0.in1 (by simpa using bn) (.cons rfl (.cons rfl .nil)) q) fun r s' hq => ?_)
  cases r with
  | error e => exact hx pins σ H s e s' I hq
  | ok fl =>
    cases fl with
    | ret w =>
      obtain ⟨z, H', I', rz, r, rfl, qq⟩ := I.after hq
      cases rz
      exact ⟨r, rfl, wpAny_pure (wpAny_pure ⟨.bl (!r), H', I', rfl, qq⟩)⟩
    | next => exact False.elim hq
    | brk => exact False.elim hq
    | cont => exact False.elim hq
end
/-! ### cls(..), the class in a local -/
def tMakeL (i : Nat) (C : Addr) (sp : Sp) (dvs : List V) (E : XK) (t : TA) : TE := fun σ H Q => σ[i]? = some (some (.ref C)) ∧ t σ H fun vs H1 => ∀ x dx, H1 x = none → H1 dx = none → dx ≠ x →
  sp (.ref x :: (vs ++ dvs)) (upd (upd H1 dx (.own x)) x (.ins C dx [])) (fun v H2 => v = .non ∧ Q (.ref x) H2) E
theorem pe_makeL {X : Cx} {CX : CXT} {k i : Nat} {C f : Addr} {fd : FuncData} {ps : List Str} {sp : Sp} {dvs : List V} {ds : List Value} {E : XK} {x : Str} {p pos : Pos} {e : Expr} {es : List Expr} {t : TA} (M : Mk X.K C f) (F : FnOk X.prog X.w X.K X.mg X.base CX k f fd ps sp) (hr : Room (k + 1) X.A) (hN : X.N[i]? = some x) (hv : Vis X.env.scope x) (hb : Binds X.K fd ps ds) (hd : Vals dvs ds) (hx : Passes CX X E) (ha : PA X (e :: es) t)
    (hdb : (x == ("__debug__" : Str)) = false := by decide) (hcd : (x == ("__classdict__" : Str)) = false := by decide)
    (he : starEach (e :: es) X.env = (false, eval e X.env) :: starEach es X.env := by rfl) (hpl : (backTo pos (starEach es X.env)).any (·.1) = false := by rfl) : PE X (.Call (.Name x p) (e :: es) [] pos) (tMakeL i C sp dvs E t) := by
  refine ⟨fun pins s σ H Q I h => ?_⟩
  obtain ⟨hs, ht⟩ := h
  refine wpAny_Call_Name_kw (thn ((pe_var (pos := p) hN hv hdb hcd).run pins s σ H (fun v H1 => v = .ref C ∧ H1 = H) I ⟨.ref C, hs, rfl, rfl⟩) fun u s1 ⟨v, H1, I1, r1, q1⟩ => ?_)
  obtain ⟨rfl, rfl⟩ := q1
  cases r1
  refine PySem.W.callWith_K (h₀ := X.base) I.ok.mod.kin M.kp (thn (ha.run pos pins s1 σ _ _ I1 ht) fun us s2 ⟨vs, H2, I2, r, q⟩ => ⟨I2.kIn, ?_⟩) he hpl
  exact run_make M F hr hb hd hx I2 r q
end Q

set_option maxRecDepth 100000
set_option maxHeartbeats 4000000
/-! Facts of the top with classmethods: the defs' places as functions of K. -/
namespace Q
open PySem PySem.Spec PyProof.Rows L2
open PySem.W
def obsE (fb : Frag → Bool) (fn : List He5.DefA) (K : Frag) : He.AlD := (fb K && fn.all fun d => d.ok K, fn.map fun d => He5.fnA K (d.at_ K))
def SaysE (fb : Frag → Bool) (fn : List He5.DefA) (K : Frag) : Prop := obsE fb fn K = He5.valA fn
def obsEG (n : Nat) (fb : Frag → Bool) (fn : List He5.DefA) (g : Addr → Option Obj) : He.AlD := obsE fb fn (He.frG g (He5.asA g n))
def hookE (n : Nat) (fb : Frag → Bool) (fn : List He5.DefA) : Hook where
  α := He.AlD
  obs := fun s => obsEG n fb fn s.heap.get?
  val := fun _ => He5.valA fn
  says := fun _ h => ∃ K : Frag, K.In h ∧ SaysE fb fn K
  of := fun _ _ e => ⟨_, He.frG_in, e⟩
  keeps := fun _ _ _ ⟨K, inK, c⟩ k => ⟨K, Frag.In.keeps inK k, c⟩
theorem obsEG_eq {n : Nat} {fb : Frag → Bool} {fn : List He5.DefA} {g : Addr → Option Obj} {s : Shared} (h : ∀ a, g a = s.heap.get? a) : obsEG n fb fn g = (hookE n fb fn).obs s := by
  obtain rfl : g = s.heap.get? := funext h
  rfl
theorem SaysE.all {fb : Frag → Bool} {fn : List He5.DefA} {K : Frag} (c : SaysE fb fn K) : fb K = true ∧ ∀ d ∈ fn, d.ok K = true := by
  have z : (fb K && fn.all fun d => d.ok K) = true := congrArg (fun z : He.AlD => z.1) c
  exact ⟨(Bool.and_eq_true_iff.mp z).1, List.all_eq_true.mp (Bool.and_eq_true_iff.mp z).2⟩
theorem SaysE.def_ {fb : Frag → Bool} {fn : List He5.DefA} {K : Frag} (c : SaysE fb fn K) {d : He5.DefA} (h : d ∈ fn) : ∃ fd, FunD K d.name d.qual d.params d.body d.scope (d.dvs K) (d.kws K) (d.at_ K) fd := by
  have e : fn.map (fun d => He5.fnA K (d.at_ K)) = fn.map He5.DefA.val := congrArg (fun z : He.AlD => z.2) c
  exact He5.DefA.funD (List.map_inj_left.mp e d h) (c.all.2 d h)
theorem cread_ok {K : Frag} {C : Addr} (h : (readsIn K C (.type "type") && decide (specialIn K (.ref C) "__getattribute__" = some (some (.builtin "type.__getattribute__")))) = true) : ClX.CRead K C (.type "type") :=
  ⟨(He.ba h).1, of_decide_eq_true (He.ba h).2⟩
theorem cmet_ok {K : Frag} {C : Addr} {m : Str} (h : (He5.wrapB K C "classmethod" "classmethod.__get__" m && fnIn K (He5.wf K C "classmethod" m)) = true) : ClX.CMet K C (.type "type") m (He.ma K C m) (He5.wf K C "classmethod" m) :=
  He5.cmet_of (He.ba h).1 (He.ba h).2
/-- a class with an own __eq__ and no __ne__ -/
structure OwnEq (K : Frag) (C f : Addr) : Prop where
  eq : findIn K (.ref C) "__eq__" = some (some (.ref f))
  fn : isFn K (.ref f) = true
  ne : findIn K (.ref C) "__ne__" = some (some (.builtin "object.__ne__"))
  ob : subIn K (.ref C) (.type "object") = some true
theorem owneq_ok {K : Frag} {C f : Addr} (h : (decide (findIn K (.ref C) "__eq__" = some (some (.ref f))) && (isFn K (.ref f) && (decide (findIn K (.ref C) "__ne__" = some (some (.builtin "object.__ne__"))) && decide (subIn K (.ref C) (.type "object") = some true)))) = true) : OwnEq K C f := by
  obtain ⟨a, h⟩ := He.ba h
  obtain ⟨b, h⟩ := He.ba h
  obtain ⟨c, d⟩ := He.ba h
  exact ⟨of_decide_eq_true a, b, of_decide_eq_true c, of_decide_eq_true d⟩
/-- isinstance may be asked of an instance -/
structure InsF (K : Frag) (C : Addr) : Prop where
  ha : findIn K (.ref C) "__class__" = some (some (.builtin "object.__class__"))
  hn : specialIn K (.builtin "object.__class__") "__get__" = some (some (.builtin "getset_descriptor.__get__"))
  htk : takesIn K (.builtin "object.__class__") = some true
  hm : mroIn K C (.type "object") = some true
theorem insf_ok {K : Frag} {C : Addr} (h : (decide (findIn K (.ref C) "__class__" = some (some (.builtin "object.__class__"))) && (decide (specialIn K (.builtin "object.__class__") "__get__" = some (some (.builtin "getset_descriptor.__get__"))) && (decide (takesIn K (.builtin "object.__class__") = some true) && decide (mroIn K C (.type "object") = some true)))) = true) : InsF K C := by
  obtain ⟨a, h⟩ := He.ba h
  obtain ⟨b, h⟩ := He.ba h
  obtain ⟨c, d⟩ := He.ba h
  exact ⟨of_decide_eq_true a, of_decide_eq_true b, of_decide_eq_true c, of_decide_eq_true d⟩
theorem InsF.ty {K : Frag} {C a dx : Addr} {H : Hp} {fs : List (Str × V)} (i : InsF K C) (cl : Cls K C) (e : H a = some (.ins C dx fs)) : TyX K H (.ref a) (.ref C) := .base (.ins e cl i.ha i.hn i.htk i.hm)
end Q

set_option maxRecDepth 100000
set_option maxHeartbeats 4000000
namespace K00
open PySem PySem.Spec PyProof.Rows L2 Q
def topS (i : Nat) : Stmt := PySem.Challenge.pw_fewfetches_k00_boxes_by_their_points.main.body.getD i (.Pass ⟨0, 0, 0, 0⟩)
abbrev FnP (K : PySem.W.Frag) (x qual : Str) (st : Stmt) (dvs : List V) (f : Addr) (fd : FuncData) : Prop := FunD K x qual (defArgs st) (defBody st) (defScope st) dvs [] f fd
abbrev s_BadBox___init__ : Stmt := inClass (topS 2) 0
theorem sc_BadBox___init__ : FnScope ["self", "what", "at"] ["self", "what", "at"] (defScope s_BadBox___init__) := ⟨rfl, rfl, rfl, by decide +kernel, rfl, by decide +kernel, by decide +kernel⟩
abbrev s_BadColumn___init__ : Stmt := inClass (topS 4) 0
theorem sc_BadColumn___init__ : FnScope ["self", "column"] ["self", "column"] (defScope s_BadColumn___init__) := ⟨rfl, rfl, rfl, by decide +kernel, rfl, by decide +kernel, by decide +kernel⟩
abbrev s_is_whole : Stmt := topS 6
theorem sc_is_whole : FnScope ["thing", "low", "high"] ["thing", "low", "high"] (defScope s_is_whole) := ⟨rfl, rfl, rfl, by decide +kernel, rfl, by decide +kernel, by decide +kernel⟩
abbrev s_whole_box : Stmt := topS 10
theorem sc_whole_box : FnScope ["widths", "width"] ["widths"] (defScope s_whole_box) := ⟨rfl, rfl, rfl, by decide +kernel, rfl, by decide +kernel, by decide +kernel⟩
abbrev s_points_of : Stmt := topS 11
theorem sc_points_of : GScope ["box", "point", "going", "column"] ["box"] (defScope s_points_of) := ⟨rfl, rfl, rfl, by decide +kernel, rfl, by decide +kernel, by decide +kernel⟩
abbrev s_check_like : Stmt := topS 12
theorem sc_check_like : FnScope ["one", "other"] ["one", "other"] (defScope s_check_like) := ⟨rfl, rfl, rfl, by decide +kernel, rfl, by decide +kernel, by decide +kernel⟩
abbrev s_meet_boxes : Stmt := topS 13
theorem sc_meet_boxes : FnScope ["one", "other", "low", "second", "lows", "high", "highs"] ["one", "other"] (defScope s_meet_boxes) := ⟨rfl, rfl, rfl, by decide +kernel, rfl, by decide +kernel, by decide +kernel⟩
abbrev s_join_along : Stmt := topS 14
theorem sc_join_along : FnScope ["one", "other", "column", "lows", "highs", "at"] ["one", "other", "column"] (defScope s_join_along) := ⟨rfl, rfl, rfl, by decide +kernel, rfl, by decide +kernel, by decide +kernel⟩
abbrev s_box_less : Stmt := topS 15
theorem sc_box_less : FnScope ["one", "other", "common", "corners", "lows", "highs", "at", "low", "high"] ["one", "other"] (defScope s_box_less) := ⟨rfl, rfl, rfl, by decide +kernel, rfl, by decide +kernel, by decide +kernel⟩
abbrev s_Box___init__ : Stmt := inClass (topS 16) 0
theorem sc_Box___init__ : FnScope ["self", "lows", "highs", "at", "low", "high"] ["self", "lows", "highs"] (defScope s_Box___init__) := ⟨rfl, rfl, rfl, by decide +kernel, rfl, by decide +kernel, by decide +kernel⟩
abbrev s_Box___eq__ : Stmt := inClass (topS 16) 1
theorem sc_Box___eq__ : FnScope ["self", "other"] ["self", "other"] (defScope s_Box___eq__) := ⟨rfl, rfl, rfl, by decide +kernel, rfl, by decide +kernel, by decide +kernel⟩
abbrev s_Box_of_told : Stmt := inClass (topS 16) 2
theorem sc_Box_of_told : FnScope ["cls", "told"] ["cls", "told"] (defScope s_Box_of_told) := ⟨rfl, rfl, rfl, by decide +kernel, rfl, by decide +kernel, by decide +kernel⟩
abbrev s_Box_holds : Stmt := inClass (topS 16) 3
theorem sc_Box_holds : FnScope ["self", "point", "value", "low", "high"] ["self", "point"] (defScope s_Box_holds) := ⟨rfl, rfl, rfl, by decide +kernel, rfl, by decide +kernel, by decide +kernel⟩
abbrev s__law_bag : Stmt := topS 18
theorem sc__law_bag : FnScope ["script", "cell"] ["script"] (defScope s__law_bag) := ⟨rfl, rfl, rfl, by decide +kernel, rfl, by decide +kernel, by decide +kernel⟩
abbrev s__law_draw : Stmt := topS 19
theorem sc__law_draw : FnScope ["bag", "limit", "digit", "cell", "mixed", "twice"] ["bag", "limit"] (defScope s__law_draw) := ⟨rfl, rfl, rfl, by decide +kernel, rfl, by decide +kernel, by decide +kernel⟩
abbrev s__law_spots : Stmt := topS 20
theorem sc__law_spots : FnScope ["ranges", "spots", "low", "high", "longer", "spot", "value"] ["ranges"] (defScope s__law_spots) := ⟨rfl, rfl, rfl, by decide +kernel, rfl, by decide +kernel, by decide +kernel⟩
abbrev s__law_ranges : Stmt := topS 21
theorem sc__law_ranges : FnScope ["bag", "bases", "most", "ranges", "base", "low"] ["bag", "bases", "most"] (defScope s__law_ranges) := ⟨rfl, rfl, rfl, by decide +kernel, rfl, by decide +kernel, by decide +kernel⟩
abbrev s__law_box : Stmt := topS 22
theorem sc__law_box : FnScope ["ranges", "pair"] ["ranges"] (defScope s__law_box) := ⟨rfl, rfl, rfl, by decide +kernel, rfl, by decide +kernel, by decide +kernel⟩
abbrev s__law_common : Stmt := topS 24
theorem sc__law_common : FnScope ["one", "other", "k"] ["one", "other"] (defScope s__law_common) := ⟨rfl, rfl, rfl, by decide +kernel, rfl, by decide +kernel, by decide +kernel⟩
abbrev s__law_is_great : Stmt := topS 31
theorem sc__law_is_great : FnScope ["script"] ["script"] (defScope s__law_is_great) := ⟨rfl, rfl, rfl, by decide +kernel, rfl, by decide +kernel, by decide +kernel⟩
abbrev s__law_wide_ranges : Stmt := topS 32
theorem sc__law_wide_ranges : FnScope ["bag", "bases", "wide", "ranges", "k", "low"] ["bag", "bases", "wide"] (defScope s__law_wide_ranges) := ⟨rfl, rfl, rfl, by decide +kernel, rfl, by decide +kernel, by decide +kernel⟩
abbrev s__law_is_box : Stmt := topS 23
theorem sc__law_is_box : FnScope ["made", "ranges", "pair", "lows", "highs"] ["made", "ranges"] (defScope s__law_is_box) := ⟨rfl, rfl, rfl, by decide +kernel, rfl, by decide +kernel, by decide +kernel⟩
abbrev s__law_meet_right : Stmt := topS 25
theorem sc__law_meet_right : FnScope ["one", "other", "due", "made", "pair"] ["one", "other"] (defScope s__law_meet_right) := ⟨rfl, rfl, rfl, by decide +kernel, rfl, by decide +kernel, by decide +kernel⟩
abbrev s__law_join_right : Stmt := topS 26
theorem sc__law_join_right : FnScope ["one", "other", "column", "mine", "along", "due", "made", "k", "empty", "spot"] ["one", "other", "column"] (defScope s__law_join_right) := ⟨rfl, rfl, rfl, by decide +kernel, rfl, by decide +kernel, by decide +kernel⟩
abbrev s__law_cut : Stmt := topS 27
theorem sc__law_cut : FnScope ["one", "other", "common", "pair", "found", "rest", "k"] ["one", "other"] (defScope s__law_cut) := ⟨rfl, rfl, rfl, by decide +kernel, rfl, by decide +kernel, by decide +kernel⟩
abbrev s__law_less_right : Stmt := topS 28
theorem sc__law_less_right : FnScope ["one", "other", "spot", "away", "made", "due", "k", "found", "box"] ["one", "other"] (defScope s__law_less_right) := ⟨rfl, rfl, rfl, by decide +kernel, rfl, by decide +kernel, by decide +kernel⟩
abbrev s__law_refused : Stmt := topS 29
theorem sc__law_refused : FnScope ["one", "other", "column", "due", "word", "e"] ["one", "other", "column", "due"] (defScope s__law_refused) := ⟨rfl, rfl, rfl, by decide +kernel, rfl, by decide +kernel, by decide +kernel⟩
abbrev s__law_unlike : Stmt := topS 30
theorem sc__law_unlike : FnScope ["one", "other", "count"] ["one", "other"] (defScope s__law_unlike) := ⟨rfl, rfl, rfl, by decide +kernel, rfl, by decide +kernel, by decide +kernel⟩
abbrev s_law : Stmt := topS 33
theorem sc_law : FnScope ["script", "bag", "great", "columns", "most", "k", "bases", "wide", "one", "other", "ranges", "box", "spot", "around", "base", "mine", "column", "near", "odd", "pair", "widths", "width"] ["script"] (defScope s_law) := ⟨rfl, rfl, rfl, by decide +kernel, rfl, by decide +kernel, by decide +kernel⟩
/-! ### what the top has written -/
structure Tx (K : PySem.W.Frag) (mg : Str → Option Value) : Prop where
  n_ValueError : mg "ValueError" = none
  n_abs : mg "abs" = none
  n_bool : mg "bool" = none
  n_dict : mg "dict" = none
  n_int : mg "int" = none
  n_isinstance : mg "isinstance" = none
  n_len : mg "len" = none
  n_list : mg "list" = none
  n_max : mg "max" = none
  n_min : mg "min" = none
  n_range : mg "range" = none
  n_set : mg "set" = none
  n_sorted : mg "sorted" = none
  n_tuple : mg "tuple" = none
  n_zip : mg "zip" = none
  c_MOST_COLUMNS : ∃ t, mg "MOST_COLUMNS" = some (.int (5) t)
  c_HIGHEST : ∃ t, mg "HIGHEST" = some (.int (64) t)
  g_FetchError : mg "FetchError" = some (.ref (He.ga K "FetchError"))
  x_FetchError : ExcC K (He.ga K "FetchError")
  e_FetchError : PySem.W.exmOne K (.ref (He.ga K "FetchError")) (.ref (He.ga K "FetchError")) = some true
  b_FetchError : PySem.W.excIn K (He.ga K "FetchError") He.veBase "ValueError.__new__" = true
  k_FetchError : PySem.W.keepIn K (.ref (He.ga K "FetchError")) = true
  ty_FetchError : PySem.W.typeIn K (.ref (He.ga K "FetchError")) = some (.type "type")
  g_BadBox : mg "BadBox" = some (.ref (He.ga K "BadBox"))
  x_BadBox : ExcC K (He.ga K "BadBox")
  e_BadBox : PySem.W.exmOne K (.ref (He.ga K "BadBox")) (.ref (He.ga K "BadBox")) = some true
  o_BadBox : OexC K (He.ga K "BadBox")
  i_BadBox : PySem.W.findIn K (.ref (He.ga K "BadBox")) "__init__" = some (some (.ref (He.ma K (He.ga K "BadBox") "__init__")))
  t_BadBox : PySem.W.typeIn K (.ref (He.ma K (He.ga K "BadBox") "__init__")) = some (.type "function")
  noat_BadBox_what : PySem.W.findIn K (.ref (He.ga K "BadBox")) "what" = some none
  noat_BadBox_at : PySem.W.findIn K (.ref (He.ga K "BadBox")) "at" = some none
  g_UnlikeBoxes : mg "UnlikeBoxes" = some (.ref (He.ga K "UnlikeBoxes"))
  x_UnlikeBoxes : ExcC K (He.ga K "UnlikeBoxes")
  e_UnlikeBoxes : PySem.W.exmOne K (.ref (He.ga K "UnlikeBoxes")) (.ref (He.ga K "UnlikeBoxes")) = some true
  b_UnlikeBoxes : PySem.W.excIn K (He.ga K "UnlikeBoxes") He.veBase "ValueError.__new__" = true
  k_UnlikeBoxes : PySem.W.keepIn K (.ref (He.ga K "UnlikeBoxes")) = true
  ty_UnlikeBoxes : PySem.W.typeIn K (.ref (He.ga K "UnlikeBoxes")) = some (.type "type")
  g_BadColumn : mg "BadColumn" = some (.ref (He.ga K "BadColumn"))
  x_BadColumn : ExcC K (He.ga K "BadColumn")
  e_BadColumn : PySem.W.exmOne K (.ref (He.ga K "BadColumn")) (.ref (He.ga K "BadColumn")) = some true
  o_BadColumn : OexC K (He.ga K "BadColumn")
  i_BadColumn : PySem.W.findIn K (.ref (He.ga K "BadColumn")) "__init__" = some (some (.ref (He.ma K (He.ga K "BadColumn") "__init__")))
  t_BadColumn : PySem.W.typeIn K (.ref (He.ma K (He.ga K "BadColumn") "__init__")) = some (.type "function")
  noat_BadColumn_column : PySem.W.findIn K (.ref (He.ga K "BadColumn")) "column" = some none
  g_Box : mg "Box" = some (.ref (He.ga K "Box"))
  cls_Box : Cls K (He.ga K "Box")
  mk_Box : Mk K (He.ga K "Box") (He.ma K (He.ga K "Box") "__init__")
  m_Box_holds : Meth K (He.ga K "Box") "holds" (He.ma K (He.ga K "Box") "holds")
  is_Box : InsF K (He.ga K "Box")
  eq_Box : OwnEq K (He.ga K "Box") (He.ma K (He.ga K "Box") "__eq__")
  cr_Box : ClX.CRead K (He.ga K "Box") (.type "type")
  cm_Box_of_told : ClX.CMet K (He.ga K "Box") (.type "type") "of_told" (He.ma K (He.ga K "Box") "of_told") (He5.wf K (He.ga K "Box") "classmethod" "of_told")
  noat_Box_lows : PySem.W.findIn K (.ref (He.ga K "Box")) "lows" = some none
  noat_Box_highs : PySem.W.findIn K (.ref (He.ga K "Box")) "highs" = some none
  noat_Box_told : PySem.W.findIn K (.ref (He.ga K "Box")) "told" = some none
  noat_Box_size : PySem.W.findIn K (.ref (He.ga K "Box")) "size" = some none
  kit_BadBox_FetchError : PySem.W.kitOne K (.ref (He.ga K "BadBox")) (.ref (He.ga K "FetchError")) = some true
  kit_BadBox_ValueError : PySem.W.kitOne K (.ref (He.ga K "BadBox")) (.type "ValueError") = some true
  kit_Box_Box : PySem.W.kitOne K (.ref (He.ga K "Box")) (.ref (He.ga K "Box")) = some true
  e_BadColumn_UnlikeBoxes : PySem.W.exmOne K (.ref (He.ga K "BadColumn")) (.ref (He.ga K "UnlikeBoxes")) = some false
  d_BadBox___init__ : ∃ fd, FnP K "__init__" "BadBox.__init__" s_BadBox___init__ [] (He.ma K (He.ga K "BadBox") "__init__") fd
  d_BadColumn___init__ : ∃ fd, FnP K "__init__" "BadColumn.__init__" s_BadColumn___init__ [] (He.ma K (He.ga K "BadColumn") "__init__") fd
  g_is_whole : mg "is_whole" = some (.ref (He.ga K "is_whole"))
  d_is_whole : ∃ fd, FnP K "is_whole" "is_whole" s_is_whole [.non, .non] (He.ga K "is_whole") fd
  g_whole_box : mg "whole_box" = some (.ref (He.ga K "whole_box"))
  d_whole_box : ∃ fd, FnP K "whole_box" "whole_box" s_whole_box [] (He.ga K "whole_box") fd
  g_points_of : mg "points_of" = some (.ref (He.ga K "points_of"))
  d_points_of : ∃ fd, FnP K "points_of" "points_of" s_points_of [] (He.ga K "points_of") fd
  g_check_like : mg "check_like" = some (.ref (He.ga K "check_like"))
  d_check_like : ∃ fd, FnP K "check_like" "check_like" s_check_like [] (He.ga K "check_like") fd
  g_meet_boxes : mg "meet_boxes" = some (.ref (He.ga K "meet_boxes"))
  d_meet_boxes : ∃ fd, FnP K "meet_boxes" "meet_boxes" s_meet_boxes [] (He.ga K "meet_boxes") fd
  g_join_along : mg "join_along" = some (.ref (He.ga K "join_along"))
  d_join_along : ∃ fd, FnP K "join_along" "join_along" s_join_along [] (He.ga K "join_along") fd
  g_box_less : mg "box_less" = some (.ref (He.ga K "box_less"))
  d_box_less : ∃ fd, FnP K "box_less" "box_less" s_box_less [] (He.ga K "box_less") fd
  d_Box___init__ : ∃ fd, FnP K "__init__" "Box.__init__" s_Box___init__ [] (He.ma K (He.ga K "Box") "__init__") fd
  d_Box___eq__ : ∃ fd, FnP K "__eq__" "Box.__eq__" s_Box___eq__ [] (He.ma K (He.ga K "Box") "__eq__") fd
  d_Box_of_told : ∃ fd, FnP K "of_told" "Box.of_told" s_Box_of_told [] (He5.wf K (He.ga K "Box") "classmethod" "of_told") fd
  d_Box_holds : ∃ fd, FnP K "holds" "Box.holds" s_Box_holds [] (He.ma K (He.ga K "Box") "holds") fd
  g__law_bag : mg "_law_bag" = some (.ref (He.ga K "_law_bag"))
  d__law_bag : ∃ fd, FnP K "_law_bag" "_law_bag" s__law_bag [] (He.ga K "_law_bag") fd
  g__law_draw : mg "_law_draw" = some (.ref (He.ga K "_law_draw"))
  d__law_draw : ∃ fd, FnP K "_law_draw" "_law_draw" s__law_draw [] (He.ga K "_law_draw") fd
  g__law_spots : mg "_law_spots" = some (.ref (He.ga K "_law_spots"))
  d__law_spots : ∃ fd, FnP K "_law_spots" "_law_spots" s__law_spots [] (He.ga K "_law_spots") fd
  g__law_ranges : mg "_law_ranges" = some (.ref (He.ga K "_law_ranges"))
  d__law_ranges : ∃ fd, FnP K "_law_ranges" "_law_ranges" s__law_ranges [] (He.ga K "_law_ranges") fd
  g__law_box : mg "_law_box" = some (.ref (He.ga K "_law_box"))
  d__law_box : ∃ fd, FnP K "_law_box" "_law_box" s__law_box [] (He.ga K "_law_box") fd
  g__law_common : mg "_law_common" = some (.ref (He.ga K "_law_common"))
  d__law_common : ∃ fd, FnP K "_law_common" "_law_common" s__law_common [] (He.ga K "_law_common") fd
  g__law_is_great : mg "_law_is_great" = some (.ref (He.ga K "_law_is_great"))
  d__law_is_great : ∃ fd, FnP K "_law_is_great" "_law_is_great" s__law_is_great [] (He.ga K "_law_is_great") fd
  g__law_wide_ranges : mg "_law_wide_ranges" = some (.ref (He.ga K "_law_wide_ranges"))
  d__law_wide_ranges : ∃ fd, FnP K "_law_wide_ranges" "_law_wide_ranges" s__law_wide_ranges [] (He.ga K "_law_wide_ranges") fd
  g__law_is_box : mg "_law_is_box" = some (.ref (He.ga K "_law_is_box"))
  d__law_is_box : ∃ fd, FnP K "_law_is_box" "_law_is_box" s__law_is_box [] (He.ga K "_law_is_box") fd
  g__law_meet_right : mg "_law_meet_right" = some (.ref (He.ga K "_law_meet_right"))
  d__law_meet_right : ∃ fd, FnP K "_law_meet_right" "_law_meet_right" s__law_meet_right [] (He.ga K "_law_meet_right") fd
  g__law_join_right : mg "_law_join_right" = some (.ref (He.ga K "_law_join_right"))
  d__law_join_right : ∃ fd, FnP K "_law_join_right" "_law_join_right" s__law_join_right [] (He.ga K "_law_join_right") fd
  g__law_cut : mg "_law_cut" = some (.ref (He.ga K "_law_cut"))
  d__law_cut : ∃ fd, FnP K "_law_cut" "_law_cut" s__law_cut [] (He.ga K "_law_cut") fd
  g__law_less_right : mg "_law_less_right" = some (.ref (He.ga K "_law_less_right"))
  d__law_less_right : ∃ fd, FnP K "_law_less_right" "_law_less_right" s__law_less_right [] (He.ga K "_law_less_right") fd
  g__law_refused : mg "_law_refused" = some (.ref (He.ga K "_law_refused"))
  d__law_refused : ∃ fd, FnP K "_law_refused" "_law_refused" s__law_refused [] (He.ga K "_law_refused") fd
  g__law_unlike : mg "_law_unlike" = some (.ref (He.ga K "_law_unlike"))
  d__law_unlike : ∃ fd, FnP K "_law_unlike" "_law_unlike" s__law_unlike [] (He.ga K "_law_unlike") fd
  g_law : mg "law" = some (.ref (He.ga K "law"))
  d_law : ∃ fd, FnP K "law" "law" s_law [] (He.ga K "law") fd
def fb0 (K : PySem.W.Frag) : Bool := (He.Fa.free "ValueError").ok K && ((He.Fa.free "abs").ok K && ((He.Fa.free "bool").ok K && ((He.Fa.free "dict").ok K && ((He.Fa.free "int").ok K && ((He.Fa.free "isinstance").ok K && ((He.Fa.free "len").ok K && ((He.Fa.free "list").ok K && ((He.Fa.free "max").ok K && ((He.Fa.free "min").ok K && ((He.Fa.free "range").ok K && ((He.Fa.free "set").ok K)))))))))))
def fb1 (K : PySem.W.Frag) : Bool := (He.Fa.free "sorted").ok K && ((He.Fa.free "tuple").ok K && ((He.Fa.free "zip").ok K && ((He.Fa.int "MOST_COLUMNS" (5)).ok K && ((He.Fa.int "HIGHEST" (64)).ok K && ((He.Fa.glo "FetchError").ok K && (excB K (He.ga K "FetchError") && (decide (PySem.W.exmOne K (.ref (He.ga K "FetchError")) (.ref (He.ga K "FetchError")) = some true) && (PySem.W.excIn K (He.ga K "FetchError") He.veBase "ValueError.__new__" && (PySem.W.keepIn K (.ref (He.ga K "FetchError")) && (decide (PySem.W.typeIn K (.ref (He.ga K "FetchError")) = some (.type "type")) && ((He.Fa.glo "BadBox").ok K)))))))))))
def fb2 (K : PySem.W.Frag) : Bool := excB K (He.ga K "BadBox") && (decide (PySem.W.exmOne K (.ref (He.ga K "BadBox")) (.ref (He.ga K "BadBox")) = some true) && (oexB K (He.ga K "BadBox") && (decide (PySem.W.findIn K (.ref (He.ga K "BadBox")) "__init__" = some (some (.ref (He.ma K (He.ga K "BadBox") "__init__")))) && (decide (PySem.W.typeIn K (.ref (He.ma K (He.ga K "BadBox") "__init__")) = some (.type "function")) && (decide (PySem.W.findIn K (.ref (He.ga K "BadBox")) "what" = some none) && (decide (PySem.W.findIn K (.ref (He.ga K "BadBox")) "at" = some none) && ((He.Fa.glo "UnlikeBoxes").ok K && (excB K (He.ga K "UnlikeBoxes") && (decide (PySem.W.exmOne K (.ref (He.ga K "UnlikeBoxes")) (.ref (He.ga K "UnlikeBoxes")) = some true) && (PySem.W.excIn K (He.ga K "UnlikeBoxes") He.veBase "ValueError.__new__" && (PySem.W.keepIn K (.ref (He.ga K "UnlikeBoxes")))))))))))))
def fb3 (K : PySem.W.Frag) : Bool := decide (PySem.W.typeIn K (.ref (He.ga K "UnlikeBoxes")) = some (.type "type")) && ((He.Fa.glo "BadColumn").ok K && (excB K (He.ga K "BadColumn") && (decide (PySem.W.exmOne K (.ref (He.ga K "BadColumn")) (.ref (He.ga K "BadColumn")) = some true) && (oexB K (He.ga K "BadColumn") && (decide (PySem.W.findIn K (.ref (He.ga K "BadColumn")) "__init__" = some (some (.ref (He.ma K (He.ga K "BadColumn") "__init__")))) && (decide (PySem.W.typeIn K (.ref (He.ma K (He.ga K "BadColumn") "__init__")) = some (.type "function")) && (decide (PySem.W.findIn K (.ref (He.ga K "BadColumn")) "column" = some none) && ((He.Fa.glo "Box").ok K && ((He.Fa.cls "Box").ok K && ((He.Fa.mkr "Box").ok K && ((He.Fa.meth "Box" "holds").ok K)))))))))))
def fb4 (K : PySem.W.Frag) : Bool := decide (PySem.W.findIn K (.ref (He.ga K "Box")) "__class__" = some (some (.builtin "object.__class__"))) && (decide (PySem.W.specialIn K (.builtin "object.__class__") "__get__" = some (some (.builtin "getset_descriptor.__get__"))) && (decide (PySem.W.takesIn K (.builtin "object.__class__") = some true) && decide (PySem.W.mroIn K (He.ga K "Box") (.type "object") = some true))) && (decide (PySem.W.findIn K (.ref (He.ga K "Box")) "__eq__" = some (some (.ref (He.ma K (He.ga K "Box") "__eq__")))) && (PySem.W.isFn K (.ref (He.ma K (He.ga K "Box") "__eq__")) && (decide (PySem.W.findIn K (.ref (He.ga K "Box")) "__ne__" = some (some (.builtin "object.__ne__"))) && decide (PySem.W.subIn K (.ref (He.ga K "Box")) (.type "object") = some true))) && (PySem.W.readsIn K (He.ga K "Box") (.type "type") && decide (PySem.W.specialIn K (.ref (He.ga K "Box")) "__getattribute__" = some (some (.builtin "type.__getattribute__"))) && (He5.wrapB K (He.ga K "Box") "classmethod" "classmethod.__get__" "of_told" && PySem.W.fnIn K (He5.wf K (He.ga K "Box") "classmethod" "of_told") && (decide (PySem.W.findIn K (.ref (He.ga K "Box")) "lows" = some none) && (decide (PySem.W.findIn K (.ref (He.ga K "Box")) "highs" = some none) && (decide (PySem.W.findIn K (.ref (He.ga K "Box")) "told" = some none) && (decide (PySem.W.findIn K (.ref (He.ga K "Box")) "size" = some none) && (decide (PySem.W.kitOne K (.ref (He.ga K "BadBox")) (.ref (He.ga K "FetchError")) = some true) && (decide (PySem.W.kitOne K (.ref (He.ga K "BadBox")) (.type "ValueError") = some true) && (decide (PySem.W.kitOne K (.ref (He.ga K "Box")) (.ref (He.ga K "Box")) = some true) && (decide (PySem.W.exmOne K (.ref (He.ga K "BadColumn")) (.ref (He.ga K "UnlikeBoxes")) = some false))))))))))))
def fb5 (K : PySem.W.Frag) : Bool := (He.Fa.glo "is_whole").ok K && ((He.Fa.glo "whole_box").ok K && ((He.Fa.glo "points_of").ok K && ((He.Fa.glo "check_like").ok K && ((He.Fa.glo "meet_boxes").ok K && ((He.Fa.glo "join_along").ok K && ((He.Fa.glo "box_less").ok K && ((He.Fa.glo "_law_bag").ok K && ((He.Fa.glo "_law_draw").ok K && ((He.Fa.glo "_law_spots").ok K && ((He.Fa.glo "_law_ranges").ok K && ((He.Fa.glo "_law_box").ok K)))))))))))
def fb6 (K : PySem.W.Frag) : Bool := (He.Fa.glo "_law_common").ok K && ((He.Fa.glo "_law_is_great").ok K && ((He.Fa.glo "_law_wide_ranges").ok K && ((He.Fa.glo "_law_is_box").ok K && ((He.Fa.glo "_law_meet_right").ok K && ((He.Fa.glo "_law_join_right").ok K && ((He.Fa.glo "_law_cut").ok K && ((He.Fa.glo "_law_less_right").ok K && ((He.Fa.glo "_law_refused").ok K && ((He.Fa.glo "_law_unlike").ok K && ((He.Fa.glo "law").ok K))))))))))
def fb (K : PySem.W.Frag) : Bool := fb0 K && (fb1 K && (fb2 K && (fb3 K && (fb4 K && (fb5 K && (fb6 K))))))
def dd_BadBox___init__ : He5.DefA := ⟨fun K => (He.ma K (He.ga K "BadBox") "__init__"), "__init__", "BadBox.__init__", defArgs s_BadBox___init__, defBody s_BadBox___init__, defScope s_BadBox___init__, [], []⟩
def dd_BadColumn___init__ : He5.DefA := ⟨fun K => (He.ma K (He.ga K "BadColumn") "__init__"), "__init__", "BadColumn.__init__", defArgs s_BadColumn___init__, defBody s_BadColumn___init__, defScope s_BadColumn___init__, [], []⟩
def dd_is_whole : He5.DefA := ⟨fun K => (He.ga K "is_whole"), "is_whole", "is_whole", defArgs s_is_whole, defBody s_is_whole, defScope s_is_whole, [.non, .non], []⟩
def dd_whole_box : He5.DefA := ⟨fun K => (He.ga K "whole_box"), "whole_box", "whole_box", defArgs s_whole_box, defBody s_whole_box, defScope s_whole_box, [], []⟩
def dd_points_of : He5.DefA := ⟨fun K => (He.ga K "points_of"), "points_of", "points_of", defArgs s_points_of, defBody s_points_of, defScope s_points_of, [], []⟩
def dd_check_like : He5.DefA := ⟨fun K => (He.ga K "check_like"), "check_like", "check_like", defArgs s_check_like, defBody s_check_like, defScope s_check_like, [], []⟩
def dd_meet_boxes : He5.DefA := ⟨fun K => (He.ga K "meet_boxes"), "meet_boxes", "meet_boxes", defArgs s_meet_boxes, defBody s_meet_boxes, defScope s_meet_boxes, [], []⟩
def dd_join_along : He5.DefA := ⟨fun K => (He.ga K "join_along"), "join_along", "join_along", defArgs s_join_along, defBody s_join_along, defScope s_join_along, [], []⟩
def dd_box_less : He5.DefA := ⟨fun K => (He.ga K "box_less"), "box_less", "box_less", defArgs s_box_less, defBody s_box_less, defScope s_box_less, [], []⟩
def dd_Box___init__ : He5.DefA := ⟨fun K => (He.ma K (He.ga K "Box") "__init__"), "__init__", "Box.__init__", defArgs s_Box___init__, defBody s_Box___init__, defScope s_Box___init__, [], []⟩
def dd_Box___eq__ : He5.DefA := ⟨fun K => (He.ma K (He.ga K "Box") "__eq__"), "__eq__", "Box.__eq__", defArgs s_Box___eq__, defBody s_Box___eq__, defScope s_Box___eq__, [], []⟩
def dd_Box_of_told : He5.DefA := ⟨fun K => (He5.wf K (He.ga K "Box") "classmethod" "of_told"), "of_told", "Box.of_told", defArgs s_Box_of_told, defBody s_Box_of_told, defScope s_Box_of_told, [], []⟩
def dd_Box_holds : He5.DefA := ⟨fun K => (He.ma K (He.ga K "Box") "holds"), "holds", "Box.holds", defArgs s_Box_holds, defBody s_Box_holds, defScope s_Box_holds, [], []⟩
def dd__law_bag : He5.DefA := ⟨fun K => (He.ga K "_law_bag"), "_law_bag", "_law_bag", defArgs s__law_bag, defBody s__law_bag, defScope s__law_bag, [], []⟩
def dd__law_draw : He5.DefA := ⟨fun K => (He.ga K "_law_draw"), "_law_draw", "_law_draw", defArgs s__law_draw, defBody s__law_draw, defScope s__law_draw, [], []⟩
def dd__law_spots : He5.DefA := ⟨fun K => (He.ga K "_law_spots"), "_law_spots", "_law_spots", defArgs s__law_spots, defBody s__law_spots, defScope s__law_spots, [], []⟩
def dd__law_ranges : He5.DefA := ⟨fun K => (He.ga K "_law_ranges"), "_law_ranges", "_law_ranges", defArgs s__law_ranges, defBody s__law_ranges, defScope s__law_ranges, [], []⟩
def dd__law_box : He5.DefA := ⟨fun K => (He.ga K "_law_box"), "_law_box", "_law_box", defArgs s__law_box, defBody s__law_box, defScope s__law_box, [], []⟩
def dd__law_common : He5.DefA := ⟨fun K => (He.ga K "_law_common"), "_law_common", "_law_common", defArgs s__law_common, defBody s__law_common, defScope s__law_common, [], []⟩
def dd__law_is_great : He5.DefA := ⟨fun K => (He.ga K "_law_is_great"), "_law_is_great", "_law_is_great", defArgs s__law_is_great, defBody s__law_is_great, defScope s__law_is_great, [], []⟩
def dd__law_wide_ranges : He5.DefA := ⟨fun K => (He.ga K "_law_wide_ranges"), "_law_wide_ranges", "_law_wide_ranges", defArgs s__law_wide_ranges, defBody s__law_wide_ranges, defScope s__law_wide_ranges, [], []⟩
def dd__law_is_box : He5.DefA := ⟨fun K => (He.ga K "_law_is_box"), "_law_is_box", "_law_is_box", defArgs s__law_is_box, defBody s__law_is_box, defScope s__law_is_box, [], []⟩
def dd__law_meet_right : He5.DefA := ⟨fun K => (He.ga K "_law_meet_right"), "_law_meet_right", "_law_meet_right", defArgs s__law_meet_right, defBody s__law_meet_right, defScope s__law_meet_right, [], []⟩
def dd__law_join_right : He5.DefA := ⟨fun K => (He.ga K "_law_join_right"), "_law_join_right", "_law_join_right", defArgs s__law_join_right, defBody s__law_join_right, defScope s__law_join_right, [], []⟩
def dd__law_cut : He5.DefA := ⟨fun K => (He.ga K "_law_cut"), "_law_cut", "_law_cut", defArgs s__law_cut, defBody s__law_cut, defScope s__law_cut, [], []⟩
def dd__law_less_right : He5.DefA := ⟨fun K => (He.ga K "_law_less_right"), "_law_less_right", "_law_less_right", defArgs s__law_less_right, defBody s__law_less_right, defScope s__law_less_right, [], []⟩
def dd__law_refused : He5.DefA := ⟨fun K => (He.ga K "_law_refused"), "_law_refused", "_law_refused", defArgs s__law_refused, defBody s__law_refused, defScope s__law_refused, [], []⟩
def dd__law_unlike : He5.DefA := ⟨fun K => (He.ga K "_law_unlike"), "_law_unlike", "_law_unlike", defArgs s__law_unlike, defBody s__law_unlike, defScope s__law_unlike, [], []⟩
def dd_law : He5.DefA := ⟨fun K => (He.ga K "law"), "law", "law", defArgs s_law, defBody s_law, defScope s_law, [], []⟩
def fn : List He5.DefA := [dd_BadBox___init__, dd_BadColumn___init__, dd_is_whole, dd_whole_box, dd_points_of, dd_check_like, dd_meet_boxes, dd_join_along, dd_box_less, dd_Box___init__, dd_Box___eq__, dd_Box_of_told, dd_Box_holds, dd__law_bag, dd__law_draw, dd__law_spots, dd__law_ranges, dd__law_box, dd__law_common, dd__law_is_great, dd__law_wide_ranges, dd__law_is_box, dd__law_meet_right, dd__law_join_right, dd__law_cut, dd__law_less_right, dd__law_refused, dd__law_unlike, dd_law]
theorem tx_of {K : PySem.W.Frag} {h : Heap} {mg : Str → Option Value} (X : K.In h) (G : h.Ns mainGlobals mg) (c : SaysE fb fn K) : Tx K mg := by
  have top := c.all.1
  obtain ⟨z0, top⟩ := He.ba top
  obtain ⟨z1, top⟩ := He.ba top
  obtain ⟨z2, top⟩ := He.ba top
  obtain ⟨z3, top⟩ := He.ba top
  obtain ⟨z4, top⟩ := He.ba top
  obtain ⟨z5, top⟩ := He.ba top
  have z6 := top
  obtain ⟨q0_0, z0⟩ := He.ba z0
  obtain ⟨q0_1, z0⟩ := He.ba z0
  obtain ⟨q0_2, z0⟩ := He.ba z0
  obtain ⟨q0_3, z0⟩ := He.ba z0
  obtain ⟨q0_4, z0⟩ := He.ba z0
  obtain ⟨q0_5, z0⟩ := He.ba z0
  obtain ⟨q0_6, z0⟩ := He.ba z0
  obtain ⟨q0_7, z0⟩ := He.ba z0
  obtain ⟨q0_8, z0⟩ := He.ba z0
  obtain ⟨q0_9, z0⟩ := He.ba z0
  obtain ⟨q0_10, z0⟩ := He.ba z0
  have q0_11 := z0
  obtain ⟨q1_0, z1⟩ := He.ba z1
  obtain ⟨q1_1, z1⟩ := He.ba z1
  obtain ⟨q1_2, z1⟩ := He.ba z1
  obtain ⟨q1_3, z1⟩ := He.ba z1
  obtain ⟨q1_4, z1⟩ := He.ba z1
  obtain ⟨q1_5, z1⟩ := He.ba z1
  obtain ⟨q1_6, z1⟩ := He.ba z1
  obtain ⟨q1_7, z1⟩ := He.ba z1
  obtain ⟨q1_8, z1⟩ := He.ba z1
  obtain ⟨q1_9, z1⟩ := He.ba z1
  obtain ⟨q1_10, z1⟩ := He.ba z1
  have q1_11 := z1
  obtain ⟨q2_0, z2⟩ := He.ba z2
  obtain ⟨q2_1, z2⟩ := He.ba z2
  obtain ⟨q2_2, z2⟩ := He.ba z2
  obtain ⟨q2_3, z2⟩ := He.ba z2
  obtain ⟨q2_4, z2⟩ := He.ba z2
  obtain ⟨q2_5, z2⟩ := He.ba z2
  obtain ⟨q2_6, z2⟩ := He.ba z2
  obtain ⟨q2_7, z2⟩ := He.ba z2
  obtain ⟨q2_8, z2⟩ := He.ba z2
  obtain ⟨q2_9, z2⟩ := He.ba z2
  obtain ⟨q2_10, z2⟩ := He.ba z2
  have q2_11 := z2
  obtain ⟨q3_0, z3⟩ := He.ba z3
  obtain ⟨q3_1, z3⟩ := He.ba z3
  obtain ⟨q3_2, z3⟩ := He.ba z3
  obtain ⟨q3_3, z3⟩ := He.ba z3
  obtain ⟨q3_4, z3⟩ := He.ba z3
  obtain ⟨q3_5, z3⟩ := He.ba z3
  obtain ⟨q3_6, z3⟩ := He.ba z3
  obtain ⟨q3_7, z3⟩ := He.ba z3
  obtain ⟨q3_8, z3⟩ := He.ba z3
  obtain ⟨q3_9, z3⟩ := He.ba z3
  obtain ⟨q3_10, z3⟩ := He.ba z3
  have q3_11 := z3
  obtain ⟨q4_0, z4⟩ := He.ba z4
  obtain ⟨q4_1, z4⟩ := He.ba z4
  obtain ⟨q4_2, z4⟩ := He.ba z4
  obtain ⟨q4_3, z4⟩ := He.ba z4
  obtain ⟨q4_4, z4⟩ := He.ba z4
  obtain ⟨q4_5, z4⟩ := He.ba z4
  obtain ⟨q4_6, z4⟩ := He.ba z4
  obtain ⟨q4_7, z4⟩ := He.ba z4
  obtain ⟨q4_8, z4⟩ := He.ba z4
  obtain ⟨q4_9, z4⟩ := He.ba z4
  obtain ⟨q4_10, z4⟩ := He.ba z4
  have q4_11 := z4
  obtain ⟨q5_0, z5⟩ := He.ba z5
  obtain ⟨q5_1, z5⟩ := He.ba z5
  obtain ⟨q5_2, z5⟩ := He.ba z5
  obtain ⟨q5_3, z5⟩ := He.ba z5
  obtain ⟨q5_4, z5⟩ := He.ba z5
  obtain ⟨q5_5, z5⟩ := He.ba z5
  obtain ⟨q5_6, z5⟩ := He.ba z5
  obtain ⟨q5_7, z5⟩ := He.ba z5
  obtain ⟨q5_8, z5⟩ := He.ba z5
  obtain ⟨q5_9, z5⟩ := He.ba z5
  obtain ⟨q5_10, z5⟩ := He.ba z5
  have q5_11 := z5
  obtain ⟨q6_0, z6⟩ := He.ba z6
  obtain ⟨q6_1, z6⟩ := He.ba z6
  obtain ⟨q6_2, z6⟩ := He.ba z6
  obtain ⟨q6_3, z6⟩ := He.ba z6
  obtain ⟨q6_4, z6⟩ := He.ba z6
  obtain ⟨q6_5, z6⟩ := He.ba z6
  obtain ⟨q6_6, z6⟩ := He.ba z6
  obtain ⟨q6_7, z6⟩ := He.ba z6
  obtain ⟨q6_8, z6⟩ := He.ba z6
  obtain ⟨q6_9, z6⟩ := He.ba z6
  have q6_10 := z6
  exact ⟨He.free_ok X G q0_0,
    He.free_ok X G q0_1,
    He.free_ok X G q0_2,
    He.free_ok X G q0_3,
    He.free_ok X G q0_4,
    He.free_ok X G q0_5,
    He.free_ok X G q0_6,
    He.free_ok X G q0_7,
    He.free_ok X G q0_8,
    He.free_ok X G q0_9,
    He.free_ok X G q0_10,
    He.free_ok X G q0_11,
    He.free_ok X G q1_0,
    He.free_ok X G q1_1,
    He.free_ok X G q1_2,
    He.int_ok X G q1_3,
    He.int_ok X G q1_4,
    He.glo_ok X G q1_5,
    excB_ok q1_6,
    of_decide_eq_true q1_7,
    q1_8,
    q1_9,
    of_decide_eq_true q1_10,
    He.glo_ok X G q1_11,
    excB_ok q2_0,
    of_decide_eq_true q2_1,
    oexB_ok q2_2,
    of_decide_eq_true q2_3,
    of_decide_eq_true q2_4,
    of_decide_eq_true q2_5,
    of_decide_eq_true q2_6,
    He.glo_ok X G q2_7,
    excB_ok q2_8,
    of_decide_eq_true q2_9,
    q2_10,
    q2_11,
    of_decide_eq_true q3_0,
    He.glo_ok X G q3_1,
    excB_ok q3_2,
    of_decide_eq_true q3_3,
    oexB_ok q3_4,
    of_decide_eq_true q3_5,
    of_decide_eq_true q3_6,
    of_decide_eq_true q3_7,
    He.glo_ok X G q3_8,
    He.cls_ok q3_9,
    He.mkr_ok q3_10,
    He.meth_ok q3_11,
    insf_ok q4_0,
    owneq_ok q4_1,
    cread_ok q4_2,
    cmet_ok q4_3,
    of_decide_eq_true q4_4,
    of_decide_eq_true q4_5,
    of_decide_eq_true q4_6,
    of_decide_eq_true q4_7,
    of_decide_eq_true q4_8,
    of_decide_eq_true q4_9,
    of_decide_eq_true q4_10,
    of_decide_eq_true q4_11,
    c.def_ (d := dd_BadBox___init__) (by simp only [fn, List.mem_cons, true_or, or_true]),
    c.def_ (d := dd_BadColumn___init__) (by simp only [fn, List.mem_cons, true_or, or_true]),
    He.glo_ok X G q5_0,
    c.def_ (d := dd_is_whole) (by simp only [fn, List.mem_cons, true_or, or_true]),
    He.glo_ok X G q5_1,
    c.def_ (d := dd_whole_box) (by simp only [fn, List.mem_cons, true_or, or_true]),
    He.glo_ok X G q5_2,
    c.def_ (d := dd_points_of) (by simp only [fn, List.mem_cons, true_or, or_true]),
    He.glo_ok X G q5_3,
    c.def_ (d := dd_check_like) (by simp only [fn, List.mem_cons, true_or, or_true]),
    He.glo_ok X G q5_4,
    c.def_ (d := dd_meet_boxes) (by simp only [fn, List.mem_cons, true_or, or_true]),
    He.glo_ok X G q5_5,
    c.def_ (d := dd_join_along) (by simp only [fn, List.mem_cons, true_or, or_true]),
    He.glo_ok X G q5_6,
    c.def_ (d := dd_box_less) (by simp only [fn, List.mem_cons, true_or, or_true]),
    c.def_ (d := dd_Box___init__) (by simp only [fn, List.mem_cons, true_or, or_true]),
    c.def_ (d := dd_Box___eq__) (by simp only [fn, List.mem_cons, true_or, or_true]),
    c.def_ (d := dd_Box_of_told) (by simp only [fn, List.mem_cons, true_or, or_true]),
    c.def_ (d := dd_Box_holds) (by simp only [fn, List.mem_cons, true_or, or_true]),
    He.glo_ok X G q5_7,
    c.def_ (d := dd__law_bag) (by simp only [fn, List.mem_cons, true_or, or_true]),
    He.glo_ok X G q5_8,
    c.def_ (d := dd__law_draw) (by simp only [fn, List.mem_cons, true_or, or_true]),
    He.glo_ok X G q5_9,
    c.def_ (d := dd__law_spots) (by simp only [fn, List.mem_cons, true_or, or_true]),
    He.glo_ok X G q5_10,
    c.def_ (d := dd__law_ranges) (by simp only [fn, List.mem_cons, true_or, or_true]),
    He.glo_ok X G q5_11,
    c.def_ (d := dd__law_box) (by simp only [fn, List.mem_cons, true_or, or_true]),
    He.glo_ok X G q6_0,
    c.def_ (d := dd__law_common) (by simp only [fn, List.mem_cons, true_or, or_true]),
    He.glo_ok X G q6_1,
    c.def_ (d := dd__law_is_great) (by simp only [fn, List.mem_cons, true_or, or_true]),
    He.glo_ok X G q6_2,
    c.def_ (d := dd__law_wide_ranges) (by simp only [fn, List.mem_cons, true_or, or_true]),
    He.glo_ok X G q6_3,
    c.def_ (d := dd__law_is_box) (by simp only [fn, List.mem_cons, true_or, or_true]),
    He.glo_ok X G q6_4,
    c.def_ (d := dd__law_meet_right) (by simp only [fn, List.mem_cons, true_or, or_true]),
    He.glo_ok X G q6_5,
    c.def_ (d := dd__law_join_right) (by simp only [fn, List.mem_cons, true_or, or_true]),
    He.glo_ok X G q6_6,
    c.def_ (d := dd__law_cut) (by simp only [fn, List.mem_cons, true_or, or_true]),
    He.glo_ok X G q6_7,
    c.def_ (d := dd__law_less_right) (by simp only [fn, List.mem_cons, true_or, or_true]),
    He.glo_ok X G q6_8,
    c.def_ (d := dd__law_refused) (by simp only [fn, List.mem_cons, true_or, or_true]),
    He.glo_ok X G q6_9,
    c.def_ (d := dd__law_unlike) (by simp only [fn, List.mem_cons, true_or, or_true]),
    He.glo_ok X G q6_10,
    c.def_ (d := dd_law) (by simp only [fn, List.mem_cons, true_or, or_true])⟩
section
variable {P : Program} {w : World} {K : PySem.W.Frag} {mg : Str → Option Value} {base : Heap} {f : Addr} {fd : FuncData}
/-! ### the law's bag of draws -/
theorem ok_bag (T : Tx K mg) : ∃ fd, FnOk P w K mg base CX0 1 (He.ga K "_law_bag") fd ["script"] (spBag K) ∧ FnP K "_law_bag" "_law_bag" s__law_bag [] (He.ga K "_law_bag") fd := by
  obtain ⟨fd, F⟩ := T.d__law_bag
  refine ⟨fd, F.ok sc__law_bag (fun vs H Q E h => ?_) (fun cdv A outer s H vs Q E hr h => ?_), F⟩
  · obtain ⟨a, ns, rfl, _⟩ := h
    rfl
  · obtain ⟨a, ns, rfl, hS, k⟩ := h
    refine ⟨_, PSs.nox (pss_one (ps_ret (pe_lst (pa_cons (pe_lc (own := [("cell", 1)]) (g := gName 1) (tt := tYes) (by rfl) sc__law_bag.nd (pi_list (pe_slice sl_list (pv 0) po_none (po_some pe_int))) (blkOk_by (N := ["script", "cell"]) (sc := defScope s__law_bag) (by decide +kernel)) (fun _ _ _ _ _ => (pg_name (i := 1) sc__law_bag.nd rfl (Or.inl rfl))) (fun _ _ _ _ _ => pts_nil) (fun _ _ _ _ _ => (pe_callTy call_int1 (by rfl) T.n_int (by decide +kernel) (pa_cons (pv 1) pa_nil)))) (pa_cons pe_int (pa_cons pe_int (pa_cons pe_int (pa_cons pe_int pa_nil)))))))), ?_⟩
    refine ⟨_, rfl, 63, rfl, a, _, rfl, hS, fun q nq => ?_⟩
    rw [cut63]
    obtain ⟨l, hl, hl63⟩ : ∃ l, l = ns.take 63 ∧ l.length ≤ 63 := ⟨_, rfl, by rw [List.length_take]; omega⟩
    rw [← hl]
    have s1 : Same H (upd H q (.lst (l.map V.int))) := same_new nq
    refine ⟨q, rfl, ⟨_, .inl (.inl upd_same)⟩, fun D nD => ?_⟩
    have nDq : D ≠ q := fun z => by
      rw [z, upd_same] at nD
      cases nD
    have nDH : H D = none := by
      rw [upd_ne nDq] at nD
      exact nD
    refine lc_list (K := K) (a := q) (xs := l.map V.int) (fun i H' => Same H H' ∧ H' q = some (.lst (l.map V.int)) ∧ H' D = some (.lst ((l.take i).map V.int))) ⟨?_, ?_, ?_⟩ (fun i H' _ h => .inl (.inl h.2.1)) ?_ ?_
    · exact s1.trans (same_new nD)
    · rw [upd_ne nDq.symm, upd_same]
    · rw [upd_same]
      rfl
    · rintro i x H' hx ⟨e1, e2, e3⟩
      obtain ⟨z, hz, rfl⟩ : ∃ z, l[i]? = some z ∧ x = V.int z := by
        rw [List.getElem?_map] at hx
        cases e : l[i]? with
        | none =>
          rw [e] at hx
          cases hx
        | some z =>
          rw [e] at hx
          exact ⟨z, rfl, (Option.some.inj hx).symm⟩
      have hi : i < 63 := by
        have h1 := (List.getElem?_eq_some_iff.mp hz).1
        omega
      refine ⟨rfl, ⟨_, rfl, .inl ⟨z, rfl, _, e3, ?_, ?_, ?_, ?_⟩⟩⟩
      · rw [List.length_map, List.length_take]
        exact small1000 (by omega)
      · exact fun b o h => by
          rw [upd_ne (ne_of_none h nDH)]
          exact e1 b o h
      · rw [upd_ne nDq.symm]
        exact e2
      · rw [upd_same, List.take_add_one, hz, List.map_append]
        rfl
    · rintro H' ⟨e1, e2, e3⟩
      rw [List.length_map, List.take_length] at e3
      refine ⟨by show 5 ≤ sizeLine; decide, fun b nb => ?_⟩
      have nbD : b ≠ D := (ne_of_none e3 nb).symm
      refine k b D _ (e1.free nb) nDH (e1.trans (same_new nb)) ⟨l, 0, 0, 0, 20021, upd_same, by rw [upd_ne nbD.symm]; exact e3, by decide, by decide, by decide, by decide⟩
theorem C_bag (T : Tx K mg) : Cal P w K mg base CX0 1 "_law_bag" ["script"] [] (spBag K) := by
  obtain ⟨fd, G, F⟩ := ok_bag (P := P) (w := w) (base := base) T
  exact ⟨_, fd, [], G, T.g__law_bag, F.kp, F.bindsN fun _ _ _ _ _ _ us hl => match us, hl with | [_], _ => rfl, .nil⟩
theorem ok_draw (T : Tx K mg) : ∃ fd, FnOk P w K mg base CX0 1 (He.ga K "_law_draw") fd ["bag", "limit"] spDraw ∧ FnP K "_law_draw" "_law_draw" s__law_draw [] (He.ga K "_law_draw") fd := by
  obtain ⟨fd, F⟩ := T.d__law_draw
  refine ⟨fd, F.ok sc__law_draw (fun vs H Q E h => ?_) (fun cdv A outer s H vs Q E hr h => ?_), F⟩
  · obtain ⟨b, c, lim, n, rfl, _⟩ := h
    rfl
  · obtain ⟨b, c, lim, n, rfl, B, h0, h200, hn, k⟩ := h
    have wd : ∀ i : Int, CDivW i lim := fun i => wide_div h0 (b := 200) (by have := h200; omega) (by decide) (by decide)
    have hcb := B.two
    obtain ⟨ns, p, r, kk, m, hb, hc, k0, kn, m0, m1⟩ := B
    have md : ∀ i : Int, 0 ≤ i % lim ∧ i % lim < lim := fun i => ⟨Int.emod_nonneg i (by omega), Int.emod_lt_of_pos i h0⟩
    refine ⟨_, PSs.nox (pss_cons (ps_asg (pe_op op_add (pe_ix ix_list (pv 0) pe_int (fun _ _ => rfl)) pe_int) (pg_sub (pv 0) pe_int set_list))
      (pss_cons (ps_if (pt_cmpR op_gt (pe_ix ix_list (pv 0) pe_int (fun _ _ => rfl)) pe_int (nomark _))
        (pss_cons (ps_set (i := 2) sc__law_draw.nd rfl (Or.inl rfl) (pe_op op_mod (pe_callTy call_int1 (by rfl) T.n_int (by decide +kernel) (pa_cons (pe_ix ix_list (pv 0) pe_int (fun _ _ => rfl)) pa_nil)) (pv 1)))
        (pss_cons (ps_asg (pe_op op_fdivW (pe_ix ix_list (pv 0) pe_int (fun _ _ => rfl)) (pv 1)) (pg_sub (pv 0) pe_int set_list))
        (pss_one (ps_ret (pv 2)))))
        pss_nil)
      (pss_cons (ps_set (i := 3) sc__law_draw.nd rfl (Or.inl rfl) (pe_ix ix_list (pv 0) pe_int (fun _ _ => rfl)))
      (pss_cons (ps_if (pt_cmpR op_lt (pe_ix ix_list (pv 0) pe_int (fun _ _ => rfl)) (pe_callB call_len_seq (by rfl) T.n_len (by decide +kernel) (pa_cons (pe_ix ix_list (pv 0) pe_int (fun _ _ => rfl)) pa_nil)) (nomark _))
        (pss_cons (ps_set (i := 3) sc__law_draw.nd rfl (Or.inl rfl) (pe_ix ix_list (pe_ix ix_list (pv 0) pe_int (fun _ _ => rfl)) (pe_ix ix_list (pv 0) pe_int (fun _ _ => rfl)) (fun _ _ => rfl)))
        (pss_cons (ps_asg (pe_op op_add (pe_ix ix_list (pv 0) pe_int (fun _ _ => rfl)) pe_int) (pg_sub (pv 0) pe_int set_list))
        (pss_one (ps_if (pt_cmpR op_ge (pe_callB call_abs (by rfl) T.n_abs (by decide +kernel) (pa_cons (pv 3) pa_nil)) (pe_op op_pow pe_int pe_int) (nomark _))
          (pss_cons (ps_asg (pe_op op_fdivW (pe_callB call_abs (by rfl) T.n_abs (by decide +kernel) (pa_cons (pv 3) pa_nil)) (pv 1)) (pg_sub (pv 0) pe_int set_list))
          (pss_one (ps_ret (pe_op op_mod (pe_callTy call_int1 (by rfl) T.n_int (by decide +kernel) (pa_cons (pe_callB call_abs (by rfl) T.n_abs (by decide +kernel) (pa_cons (pv 3) pa_nil)) pa_nil)) (pv 1)))))
          pss_nil))))
        pss_nil)
      (pss_cons (ps_set (i := 4) sc__law_draw.nd rfl (Or.inl rfl) (pe_op op_mod (pe_callTy call_int1 (by rfl) T.n_int (by decide +kernel) (pa_cons (pe_op op_add (pe_op op_add (pe_op op_add (pe_op op_mul (pe_ix ix_list (pv 0) pe_int (fun _ _ => rfl)) pe_int) (pe_op op_mul (pe_op op_mod (pe_callTy call_int1 (by rfl) T.n_int (by decide +kernel) (pa_cons (pv 3) pa_nil)) pe_int) pe_int)) (pe_op op_mul (pe_ix ix_list (pv 0) pe_int (fun _ _ => rfl)) pe_int)) pe_int) pa_nil)) pe_int))
      (pss_cons (ps_asg (pv 4) (pg_sub (pv 0) pe_int set_list))
      (pss_cons (ps_set (i := 5) sc__law_draw.nd rfl (Or.inl rfl) (pe_op op_mod (pe_callTy call_int1 (by rfl) T.n_int (by decide +kernel) (pa_cons (pe_op op_add (pe_op op_add (pe_op op_mul (pv 4) pe_int) (pe_op op_mul (pe_op op_mul (pe_ix ix_list (pv 0) pe_int (fun _ _ => rfl)) (pe_ix ix_list (pv 0) pe_int (fun _ _ => rfl))) pe_int)) (pe_op op_fdiv (pv 4) pe_int)) pa_nil)) pe_int))
      (pss_one (ps_ret (pe_op op_mod (pe_callTy call_int1 (by rfl) T.n_int (by decide +kernel) (pa_cons (pe_op op_fdiv (pv 5) pe_int) pa_nil)) (pv 1))))))))))), ?_⟩
    -- bag[3] = bag[3] + 1
    refine ⟨_, rfl, b, _, 3, _, rfl, rfl, SqL.of hb, rfl, _, _, rfl, rfl, _, rfl, b, _, 3, 3, rfl, rfl, hb, rfl, ?_⟩
    -- the end, from any cell and any state that the branch between has left
    have fin : ∀ (σ2 σ3 σ5 : Option V) (cell : Int) (p' : Nat) (H1 : Hp), Off b H H1 → H1 b = some (bagO c p' r (kk + 1) m) →
        tSeq (tAsg (tOp (rI (fun _ j => 0 < j) fun i j => .int (i % j)) (tCB (fun xs H Q => (∃ i, xs = [.int i] ∧ Q (.int i) H) ∨ ∃ k, xs = [.bl k] ∧ Q (.int (if k then 1 else 0)) H) (tCons (tOp (rI0 fun i j => .int (i + j)) (tOp (rI0 fun i j => .int (i + j)) (tOp (rI0 fun i j => .int (i + j))
          (tOp (rI CMul fun i j => .int (i * j)) (tOp (rIxL K) (tVar 0) (tC (.int 4))) (tC (.int 48271)))
          (tOp (rI CMul fun i j => .int (i * j)) (tOp (rI (fun _ j => 0 < j) fun i j => .int (i % j)) (tCB (fun xs H Q => (∃ i, xs = [.int i] ∧ Q (.int i) H) ∨ ∃ k, xs = [.bl k] ∧ Q (.int (if k then 1 else 0)) H) (tCons (tVar 3) tNil)) (tC (.int 2147483629))) (tC (.int 69621))))
          (tOp (rI CMul fun i j => .int (i * j)) (tOp (rIxL K) (tVar 0) (tC (.int 3))) (tC (.int 7919)))) (tC (.int 11))) tNil)) (tC (.int 2147483647))) (gName 4))
        (tSeq (tAsg (tVar 4) (gSub (tVar 0) (tC (.int 4)) rSetL))
        (tSeq (tAsg (tOp (rI (fun _ j => 0 < j) fun i j => .int (i % j)) (tCB (fun xs H Q => (∃ i, xs = [.int i] ∧ Q (.int i) H) ∨ ∃ k, xs = [.bl k] ∧ Q (.int (if k then 1 else 0)) H) (tCons (tOp (rI0 fun i j => .int (i + j)) (tOp (rI0 fun i j => .int (i + j))
          (tOp (rI CMul fun i j => .int (i * j)) (tVar 4) (tC (.int 16807)))
          (tOp (rI CMul fun i j => .int (i * j)) (tOp (rI CMul fun i j => .int (i * j)) (tOp (rIxL K) (tVar 0) (tC (.int 3))) (tOp (rIxL K) (tVar 0) (tC (.int 3)))) (tC (.int 104729))))
          (tOp (rI CDiv fun i j => .int (i / j)) (tVar 4) (tC (.int 65536)))) tNil)) (tC (.int 998244353))) (gName 5))
        (tRet (tOp (rI (fun _ j => 0 < j) fun i j => .int (i % j)) (tCB (fun xs H Q => (∃ i, xs = [.int i] ∧ Q (.int i) H) ∨ ∃ k, xs = [.bl k] ∧ Q (.int (if k then 1 else 0)) H) (tCons (tOp (rI CDiv fun i j => .int (i / j)) (tVar 5) (tC (.int 7))) tNil)) (tVar 1))))) { nx := fun _ H' => Q .non H', rt := Q }
          [some (.ref b), some (.int lim), σ2, some (.int cell), σ3, σ5] H1 := fun σ2 σ3 σ5 cell p' H1 off e1 => by
      refine ⟨_, rfl, b, _, 4, _, rfl, rfl, SqL.of e1, rfl, _, _, rfl, rfl, .inr ⟨by decide, by decide⟩, ?_⟩
      refine ⟨_, rfl, .inl ⟨_, rfl, _, _, rfl, rfl, (by show (0 : Int) < 2147483629; decide), _, _, rfl, rfl, .inr ⟨by decide, by decide⟩, _, _, rfl, rfl, ?_⟩⟩
      refine ⟨_, rfl, b, _, 3, _, rfl, rfl, SqL.of e1, rfl, _, _, rfl, rfl, .inr ⟨by decide, by decide⟩, _, _, rfl, rfl, _, _, rfl, rfl, .inl ⟨_, rfl, _, _, rfl, rfl, (by show (0 : Int) < 2147483647; decide), ?_⟩⟩
      generalize hm : (m * 48271 + cell % 2147483629 * 69621 + (kk + 1) * 7919 + 11) % 2147483647 = mm
      have mm0 : 0 ≤ mm := by rw [← hm]; exact Int.emod_nonneg _ (by decide)
      have mm1 : mm < 2147483647 := by rw [← hm]; exact Int.emod_lt_of_pos _ (by decide)
      refine ⟨_, rfl, _, rfl, b, _, 4, 4, rfl, rfl, e1, rfl, ?_⟩
      have c1 : CMul (kk + 1) (kk + 1) := .inl ⟨by omega, by omega⟩
      refine ⟨_, rfl, _, _, rfl, rfl, .inr ⟨by decide, by decide⟩, _, rfl, b, _, 3, _, rfl, rfl, SqL.of upd_same, rfl, _, rfl, b, _, 3, _, rfl, rfl, SqL.of upd_same, rfl, _, _, rfl, rfl, c1, _, _, rfl, rfl, .inr ⟨by decide, by decide⟩, _, _, rfl, rfl,
        _, rfl, _, _, rfl, rfl, ⟨by decide, by decide⟩, _, _, rfl, rfl, .inl ⟨_, rfl, _, _, rfl, rfl, (by show (0 : Int) < 998244353; decide), ?_⟩⟩
      refine ⟨_, rfl, _, _, rfl, rfl, ⟨by decide, by decide⟩, .inl ⟨_, rfl, _, rfl, _, _, rfl, rfl, h0, ?_⟩⟩
      exact k _ _ (md _).1 (md _).2 (off.trans Off.upd) ⟨ns, p', r, kk + 1, mm, by rw [← hm]; exact upd_same, by rw [upd_ne hcb]; exact off.at hcb hc, by omega, by omega, mm0, mm1⟩
    -- if bag[2] > 0
    refine ⟨_, rfl, b, _, 2, _, rfl, rfl, SqL.of upd_same, rfl, _, _, rfl, rfl, _, rfl, ite2 (fun c2 => ?_) (fun c2 => ?_)⟩
    · refine ⟨_, rfl, b, _, 2, _, rfl, rfl, SqL.of upd_same, rfl, .inl ⟨_, rfl, _, rfl, _, _, rfl, rfl, h0, ?_⟩⟩
      refine ⟨_, rfl, b, _, 2, _, rfl, rfl, SqL.of upd_same, rfl, _, rfl, _, _, rfl, rfl, wd _, _, rfl, b, _, 2, 2, rfl, rfl, upd_same, rfl, ?_⟩
      rw [upd_upd]
      exact ⟨_, rfl, k _ _ (md r).1 (md r).2 Off.upd ⟨ns, p, r / lim, kk + 1, m, upd_same, by rw [upd_ne hcb]; exact hc, by omega, by omega, m0, m1⟩⟩
    -- cell = bag[3]; if bag[1] < len(bag[0])
    refine ⟨_, rfl, b, _, 3, _, rfl, rfl, SqL.of upd_same, rfl, ?_⟩
    have hc1 : (upd H b (bagO c p r (kk + 1) m)) c = some (.lst (ns.map V.int)) := by rw [upd_ne hcb]; exact hc
    refine ⟨_, rfl, b, _, 1, _, rfl, rfl, SqL.of upd_same, rfl, _, rfl, b, _, 0, _, rfl, rfl, SqL.of upd_same, rfl, c, _, rfl, .inl (SqL.of hc1), _, _, rfl, rfl, _, rfl, ite2 (fun c3 => ?_) (fun c3 => ?_)⟩
    · have hp : p < ns.length := by
        have z := of_decide_eq_true c3
        rw [List.length_map] at z
        omega
      have at_ : atI (ns.map V.int) ((p : Nat) : Int) = some (.int ns[p]) := atI_nat (by rw [List.getElem?_map, List.getElem?_eq_getElem hp]; rfl)
      refine ⟨_, rfl, b, _, 0, _, rfl, rfl, SqL.of upd_same, rfl, _, rfl, b, _, 1, _, rfl, rfl, SqL.of upd_same, rfl, c, _, _, _, rfl, rfl, SqL.of hc1, at_, ?_⟩
      refine ⟨_, rfl, b, _, 1, _, rfl, rfl, SqL.of upd_same, rfl, _, _, rfl, rfl, _, rfl, b, _, 1, 1, rfl, rfl, upd_same, rfl, ?_⟩
      rw [upd_upd]
      refine ⟨_, rfl, _, rfl, _, _, rfl, rfl, ⟨by decide, by decide, by decide⟩, _, _, rfl, rfl, _, rfl, ite2 (fun c4 => ?_) (fun c4 => ?_)⟩
      · refine ⟨_, rfl, _, rfl, _, rfl, _, _, rfl, rfl, wd _, _, rfl, b, _, 2, 2, rfl, rfl, upd_same, rfl, ?_⟩
        rw [upd_upd]
        refine ⟨_, rfl, _, rfl, .inl ⟨_, rfl, _, rfl, _, _, rfl, rfl, h0, ?_⟩⟩
        exact k _ _ (md _).1 (md _).2 Off.upd ⟨ns, p + 1, _, kk + 1, m, upd_same, by rw [upd_ne hcb]; exact hc, by omega, by omega, m0, m1⟩
      · exact fin _ _ _ _ (p + 1) _ Off.upd upd_same
    · exact fin _ _ _ _ p _ Off.upd upd_same
theorem C_draw (T : Tx K mg) : Cal P w K mg base CX0 1 "_law_draw" ["bag", "limit"] [] spDraw := by
  obtain ⟨fd, G, F⟩ := ok_draw (P := P) (w := w) (base := base) T
  exact ⟨_, fd, [], G, T.g__law_draw, F.kp, F.bindsN fun _ _ _ _ _ _ us hl => match us, hl with | [_, _], _ => rfl, .nil⟩

/-! ### is_whole, its bounds given -/
theorem ok_whole (T : Tx K mg) : ∃ fd, FnOk P w K mg base CX0 1 (He.ga K "is_whole") fd ["thing", "low", "high"] spWhole ∧ FnP K "is_whole" "is_whole" s_is_whole [.non, .non] (He.ga K "is_whole") fd := by
  obtain ⟨fd, F⟩ := T.d_is_whole
  refine ⟨fd, F.ok sc_is_whole (fun vs H Q E h => ?_) (fun cdv A outer s H vs Q E hr h => ?_), F⟩
  · obtain ⟨v, lo, hi, t, rfl, _⟩ := h
    rfl
  · obtain ⟨v, lo, hi, t, rfl, kn, q⟩ := h
    refine ⟨_, PSs.nox (pss_cons (ps_if (PW.pt (pw_or (pt_not (pt_val (pe_callB call_isi (by rfl) T.n_isinstance (by decide +kernel) (pa_cons (pv 0) (pa_cons (pe_bltn (v := .ty "int") (u := .type "int") (by rfl) T.n_int (by decide +kernel) rfl) pa_nil))))) (pw_or1 (pt_val (pe_callB call_isi (by rfl) T.n_isinstance (by decide +kernel) (pa_cons (pv 0) (pa_cons (pe_bltn (v := .ty "bool") (u := .type "bool") (by rfl) T.n_bool (by decide +kernel) rfl) pa_nil)))))))
        (pss_one (ps_ret pe_bl))
        pss_nil)
      (pss_cons (ps_if (PW.pt (pw_and (pt_cmpR op_notN (pv 1) pe_non (nomark _)) (pw_and1 (pt_cmpR op_lt (pv 0) (pv 1) (nomark _)))))
        (pss_one (ps_ret pe_bl))
        pss_nil)
      (pss_one (ps_ret (pe_or (pe_cmpR op_isN (pv 2) pe_non (nomark _)) (pe_one (pe_cmpR op_le (pv 0) (pv 2) (nomark _)))))))), ?_⟩
    rcases kn.whole (K := K) with ⟨i, rfl, a1, a2⟩ | ⟨a, nv, no⟩
    · refine ⟨_, rfl, _, _, _, _, _, rfl, .ty _, kn.ty, a1, _, rfl, iteF ⟨_, rfl, _, _, _, _, _, rfl, .ty _, kn.ty, a2, _, rfl, iteF ?_⟩⟩
      refine ⟨_, rfl, rfl, _, rfl, iteT ⟨_, rfl, _, rfl, _, _, rfl, rfl, _, rfl, ite2 (fun c => ?_) (fun c => ?_)⟩⟩
      · have e : wholeV (.int i) lo hi = false := by
          have z := of_decide_eq_true c
          show (decide (lo ≤ i) && decide (i ≤ hi)) = false
          rw [decide_eq_false (by omega), Bool.false_and]
        rw [e] at q
        exact q
      · refine ⟨_, rfl, rfl, _, rfl, iteF ⟨_, rfl, _, rfl, _, _, rfl, rfl, ?_⟩⟩
        have e : wholeV (.int i) lo hi = decide (i ≤ hi) := by
          have z : ¬ i < lo := fun z => c (decide_eq_true z)
          show (decide (lo ≤ i) && decide (i ≤ hi)) = _
          rw [decide_eq_true (show lo ≤ i by omega), Bool.true_and]
        rw [e] at q
        exact q
    · rw [no] at q
      rcases a with ⟨a1, a2⟩ | a1
      · exact ⟨_, rfl, _, _, _, _, _, rfl, .ty _, kn.ty, a1, _, rfl, iteF ⟨_, rfl, _, _, _, _, _, rfl, .ty _, kn.ty, a2, _, rfl, iteT q⟩⟩
      · exact ⟨_, rfl, _, _, _, _, _, rfl, .ty _, kn.ty, a1, _, rfl, iteT (iteT q)⟩
theorem C_is_whole (T : Tx K mg) : Cal P w K mg base CX0 1 "is_whole" ["thing", "low", "high"] [] spWhole := by
  obtain ⟨fd, G, F⟩ := ok_whole (P := P) (w := w) (base := base) T
  obtain ⟨ds, v, b⟩ := F.binds1 (ps := ["thing", "low", "high"]) 3 2 (List.cons_ne_nil _ _) rfl fun _ _ _ _ _ _ _ us its hu hi => match us, hu, its, hi with | [_, _, _], _, [_, _], _ => ⟨_, rfl, rfl⟩
  exact ⟨_, fd, ds, G, T.g_is_whole, F.kp, b, v⟩

end
end K00

set_option maxRecDepth 100000
set_option maxHeartbeats 4000000
/-! sorted(xs) of data of any depth; dict(pairs) whose keys are tuples. -/
namespace Q
open PySem PySem.Spec PyProof.Rows L2
/-- sorted(xs): each item is data, every two alike -/
@[irreducible] def rSortedD (K : PySem.W.Frag) : List V → Hp → VK → Prop := fun vs H R => ∃ (a : Addr) (β : Type) (enc : β → PyData) (val : β → V) (bs : List β), vs = [.ref a] ∧ SqL K H a (bs.map val) ∧ (∀ b ∈ bs, Dp K H (val b) (enc b)) ∧
  ((PySem.W.AllAlike (bs.map enc) ∧ PySem.W.Sortable (bs.map enc)) ∨ bs.length < 2) ∧ (∀ b ∈ bs, (enc b).depth ≤ 60) ∧ ∀ p, H p = none → R (.ref p) (upd H p (.lst ((bs.mergeSort (PySem.W.dataLe false enc)).map val)))
theorem each_vals {β : Type} {val : β → V} : ∀ {bs : List β} {us : List Value}, Vals (bs.map val) us → PySem.W.EachIs (fun u b => RelV (val b) u) us bs
  | [], us, h => by
    rw [List.map_nil] at h
    cases h
    exact .nil
  | b :: bs, us, h => by
    rw [List.map_cons] at h
    cases h with
    | cons a t => exact .cons a (each_vals t)
theorem vals_each {β : Type} {val : β → V} {bs : List β} {us : List Value} (h : PySem.W.EachIs (fun u b => RelV (val b) u) us bs) : Vals (bs.map val) us := by
  induction h with
  | nil => exact .nil
  | cons a _ ih => exact .cons a ih
theorem each_imp {α β : Type} {R S : α → β → Prop} {as : List α} {bs : List β} (h : PySem.W.EachIs R as bs) (f : ∀ a b, b ∈ bs → R a b → S a b) : PySem.W.EachIs S as bs := by
  induction h with
  | nil => exact .nil
  | cons a _ ih => exact .cons (f _ _ List.mem_cons_self a) (ih fun x y m => f x y (List.mem_cons_of_mem _ m))
theorem short_sort {β : Type} (le : β → β → Bool) : ∀ {bs : List β}, bs.length < 2 → bs.mergeSort le = bs
  | [], _ => List.mergeSort_nil
  | [b], _ => List.mergeSort_singleton b
  | _ :: _ :: _, h => absurd h (by simp)
theorem perm_short {α : Type} : ∀ {l m : List α}, l.Perm m → m.length < 2 → l = m
  | l, [], h, _ => List.Perm.eq_nil h
  | l, [x], h, _ => List.perm_singleton.mp h
  | _, _ :: _ :: _, _, h => absurd h (by simp)
theorem cr_sortedD {X : Cx} (hu : X.A.units + 70 < cLine) : CallR X (.builtin "sorted") (rSortedD X.K) := by
  intro pins s σ H vs us Q I r h
  unfold rSortedD at h
  obtain ⟨a, β, enc, val, bs, rfl, hs, hd, hal, hdp, q⟩ := h
  obtain ⟨its, rv, hl, hz⟩ := I.list hs
  obtain ⟨u, rfl, ru⟩ := vals1 r
  obtain rfl : u = Value.ref a := ru
  have hL : bs.length ≤ sizeLine := by rw [List.length_map] at hz; exact hz
  have e := each_vals rv
  have fin : ∀ out : List Value, PySem.W.EachIs (fun u b => RelV (val b) u) out (bs.mergeSort (PySem.W.dataLe false enc)) → EP X pins σ Q (.ref (s.heap.objs.size + 1)) { s with heap := sortedAll s.heap its out.toArray } := fun out eo => by
    obtain ⟨n, hn⟩ := sortedAll_at s.heap its out.toArray
    refine ⟨.ref _, upd H (s.heap.objs.size + 1) (.lst ((bs.mergeSort (PySem.W.dataLe false enc)).map val)), I.laid (t' := s.toks) (fun _ _ => sortedAll_old) (Nat.le_succ _) ⟨?_, out, n, vals_each eo, hn⟩, rfl, q _ (I.hok.fresh (Nat.le_succ _))⟩
    rw [List.length_map, List.length_mergeSort]
    exact hL
  by_cases h2 : bs.length < 2
  · refine SrtO.sorted_ord (ltv := fun _ _ => false) ⟨fun _ _ _ => rfl, fun _ _ _ _ _ => rfl⟩ hl.isList (by rw [← rv.length]; exact hz) (fun z => absurd z (by rw [← rv.length, List.length_map]; omega)) fun out _ hb => ?_
    have eo : out = its := perm_short hb.perm (by rw [← rv.length, List.length_map]; exact h2)
    refine fin out ?_
    rw [eo, short_sort _ h2]
    exact e
  · obtain ⟨hal, hk⟩ := hal.resolve_right h2
    refine PySem.W.sorted_data (β := β) (enc := enc) hl.isList e (each_imp e fun v b m rb => Dp.reads I _ _ _ (hd b m) rb) hal hk hL (fun b m => by have := hdp b m; show X.A.units + 2 + _ < _; omega) fun out _ eo => fin out eo
/-! ### dict(xs), xs a list of pairs whose keys are tuples -/
def mergeT (acc ps : List (List Key × V)) : List (List Key × V) := ps.foldl (fun a p => putK a p.1 p.2) acc
theorem length_mergeT : ∀ (ps acc : List (List Key × V)), (mergeT acc ps).length ≤ acc.length + ps.length
  | [], acc => Nat.le_refl _
  | p :: ps, acc => by
    have h1 := length_mergeT ps (putK acc p.1 p.2)
    have h2 := length_putK acc p.1 p.2
    show (mergeT (putK acc p.1 p.2) ps).length ≤ acc.length + (ps.length + 1)
    omega
theorem ktAll {H : Hp} : ∀ {ps : List (List Key × V)} {xs : List (List Key × Addr × Value)} {acc : List (List Key × V)} {ys : List (List Key × Addr × Value)}, KT H acc ys → KT H ps xs → KT H (mergeT acc ps) (PySem.storedAllH ys xs)
  | _, _, _, _, r, .nil => r
  | _, _, acc, ys, r, .cons (a := p) (b := x) h t => by
    have z := ktAll (r.put p.1 h.2.1 h.2.2) t
    rw [h.1] at z
    show KT H (mergeT (putK acc p.1 p.2) _) (PySem.storedAllH (PySem.storedH ys x.1 x.2.1 x.2.2) _)
    rw [h.1]
    exact z
/-- the pairs of such a list -/
theorem tpairs_of {X : Cx} {pins : List (Addr × Obj)} {σ : L2.St} {H : Hp} {s : Shared} (I : Inv X pins σ H s) : ∀ {ps : List Addr} {kvs : List (List Key × V)}, Paired (fun (p : Addr) (kv : List Key × V) => ∃ kb, SqT X.K H p [.ref kb, kv.2] ∧ H kb = some (.tup (kv.1.map kV))) ps kvs →
    ∃ xs : List (List Key × Addr × Value), KT H kvs xs ∧ xs.length = ps.length ∧ ∀ (j : Nat) (x : List Key × Addr × Value), xs[j]? = some x → ∃ p, ps[j]? = some p ∧ s.heap.IsTuple p #[.ref x.2.1, x.2.2]
  | _, _, .nil => ⟨[], .nil, rfl, fun j x e => by simp at e⟩
  | _, _, .cons (a := p) (b := kv) h t => by
    obtain ⟨xs, r, hl, hp⟩ := tpairs_of I t
    obtain ⟨kb, h1, h2⟩ := h
    obtain ⟨its, rv, ht, _⟩ := I.tuple h1
    obtain ⟨u, y, rfl, ru, ry⟩ := vals2 rv
    cases ru
    refine ⟨(kv.1, kb, y) :: xs, .cons ⟨rfl, h2, ry⟩ r, by rw [List.length_cons, List.length_cons, hl], fun j x e => ?_⟩
    cases j with
    | zero =>
      cases e
      exact ⟨p, rfl, ht⟩
    | succ j => exact hp j x e
@[irreducible] def rDictT (K : PySem.W.Frag) : List V → Hp → VK → Prop := fun vs H Q => ∃ (a : Addr) (ps : List Addr) (kvs : List (List Key × V)), vs = [.ref a] ∧ SqL K H a (ps.map V.ref) ∧
    Paired (fun (p : Addr) (kv : List Key × V) => ∃ kb, SqT K H p [.ref kb, kv.2] ∧ H kb = some (.tup (kv.1.map kV))) ps kvs ∧ ∀ p, H p = none → Q (.ref p) (upd H p (.dT (mergeT [] kvs)))
theorem call_dictPT {X : Cx} (hcalm : X.calm = true) (hu : X.A.units + 10 < cLine) : CallR X (.type "dict") (rDictT X.K) := by
  intro pins s σ H vs us Q I r q
  unfold rDictT at q
  obtain ⟨a, ps, kvs, rfl, hq, hp, q⟩ := q
  obtain ⟨u, rfl, rx⟩ := vals1 r
  cases rx
  obtain ⟨its, rv, pl, hz⟩ := I.list hq
  obtain rfl := refs_at rv
  rw [List.length_map] at hz
  obtain ⟨xs, rel, hl, hx⟩ := tpairs_of I hp
  obtain ⟨o, n, ho, hc, hd, hdat⟩ := pl
  have hm : (s.heap.objs.size == sysModules) = false := beq_eq_false_iff_ne.mpr (Nat.ne_of_gt I.big)
  have keys : ∀ x ∈ xs, (tupleKind (mixKind X.prog X.w)).is s.heap x.1 x.2.1 := fun x m => by
    obtain ⟨j, e⟩ := List.getElem?_of_mem m
    obtain ⟨p, z⟩ := (show ∃ p : List Key × V, kvs[j]? = some p ∧ p.1 = x.1 ∧ H x.2.1 = some (.tup (p.1.map kV)) by
      have : ∀ {l : List (List Key × V)} {m : List (List Key × Addr × Value)}, KT H l m → ∀ (j : Nat) x, m[j]? = some x → ∃ p : List Key × V, l[j]? = some p ∧ p.1 = x.1 ∧ H x.2.1 = some (.tup (p.1.map kV)) := by
        intro l m k
        induction k with
        | nil => intro j x e; simp at e
        | cons h _ ih =>
          intro j x e
          cases j with
          | zero => cases e; exact ⟨_, rfl, h.1, h.2.1⟩
          | succ j => exact ih j x e
      exact this rel j x e)
    rw [← z.2.1]
    exact key_of I.hok z.2.2
  refine PySem.call_dict_pairsH (knd := tupleKind (mixKind X.prog X.w)) (ps := xs) (PySem.PairArg.list a (ps.map Value.ref).toArray (fun j => ps.getD j 0) (xs.map fun x => (Value.ref x.2.1, x.2.2))) (I.ok.hd hcalm) (tupleKind_room_in1 (by show X.A.units + 1 + 1 < _; omega)) ⟨⟨o, n, ho, hc, hd, hdat⟩, by simp [hl], fun j k v e => ?_⟩ ⟨by simp, fun i key v e => ?_⟩ (fun h' kp x m => ?_) (by rw [List.length_map, hl]; exact hz) fun h' tk hd' k => ?_
  · rw [List.getElem?_map] at e
    obtain ⟨x, e1, e2⟩ := Option.map_eq_some_iff.mp e
    cases e2
    obtain ⟨p, e3, e4⟩ := hx j x e1
    refine ⟨?_, .inl ?_⟩
    · show (ps.map Value.ref).toArray[j]? = some (.ref (ps.getD j 0))
      rw [List.getElem?_toArray, List.getElem?_map, List.getD_eq_getElem?_getD, e3]
      rfl
    · show s.heap.IsTuple (ps.getD j 0) _
      rw [List.getD_eq_getElem?_getD, e3]
      exact e4
  · have e : (xs.map fun x => (Value.ref x.2.1, x.2.2))[i]? = some (key, v) := e
    rw [List.getElem?_map] at e
    obtain ⟨x, e1, e2⟩ := Option.map_eq_some_iff.mp e
    cases e2
    exact ⟨x.1, x.2.1, e1, rfl⟩
  · obtain ⟨o', arr, n', h1, h2⟩ := keys x m
    exact ⟨o', arr, n', kp _ _ (Nat.ne_of_lt (Heap.lt_size h1)) (fun z => nomatch z) h1, h2⟩
  · obtain ⟨q1, es, ep, h1, h2, h3, h4, _, h5⟩ := hd'
    have kt : KT H (mergeT [] kvs) (PySem.storedAllH [] xs) := ktAll .nil rel
    have hlen : (mergeT [] kvs).length ≤ sizeLine := by
      refine Nat.le_trans (length_mergeT kvs []) ?_
      rw [List.length_nil, Nat.zero_add, Paired.length rel, hl]
      exact hz
    refine ⟨.ref s.heap.objs.size, upd H s.heap.objs.size (.dT (mergeT [] kvs)), I.laid (t' := tk) (fun b o e => k b o (fun z => nomatch z) e) (Nat.le_refl _) ⟨hlen, hm, _, kt.keeps fun c ys ec => ?_, q1, es, ep, h1, h2, h3, h4, h5⟩, rfl, q _ (I.hok.fresh (Nat.le_refl _))⟩
    rw [upd_ne (ne_of_none ec (I.hok.fresh (Nat.le_refl _)))]
    exact ec
end Q

set_option maxRecDepth 100000
set_option maxHeartbeats 4000000
/-! Heaps in which all but the lists stands; slices by a place. -/
namespace Q
open PySem PySem.Spec PyProof.Rows L2
/-- all but the lists (and the tables of code objects) stands -/
def NL (H H' : Hp) : Prop := ∀ a o, (∀ xs, o ≠ .lst xs) → (∀ ps, o ≠ .tbl ps) → H a = some o → H' a = some o
theorem NL.refl (H : Hp) : NL H H := fun _ _ _ _ e => e
theorem NL.trans {H H1 H2 : Hp} (h : NL H H1) (k : NL H1 H2) : NL H H2 := fun a o n m e => k a o n m (h a o n m e)
theorem NL.same {H H' : Hp} (h : L2.Same H H') : NL H H' := fun a o _ _ e => h a o e
theorem NL.lst {H : Hp} {a : Addr} {xs ys : List V} (h : H a = some (.lst xs)) : NL H (upd H a (.lst ys)) := fun b o n _ e => by
  by_cases z : b = a
  · rw [z, h] at e
    exact absurd (Option.some.inj e).symm (n xs)
  · rw [upd_ne z]
    exact e
theorem NL.new {H : Hp} {a : Addr} {o : HO} (h : H a = none) : NL H (upd H a o) := NL.same (same_new h)
theorem NL.tup {H H' : Hp} {a : Addr} {xs : List V} (h : NL H H') (e : H a = some (.tup xs)) : H' a = some (.tup xs) := h _ _ (fun _ z => nomatch z) (fun _ z => nomatch z) e
theorem NL.ins {H H' : Hp} {a C dx : Addr} {fs : List (Str × V)} (h : NL H H') (e : H a = some (.ins C dx fs)) : H' a = some (.ins C dx fs) := h _ _ (fun _ z => nomatch z) (fun _ z => nomatch z) e
theorem NL.sqT {K : PySem.W.Frag} {H H' : Hp} {a : Addr} {xs : List V} (k : NL H H') (h : SqT K H a xs) : SqT K H' a xs := by
  rcases h with (h | ⟨o, h⟩) | h
  · exact .inl (.inl (k _ _ (fun _ z => nomatch z) (fun _ z => nomatch z) h))
  · exact .inl (.inr ⟨o, k _ _ (fun _ z => nomatch z) (fun _ z => nomatch z) h⟩)
  · exact .inr h
/-- what stood stands, a list of ours aside that was not there -/
theorem same_but {H H' : Hp} {a : Addr} {o : HO} (h : L2.Same H H') (n : H a = none) : L2.Same H (upd H' a o) := fun b u e => by
  rw [upd_ne (ne_of_none e n)]
  exact h _ _ e
theorem nwS {H H' : Hp} {p : Addr} {o : HO} (n : H p = none) (h : upd H p o = H') : L2.Same H H' ∧ H' p = some o := by
  subst h
  exact ⟨same_new n, upd_same⟩
theorem updS {H H' : Hp} {p : Addr} {o : HO} (h : upd H p o = H') : (∀ b u, b ≠ p → H b = some u → H' b = some u) ∧ H' p = some o := by
  subst h
  exact ⟨fun b u n e => by rw [upd_ne n]; exact e, upd_same⟩
/-- a list of ours that was not there is written: what stood stands -/
theorem Same.put {H H1 H2 : Hp} {p : Addr} (s : L2.Same H H1) (n : H p = none) (u : ∀ b o, b ≠ p → H1 b = some o → H2 b = some o) : L2.Same H H2 := fun b o e => u b o (ne_of_none e n) (s b o e)
theorem NL.put {H1 H2 : Hp} {p : Addr} {xs : List V} (e : H1 p = some (.lst xs)) (u : ∀ b o, b ≠ p → H1 b = some o → H2 b = some o) : NL H1 H2 := fun b o n _ z => u b o (fun w => by rw [w, e] at z; exact n xs (Option.some.inj z).symm) z
theorem cutV_take (xs : List V) {i : Nat} (h : i ≤ xs.length) : cutV xs none (some (i : Int)) = xs.take i := by
  unfold cutV
  rw [HT.sIx_none, HT.sIx_nat, List.drop_zero, Nat.sub_zero, Nat.min_eq_left h]
theorem cutV_drop (xs : List V) (i : Nat) : cutV xs (some (i : Int)) none = xs.drop i := by
  unfold cutV
  rw [HT.sIx_none, HT.sIx_nat]
  by_cases h : i ≤ xs.length
  · rw [Nat.min_eq_left h, List.take_of_length_le (by rw [List.length_drop]; omega)]
  · rw [Nat.min_eq_right (by omega), List.drop_length, List.drop_eq_nil_of_le (by omega)]
    exact List.take_nil
theorem paired_zip {α β : Type} {R : α → β → Prop} : ∀ {as : List α} {bs : List β}, Paired R as bs → (as.zip bs).map Prod.fst = as ∧ (as.zip bs).map Prod.snd = bs ∧ ∀ x ∈ as.zip bs, R x.1 x.2
  | _, _, .nil => ⟨rfl, rfl, fun _ m => nomatch m⟩
  | _, _, .cons a r => by
    obtain ⟨h1, h2, h3⟩ := paired_zip r
    refine ⟨by rw [List.zip_cons_cons, List.map_cons, h1], by rw [List.zip_cons_cons, List.map_cons, h2], fun x m => ?_⟩
    rw [List.zip_cons_cons] at m
    rcases List.mem_cons.mp m with e | m
    · rw [e]
      exact a
    · exact h3 x m
theorem paired_of {α β γ : Type} {R : α → β → Prop} {f : γ → α} {g : γ → β} : ∀ {cs : List γ}, (∀ c ∈ cs, R (f c) (g c)) → Paired R (cs.map f) (cs.map g)
  | [], _ => .nil
  | c :: cs, h => .cons (h c List.mem_cons_self) (paired_of fun x m => h x (List.mem_cons_of_mem _ m))
/-- sorted(xs), by what the items stand for -/
theorem sortedD_of {K : PySem.W.Frag} {γ : Type} {R : V → γ → Prop} {enc : γ → PyData} {H : Hp} {a : Addr} {vs : List V} {cs : List γ} {Q : VK} (h : SqL K H a vs) (p : Paired R vs cs) (hd : ∀ v c, c ∈ cs → R v c → Dp K H v (enc c))
    (hal : (PySem.W.AllAlike (cs.map enc) ∧ PySem.W.Sortable (cs.map enc)) ∨ cs.length < 2) (dp : ∀ c ∈ cs, (enc c).depth ≤ 60) (q : ∀ l ys, H l = none → Paired R ys (cs.mergeSort (PySem.W.dataLe false enc)) → Q (.ref l) (upd H l (.lst ys))) : rSortedD K [.ref a] H Q := by
  obtain ⟨h1, h2, h3⟩ := paired_zip p
  have ms : ∀ x ∈ vs.zip cs, x.2 ∈ cs := fun x m => by
    have : x.2 ∈ (vs.zip cs).map Prod.snd := List.mem_map_of_mem m
    rw [h2] at this
    exact this
  have e2 : (vs.zip cs).map (fun x => enc x.2) = cs.map enc := by
    rw [← h2, List.map_map, h2]
    rfl
  unfold rSortedD
  refine ⟨a, V × γ, fun x => enc x.2, Prod.fst, vs.zip cs, rfl, by rw [h1]; exact h, fun x m => hd _ _ (ms x m) (h3 x m), ?_, fun x m => dp _ (ms x m), fun l hl => q l _ hl ?_⟩
  · rw [e2]
    refine hal.imp id fun z => ?_
    have := congrArg List.length h2
    rw [List.length_map] at this
    omega
  · have e3 : ((vs.zip cs).mergeSort (PySem.W.dataLe false fun x : V × γ => enc x.2)).map Prod.snd = cs.mergeSort (PySem.W.dataLe false enc) := by
      rw [List.map_mergeSort (r := PySem.W.dataLe false fun x : V × γ => enc x.2) (s := PySem.W.dataLe false enc) (f := Prod.snd) (fun _ _ _ _ => rfl), h2]
    rw [← e3]
    exact paired_of fun x m => h3 x (List.mem_mergeSort.mp m)
/-- the order of a frame's rules of sorting -/
theorem cr_sortedR {X : Cx} {k : Nat} (hr : Room k X.A) : CallR X (.builtin "sorted") (rSortedD X.K) := cr_sortedD (by have := hr.un; omega)
theorem call_dictR {X : Cx} {k : Nat} (hr : Room k X.A) (hcalm : X.calm = true) : CallR X (.type "dict") (rDictT X.K) := call_dictPT hcalm (by have := hr.un; omega)
end Q

set_option maxRecDepth 100000
set_option maxHeartbeats 4000000
/-! sorted(xs, key=lambda x: ..): the lambda as a function of ours, its promise, the sort. -/
namespace Q
open PySem PySem.Spec PyProof.Rows L2 LamX
/-! ### data, and which lists it is read off -/
def Listy (K : PySem.W.Frag) (H : Hp) (a : Addr) : Prop := (∃ xs, H a = some (.lst xs)) ∨ (∃ o xs, H a = some (.frz o (.lst xs))) ∨ K.lookup a ≠ none
theorem sqL_listy {K : PySem.W.Frag} {H : Hp} {a : Addr} {xs : List V} (h : SqL K H a xs) : Listy K H a := by
  rcases h with (h | ⟨o, h⟩) | ⟨o, its, n, h, _⟩
  · exact .inl ⟨_, h⟩
  · exact .inr (.inl ⟨_, _, h⟩)
  · exact .inr (.inr (by rw [h]; exact fun z => nomatch z))
section
variable {X : Cx} {pins : List (Addr × Obj)} {σ : L2.St} {H : Hp} {s : Shared}
mutual
theorem reads_in (I : Inv X pins σ H s) : ∀ (d : PyData) (v : V) (u : Value), Dp X.K H v d → RelV v u → ∃ as, Reads s.heap u d as ∧ ∀ a ∈ as, Listy X.K H a
  | .none, _, _, h, r => by cases h; cases r; exact ⟨_, .none, fun _ m => nomatch m⟩
  | .bool b, _, _, h, r => by cases h; cases r; exact ⟨_, .bool b, fun _ m => nomatch m⟩
  | .int i, _, _, h, r => by cases h; obtain ⟨t, rfl⟩ := r; exact ⟨_, .int i t, fun _ m => nomatch m⟩
  | .str x, _, _, h, r => by cases h; obtain ⟨t, rfl⟩ := r; exact ⟨_, .str x t, fun _ m => nomatch m⟩
  | .list ds, _, _, h, r => by
    cases h with
    | lst sq al =>
      cases r
      obtain ⟨its, rv, ⟨o, n, ho, hc, _, hd⟩, _⟩ := I.list sq
      obtain ⟨as, q1, q2⟩ := reads_all_in I ds _ its al rv
      refine ⟨_, .list ho hc hd q1, fun b m => ?_⟩
      rcases List.mem_cons.mp m with e | m
      · rw [e]
        exact sqL_listy sq
      · exact q2 b m
  | .tuple ds, _, _, h, r => by
    cases h with
    | tup sq al =>
      cases r
      obtain ⟨its, rv, ⟨o, ho, hc, n, hd⟩, _⟩ := I.tuple sq
      obtain ⟨as, q1, q2⟩ := reads_all_in I ds _ its al rv
      exact ⟨_, .tuple ho hc hd q1, q2⟩
  | .dict _, _, _, h, _ => by cases h
theorem reads_all_in (I : Inv X pins σ H s) : ∀ (ds : List PyData) (vs : List V) (us : List Value), DpAll X.K H vs ds → Vals vs us → ∃ as, ReadsAll s.heap us ds as ∧ ∀ a ∈ as, Listy X.K H a
  | [], _, _, h, r => by cases h; cases r; exact ⟨_, .nil, fun _ m => nomatch m⟩
  | d :: ds, _, _, h, r => by
    cases h with
    | cons a b =>
      cases r with
      | cons ra rb =>
        obtain ⟨as, p1, p2⟩ := reads_in I d _ _ a ra
        obtain ⟨bs, q1, q2⟩ := reads_all_in I ds _ _ b rb
        exact ⟨_, .cons p1 q1, fun c m => (List.mem_append.mp m).elim (p2 c) (q2 c)⟩
end
end
/-! ### the keys, lists too -/
section
open PySem.W PySem.Calls
variable {prog : Program} {w : World} {A : Around} {E : Value → Shared → Prop} {s : Shared}
/-- the operating system's side as it was, no generator left awake -/
def Oth (s z : Shared) : Prop := z.os = s.os ∧ (AllBare s.gens → AllBare z.gens)
theorem Oth.refl (s : Shared) : Oth s s := ⟨rfl, id⟩
theorem Oth.trans {s z y : Shared} (a : Oth s z) (b : Oth z y) : Oth s y := ⟨b.1.trans a.1, b.2 ∘ a.2⟩
/-- the keys, one after the other: J tells what holds after each -/
theorem keys_rest {a kS : Addr} {b : Bool} {vs : List Value} {kz : List PyData} {e1 : Nat} {f : Value} {P : PySem.Fin → Shared → Prop} (J : Nat → List Value → Shared → Prop) (j0 : J 0 [] s) (nk : s.heap.get? kS = some (seqObj "list" #[] 0)) (na : s.heap.get? a = some (seqObj "list" #[] e1)) (ne : kS ≠ a)
    (len : kz.length = vs.length) (hZ : vs.length ≤ sizeLine) (hal : AllAlike kz) (hsk : Sortable kz) (hu : ∀ d, d ∈ kz → A.units + d.depth < cLine)
    (turn : ∀ (i : Nat) (v : Value) (ks : List Value) (z : Shared) (ka : Array Value) (e : Nat), vs[i]? = some v → J i ks z → z.heap.get? kS = some (seqObj "list" ka e) → z.heap.get? a = some (seqObj "list" #[] e1) →
      wpAny (model prog w) A (call f [v]) (fun u y => y.heap.get? kS = some (seqObj "list" ka e) ∧ y.heap.get? a = some (seqObj "list" #[] e1) ∧ ∀ h', Heap.SameBut kS y.heap h' → (∃ o, h'.get? kS = some o) → J (i + 1) (ks ++ [u]) { y with heap := h' }) (fun _ _ => False) z)
    (fin : ∀ ks z, J vs.length ks z → EachIs (fun v d => ∃ as, Reads z.heap v d as) ks kz)
    (todo : ∀ z ks out h' tk c, J vs.length ks z → (∀ b o, b ≠ a → b ≠ kS → z.heap.get? b = some o → h'.get? b = some o) → h'.get? a = some (seqObj "list" (List.toArray out) c) → KeyedOut b kz vs out → P (.done (.ret .none)) { z with heap := h', toks := tk }) : wpAny (model prog w) A (ksk_rest a f b vs.toArray e1 (.ref kS)) P E s := by
  unfold ksk_rest
  refine wpAny_bind (wpAny_rule ?_)
  first
    | rw [List.forIn_toArray]
    | (rw [← Array.forIn_toList]; simp only [List.toList_toArray])
    | rw [← Array.forIn_toList]
  refine wpAny_bind (ksk_fold (fun i z => ∃ ks e, J i ks.toList z ∧ ks.size = i ∧ z.heap.get? kS = some (seqObj "list" ks e) ∧ z.heap.get? a = some (seqObj "list" #[] e1)) vs 0 s ⟨#[], 0, j0, rfl, nk, na⟩ ?one ?all)
  case one =>
    rintro j x z hx ⟨ks, e, hJ, hs, nkg, nag⟩
    rw [Nat.zero_add] at hJ hs
    have hj : j < vs.length := (List.getElem?_eq_some_iff.mp hx).1
    refine wpAny_bind (wpAny_attempt (wpAny_mono (turn j x ks.toList z ks e hx hJ nkg nag) (fun v y he => ?_) fun _ _ hF => hF.elim))
    obtain ⟨nk2, na2, hJ2⟩ := he
    try dsimp only
    have one := Heap.SameBut.update y.heap kS (Obj.mapSeq (·.push v))
    obtain ⟨c2, at2⟩ : ∃ c2, (y.heap.update kS (Obj.mapSeq (·.push v))).get? kS = some (seqObj "list" (ks.push v) c2) := ⟨_, get?_update_seq nk2 (·.push v)⟩
    refine wpAny_bind (listUpdate_at nk2 rfl ?_ (by omega) (Nat.le_trans (Nat.le_of_eq (Array.size_push ..)) (by omega)))
    refine wpAny_pure ⟨rfl, ks.push v, c2, ?_, by rw [Array.size_push, hs, Nat.zero_add], at2, (one.2 a ne.symm).trans na2⟩
    rw [Nat.zero_add, Array.toList_push]
    exact hJ2 _ one ⟨_, at2⟩
  case all =>
    rintro z ⟨ks, e, hJ, hs, nkg, nag⟩
    rw [Nat.zero_add] at hJ hs
    have rd := fin _ _ hJ
    try dsimp only
    refine wpAny_bind (listItems_at nkg rfl ?_)
    exact keyH_end (κ := dataKind z.heap kz) (h₁ := hideAll z.heap [kS]) (fun c o _ q => of_hideAll _ q) (hideAll_none _ (by simp)) nkg nag ne (SortsAt.data rd hal hsk hu) hs hZ fun h3 tk3 c k3 n3 => todo z _ _ h3 tk3 c hJ (fun b o h1 h2 q => k3 b o h1 (hideAll_get _ q (by simpa using h2))) n3 ⟨z.heap, ks.toList, hal, rfl, rd⟩
end
/-! ### the lambda as a function of ours -/
section
open NdefX
/-- what the lambda of the words F (its body b) at f promises, called with ps -/
structure LOk (P : Program) (w : World) (K : PySem.W.Frag) (mg : Str → Option Value) (base : Heap) (CX : CXT) (k : Nat) (F : NF) (b : Expr) (ps : List Str) (sp : Sp) : Prop where
  len : ∀ vs H Q E, sp vs H Q E → vs.length = ps.length
  run : ∀ (f : Addr) (A : Around) (outer : List Env) (s : Shared) (H : Hp) (us : List Value) (vs : List V) (Q : VK) (E : XK), Room k A → Env0 P w K mg base A outer s H → (∃ pm ctv : Value, s.heap.get? f = some (PySem.W.kla_obj "<lambda>" F.qual F.params b F.scope F.cl pm F.c ctv)) → H F.c = some (CodeO F.c F.qual) → Vals vs us → sp vs H Q E →
    codeAny (model P w) A (.call (.ref f) ⟨us, []⟩) (CR CX outer P w H s Q E) s
theorem lok_of {CX : CXT} {P : Program} {w : World} {K : PySem.W.Frag} {mg : Str → Option Value} {base : Heap} {N ps : List Str} {F : NF} {b : Expr} {k : Nat} {sp : Sp} (S : NScope N ps [] F.scope) (hcl : F.cl = [])
    (hb : ∀ (pm ctv : Value) (us : List Value), us.length = ps.length → bindArgs (PySem.W.kla_fn "<lambda>" F.qual F.params b F.scope F.cl pm (.ref F.c) ctv) ⟨us, []⟩ = pure (ps.zip us)) (len : ∀ vs H Q E, sp vs H Q E → vs.length = ps.length)
    (hbody : ∀ (f : Addr) (A : Around) (outer : List Env) (s : Shared) (H : Hp) (vs : List V) (Q : VK) (E : XK), Room k (A.deeper (envF F f s.heap.objs.size)) → sp vs H Q E → ∃ t, PE (ncx CX P w K mg base N F f A outer s H E) b t ∧ t (startF N vs []) H Q) : LOk P w K mg base CX (k + 1) F b ps sp := by
  refine ⟨len, fun f A outer s H us vs Q E hr e0 hf hc r hsp => ?_⟩
  have hl := len _ _ _ _ hsp
  have lim : s.heap.NoLimit := e0.mod.nolimit.keeps fun b o e => (e0.bs b o e).1
  obtain ⟨pm, ctv, ho⟩ := hf
  refine PySem.W.kla_callFunE hr.depth ho rfl S.co S.gen rfl (codeO_at e0.hok hc) ?_
  rw [hb pm ctv us (by rw [← r.length]; exact hl)]
  refine wpAny_pure (wpAny_newFunctionEnv S.nocell (fun ⟨n, _⟩ hy => S.par n (List.of_mem_zip hy).1) (fun h₁ hns hsb => ⟨lim.fresh _ hsb, ?_⟩) S.kind)
  show codeAny _ _ (.expr b (envF F f s.heap.objs.size)) _ _
  have kp : ∀ c o, s.heap.get? c = some o → h₁.get? c = some o := fun c o e => hsb.extBut c o (Nat.ne_of_lt (Heap.lt_size e)) (Heap.get?_push_of_some _ e)
  obtain ⟨t, ht, hq⟩ := hbody f A outer s H vs Q E (hr.deeper _) hsp
  have no : ∀ (y : Str) (c : Addr), F.cl.lookup y = some c → False := fun y c e => by
    rw [hcl] at e
    cases e
  have C : CellsAt F.cl [] [] s.heap H := { len := rfl, all := fun y c e => (no y c e).elim, inj := fun x y c e _ => (no x c e).elim, has := fun i y e => by simp at e }
  have I : Inv (ncx CX P w K mg base N F f A outer s H E) [] (startF N vs []) H { s with heap := h₁, toks := s.toks + (ps.zip us).length } := inv_startN S hr.hd e0 hl r C hns kp
  refine PySem.W.kla_codeExpr (wpAny_mono (ht.run [] _ (startF N vs []) H Q I hq) (fun u s' hs => ?_) fun e s' hs => hs)
  obtain ⟨v, H', J, rv, q⟩ := hs
  exact ⟨v, H', J.os, J.bare, J.base, J.hok, rv, q⟩
/-- sorted(xs, key=lambda ..), xs at hand -/
@[irreducible] def rSortLam (K : PySem.W.Frag) (T : List (Addr × Str)) (sp : Sp) : V → Hp → VK → Prop := fun x H Q => Tabs T H ∧ ∃ (a : Addr) (β : Type) (key : β → PyData) (val : β → V) (bs : List β), x = .ref a ∧ SqL K H a (bs.map val) ∧ PySem.W.AllAlike (bs.map key) ∧ PySem.W.Sortable (bs.map key) ∧ (∀ b ∈ bs, (key b).depth ≤ 60) ∧
  ∀ H2, ExtN H H2 → Tabs T H2 → (∀ b ∈ bs, ∀ H3, L2.Same H2 H3 → sp [val b] H3 (fun v H4 => L2.Same H3 H4 ∧ Dp K H4 v (key b)) fun _ _ _ => False) ∧ ∀ p H', H2 p = none → L2.Same H2 H' → H' p = some (.lst ((bs.mergeSort (PySem.W.dataLe false key)).map val)) → Q (.ref p) H'
def tSortLam (K : PySem.W.Frag) (T : List (Addr × Str)) (sp : Sp) (te : TE) : TE := fun σ H Q => te σ H fun x H1 => rSortLam K T sp x H1 Q
theorem pe_sortLam {X : Cx} {T : List (Addr × Str)} {c P : Addr} {params : Arguments} {b e : Expr} {te : TE} {scope : Scope} {p lpos kpos pos : Pos} {CX : CXT} {k : Nat} {ps : List Str} {sp : Sp} (hr : Room (k + 2) X.A) (hm0 : X.mg "sorted" = none) (TB : TabB X.base X.mg c P) (hcode : X.env.code = .ref c)
    (hm : (P, X.env.qual ++ "<lambda>") ∈ T) (hu : ∀ p ∈ T, p.1 = P → p.2 = X.env.qual ++ "<lambda>") (hcl : cloFrom X.env.cells scope.names [] = []) (hfree : ∀ y ∈ scope.names, y.2 ≠ .free) (he : PE X e te)
    (LK : ∀ c', LOk X.prog X.w X.K X.mg X.base CX k ⟨"<lambda>", X.env.qual ++ "<lambda>", params, [], scope, [], c'⟩ b ps sp) (hx : ∀ {r s' H s Q}, CR CX X.stack X.prog X.w H s Q (fun _ _ _ => False) r s' → ∃ u, r = .ok (.ret u) ∧ CE X.stack X.prog X.w H s Q u s') (hg : Gl X "sorted" := by rfl) (hdef : defaultsOf params X.env = ([], []) := by rfl)
    (hs : starEach [e] X.env = (false, eval e X.env) :: starEach [] X.env := by rfl) (hs2 : backTo pos (starEach [e] X.env) = (false, eval e X.env) :: backTo pos (starEach [] X.env) := by rfl) (hpl : (backTo pos (starEach [e] X.env)).any (·.1) = false := by rfl) : PE X (.Call (.Name "sorted" p) [e] [⟨some "key", .Lambda params b scope lpos, kpos⟩] pos) (tSortLam X.K T sp te) := by
  refine ⟨fun pins s σ H Q I h => ?_⟩
  have ha : PA X [e] (tCons te tNil) := pa_cons he pa_nil hs
  refine wpAny_Call_Name_kw (ld_blt I hg hm0 (by decide +kernel : bootBuiltins "sorted" = some (.builtin "sorted")) ?_ (by decide) (by decide))
  refine PyProof.Rows.callWith_kw (thn (ha.run pos pins s σ H (fun vs H1 => match vs with
    | [x] => rSortLam X.K T sp x H1 Q
    | _ => False) I h) fun us s1 ⟨vs, H1, I1, r1, q1⟩ => ?_) hs2 hpl (by rfl) (by rfl)
  match vs, r1, q1 with
  | [], _, q1 => exact q1.elim
  | _ :: _ :: _, _, q1 => exact q1.elim
  | [x], r1, q1 =>
  obtain ⟨u, rfl, ru⟩ := vals1 r1
  have q1 : rSortLam X.K T sp x H1 Q := q1
  unfold rSortLam at q1
  obtain ⟨hT, a, β, key, val, bs, rfl, sq, hal, hk, dp, q⟩ := q1
  obtain rfl : u = Value.ref a := ru
  show wpAny _ _ (evalAll [do let v ← eval (.Lambda params b scope lpos) X.env; standAt pos; pure v]) _ _ s1
  refine wpAny_evalAll_cons (wpAny_bind (lam_make2 I1 TB hcode hm hu hT hdef (fun y hy z => absurd z (hfree y hy)) fun f c' pm ctv H2 s2 I2 eN T2 hf hfn hfr hco => wpAny_bind (wpAny_standAt (wpAny_pure (wpAny_evalAll_nil ?_)))))
  obtain ⟨hturn, hfin⟩ := q H2 eN T2
  have sq2 : SqL X.K H2 a (bs.map val) := by
    rcases sq with (z | ⟨o, z⟩) | z
    · exact .inl (.inl (eN _ _ z fun _ y => nomatch y))
    · exact .inl (.inr ⟨o, eN _ _ z fun _ y => nomatch y⟩)
    · exact .inr z
  obtain ⟨its, rv, hl, hz⟩ := I2.list sq2
  have e := each_vals rv
  have hL : its.length ≤ sizeLine := by rw [← rv.length]; exact hz
  have el : its.length = bs.length := by rw [← rv.length, List.length_map]
  -- what is younger than s2 is none of the frame's own
  have young : ∀ x, s2.heap.objs.size ≤ x → (x ∈ X.ex ∨ X.s_0.heap.objs.size ≤ x) ∧ x ≠ X.env.locals ∧ (∀ y c, X.env.cells.lookup y = some c → c ≠ x) ∧ ∀ p ∈ X.pn ++ pins, p.1 ≠ x := fun x hx =>
    ⟨.inr (Nat.le_trans I2.sz hx), fun z => by
      rw [z] at hx
      exact Nat.lt_irrefl _ (Nat.lt_of_lt_of_le I2.lt hx), fun y c ec z => by
      obtain ⟨v, o, ho, _⟩ := I2.cell y c ec
      rw [← z] at hx
      exact Nat.lt_irrefl _ (Nat.lt_of_lt_of_le (Heap.lt_size ho) hx), fun p hp z => by
      rw [← z] at hx
      exact Nat.lt_irrefl _ (Nat.lt_of_lt_of_le (Heap.lt_size (I2.pin p hp).1) hx)⟩
  have nofr : ∀ x, s2.heap.objs.size ≤ x → x ∉ frs X.stack := fun x hx z => by
    rcases List.mem_cons.mp (I2.stkSub _ z) with y | y
    · exact (young x hx).2.1 y
    · exact I2.nofs hx y
  have turned : ∀ {H : Hp} {z : Shared} {h' : Heap} {t : Nat} {x : Addr}, s2.heap.objs.size ≤ x → Inv X pins σ H z → H x = none → (∀ b o, b ≠ x → z.heap.get? b = some o → h'.get? b = some o) → Inv X pins σ H { z with heap := h', toks := t } := fun hx I n k =>
    I.turned k n (young _ hx).2.1 (young _ hx).1 (young _ hx).2.2.1 (young _ hx).2.2.2
  show wpAny _ _ (call (.builtin "sorted") [.ref a] [(Str.ofString "key", .ref f)]) _ _ _
  refine PySem.W.sorted_of_sort hl.isList hL (PyProof.Rows.ksk_s1 _ _) (fun _ => PyProof.Rows.ksk_l1 _ _) fun E' => ?_
  rw [PyProof.Rows.ksk_t1]
  obtain ⟨n0, ho⟩ : ∃ n, (PySem.W.copyHeap s2.heap its).get? (s2.heap.objs.size + 1) = some (seqObj "list" its.toArray n) := ⟨_, PySem.W.copyHeap_at s2.heap its⟩
  have upC : ∀ b o, s2.heap.get? b = some o → (PySem.W.copyHeap s2.heap its).get? b = some o := fun b o q => PySem.W.copyHeap_old q
  generalize hC : PySem.W.copyHeap s2.heap its = C at *
  have ga : s2.heap.objs.size ≤ s2.heap.objs.size + 1 := Nat.le_succ _
  generalize hAd : s2.heap.objs.size + 1 = ad at *
  have la : ad < C.objs.size := Heap.lt_size ho
  obtain ⟨e1, ho1⟩ : ∃ e1, (C.update ad (Obj.mapSeq fun _ => (#[] : Array Value))).get? ad = some (seqObj "list" #[] e1) := ⟨_, get?_update_seq ho fun _ => #[]⟩
  have kzS : ((C.update ad (Obj.mapSeq fun _ => (#[] : Array Value))).push (seqObj "tuple" its.toArray 0)).objs.size = C.objs.size + 1 := by rw [size_push', Heap.size_update]
  have nA : H2 ad = none := I2.hok.fresh ga
  have IC : Inv X pins σ H2 { s2 with heap := C, toks := s2.toks } := I2.kept upC
  have IA : Inv X pins σ H2 { s2 with heap := C.update ad (Obj.mapSeq fun _ => (#[] : Array Value)), toks := s2.toks } := turned (z := { s2 with heap := C, toks := s2.toks }) ga IC nA fun b o hb q => by rw [Heap.get?_update_ne _ _ _ _ hb]; exact q
  unfold PyProof.Rows.ksk_tree
  refine wpAny_bind (listItems_at ho rfl (wpAny_bind (listUpdate_at ho rfl ?_ (by rw [List.size_toArray]; exact hL) (Nat.zero_le _))))
  refine wpAny_bind (seqEpoch_at ho1 rfl (wpAny_bind (wpAny_newTuple ?_ hL)))
  refine wpAny_bind (wpAny_newList (wpAny_holding ?_) (Nat.zero_le _))
  generalize hkS : ((C.update ad (Obj.mapSeq fun _ => (#[] : Array Value))).push (seqObj "tuple" its.toArray 0)).objs.size = kS at *
  have gk : s2.heap.objs.size ≤ kS := by omega
  have nK : H2 kS = none := I2.hok.fresh gk
  have IS : Inv X pins σ H2 { s2 with heap := ((C.update ad (Obj.mapSeq fun _ => (#[] : Array Value))).push (seqObj "tuple" its.toArray 0)).push (seqObj "list" #[] 0), toks := s2.toks } := IA.kept fun b o q => Heap.get?_push_of_some _ (Heap.get?_push_of_some _ q)
  have f0 : C.get? f = some (PySem.W.kla_obj "<lambda>" (X.env.qual ++ "<lambda>") params b scope (cloFrom X.env.cells scope.names []) pm c' ctv) := upC _ _ hf
  have fA : f ≠ ad := fun z => by
    have := Heap.lt_size hf
    rw [z] at this
    exact Nat.lt_irrefl _ (Nat.lt_of_lt_of_le this ga)
  have fK : f ≠ kS := fun z => by
    have := Heap.lt_size hf
    rw [z] at this
    exact Nat.lt_irrefl _ (Nat.lt_of_lt_of_le this gk)
  have aK : kS ≠ ad := fun z => by
    rw [z] at hkS
    omega
  rw [hcl] at f0
  refine keys_rest (kz := bs.map key) (s := { s2 with heap := ((C.update ad (Obj.mapSeq fun _ => (#[] : Array Value))).push (seqObj "tuple" its.toArray 0)).push (seqObj "list" #[] 0) }) (kS := kS)
    (fun i ks z => ∃ Hc, Inv X pins σ Hc z ∧ L2.Same H2 Hc ∧ Hc kS = none ∧ Hc ad = none ∧ Hc f = none ∧ (∃ pm ctv, z.heap.get? f = some (PySem.W.kla_obj "<lambda>" (X.env.qual ++ "<lambda>") params b scope [] pm c' ctv)) ∧ PySem.W.EachIs (fun u d => ∃ v, RelV v u ∧ Dp X.K Hc v d) ks ((bs.map key).take i))
    ⟨H2, IS, Same.refl _, nK, nA, hfn, ⟨pm, ctv, Heap.get?_push_of_some _ (Heap.get?_push_of_some _ (by rw [Heap.get?_update_ne _ _ _ _ fA]; exact f0))⟩, by rw [List.take_zero]; exact .nil⟩ (by rw [← hkS]; exact Heap.get?_push_size _ rfl) (Heap.get?_push_of_some _ (Heap.get?_push_of_some _ ho1)) aK (by rw [List.length_map, el]) hL hal hk
    (PySem.W.bound_map (A := X.A.in1.in1) fun x hx => by have := dp x hx; have := hr.un; show X.A.units + 1 + 1 + _ < _; omega) ?turn ?fin ?todo
  case turn =>
    rintro i v ks z ka ep hv ⟨Hc, I, sm, n1, n2, n3, hfz, eks⟩ nk na
    have hi : i < bs.length := by rw [← el]; exact (List.getElem?_eq_some_iff.mp hv).1
    have rvx : RelV (val bs[i]) v := by
      have hz : (v, bs[i]) ∈ its.zip bs := List.mem_of_getElem? (i := i) (by rw [List.getElem?_zip_eq_some]; exact ⟨hv, List.getElem?_eq_getElem hi⟩)
      exact e.zip _ hz
    have rr : Room k X.A.in1.in1 := ⟨hr.hd, by have := hr.dp; show X.A.depth + 3 * k + 5 < _; omega, by have := hr.un; show X.A.units + 1 + 1 + 16 * k + 200 < _; omega⟩
    refine wpAny_call (codeAny_mono ((LK c').run f X.A.in1.in1 X.stack z Hc [v] [val bs[i]] _ _ rr I.env0.in1.in1 hfz (sm _ _ hco) (.cons rvx .nil) (hturn bs[i] (List.getElem_mem hi) Hc sm)) fun r y hq => ?_)
    obtain ⟨u, rfl, vv, H4, os, bare, un, hok, rvv, s34, dpv⟩ := hx hq
    obtain ⟨pm2, ctv2, hfz⟩ := hfz
    refine ⟨un.keep _ _ nk n1 (nofr _ gk) (by simp), un.keep _ _ na n2 (nofr _ ga) (by simp), fun h' sb there => ?_⟩
    have I4 : Inv X pins σ H4 y := I.call' (ch := []) os un hok bare fun _ z => nomatch z
    have n4 : H4 kS = none := un.free _ _ nk n1 (by simp)
    refine ⟨H4, turned (z := y) (t := y.toks) gk I4 n4 (fun b o hb q => (sb.2 b hb).trans q), sm.trans s34, n4, un.free _ _ na n2 (by simp), un.free _ _ hfz n3 (by simp), ⟨pm2, ctv2, (sb.2 f fK).trans (un.keep _ _ hfz n3 hfr (by simp))⟩, ?_⟩
    have ek : (bs.map key).take (i + 1) = (bs.map key).take i ++ [key bs[i]] := by rw [List.take_add_one, List.getElem?_map, List.getElem?_eq_getElem hi]; rfl
    rw [ek]
    exact PySem.W.each_snoc (R := fun u d => ∃ v, RelV v u ∧ Dp X.K H4 v d) ⟨vv, rvv, dpv⟩ (eks.mono fun u d ⟨v, r, q⟩ => ⟨v, r, dp_same s34 d v q⟩)
  case fin =>
    rintro ks z ⟨Hc, I, sm, n1, n2, n3, hfz, eks⟩
    rw [List.take_of_length_le (by rw [List.length_map, el]; exact Nat.le_refl _)] at eks
    exact eks.mono fun u d ⟨v, r, q⟩ => let ⟨as, h, _⟩ := reads_in I d v u q r; ⟨as, h⟩
  case todo =>
    rintro z ks out h' tk cc ⟨Hc, I, sm, n1, n2, n3, hfz, eks⟩ kept at_ ko
    refine ⟨rfl, ?_⟩
    have eo := PySem.W.keyedOut_each key ko e
    obtain ⟨ka, e2, hka⟩ : ∃ (ka : Obj) (e2 : Nat), h'.get? ad = some ka := ⟨_, 0, at_⟩
    have two : ∀ b, b ∈ [ad, kS] → (b ∈ X.ex ∨ X.s_0.heap.objs.size ≤ b) ∧ b ≠ X.env.locals ∧ (∀ y c, X.env.cells.lookup y = some c → c ≠ b) ∧ ∀ p ∈ X.pn ++ pins, p.1 ≠ b := fun b hb => by
      rcases List.mem_cons.mp hb with y | y
      · rw [y]; exact young _ ga
      · rw [List.mem_singleton.mp y]; exact young _ gk
    have out2 : ∀ b, b ∉ [ad, kS] → b ≠ ad ∧ b ≠ kS := fun b hb => ⟨fun y => hb (by rw [y]; simp), fun y => hb (by rw [y]; simp)⟩
    have I1 : Inv X pins σ Hc { z with heap := h', toks := tk } := I.call (g' := z.gens) (d' := z.drawn) (t' := tk) (ch := [ad, kS])
      ⟨fun b o q _ _ n => kept b o (out2 b n).1 (out2 b n).2 q, fun b o q _ _ n => ⟨o.slots, kept b o (out2 b n).1 (out2 b n).2 q⟩, fun b o _ q _ => q, fun b o q n => ⟨o, kept b o (out2 b n).1 (out2 b n).2 q⟩, fun _ _ q => q, fun _ _ _ q => q, fun b ps q => ⟨#[], by rw [q]; simp⟩⟩
      (fun b u q => (I.hok b u q).stay (fun c v hc y => by
        have h1 : c ≠ ad := fun w => by
          rcases hc with t | t
          · rw [← t, w, n2] at q; cases q
          · rw [w, n2] at t; cases t
        have h2 : c ≠ kS := fun w => by
          rcases hc with t | t
          · rw [← t, w, n1] at q; cases q
          · rw [w, n1] at t; cases t
        exact kept c v h1 h2 y) (fun _ y => y) fun _ _ y => y) I.bare two
    have new : ObjOk X.prog X.w (upd Hc ad (.lst ((bs.mergeSort (PySem.W.dataLe false key)).map val))) h' ad (.lst ((bs.mergeSort (PySem.W.dataLe false key)).map val)) :=
      ⟨by rw [List.length_map, List.length_mergeSort, ← el]; exact hL, out, cc, vals_each eo, at_⟩
    have IF : Inv X pins σ (upd Hc ad (.lst ((bs.mergeSort (PySem.W.dataLe false key)).map val))) { z with heap := h', toks := tk } := Inv.call (s := { z with heap := h', toks := tk }) (h' := h') I1 (g' := z.gens) (d' := z.drawn) (t' := tk) (ch := [ad])
      ⟨fun b o q _ _ _ => q, fun b o q _ _ _ => ⟨o.slots, q⟩, fun b o _ q n => by rw [upd_ne (fun y => n (by rw [y]; simp))]; exact q, fun b o q _ => ⟨o, q⟩, fun b xs q => by rw [upd_ne (ne_of_none q n2)]; exact q, fun b o u q => by rw [upd_ne (ne_of_none q n2)]; exact q, fun b ps q => ⟨#[], by rw [upd_ne (ne_of_none q n2), q]; simp⟩⟩
      (L2.HOk.laidN I1.hok (fun _ _ q => q) n2 new) I1.bare fun b hb => by
        rw [List.mem_singleton.mp hb]
        exact young _ ga
    exact ⟨.ref ad, _, IF, rfl, hfin ad _ nA (sm.trans (same_new n2)) upd_same⟩
end
theorem cr_ok0 {outer : List Env} {P : Program} {w : World} {H : Hp} {s s' : Shared} {Q : VK} {E : XK} {r : Result} (h : CR CX0 outer P w H s Q E r s') : ∃ u, r = .ok (.ret u) ∧ CE outer P w H s Q u s' := by
  cases r with
  | error e => exact h.elim
  | ok fl =>
    cases fl with
    | ret u => exact ⟨u, rfl, h⟩
    | next => exact h.elim
    | brk => exact h.elim
    | cont => exact h.elim
theorem sortLam_of {K : PySem.W.Frag} {T : List (Addr × Str)} {sp : Sp} {H : Hp} {a : Addr} {vs : List V} {γ : Type} {R : V → γ → Prop} {cs : List γ} {key : γ → PyData} {Q : VK} (hT : Tabs T H) (h : SqL K H a vs) (p : Paired R vs cs) (hal : PySem.W.AllAlike (cs.map key)) (hk : PySem.W.Sortable (cs.map key)) (dp : ∀ c ∈ cs, (key c).depth ≤ 60)
    (hs : ∀ v c, c ∈ cs → R v c → ∀ H2 H3, ExtN H H2 → L2.Same H2 H3 → sp [v] H3 (fun u H4 => L2.Same H3 H4 ∧ Dp K H4 u (key c)) fun _ _ _ => False)
    (q : ∀ H2, ExtN H H2 → Tabs T H2 → ∀ l ys H', H2 l = none → L2.Same H2 H' → H' l = some (.lst ys) → Paired R ys (cs.mergeSort (PySem.W.dataLe false key)) → Q (.ref l) H') : rSortLam K T sp (.ref a) H Q := by
  obtain ⟨h1, h2, h3⟩ := paired_zip p
  have ms : ∀ x ∈ vs.zip cs, x.2 ∈ cs := fun x m => by
    have : x.2 ∈ (vs.zip cs).map Prod.snd := List.mem_map_of_mem m
    rw [h2] at this
    exact this
  have e2 : (vs.zip cs).map (fun x => key x.2) = cs.map key := by
    rw [← h2, List.map_map, h2]
    rfl
  unfold rSortLam
  refine ⟨hT, a, V × γ, fun x => key x.2, Prod.fst, vs.zip cs, rfl, by rw [h1]; exact h, by rw [e2]; exact hal, by rw [e2]; exact hk, fun x m => dp _ (ms x m), fun H2 eN T2 => ⟨fun x m H3 sm => hs _ _ (ms x m) (h3 x m) H2 H3 eN sm, fun l H' nl sm hl => q H2 eN T2 l _ H' nl sm hl ?_⟩⟩
  have e3 : ((vs.zip cs).mergeSort (PySem.W.dataLe false fun x : V × γ => key x.2)).map Prod.snd = cs.mergeSort (PySem.W.dataLe false key) := by
    rw [List.map_mergeSort (r := PySem.W.dataLe false fun x : V × γ => key x.2) (s := PySem.W.dataLe false key) (f := Prod.snd) (fun _ _ _ _ => rfl), h2]
  rw [← e3]
  exact paired_of fun x m => h3 x (List.mem_mergeSort.mp m)
theorem NL.ext {H H' : Hp} (h : ExtN H H') : NL H H' := fun a o _ n e => h a o e n
/-! ### a def whose code object is known -/
def codeAt (K : PySem.W.Frag) (f : Addr) : Addr := match K.lookup f with
  | some ⟨_, _, .func fd, _⟩ => (match fd.code with
    | .ref c => c
    | _ => 0)
  | _ => 0
def tabAt (K : PySem.W.Frag) (f : Addr) : Addr := He.tabOf K (codeAt K f)
theorem okC {P : Program} {w : World} {K : PySem.W.Frag} {mg : Str → Option Value} {base : Heap} {x qual : Str} {params : Arguments} {body : List Stmt} {scope : Scope} {dvs : List V} {kws : List (Str × V)} {f : Addr} {fd : FuncData} {CX : CXT} {N ps : List Str} {k : Nat} {sp : Sp}
    (F : FunD K x qual params body scope dvs kws f fd) (S : FnScope N ps scope) (len : ∀ vs H Q E, sp vs H Q E → vs.length = ps.length)
    (hbody : ∀ (A : Around) (outer : List Env) (s : Shared) (H : Hp) (vs : List V) (Q : VK) (E : XK), Room k (A.deeper (envOfC qual scope s.heap.objs.size f (.ref (codeAt K f)))) → sp vs H Q E →
      ∃ t, PSs (cxOf CX P w K mg base N qual scope f (.ref (codeAt K f)) A outer s H E) body t ∧ t { nx := fun _ H' => Q .non H', rt := Q } (start N vs) H) : FnOk P w K mg base CX (k + 1) f fd ps sp := by
  obtain ⟨oc, od, dV, kV, doc, pm, an, cdv, ct, osl, rfl, lk, hcd, _, _⟩ := F.ex
  obtain ⟨c, rfl⟩ := He.codeIn_ref hcd
  have e : codeAt K f = c := by
    unfold codeAt
    rw [lk]
  rw [e] at hbody
  exact fn_of lk hcd S len fun A outer s H vs Q E hr hsp => hbody A outer s H vs Q E hr hsp
end Q

set_option maxRecDepth 100000
set_option maxHeartbeats 4000000
/-! The law's end where defs make lambdas: the tables of their code objects are known to be empty at the start. -/
namespace Q
open PySem PySem.Spec PyProof.Rows PySem.W L2 LamX
theorem walk_ofT {l : PySem.W.OpenLaw} {n k : Nat} {q : Program} {loose : List Str} {XP : (Str → Option Value) → Heap → Prop} {YP : World → Heap → Prop} {d : DefRec} {CX : CXT} {x : Str} (hn : l.most = some n) (hn2 : n ≤ sizeLine) (hdf : d.params.defaults = []) (hr : Room k callerA)
    (F : ∀ (w : World) (mg : Str → Option Value) (fa : Addr) (h : Heap), YP w h → h.Ns mainGlobals mg → mg d.name = some (.ref fa) →
      ∃ (K : PySem.W.Frag) (fd : FuncData) (cs : List (Addr × Addr)) (sp : Sp), K.In h ∧ (∀ p ∈ cs, h.get? p.2 = some { cls := .none, data := .fields #[] }) ∧ (∀ p ∈ cs, K.lookup p.2 = none) ∧ (∀ p ∈ cs, CodeHd h p.1 p.2) ∧ (∀ (s : Shared) (u : Value), BindsTo s fd ⟨[u], []⟩ [(x, u)]) ∧
        (∀ (H : Hp) (a : Addr) (ns : List Int), ns.length ≤ n → (∀ p ∈ cs, H p.2 = some (.tbl #[])) → SqL K H a (ns.map V.int) → sp [.ref a] H (fun v _ => v = .bl true) fun _ _ _ => False) ∧
        ∀ base : Heap, K.In base → base.Ns mainGlobals mg → (∀ p ∈ cs, TabB base mg p.1 p.2) → FnOk l.prog w K mg base CX k fa fd [x] sp)
    (hCX : ∀ (H : Hp) (s : Shared) (e : Value) (s' : Shared), CX [] H s (fun _ _ _ => False) e s' → False) : PySem.W.WalkO q loose XP YP l.row.toRowW d [] (fun f vs => PySem.call f vs) := by
  refine Att.attach_callB hn hdf fun w s₀ s₁ mg mb fa o pm cd doc a vs ns G Y ho hd hcd hmg hobj hints hlen hbits hg => ?_
  obtain ⟨K, fd, cs, sp, KX, hT, nT, C, hb, hsp, hF⟩ := F w mg fa _ Y G.T.g hmg
  exact law_callTs KX G.T.g G.T.b G.T.builtins G.T.nolimit hg hT nT C G.T.bmain hobj hints (Nat.le_trans hlen hn2) hr hF hb (fun H hH hS => hsp H a ns hlen hH hS) fun H e s' => hCX H s₁ e s'
/-! ### the head's facts, empty tables left out of the written part -/
def tabsB (g : Addr → Option Obj) (tf : Frag → List Addr) (K : Frag) : Bool := (tf K).all fun f => codeHdIn K (codeAt K f) (tabAt K f) && (match g (tabAt K f) with
  | some o => He.emptyTab o
  | none => false)
def obsTG (n : Nat) (fb : Frag → Bool) (fn : List He5.DefA) (tf : Frag → List Addr) (g : Addr → Option Obj) : He.AlD × Bool := (obsE fb fn (He.frT g (He5.asA g n)), tabsB g tf (He.frT g (He5.asA g n)))
/-- the defs at tf have their code objects in K; their tables are empty in h, and not in K -/
def TabsSay (tf : Frag → List Addr) (h : Heap) (K : Frag) : Prop := ∀ f ∈ tf K, codeHdIn K (codeAt K f) (tabAt K f) = true ∧ K.lookup (tabAt K f) = none ∧ h.get? (tabAt K f) = some { cls := .none, data := .fields #[] }
theorem tabsSay_of {n : Nat} {tf : Frag → List Addr} {h : Heap} (e : tabsB h.get? tf (He.frT h.get? (He5.asA h.get? n)) = true) : TabsSay tf h (He.frT h.get? (He5.asA h.get? n)) := fun f hf => by
  obtain ⟨h1, h2⟩ := He.ba (List.all_eq_true.mp e f hf)
  cases q : h.get? (tabAt (He.frT h.get? (He5.asA h.get? n)) f) with
  | none =>
    rw [q] at h2
    cases h2
  | some o =>
    rw [q] at h2
    exact ⟨h1, He.frT_none q h2, by rw [He.emptyTab_eq h2]⟩
def hookT (n : Nat) (fb : Frag → Bool) (fn : List He5.DefA) (tf : Frag → List Addr) : Hook where
  α := He.AlD × Bool
  obs := fun s => obsTG n fb fn tf s.heap.get?
  val := fun _ => (He5.valA fn, true)
  says := fun _ h => ∃ K : Frag, K.In h ∧ SaysE fb fn K ∧ TabsSay tf h K
  of := fun _ _ e => ⟨_, He.frT_in, congrArg Prod.fst e, tabsSay_of (congrArg Prod.snd e)⟩
  keeps := fun _ _ _ ⟨K, inK, c, t⟩ k => ⟨K, Frag.In.keeps inK k, c, fun f hf => ⟨(t f hf).1, (t f hf).2.1, k _ _ (t f hf).2.2⟩⟩
theorem obsTG_eq {n : Nat} {fb : Frag → Bool} {fn : List He5.DefA} {tf : Frag → List Addr} {g : Addr → Option Obj} {s : Shared} (h : ∀ a, g a = s.heap.get? a) : obsTG n fb fn tf g = (hookT n fb fn tf).obs s := by
  obtain rfl : g = s.heap.get? := funext h
  rfl
end Q

set_option maxRecDepth 100000
set_option maxHeartbeats 0
namespace K00
open PySem PySem.Spec PyProof.Rows L2 Q
/-- the defs that make lambdas -/
def tf (K : PySem.W.Frag) : List Addr := [He.ga K "_law_cut"]
def ob (s : PySem.W.SharedT) : He.AlD × Bool := obsTG 6 fb fn tf (HandSHeadRun.getT s)
abbrev hk : PySem.W.Hook := hookT 6 fb fn tf
theorem ob_eq (s : PySem.W.SharedT) : ob s = hk.obs s.abs := obsTG_eq (HandSHeadRun.getT_eq s)
abbrev RowQ : PySem.W.OpenRow := PySem.W.OpenLaw.row PySem.Challenge.rw_fewfetches_k00_boxes_by_their_points
theorem run (w : World) : HandSHeadRun.RunEq RowQ (PySem.W.view RowQ.prog [33]) hk ob 4000 ["FetchError", "BadBox", "UnlikeBoxes", "BadColumn", "is_whole", "MOST_COLUMNS", "HIGHEST", "whole_box", "points_of", "check_like", "meet_boxes", "join_along", "box_less", "Box", "_law_bag", "_law_draw", "_law_spots", "_law_ranges", "_law_box", "_law_is_box", "_law_common", "_law_meet_right", "_law_join_right", "_law_cut", "_law_less_right", "_law_refused", "_law_unlike", "_law_is_great", "_law_wide_ranges"] w := by
  intro os
  kernel_rfl

end K00

set_option maxRecDepth 100000
set_option maxHeartbeats 4000000
namespace K00
open PySem PySem.Spec PyProof.Rows L2 Q RZ
/-! ### Box(lows, highs): what is wrong first, or the box -/
def colFault (l h : V) : Option Str := match l with
  | .int i => if wholeV (.int i) 0 63 = true then (if wholeV h (i + 1) 64 = true then none else some ("high" : Str)) else some ("low" : Str)
  | _ => some ("low" : Str)
def faultFrom : Nat → List V → List V → Option (Str × Int)
  | n, l :: ls, h :: hs => match colFault l h with
    | some w => some (w, (n : Int))
    | none => faultFrom (n + 1) ls hs
  | _, _, _ => none
def boxFault : Option (List V) → Option (List V) → Option (Str × Int)
  | some ls, hs => if 5 < ls.length then some (("lows" : Str), 0) else match hs with
    | some hs => if hs.length = ls.length then faultFrom 0 ls hs else some (("highs" : Str), 0)
    | none => some (("highs" : Str), 0)
  | none, _ => some (("lows" : Str), 0)
theorem fault_step {n : Nat} {ls hs : List V} {l h : V} (e1 : ls[n]? = some l) (e2 : hs[n]? = some h) : faultFrom n (ls.drop n) (hs.drop n) = match colFault l h with
    | some w => some (w, (n : Int))
    | none => faultFrom (n + 1) (ls.drop (n + 1)) (hs.drop (n + 1)) := by
  obtain ⟨h1, rfl⟩ := List.getElem?_eq_some_iff.mp e1
  obtain ⟨h2, rfl⟩ := List.getElem?_eq_some_iff.mp e2
  rw [List.drop_eq_getElem_cons h1, List.drop_eq_getElem_cons h2]
  rfl
/-- a box's ranges: in bounds, none empty -/
def Rgs : List Int → List Int → Prop
  | l :: ls, h :: hs => 0 ≤ l ∧ l < h ∧ h ≤ 64 ∧ Rgs ls hs
  | [], [] => True
  | _, _ => False
theorem col_none {l h : V} (e : colFault l h = none) : ∃ i j, l = .int i ∧ h = .int j ∧ 0 ≤ i ∧ i < j ∧ j ≤ 64 := by
  unfold colFault at e
  split at e
  · rename_i i
    by_cases c : wholeV (.int i) 0 63 = true
    · rw [if_pos c] at e
      by_cases c2 : wholeV h (i + 1) 64 = true
      · cases h with
        | int j =>
          have z1 : (decide (0 ≤ i) && decide (i ≤ 63)) = true := c
          have z2 : (decide (i + 1 ≤ j) && decide (j ≤ 64)) = true := c2
          rw [Bool.and_eq_true, decide_eq_true_eq, decide_eq_true_eq] at z1 z2
          exact ⟨i, j, rfl, rfl, by omega, by omega, by omega⟩
        | _ => cases c2
      · rw [if_neg c2] at e
        cases e
    · rw [if_neg c] at e
      cases e
  · cases e
theorem fault_none : ∀ {n : Nat} {ls hs : List V}, ls.length = hs.length → faultFrom n ls hs = none → ∃ lz hz : List Int, ls = lz.map V.int ∧ hs = hz.map V.int ∧ Rgs lz hz
  | _, [], [], _, _ => ⟨[], [], rfl, rfl, trivial⟩
  | _, [], _ :: _, e, _ => by cases e
  | _, _ :: _, [], e, _ => by cases e
  | n, l :: ls, h :: hs, e, z => by
    have z' : (match colFault l h with
      | some w => some (w, (n : Int))
      | none => faultFrom (n + 1) ls hs) = none := z
    cases q : colFault l h with
    | some w =>
      rw [q] at z'
      cases z'
    | none =>
      rw [q] at z'
      obtain ⟨i, j, rfl, rfl, h1, h2, h3⟩ := col_none q
      obtain ⟨lz, hz, rfl, rfl, r⟩ := fault_none (n := n + 1) (by simpa using e) z'
      exact ⟨i :: lz, j :: hz, rfl, rfl, h1, h2, h3, r⟩
theorem Rgs.len : ∀ {ls hs : List Int}, Rgs ls hs → ls.length = hs.length
  | [], [], _ => rfl
  | [], _ :: _, h => h.elim
  | _ :: _, [], h => h.elim
  | l :: ls, h :: hs, r => by
    have e := Rgs.len (ls := ls) (hs := hs) r.2.2.2
    rw [List.length_cons, List.length_cons, e]
theorem Rgs.at : ∀ {ls hs : List Int} {i : Nat} {l h : Int}, Rgs ls hs → ls[i]? = some l → hs[i]? = some h → 0 ≤ l ∧ l < h ∧ h ≤ 64
  | [], _, _, _, _, _, e, _ => by simp at e
  | _ :: _, [], _, _, _, _, _, e => by simp at e
  | x :: ls, y :: hs, 0, l, h, r, e1, e2 => by
    have d1 : x = l := Option.some.inj e1
    have d2 : y = h := Option.some.inj e2
    rw [← d1, ← d2]
    exact ⟨r.1, r.2.1, r.2.2.1⟩
  | x :: ls, y :: hs, i + 1, l, h, r, e1, e2 => Rgs.at (ls := ls) (hs := hs) (i := i) r.2.2.2 (by simpa using e1) (by simpa using e2)
/-- the number of points of the first n columns -/
def boxSize (ls hs : List Int) : Nat → Int
  | 0 => 1
  | n + 1 => boxSize ls hs n * (hs.getD n 0 - ls.getD n 0)
theorem size_le {ls hs : List Int} (r : Rgs ls hs) : ∀ n : Nat, n ≤ ls.length → 0 ≤ boxSize ls hs n ∧ boxSize ls hs n ≤ 64 ^ n
  | 0, _ => ⟨(by show (0 : Int) ≤ 1; decide), (by show (1 : Int) ≤ 64 ^ 0; decide)⟩
  | n + 1, hn => by
    obtain ⟨h1, h2⟩ := size_le r n (by omega)
    have l1 : n < ls.length := by omega
    have l2 : n < hs.length := by rw [← r.len]; exact l1
    obtain ⟨b1, b2, b3⟩ := r.at (List.getElem?_eq_getElem l1) (List.getElem?_eq_getElem l2)
    have e1 : ls.getD n 0 = ls[n] := by rw [List.getD_eq_getElem?_getD, List.getElem?_eq_getElem l1]; rfl
    have e2 : hs.getD n 0 = hs[n] := by rw [List.getD_eq_getElem?_getD, List.getElem?_eq_getElem l2]; rfl
    have e : boxSize ls hs (n + 1) = boxSize ls hs n * (hs[n] - ls[n]) := by rw [← e1, ← e2]; rfl
    rw [e]
    refine ⟨Int.mul_nonneg h1 (by omega), ?_⟩
    rw [Int.pow_succ]
    exact Int.mul_le_mul h2 (by omega) (by omega) (Int.pow_nonneg (by decide))
/-- a box at y -/
def BoxAt (K : PySem.W.Frag) (H : Hp) (y : Addr) (lz hz : List Int) : Prop := ∃ (dy tl th tt : Addr) (fs : List (Str × V)), H y = some (.ins (He.ga K "Box") dy fs) ∧ (fs.length ≤ 20 ∧ fs.lookup ("holds" : Str) = none) ∧ fs.lookup ("lows" : Str) = some (.ref tl) ∧ fs.lookup ("highs" : Str) = some (.ref th) ∧
  fs.lookup ("told" : Str) = some (.ref tt) ∧ fs.lookup ("size" : Str) = some (.int (boxSize lz hz lz.length)) ∧ SqT K H tl (lz.map V.int) ∧ SqT K H th (hz.map V.int) ∧ SqT K H tt [.ref tl, .ref th]
/-- every item of a list or a tuple is of a known kind -/
def Its (H : Hp) (v : V) : Prop := ∀ xs, seqOf H v = some xs → ∀ x ∈ xs, ∃ T, Kn H x T
theorem Its.same {H H' : Hp} {v : V} {T : String} (h : Its H v) (kn : Kn H v T) (e : Same H H') : Its H' v := fun xs hx x m => by
  rcases kn.seqSome with ⟨-, a, ys, rfl, hs, -⟩ | ⟨hT, hs⟩
  · rw [seqOf_same hs e] at hx
    cases hx
    obtain ⟨T, k⟩ := h _ hs x m
    exact ⟨T, k.same e⟩
  · rcases (kn.same e).seqSome with ⟨hT2, -⟩ | ⟨-, hs2⟩
    · rw [hT] at hT2
      cases hT2
    · rw [hs2] at hx
      cases hx
/-- Box.__init__ -/
def spBoxInit (K : PySem.W.Frag) : Sp := fun vs H Q E => ∃ (y dy : Addr) (v1 v2 : V) (T1 T2 : String), vs = [.ref y, v1, v2] ∧ H y = some (.ins (He.ga K "Box") dy []) ∧ Kn H v1 T1 ∧ Kn H v2 T2 ∧ Its H v1 ∧ Its H v2 ∧
  (∀ w at_ H' d, boxFault (seqOf H v1) (seqOf H v2) = some (w, at_) → Same H H' → H d = none → H' d = some (.xd [("at", .int at_), ("what", .str w)]) → E (.ref (He.ga K "BadBox")) (some d) H') ∧
  ∀ lz hz H', boxFault (seqOf H v1) (seqOf H v2) = none → seqOf H v1 = some (lz.map V.int) → seqOf H v2 = some (hz.map V.int) → Rgs lz hz → lz.length ≤ 5 → (∀ a o, a ≠ y → H a = some o → H' a = some o) → BoxAt K H' y lz hz → Q .non H'

end K00

set_option maxRecDepth 100000
set_option maxHeartbeats 4000000
/-! What a generator's body wants beside. -/
namespace Q
open PySem PySem.Spec PyProof.Rows L2 GenW
open PySem.W.X (SegX wake_any)
def rGetL (K : PySem.W.Frag) : V → V → Hp → VK → Prop := fun x y H Q => ∃ p xs i v, x = .ref p ∧ y = .int i ∧ SqL K H p xs ∧ 0 ≤ i ∧ xs[i.toNat]? = some v ∧ Q v H
theorem get_list {X : Cx} : PGet X (rGetL X.K) := by
  intro pins s σ H x y v u Q I rx ry h
  obtain ⟨p, xs, i, z, rfl, rfl, hq, h0, he, q⟩ := h
  cases rx
  obtain ⟨t, rfl⟩ := ry
  obtain ⟨its, r, pl, hz⟩ := I.list hq
  obtain ⟨w, ew, rw'⟩ := r.get he
  have hl := r.length
  have hn := line63
  have lt := (List.getElem?_eq_some_iff.mp he).1
  exact wpAny_getItem_list (Q := EP X pins σ Q) pl.isList h0 (by omega) (by simpa using ew) ⟨z, H, I, rw', q⟩
/-- the names of this code alone change -/
theorem loc_of_inv {P : Program} {w : World} {K : PySem.W.Frag} {mg : Str → Option Value} {base : Heap} {N : List Str} {qual : Str} {scope : Scope} {f : Addr} {cd : Value} {A : Around} {outer : List Env} {n : Nat} {s s' : Shared} {H H' : Hp} {σ : L2.St} {ps : List (Addr × Obj)} (nc : NoCells scope)
    (I : Inv (gx P w K mg base N qual scope f cd A outer n s H) ps σ H' s') : ∃ oL, s'.heap.get? n = some oL ∧ (∀ v, oL.data ≠ .cell v) ∧ ∀ h : Heap, h.get? n = some oL → LocAt N scope n σ h := by
  obtain ⟨m, ⟨o, es, ep, e, d, r⟩, h2⟩ := I.loc
  refine ⟨o, e, (fun v z => by rw [z] at d; cases d), fun h e' => ⟨m, ⟨o, es, ep, e', d, r⟩, fun i y v e1 e2 e3 => ?_⟩⟩
  obtain ⟨u, ru, q⟩ := h2 i y v e1 e2 e3
  refine ⟨u, ru, ?_⟩
  rcases q with q | ⟨q, _⟩
  · exact q
  · exact absurd q fun z => z.elim (fun y => (nc.none _).1 y) fun y => (nc.none _).2 y
theorem noCells_of {sc : Scope} (h1 : sc.kind = .function) (h2 : (sc.names.all fun y => y.2 != .cell && y.2 != .free) = true) : NoCells sc :=
  ⟨h1, fun x => by
    have all := List.all_eq_true.mp h2
    refine ⟨fun z => ?_, fun z => ?_⟩
    · have := all _ (PySem.mem_of_lookup z)
      simp at this
    · have := all _ (PySem.mem_of_lookup z)
      simp at this⟩
theorem noCells_cells {sc : Scope} (h2 : (sc.names.all fun y => y.2 != .cell && y.2 != .free) = true) (m : Nat) : cellsFrom m sc.names [] = [] :=
  cellsFrom_nil _ _ fun y hy z => by
    have := List.all_eq_true.mp h2 _ hy
    rw [z] at this
    simp at this
/-- a new list of the generator: where nothing stood -/
theorem gx_new {P : Program} {w : World} {K : PySem.W.Frag} {mg : Str → Option Value} {base : Heap} {N : List Str} {qual : Str} {scope : Scope} {f : Addr} {cd : Value} {A : Around} {outer : List Env} {n : Nat} {s s' : Shared} {Hc H' : Hp} {fr : List Addr} {pv : Addr → Option (List V)} {σ : L2.St} {ps : List (Addr × Obj)} {p : Addr} {xs : List V}
    (I : Inv (gx P w K mg base N qual scope f cd A outer n s (gH Hc n s.heap fr pv)) ps σ H' s') (ok : HOk P w Hc s.heap) (hpf : p ∉ fr) (hp : gH Hc n s.heap fr pv p = none) (e : H' p = some (.lst xs)) : s.heap.get? p = none := by
  cases q : s.heap.get? p with
  | none => rfl
  | some o =>
    exfalso
    by_cases l : p < n
    · have := I.base.free p o (cut_of l q) hp (fun z => nomatch z)
      rw [e] at this
      cases this
    · have hpv : pv p = none := by
        cases z : pv p with
        | none => rfl
        | some xs => rw [gH_pv hpf z] at hp; cases hp
      have hc : Hc p = none := by
        cases z : Hc p with
        | none => rfl
        | some u => rw [gH_old hpf hpv z] at hp; cases hp
      rw [gH_lock hpf hpv hc (Nat.le_of_not_lt l) q] at hp
      cases hp
theorem ixN_n {n j : Nat} (hj : j < n) : ixN n (j : Int) = some j := by
  unfold ixN
  rw [if_pos (by omega), if_pos (by omega)]
  rfl
/-- a while statement's parts -/
def whT : Stmt → Expr
  | .While t _ _ _ => t
  | _ => .Name "" ⟨0, 0, 0, 0⟩
def whB : Stmt → List Stmt
  | .While _ b _ _ => b
  | _ => []
end Q

set_option maxRecDepth 100000
set_option maxHeartbeats 4000000
namespace K00
open PySem PySem.Spec PyProof.Rows L2 Q RZ
open PySem.W.X (SegX)
/-- a point, handed out -/
def ptItem (K : PySem.W.Frag) (p : List Int) : Item := fun v H => ∃ t, v = .ref t ∧ SqT K H t (p.map V.int)
def spPoints (K : PySem.W.Frag) : SpX := fun vs L D => ∃ (y : Addr) (lz hz : List Int), vs = [.ref y] ∧ Q.Within lz hz lz ∧ lz.length ≤ 1000 ∧ D = (fun H => BoxAt K H y lz hz) ∧ L = (spots lz hz).map (ptItem K)
theorem BoxAt.same {K : PySem.W.Frag} {H H' : Hp} {y : Addr} {lz hz : List Int} (h : BoxAt K H y lz hz) (s : L2.Same H H') : BoxAt K H' y lz hz := by
  obtain ⟨dy, tl, th, tt, fs, h1, h2, h3, h4, h5, h6, h7, h8, h9⟩ := h
  exact ⟨dy, tl, th, tt, fs, s _ _ h1, h2, h3, h4, h5, h6, sqT_same s h7, sqT_same s h8, sqT_same s h9⟩
abbrev ptW : Stmt := (defBody s_points_of).getD 2 (.Pass ⟨0, 0, 0, 0⟩)
theorem nc_points_of : NoCells (defScope s_points_of) := noCells_of rfl (by decide +kernel)
section
variable {P : Program} {w : World} {K : PySem.W.Frag} {mg : Str → Option Value} {base : Heap} {f : Addr} {cdv : Value} {A : Around} {outer : List Env} {n g k : Nat} {s : Shared} {Hc : Hp} {y q : Addr} {lz hz pt : List Int} {pq : Addr → Option (List V)}
abbrev ptX (P : Program) (w : World) (K : PySem.W.Frag) (mg : Str → Option Value) (base : Heap) (f : Addr) (cdv : Value) (A : Around) (outer : List Env) (n : Nat) (s : Shared) (H : Hp) : Cx :=
  gx P w K mg base ["box", "point", "going", "column"] "points_of" (defScope s_points_of) f cdv A outer n s H
/-- how the loop's body ends -/
def PtEnd (H : Hp) (y q : Addr) (lz hz pt : List Int) (σ' : L2.St) (H' : Hp) : Prop := Off q H H' ∧ (∀ q', succ lz hz pt = some q' → H' q = some (.lst (q'.map V.int)) ∧ ∃ c1, σ' = [some (.ref y), some (.ref q), some (.bl true), c1]) ∧
  (succ lz hz pt = none → (∃ xs, H' q = some (.lst xs)) ∧ ∃ c1, σ' = [some (.ref y), some (.ref q), some (.bl false), c1])
/-- behind the yield: the next point, or the end -/
theorem points_rest (T : Tx K mg) {H : Hp} (hr : Room k (ptX P w K mg base f cdv A outer n s H).A) (bx : ∀ H', Off q H H' → BoxAt K H' y lz hz) (wi : Q.Within lz hz pt) (l5 : lz.length ≤ 1000) (hq : H q = some (.lst (pt.map V.int))) (c0 : Option V) :
    ∃ t, PSs (ptX P w K mg base f cdv A outer n s H) (whB ptW).tail t ∧ t { nx := PtEnd H y q lz hz pt, rt := fun _ _ => False } [some (.ref y), some (.ref q), some (.bl true), c0] H := by
  refine ⟨_, (pss_cons (ps_set (i := 3) sc_points_of.nd rfl (Or.inl rfl) (pe_op op_sub (pe_callB call_len_seq (by rfl) T.n_len (by decide +kernel) (pa_cons (pv 1) pa_nil)) pe_int))
      (pss_cons (ps_while PassesOwn.never (PW.pt (pw_and (pt_cmpR op_ge (pv 3) pe_int (nomark _)) (pw_and1 (pt_cmpR op_eq (pe_op op_add (pe_ix ix_list (pv 1) (pv 3) (fun _ _ => rfl)) pe_int) (pe_ix ix_tup (pe_fld (pv 0) rfl) (pv 3) (fun _ _ => rfl)) (nomark _)))))
        (pss_cons (ps_asg (pe_ix ix_tup (pe_fld (pv 0) rfl) (pv 3) (fun _ _ => rfl)) (pg_sub (pv 1) (pv 3) set_list))
        (pss_one (ps_aug (i := 3) sc_points_of.nd rfl (Or.inl rfl) pe_int ip_sub))))
      (pss_one (ps_if (pt_cmpR op_ge (pv 3) pe_int (nomark _))
        (pss_one (ps_augS (pv 1) (pv 3) get_list pe_int ip_add set_list))
        (pss_one (ps_set (i := 2) sc_points_of.nd rfl (Or.inl rfl) pe_bl)))))), ?_⟩
  have hll := wi.length
  have hz1 := line63
  have ml : (pt.map V.int).length = lz.length := by rw [List.length_map, hll.2]
  refine ⟨_, rfl, _, _, rfl, .inl (SqL.of hq), _, _, rfl, rfl, ?_⟩
  rw [ml]
  refine ⟨fun m σ H' => m ≤ lz.length ∧ σ = [some (.ref y), some (.ref q), some (.bl true), some (.int ((m : Int) - 1))] ∧ Off q H H' ∧ H' q = some (.lst ((turned lz pt m).map V.int)) ∧ succ (lz.drop m) (hz.drop m) (pt.drop m) = none, ⟨lz.length, Nat.le_refl _, rfl, Off.refl _ _, ?_, ?_⟩, ?_⟩
  · rw [turned_all hll.2]; exact hq
  · rw [List.drop_length]; rfl
  rintro m σ H' ⟨hm, rfl, of, hq', sn⟩
  have b0 := bx H' of
  obtain ⟨dy, tl, th, tt, fs, g1, g2, g3, g4, g5, g6, g7, g8, g9⟩ := id b0
  have tlen : ((turned lz pt m).map V.int).length = lz.length := by rw [List.length_map, turned_length hll.2]
  refine ⟨_, rfl, _, _, rfl, rfl, _, rfl, ite2 (fun c => ?_) (fun c => ?_)⟩
  · -- a column is there
    obtain ⟨j, rfl⟩ : ∃ j, m = j + 1 := ⟨m - 1, by have := of_decide_eq_true c; omega⟩
    have ej : ((j + 1 : Nat) : Int) - 1 = ((j : Nat) : Int) := by omega
    have hj : j < lz.length := hm
    have v1 : ((turned lz pt (j + 1)).map V.int)[j]? = some (.int (pt.getD j 0)) := by rw [List.getElem?_map, turned_at hll.2 hj]; rfl
    have v2 : (hz.map V.int)[j]? = some (.int (hz.getD j 0)) := by
      have l1 : j < hz.length := by omega
      rw [List.getElem?_map, List.getElem?_eq_getElem l1, List.getD_eq_getElem?_getD, List.getElem?_eq_getElem l1]; rfl
    have v3 : (lz.map V.int)[j]? = some (.int (lz.getD j 0)) := by
      rw [List.getElem?_map, List.getElem?_eq_getElem hj, List.getD_eq_getElem?_getD, List.getElem?_eq_getElem hj]; rfl
    have st := succ_step hll.1 hll.2 hj
    rw [sn] at st
    have wg := within_get wi hj
    rw [ej]
    refine ⟨_, rfl, _, rfl, q, _, _, _, rfl, rfl, SqL.of hq', atI_nat v1, _, _, rfl, rfl, _, rfl, y, _, dy, _, _, rfl, g1, T.cls_Box, T.noat_Box_highs, g4, _, rfl, th, _, _, _, rfl, rfl, g8, atI_nat v2, rfl, _, rfl, ite2 (fun c2 => ?_) (fun c2 => ?_)⟩
    · -- it is at its end: set back
      have c2' : pt.getD j 0 + 1 = hz.getD j 0 := by
        have := of_decide_eq_true c2
        injection this
      have st : succ (lz.drop j) (hz.drop j) (pt.drop j) = none := by
        rw [st]
        show (if pt.getD j 0 + 1 < hz.getD j 0 then _ else none) = none
        rw [if_neg (by omega)]
      refine ⟨fun σ2 H2 => ∃ m', m' < j + 1 ∧ m' ≤ lz.length ∧ σ2 = [some (.ref y), some (.ref q), some (.bl true), some (.int ((m' : Int) - 1))] ∧ Off q H H2 ∧ H2 q = some (.lst ((turned lz pt m').map V.int)) ∧ succ (lz.drop m') (hz.drop m') (pt.drop m') = none, fun σ2 H2 h => h, ?_⟩
      refine ⟨_, rfl, y, _, dy, _, _, rfl, g1, T.cls_Box, T.noat_Box_lows, g3, _, rfl, tl, _, _, _, rfl, rfl, g7, atI_nat v3, _, rfl, _, rfl, q, _, _, j, rfl, rfl, hq', ixN_n (by rw [tlen]; exact hj), ?_⟩
      refine ⟨_, rfl, _, _, rfl, rfl, j, Nat.lt_succ_self _, Nat.le_of_lt hj, rfl, of.trans Off.upd, ?_, st⟩
      rw [upd_same, ← turned_back hll.2 hj, List.map_set]
    · -- it is raised
      have c2' : pt.getD j 0 + 1 < hz.getD j 0 := by
        have : ¬ (pt.getD j 0 + 1 = hz.getD j 0) := fun z => c2 (decide_eq_true (congrArg V.int z))
        omega
      have st : succ (lz.drop j) (hz.drop j) (pt.drop j) = some ((pt.getD j 0 + 1) :: lz.drop (j + 1)) := by
        rw [st]
        show (if pt.getD j 0 + 1 < hz.getD j 0 then _ else none) = _
        rw [if_pos c2']
      have nx := succ_up hll.1 hll.2 (Nat.le_of_lt hj) st
      refine ⟨_, rfl, _, _, rfl, rfl, _, rfl, ite2 (fun _ => ?_) (fun z => absurd (decide_eq_true (by omega)) z)⟩
      refine ⟨_, rfl, _, rfl, q, _, _, _, rfl, rfl, SqL.of hq', by omega, v1, _, _, rfl, rfl, q, _, _, j, rfl, rfl, hq', ixN_n (by rw [tlen]; exact hj), ?_⟩
      refine ⟨of.trans Off.upd, fun q' e => ⟨?_, _, rfl⟩, fun e => ?_⟩
      · rw [nx] at e
        cases e
        rw [upd_same, ← turned_set hll.2 hj, List.map_set]
      · rw [nx] at e
        cases e
  · -- no column is left
    obtain rfl : m = 0 := by
      have : ¬ ((0 : Int) ≤ (m : Int) - 1) := fun z => c (decide_eq_true z)
      omega
    have sn : succ lz hz pt = none := sn
    refine ⟨_, rfl, _, _, rfl, rfl, _, rfl, ite2 (fun z => absurd z c) (fun _ => ?_)⟩
    refine ⟨of, fun q' e => ?_, fun _ => ⟨⟨_, hq'⟩, _, rfl⟩⟩
    rw [sn] at e
    cases e
theorem sqT_live {H H' : Hp} {t : Addr} {xs : List V} (l : ∀ c u, H c = some u → (∀ xs, u ≠ .lst xs) → (∀ o φ, u ≠ .frz o (.ext φ)) → H' c = some u) (h : SqT K H t xs) : SqT K H' t xs := by
  rcases h with (h | ⟨o, h⟩) | h
  · exact .inl (.inl (l _ _ h (fun _ z => nomatch z) fun _ _ z => nomatch z))
  · exact .inl (.inr ⟨o, l _ _ h (fun _ z => nomatch z) fun _ _ z => nomatch z⟩)
  · exact .inr h
theorem mem_fst {pn : List (Addr × Obj)} {b : Addr} (h : b ∈ pn.map (·.1)) : ∃ o, (b, o) ∈ pn := by
  obtain ⟨p, hp, rfl⟩ := List.mem_map.mp h
  exact ⟨p.2, hp⟩
abbrev ptE (f : Addr) (cdv : Value) (n : Nat) : Env := envOfC "points_of" (defScope s_points_of) n f cdv
abbrev ptC (f : Addr) (cdv : Value) (n : Nat) : Code := .whileLoop (whT ptW) (whB ptW) [] (ptE f cdv n)
theorem points_head (T : Tx K mg) {kf : Result → Sem PySem.Fin} {l0 kp : List Value} {c : Code} {p0 : Pos} (hkf : kf (.ok .next) = leafOf (.ok (.ret .none))) (hov : A.over (ptC f cdv n) [.ret kf none false l0 c p0 kp] = A.deeper (ptE f cdv n))
    (hb : base.objs.size ≤ n) (hfs : ∀ b ∈ frs outer, b < n) (hr : Room k (A.deeper (ptE f cdv n))) (l5 : lz.length ≤ 1000) : ∀ (m : Nat) (pt : List Int) (wi : Q.Within lz hz pt), (after lz hz pt).length = m →
    ∀ (pn : List (Addr × Obj)) (s : Shared) (Hc : Hp) (pq : Addr → Option (List V)) (s' : Shared) (H' : Hp) (c0 : Option V) (q : Addr), Q.Good P w K mg base A outer n (fun H => BoxAt K H y lz hz) pn s Hc → (∀ b xs, pq b = some xs → b ∈ pn.map (·.1)) → n ∈ pn.map (·.1) →
      (∀ b ∈ pn.map (·.1), b = n ∨ b = q) → (q ∈ pn.map (·.1) ∨ s.heap.get? q = none) → Inv (ptX P w K mg base f cdv A outer n s (gH Hc n s.heap [n] pq)) [] [some (.ref y), some (.ref q), some (.bl true), c0] H' s' → L2.Same Hc H' → H' q = some (.lst (pt.map V.int)) →
      SegX (model P w) A (ptC f cdv n) ((model P w).den (ptC f cdv n)) [.ret kf none false l0 c p0 kp] s' fun e s1 => ∃ v l k c' p fs' x Hc1 pn', e = .susp v false l k c' p fs' ∧ RelV x v ∧ ptItem K pt x Hc1 ∧ Left P w outer n pn pn' s Hc s1 Hc1 ∧
        Going P w K mg base A outer n (fun H => BoxAt K H y lz hz) ((after lz hz pt).map (ptItem K)) pn' c' (k (.send .none)) fs' := by
  intro m
  induction m using Nat.strongRecOn with
  | ind m ih =>
  intro pt wi hm pn s Hc pq s' H' c0 q G hpv hn hpq hq0 I sm hq
  have leave : ∀ {σ : L2.St} {H1 : Hp} {s1 : Shared} {pn : List (Addr × Obj)} {s : Shared} {Hc : Hp} {pq : Addr → Option (List V)} (pn' : List (Addr × Obj)), Q.Good P w K mg base A outer n (fun H => BoxAt K H y lz hz) pn s Hc → (∀ b xs, pq b = some xs → b ∈ pn.map (·.1)) → n ∈ pn.map (·.1) →
      (∀ b ∈ pn.map (·.1), b = n ∨ b = q) → Inv (ptX P w K mg base f cdv A outer n s (gH Hc n s.heap [n] pq)) [] σ H1 s1 → L2.Same Hc H1 → (∃ xs, H1 q = some (.lst xs)) → (∀ p ∈ pn', p.1 = n ∨ p.1 = q) → (∀ p ∈ pn', s1.heap.get? p.1 = some p.2) →
      (∀ p ∈ pn', (p.1 ∈ pn.map (·.1) ∨ s.heap.get? p.1 = none) ∧ ∀ v, p.2.data ≠ .cell v) → _ := fun {σ H1 s1 pn s Hc pq} pn' G hpv hn hpq I1 sm hq hp' pins own =>
    gx_left (pn := pn) (pn' := pn') I1 hfs (fun b hb => by rw [List.mem_singleton.mp hb]; exact ⟨Nat.le_refl _, hn⟩) (fun b xs e => by
      have hm := hpv b xs e
      obtain ⟨o, ho⟩ := mem_fst hm
      exact ⟨(G.pins _ ho).2.2, hm⟩) (fun p hp => (G.pins p hp).2.1) G.e0.hok sm (fun b hbm u hu => by
      have hh : b = n ∨ b = q := hbm.elim (hpq b) fun z => by
        obtain ⟨o, ho⟩ := mem_fst z
        exact hp' _ ho
      rcases hh with rfl | rfl
      · have := I1.free
        rw [show H1 b = none from this] at hu
        cases hu
      · obtain ⟨xs, hx⟩ := hq
        rw [hx] at hu
        cases hu
        exact ⟨_, rfl⟩) pins own
  refine sx_whileLoop fun J => ?_
  rw [hov]
  refine wpAny_mono (((pt_val (pv 2)) : PT (ptX P w K mg base f cdv A outer n s (gH Hc n s.heap [n] pq)) (whT ptW) _).run [] s' _ H' (fun b H2 => b = true ∧ H2 = H') I ⟨_, rfl, _, rfl, rfl, rfl⟩) (fun b s2 hb2 => ?_) (fun _ _ hx => hx)
  obtain ⟨H2, I2, rfl, rfl⟩ := hb2
  rw [if_pos rfl]
  refine sx_execs_cons ?_
  refine sx_yield rfl rfl rfl ?_
  rw [hov]
  refine wpAny_mono (((pe_callTy call_tupOf (by rfl) T.n_tuple (by decide +kernel) (pa_cons (pv 1) pa_nil)) : PE (ptX P w K mg base f cdv A outer n s (gH Hc n s.heap [n] pq)) _ _).run [] s2 _ H2 (fun x H1 => ∃ t, x = .ref t ∧ SqT K H1 t (pt.map V.int) ∧ L2.Same H2 H1) I2 ⟨_, rfl, tupOf_of (.inl (SqL.of hq)) fun l H1 h1 h2 _ => ⟨l, rfl, h1, h2⟩⟩) (fun v s3 hv => ?_) (fun _ _ hx => hx)
  obtain ⟨x, H1, I3, rv, t, rfl, hT, sm1⟩ := hv
  intro p1 l1 k1 hk
  have hq1 := sm1 _ _ hq
  obtain ⟨oL, eL, ncL, locL⟩ := loc_of_inv nc_points_of I3
  obtain ⟨zl, its, nn, vi, eq⟩ := I3.hok q _ hq1
  have lf := leave [(n, oL), (q, lstObj its.toArray nn)] G hpv hn hpq I3 (sm.trans sm1) ⟨_, hq1⟩ (fun p hp => by
    rcases List.mem_cons.mp hp with rfl | hp
    · exact .inl rfl
    · rw [List.mem_singleton.mp hp]; exact .inr rfl) (fun p hp => by
    rcases List.mem_cons.mp hp with rfl | hp
    · exact eL
    · rw [List.mem_singleton.mp hp]; exact eq) (fun p hp => by
    rcases List.mem_cons.mp hp with rfl | hp
    · exact ⟨.inl hn, ncL⟩
    · rw [List.mem_singleton.mp hp]; exact ⟨hq0, fun v z => nomatch z⟩)
  refine ⟨v, l1, k1, _, p1, _, .ref t, _, _, rfl, rv, ⟨t, rfl, sqT_live lf.2 hT⟩, lf.1, ?_⟩
  rw [hk]
  -- the next turn
  have resume : ∀ (s4 : Shared) (Hc4 : Hp) (G4 : Q.Good P w K mg base A outer n (fun H => BoxAt K H y lz hz) [(n, oL), (q, lstObj its.toArray nn)] s4 Hc4) (Pz : End → Shared → Prop),
      (∀ s5 σ5 H5, Inv (ptX P w K mg base f cdv A outer n s4 (gH Hc4 n s4.heap [n] fun b => if b = q then some (pt.map V.int) else none)) [] σ5 H5 s5 → L2.Same Hc4 H5 → PtEnd (gH Hc4 n s4.heap [n] fun b => if b = q then some (pt.map V.int) else none) y q lz hz pt σ5 H5 →
        SegX (model P w) A (ptC f cdv n) ((model P w).den (ptC f cdv n)) [.ret kf none false l0 c p0 kp] s5 Pz) →
      SegX (model P w) A (ptC f cdv n) ((execs (whB ptW).tail (ptE f cdv n)).wrap (fun f' => match f' with
            | .next | .cont => .pure (.again (ptC f cdv n))
            | .brk => .pure (.done .next)
            | .ret v => .pure (.done (.ret v))) J id id) [.ret kf none false l0 c p0 kp] s4 Pz := fun s4 Hc4 G4 Pz hk => by
    have qn : Hc4 q = none := (G4.pins (q, lstObj its.toArray nn) (List.mem_cons_of_mem _ List.mem_cons_self)).2.1
    have nn0 : Hc4 n = none := (G4.pins (n, oL) List.mem_cons_self).2.1
    have qne : q ≠ n := fun z => by
      have f1 : H1 n = none := I3.free
      rw [z, f1] at hq1
      cases hq1
    have qf : q ∉ [n] := fun z => qne (List.mem_singleton.mp z)
    have I4 := gx_inv (P := P) (w := w) (K := K) (mg := mg) (base := base) (N := ["box", "point", "going", "column"]) (qual := "points_of") (scope := defScope s_points_of) (f := f) (cd := cdv) (A := A) (outer := outer) (n := n) (s := s4) (Hc := Hc4) (fr := [n]) (pv := fun b => if b = q then some (pt.map V.int) else none)
      (σ := [some (.ref y), some (.ref q), some (.bl true), c0]) hb G4.sz hfs nc_points_of (noCells_cells (by decide +kernel)) hr.hd G4.e0 rfl (locL s4.heap (G4.pins (n, oL) List.mem_cons_self).1) List.mem_cons_self (fun b z => by rw [List.mem_singleton.mp z]; exact ⟨Nat.le_refl _, nn0⟩)
      (fun b xs e => by
        have e : (if b = q then some (pt.map V.int) else none) = some xs := e
        split at e
        · rename_i hbq
          cases e
          subst hbq
          exact ⟨(G4.pins (b, lstObj its.toArray nn) (List.mem_cons_of_mem _ List.mem_cons_self)).2.2, qn, zl, its, nn, vi, (G4.pins (b, lstObj its.toArray nn) (List.mem_cons_of_mem _ List.mem_cons_self)).1⟩
        · cases e) (G := s4.gens) G4.e0.bare
    have sg : L2.Same Hc4 (gH Hc4 n s4.heap [n] fun b => if b = q then some (pt.map V.int) else none) := fun b u e => gH_old (fun z => by rw [List.mem_singleton.mp z, nn0] at e; cases e) (if_neg fun z => by rw [z, qn] at e; cases e) e
    have sgo : ∀ H', Off q (gH Hc4 n s4.heap [n] fun b => if b = q then some (pt.map V.int) else none) H' → L2.Same Hc4 H' := fun H' of b u e => (of b fun z => by rw [z, qn] at e; cases e).trans (sg b u e)
    have gq : gH Hc4 n s4.heap [n] (fun b => if b = q then some (pt.map V.int) else none) q = some (.lst (pt.map V.int)) := gH_pv qf (if_pos rfl)
    obtain ⟨t, ht, hq5⟩ := points_rest (P := P) (w := w) (mg := mg) (base := base) (f := f) (cdv := cdv) (A := A) (outer := outer) (n := n) (s := s4) (k := k) T hr (fun H' of => G4.d.same (sgo H' of)) wi l5 gq c0
    exact sx_pss ht I4 (PtEnd (gH Hc4 n s4.heap [n] fun b => if b = q then some (pt.map V.int) else none) y q lz hz pt) hq5 hov (fun _ _ z => z) fun s5 σ5 H5 I5 pe => sx_again rfl (hk s5 σ5 H5 I5 (sgo H5 pe.1) pe)
  have pins4 : ∀ b ∈ ([(n, oL), (q, lstObj its.toArray nn)] : List (Addr × Obj)).map (·.1), b = n ∨ b = q := fun b hb => by
    rcases List.mem_cons.mp hb with z | z
    · exact .inl z
    · exact .inr (List.mem_singleton.mp z)
  have pq4 : ∀ b xs, (if b = q then some (pt.map V.int) else none) = some xs → b ∈ ([(n, oL), (q, lstObj its.toArray nn)] : List (Addr × Obj)).map (·.1) := fun b xs e => by
    split at e
    · rename_i z
      rw [z]
      exact List.mem_cons_of_mem _ List.mem_cons_self
    · cases e
  rw [after_eq wi]
  cases hs : succ lz hz pt with
  | some q' =>
    show Going P w K mg base A outer n _ (ptItem K q' :: (after lz hz q').map (ptItem K)) _ _ _ _
    intro s4 Hc4 G4
    refine resume s4 Hc4 G4 _ fun s5 σ5 H5 I5 sm5 pe => ?_
    obtain ⟨h1, c1, rfl⟩ := pe.2.1 q' hs
    have ln : (after lz hz q').length < m := by
      rw [after_eq wi, hs] at hm
      rw [← hm]
      exact Nat.lt_succ_self _
    exact ih _ ln q' (succ_in wi hs) rfl _ s4 Hc4 _ s5 H5 c1 q G4 pq4 List.mem_cons_self pins4 (.inl (List.mem_cons_of_mem _ List.mem_cons_self)) I5 sm5 h1
  | none =>
    show Going P w K mg base A outer n _ [] _ _ _ _
    intro s4 Hc4 G4
    refine resume s4 Hc4 G4 _ fun s5 σ5 H5 I5 sm5 pe => ?_
    obtain ⟨h1, c1, rfl⟩ := pe.2.2 hs
    refine sx_whileLoop fun J => ?_
    rw [hov]
    refine wpAny_mono (((pt_val (pv 2)) : PT (ptX P w K mg base f cdv A outer n s4 (gH Hc4 n s4.heap [n] fun b => if b = q then some (pt.map V.int) else none)) (whT ptW) _).run [] s5 _ H5 (fun b H2 => b = false ∧ H2 = H5) I5 ⟨_, rfl, _, rfl, rfl, rfl⟩) (fun b s6 hb6 => ?_) (fun _ _ hx => hx)
    obtain ⟨H6, I6, rfl, rfl⟩ := hb6
    rw [if_neg Bool.false_ne_true]
    refine sx_leaf (.ok .next) ?_
    rw [hkf]
    refine sx_end (.ok (.ret .none)) ⟨.inl rfl, _, (leave [] G4 pq4 List.mem_cons_self pins4 I6 sm5 h1 (fun p hp => nomatch hp) (fun p hp => nomatch hp) fun p hp => nomatch hp).1⟩
end
section
variable {P : Program} {w : World} {K : PySem.W.Frag} {mg : Str → Option Value} {base : Heap} {f : Addr} {k : Nat}
theorem points_body (T : Tx K mg) : BodyX P w K mg base ["box", "point", "going", "column"] "points_of" (defScope s_points_of) f (defBody s_points_of) k (spPoints K) := by
  intro cdv A outer n oL vs L D hr hsp hb hfs loc hlen
  obtain ⟨y, lz, hz, rfl, wi, l5, rfl, rfl⟩ := hsp
  rw [spots_low wi]
  show Going P w K mg base A outer n _ (ptItem K lz :: (after lz hz lz).map (ptItem K)) _ _ _ _
  intro s Hc G
  have nn0 : Hc n = none := (G.pins (n, oL) List.mem_cons_self).2.1
  have I := gx_inv (P := P) (w := w) (K := K) (mg := mg) (base := base) (N := ["box", "point", "going", "column"]) (qual := "points_of") (scope := defScope s_points_of) (f := f) (cd := cdv) (A := A) (outer := outer) (n := n) (s := s) (Hc := Hc) (fr := [n]) (pv := fun _ => none)
      (σ := start ["box", "point", "going", "column"] [.ref y]) hb G.sz hfs nc_points_of (noCells_cells (by decide +kernel)) hr.hd G.e0 hlen (loc s.heap (G.pins (n, oL) List.mem_cons_self).1) List.mem_cons_self (fun b z => by rw [List.mem_singleton.mp z]; exact ⟨Nat.le_refl _, nn0⟩) (fun b xs e => nomatch e)
      (G := s.gens) G.e0.bare
  have sg : L2.Same Hc (gH Hc n s.heap [n] fun _ => none) := fun b u e => gH_old (fun z => by rw [List.mem_singleton.mp z, nn0] at e; cases e) rfl e
  generalize hHg : (gH Hc n s.heap [n] fun _ => none) = Hg at sg
  obtain ⟨dy, tl, th, tt, fs, g1, g2, g3, g4, g5, g6, g7, g8, g9⟩ := id (G.d.same sg)
  refine sx_func fun J => ?_
  refine sx_execs_cons (sx_ps ((ps_set (i := 1) sc_points_of.nd rfl (Or.inl rfl) (pe_callTy call_list_of (by rfl) T.n_list (by decide +kernel) (pa_cons (pe_fld (pv 0) rfl) pa_nil))) : PS (ptX P w K mg base f cdv A outer n s (gH Hc n s.heap [n] fun _ => none)) _ _) I (fun σ' H' => ∃ q, σ' = [some (.ref y), some (.ref q), none, none] ∧ Hg q = none ∧ H' = upd Hg q (.lst (lz.map V.int))) ?_ GenW.over_func (fun _ _ z => z) fun s1 σ1 H1 I1 h1 => ?_)
  · rw [hHg]
    refine ⟨_, rfl, y, _, dy, _, _, rfl, g1, T.cls_Box, T.noat_Box_lows, g3, tl, _, rfl, .inr g7, fun l nl => ⟨l, rfl, nl, rfl⟩⟩
  obtain ⟨q, rfl, hq0, rfl⟩ := h1
  refine sx_execs_cons (sx_ps ((ps_set (i := 2) sc_points_of.nd rfl (Or.inl rfl) pe_bl) : PS (ptX P w K mg base f cdv A outer n s (gH Hc n s.heap [n] fun _ => none)) _ _) I1 (fun σ' H' => σ' = [some (.ref y), some (.ref q), some (.bl true), none] ∧ H' = upd Hg q (.lst (lz.map V.int))) ⟨rfl, rfl⟩ GenW.over_func (fun _ _ z => z) fun s2 σ2 H2 I2 h2 => ?_)
  obtain ⟨rfl, rfl⟩ := h2
  refine sx_execs_cons (sx_While fun p J' => ?_)
  have qf : q ∉ [n] := fun z => by
    have f1 : upd Hg q (.lst (lz.map V.int)) n = none := I2.free
    rw [← List.mem_singleton.mp z, upd_same] at f1
    cases f1
  have sm : L2.Same Hc (upd Hg q (.lst (lz.map V.int))) := fun b u e => by
    have e1 := sg b u e
    rw [upd_ne (fun z => by rw [z, hq0] at e1; cases e1)]
    exact e1
  have new : s.heap.get? q = none := gx_new I2 G.e0.hok qf (by rw [hHg]; exact hq0) upd_same
  exact points_head (k := k) T rfl ((GenW.over_loop rfl rfl).trans GenW.over_func) hb hfs hr l5 _ lz wi rfl _ s Hc (fun _ => none) s2 _ none q G (fun b xs e => nomatch e) List.mem_cons_self (fun b hbm => .inl (List.mem_singleton.mp hbm)) (.inr new) I2 sm upd_same
theorem C_points_of (T : Tx K mg) : CalX P w K mg base 1 "points_of" ["box"] [] (spPoints K) := by
  obtain ⟨fd, F⟩ := T.d_points_of
  refine ⟨_, fd, [], FunD.okX F sc_points_of nc_points_of (fun vs L D h => ?_) (points_body (k := 0) T), T.g_points_of, F.kp, F.bindsN fun _ _ _ _ _ _ us hl => match us, hl with | [_], _ => rfl, .nil⟩
  obtain ⟨y, lz, hz, rfl, _⟩ := h
  rfl
end

end K00

set_option maxRecDepth 100000
set_option maxHeartbeats 4000000
namespace K00
open PySem PySem.Spec PyProof.Rows L2 Q RZ
section
variable {P : Program} {w : World} {K : PySem.W.Frag} {mg : Str → Option Value} {base : Heap} {f : Addr} {fd : FuncData}
theorem ok_badbox (T : Tx K mg) : ∃ fd, FnOk P w K mg base CX0 1 (He.ma K (He.ga K "BadBox") "__init__") fd ["self", "what", "at"] (spXI (He.ga K "BadBox") 2 fun vs => [("at", vs.getD 1 .non), ("what", vs.getD 0 .non)]) ∧ Binds K fd ["self", "what", "at"] [] := by
  obtain ⟨fd, F⟩ := T.d_BadBox___init__
  refine ⟨fd, F.ok sc_BadBox___init__ (fun vs H Q E h => ?_) (fun cdv A outer s H vs Q E hr h => ?_), F.bindsN fun _ _ _ _ _ _ us hl => match us, hl with | [_, _, _], _ => rfl⟩
  · obtain ⟨a, ws, rfl, hl, _⟩ := h
    show ws.length + 1 = 3
    omega
  · obtain ⟨a, ws, rfl, hl, ha, q⟩ := h
    match ws, hl with
    | [x, y], _ =>
      refine ⟨_, PSs.nox (pss_cons (ps_ost (pv 0) (pv 1)) (pss_one (ps_ost (pv 0) (pv 2)))), ?_⟩
      refine ⟨_, rfl, _, rfl, a, _, rfl, T.o_BadBox, T.noat_BadBox_what, .inl ⟨ha, fun dx nd ne => ?_⟩⟩
      refine ⟨_, rfl, _, rfl, a, _, rfl, T.o_BadBox, T.noat_BadBox_at, .inr ⟨dx, _, upd_same, by rw [upd_ne ne, upd_same], (by show 1 ≤ 900; decide), ?_⟩⟩
      have e := q dx nd ne
      rw [← xi_two ne] at e
      exact e

theorem sqT_ins {H : Hp} {l y C C' dy dy' : Addr} {fs fs' : List (Str × V)} {xs : List V} (h : SqT K H l xs) (hy : H y = some (.ins C dy fs)) : SqT K (upd H y (.ins C' dy' fs')) l xs := by
  rcases h with (h | ⟨o, h⟩) | h
  · exact .inl (.inl (by rw [upd_ne (ne_of h hy (fun z => nomatch z))]; exact h))
  · exact .inl (.inr ⟨o, by rw [upd_ne (ne_of h hy (fun z => nomatch z))]; exact h⟩)
  · exact .inr h
/-- the four fields of a box -/
structure BoxFs (fs : List (Str × V)) (tl th tt : Addr) (n : Int) : Prop where
  lows : fs.lookup ("lows" : Str) = some (.ref tl)
  highs : fs.lookup ("highs" : Str) = some (.ref th)
  told : fs.lookup ("told" : Str) = some (.ref tt)
  size : fs.lookup ("size" : Str) = some (.int n)
  holds : fs.lookup ("holds" : Str) = none
theorem BoxFs.put {fs : List (Str × V)} {tl th tt : Addr} {n m : Int} (h : BoxFs fs tl th tt n) : BoxFs (putF "size" (.int m) fs) tl th tt m :=
  ⟨by rw [lookup_putF, if_neg (by decide +kernel)]; exact h.lows, by rw [lookup_putF, if_neg (by decide +kernel)]; exact h.highs, by rw [lookup_putF, if_neg (by decide +kernel)]; exact h.told, by rw [lookup_putF, if_pos rfl], by rw [lookup_putF, if_neg (by decide +kernel)]; exact h.holds⟩
theorem boxFs_new (tl th tt : Addr) (n : Int) : BoxFs (putF "size" (.int n) (putF "told" (.ref tt) (putF "highs" (.ref th) (putF "lows" (.ref tl) [])))) tl th tt n :=
  ⟨by rw [lookup_putF, if_neg (by decide +kernel), lookup_putF, if_neg (by decide +kernel), lookup_putF, if_neg (by decide +kernel), lookup_putF, if_pos rfl],
    by rw [lookup_putF, if_neg (by decide +kernel), lookup_putF, if_neg (by decide +kernel), lookup_putF, if_pos rfl], by rw [lookup_putF, if_neg (by decide +kernel), lookup_putF, if_pos rfl], by rw [lookup_putF, if_pos rfl], by rw [lookup_putF, if_neg (by decide +kernel), lookup_putF, if_neg (by decide +kernel), lookup_putF, if_neg (by decide +kernel), lookup_putF, if_neg (by decide +kernel)]; rfl⟩
theorem ok_boxinit (T : Tx K mg) : ∃ fd, FnOk P w K mg base (L2.CX P w) 3 (He.ma K (He.ga K "Box") "__init__") fd ["self", "lows", "highs"] (spBoxInit K) ∧ Binds K fd ["self", "lows", "highs"] [] := by
  obtain ⟨fd, F⟩ := T.d_Box___init__
  obtain ⟨fdX, G_BadBox, b_BadBox⟩ := ok_badbox (P := P) (w := w) (base := base) T
  have C_is_whole := C_is_whole (P := P) (w := w) (base := base) T
  refine ⟨fd, F.ok sc_Box___init__ (fun vs H Q E h => ?_) (fun cdv A outer s H vs Q E hr h => ?_), F.bindsN fun _ _ _ _ _ _ us hl => match us, hl with | [_, _, _], _ => rfl⟩
  · obtain ⟨y, dy, v1, v2, T1, T2, rfl, _⟩ := h
    rfl
  · obtain ⟨y, dy, v1, v2, T1, T2, rfl, hy, kn1, kn2, it1, it2, kE, kQ⟩ := h
    refine ⟨_, (pss_cons (ps_if (PW.pt (pw_or (pt_not (pt_val (pe_callB call_isiT (by rfl) T.n_isinstance (by decide +kernel) (pa_cons (pv 1) (pa_cons (pe_tup (pa_cons (pe_bltn (v := .ty "list") (u := .type "list") (by rfl) T.n_list (by decide +kernel) rfl) (pa_cons (pe_bltn (v := .ty "tuple") (u := .type "tuple") (by rfl) T.n_tuple (by decide +kernel) rfl) pa_nil))) pa_nil))))) (pw_or1 (pt_cmpR op_gt (pe_callB call_len_seq (by rfl) T.n_len (by decide +kernel) (pa_cons (pv 1) pa_nil)) (pe_gint T.c_MOST_COLUMNS) (nomark _)))))
        (pss_one (ps_raise rfl (takes_of rfl rfl rfl rfl) (pmk_fld T.o_BadBox T.i_BadBox T.t_BadBox G_BadBox (hr.mono (by decide)) b_BadBox pass0 T.g_BadBox (by decide) (pa_cons pe_str (pa_cons pe_int pa_nil)) (fun _ _ _ _ h z => h _ _ z))))
        pss_nil)
      (pss_cons (ps_if (PW.pt (pw_or (pt_not (pt_val (pe_callB call_isiT (by rfl) T.n_isinstance (by decide +kernel) (pa_cons (pv 2) (pa_cons (pe_tup (pa_cons (pe_bltn (v := .ty "list") (u := .type "list") (by rfl) T.n_list (by decide +kernel) rfl) (pa_cons (pe_bltn (v := .ty "tuple") (u := .type "tuple") (by rfl) T.n_tuple (by decide +kernel) rfl) pa_nil))) pa_nil))))) (pw_or1 (pt_cmpR op_ne (pe_callB call_len_seq (by rfl) T.n_len (by decide +kernel) (pa_cons (pv 2) pa_nil)) (pe_callB call_len_seq (by rfl) T.n_len (by decide +kernel) (pa_cons (pv 1) pa_nil)) (nomark _)))))
        (pss_one (ps_raise rfl (takes_of rfl rfl rfl rfl) (pmk_fld T.o_BadBox T.i_BadBox T.t_BadBox G_BadBox (hr.mono (by decide)) b_BadBox pass0 T.g_BadBox (by decide) (pa_cons pe_str (pa_cons pe_int pa_nil)) (fun _ _ _ _ h z => h _ _ z))))
        pss_nil)
      (pss_cons (ps_for (passes_of rfl) rfl (pi_range1 (by rfl) T.n_range (pa_cons (pe_callB call_len_seq (by rfl) T.n_len (by decide +kernel) (pa_cons (pv 1) pa_nil)) pa_nil)) (pg_name (i := 3) sc_Box___init__.nd rfl (Or.inl rfl))
        (pss_cons (ps_if (pt_not (pt_val (pe_cal C_is_whole (hr.mono (by decide)) pass0 (pa_cons (pe_ix ix_seq (pv 1) (pv 3) (fun _ _ => rfl)) (pa_cons pe_int (pa_cons (pe_op op_sub (pe_gint T.c_HIGHEST) pe_int) pa_nil))))))
          (pss_one (ps_raise rfl (takes_of rfl rfl rfl rfl) (pmk_fld T.o_BadBox T.i_BadBox T.t_BadBox G_BadBox (hr.mono (by decide)) b_BadBox pass0 T.g_BadBox (by decide) (pa_cons pe_str (pa_cons (pv 3) pa_nil)) (fun _ _ _ _ h z => let ⟨v1, e1, z⟩ := z; ⟨v1, e1, h _ _ z⟩))))
          pss_nil)
        (pss_one (ps_if (pt_not (pt_val (pe_cal C_is_whole (hr.mono (by decide)) pass0 (pa_cons (pe_ix ix_seq (pv 2) (pv 3) (fun _ _ => rfl)) (pa_cons (pe_op op_add (pe_ix ix_seq (pv 1) (pv 3) (fun _ _ => rfl)) pe_int) (pa_cons (pe_gint T.c_HIGHEST) pa_nil))))))
          (pss_one (ps_raise rfl (takes_of rfl rfl rfl rfl) (pmk_fld T.o_BadBox T.i_BadBox T.t_BadBox G_BadBox (hr.mono (by decide)) b_BadBox pass0 T.g_BadBox (by decide) (pa_cons pe_str (pa_cons (pv 3) pa_nil)) (fun _ _ _ _ h z => let ⟨v1, e1, z⟩ := z; ⟨v1, e1, h _ _ z⟩))))
          pss_nil))))
      (pss_cons (ps_fld (pv 0) (pe_callTy call_tupOf (by rfl) T.n_tuple (by decide +kernel) (pa_cons (pv 1) pa_nil)) rfl)
      (pss_cons (ps_fld (pv 0) (pe_callTy call_tupOf (by rfl) T.n_tuple (by decide +kernel) (pa_cons (pv 2) pa_nil)) rfl)
      (pss_cons (ps_fld (pv 0) (pe_tup (pa_cons (pe_fld (pv 0) rfl) (pa_cons (pe_fld (pv 0) rfl) pa_nil))) rfl)
      (pss_cons (ps_fld (pv 0) pe_int rfl)
      (pss_one (ps_for (passes_of rfl) rfl (pi_zipA (by rfl) T.n_zip (pa_cons (pe_fld (pv 0) rfl) (pa_cons (pe_fld (pv 0) rfl) pa_nil))) (pg_tup rfl (pgs_cons (pg_name (i := 4) sc_Box___init__.nd rfl (Or.inl rfl)) (pgs_cons (pg_name (i := 5) sc_Box___init__.nd rfl (Or.inl rfl)) pgs_nil)))
        (pss_one (ps_fld (pv 0) (pe_op op_mul (pe_fld (pv 0) rfl) (pe_op op_sub (pv 5) (pv 4))) rfl))))))))))), ?_⟩
    -- not a sequence, or too long
    rcases kn1.seqSome with ⟨q1, a1, xs1, rfl, hs1, hh1⟩ | ⟨q1, hs1⟩
    case inr =>
      have z : PySem.W.kitAny K (.type T1) [.type "list", .type "tuple"] = some false := by rw [kn1.seq, q1]
      refine ⟨_, rfl, (by show 2 ≤ sizeLine; decide), fun p1 np1 => ⟨_, p1, _, _, _, _, rfl, upd_same, .cons (.ty _) (.cons (.ty _) .nil), (kn1.same (same_new np1)).ty, z, _, rfl, iteT (iteT ⟨rfl, fun d nd => ?_⟩)⟩⟩
      exact kE "lows" 0 _ d (by rw [hs1]; rfl) ((same_new np1).trans (same_new nd)) ((same_new np1).free nd) upd_same
    have z1 : PySem.W.kitAny K (.type T1) [.type "list", .type "tuple"] = some true := by rw [kn1.seq, q1]
    have sq1 : Sq K H a1 xs1 := sq_of hh1
    refine ⟨_, rfl, (by show 2 ≤ sizeLine; decide), fun p1 np1 => ⟨_, p1, _, _, _, _, rfl, upd_same, .cons (.ty _) (.cons (.ty _) .nil), (kn1.same (same_new np1)).ty, z1, _, rfl, iteF ?_⟩⟩
    have s1 := same_new (o := HO.tup [V.ty "list", V.ty "tuple"]) np1
    refine ⟨_, rfl, _, _, rfl, sq1.same s1, _, _, rfl, rfl, _, rfl, ite2 (fun c => ?_) (fun c => ?_)⟩
    · have c' : 5 < xs1.length := by
        have := of_decide_eq_true c
        omega
      refine ⟨rfl, fun d nd => kE "lows" 0 _ d ?_ (s1.trans (same_new nd)) (s1.free nd) upd_same⟩
      rw [hs1]
      show (if 5 < xs1.length then some ((("lows" : Str)), (0 : Int)) else _) = _
      rw [if_pos c']
    have c5 : ¬ 5 < xs1.length := fun z => c (decide_eq_true (by omega))
    -- highs
    generalize hH1 : upd H p1 (HO.tup [V.ty "list", V.ty "tuple"]) = H1 at s1 ⊢
    rcases kn2.seqSome with ⟨q2, a2, xs2, rfl, hs2, hh2⟩ | ⟨q2, hs2⟩
    case inr =>
      have z : PySem.W.kitAny K (.type T2) [.type "list", .type "tuple"] = some false := by rw [kn2.seq, q2]
      refine ⟨_, rfl, (by show 2 ≤ sizeLine; decide), fun p2 np2 => ⟨_, p2, _, _, _, _, rfl, upd_same, .cons (.ty _) (.cons (.ty _) .nil), (kn2.same (s1.trans (same_new np2))).ty, z, _, rfl, iteT (iteT ⟨rfl, fun d nd => ?_⟩)⟩⟩
      have s2 := s1.trans (same_new (o := HO.tup [V.ty "list", V.ty "tuple"]) np2)
      refine kE "highs" 0 _ d ?_ (s2.trans (same_new nd)) (s2.free nd) upd_same
      rw [hs1, hs2]
      show (if 5 < xs1.length then some ((("lows" : Str)), (0 : Int)) else _) = _
      rw [if_neg c5]
    have z2 : PySem.W.kitAny K (.type T2) [.type "list", .type "tuple"] = some true := by rw [kn2.seq, q2]
    have sq2 : Sq K H a2 xs2 := sq_of hh2
    refine ⟨_, rfl, (by show 2 ≤ sizeLine; decide), fun p2 np2 => ⟨_, p2, _, _, _, _, rfl, upd_same, .cons (.ty _) (.cons (.ty _) .nil), (kn2.same (s1.trans (same_new np2))).ty, z2, _, rfl, iteF ?_⟩⟩
    have s2 := s1.trans (same_new (o := HO.tup [V.ty "list", V.ty "tuple"]) np2)
    generalize hH2 : upd H1 p2 (HO.tup [V.ty "list", V.ty "tuple"]) = H2 at s2 ⊢
    have bf : boxFault (seqOf H (V.ref a1)) (seqOf H (V.ref a2)) = if xs2.length = xs1.length then faultFrom 0 xs1 xs2 else some (("highs" : Str), 0) := by
      rw [hs1, hs2]
      show (if 5 < xs1.length then some ((("lows" : Str)), (0 : Int)) else _) = _
      rw [if_neg c5]
    refine ⟨_, rfl, _, _, rfl, sq2.same s2, _, rfl, _, _, rfl, sq1.same s2, rfl, _, rfl, ite2 (fun c => ?_) (fun c => ?_)⟩
    · refine ⟨rfl, fun d nd => kE "highs" 0 _ d ?_ (s2.trans (same_new nd)) (s2.free nd) upd_same⟩
      rw [bf, if_neg]
      intro e
      rw [e] at c
      simp at c
    have el : xs2.length = xs1.length := by
      simp at c
      omega
    rw [if_pos el] at bf
    -- the columns, one by one
    refine ⟨_, rfl, _, _, rfl, sq1.same s2, (xs1.length : Int), rfl, by omega, by omega, ?_⟩
    rw [Int.toNat_natCast]
    refine for_range (lo := 0) (n := xs1.length) (fun i σ H' => (∃ v3, σ = [some (.ref y), some (.ref a1), some (.ref a2), v3, none, none]) ∧ Same H H' ∧ faultFrom i (xs1.drop i) (xs2.drop i) = faultFrom 0 xs1 xs2) ⟨⟨none, rfl⟩, s2, by rw [List.drop_zero, List.drop_zero]⟩ ?_ ?_
    · rintro i σ H' hi ⟨⟨v3, rfl⟩, sm, ff⟩
      have hi2 : i < xs2.length := by omega
      have g1 : xs1[i]? = some xs1[i] := List.getElem?_eq_getElem hi
      have g2 : xs2[i]? = some xs2[i] := List.getElem?_eq_getElem hi2
      obtain ⟨U1, ku1⟩ := it1 xs1 hs1 xs1[i] (List.getElem_mem hi)
      obtain ⟨U2, ku2⟩ := it2 xs2 hs2 xs2[i] (List.getElem_mem hi2)
      have ai1 : atI xs1 ((0 : Int) + (i : Int)) = some xs1[i] := by rw [Int.zero_add]; exact atI_nat g1
      have ai2 : atI xs2 ((0 : Int) + (i : Int)) = some xs2[i] := by rw [Int.zero_add]; exact atI_nat g2
      have stp := fault_step g1 g2
      refine ⟨_, rfl, _, rfl, rix_of (sq1.same sm) ai1 ?_⟩
      refine ⟨_, _, rfl, rfl, _, 0, 63, U1, rfl, ku1.same sm, _, rfl, ?_⟩
      cases w1 : wholeV xs1[i] 0 63 with
      | false =>
        have cf : colFault xs1[i] xs2[i] = some ("low" : Str) := by
          unfold colFault
          split
          · rename_i k hk
            rw [if_neg (by rw [← hk, w1]; exact Bool.false_ne_true)]
          · rfl
        rw [cf] at stp
        refine iteT ⟨_, rfl, rfl, fun d nd => kE "low" _ _ d ?_ (sm.trans (same_new nd)) (sm.free nd) upd_same⟩
        rw [bf, ← ff, stp, Int.zero_add]
      | true =>
        obtain ⟨k, hk⟩ : ∃ k, xs1[i] = V.int k := by
          cases e : xs1[i] with
          | int k => exact ⟨k, rfl⟩
          | _ => rw [e] at w1; cases w1
        refine iteF ⟨_, rfl, _, rfl, rix_of (sq2.same sm) ai2 ?_⟩
        refine ⟨_, rfl, _, rfl, rix_of (sq1.same sm) ai1 ?_⟩
        refine ⟨k, 1, hk, rfl, _, k + 1, 64, U2, rfl, ku2.same sm, _, rfl, ?_⟩
        cases w2 : wholeV xs2[i] (k + 1) 64 with
        | false =>
          have cf : colFault xs1[i] xs2[i] = some ("high" : Str) := by
            rw [hk] at w1 ⊢
            show (if wholeV (.int k) 0 63 = true then (if wholeV xs2[i] (k + 1) 64 = true then none else some (("high" : Str))) else some ("low" : Str)) = _
            rw [if_pos w1, if_neg (by rw [w2]; exact Bool.false_ne_true)]
          rw [cf] at stp
          refine iteT ⟨_, rfl, rfl, fun d nd => kE "high" _ _ d ?_ (sm.trans (same_new nd)) (sm.free nd) upd_same⟩
          rw [bf, ← ff, stp, Int.zero_add]
        | true =>
          have cf : colFault xs1[i] xs2[i] = none := by
            rw [hk] at w1 ⊢
            show (if wholeV (.int k) 0 63 = true then (if wholeV xs2[i] (k + 1) 64 = true then none else some (("high" : Str))) else some ("low" : Str)) = _
            rw [if_pos w1, if_pos w2]
          rw [cf] at stp
          exact iteF ⟨⟨_, rfl⟩, sm, stp.symm.trans ff⟩
    · rintro σ H' ⟨⟨v3, rfl⟩, sm, ff⟩
      have fn0 : faultFrom 0 xs1 xs2 = none := by
        rw [← ff, List.drop_eq_nil_of_le (Nat.le_refl _)]
        cases xs2.drop xs1.length <;> rfl
      obtain ⟨lz, hz, rfl, rfl, rg⟩ := fault_none (by omega) fn0
      rw [fn0] at bf
      have len5 : lz.length ≤ 5 := by
        rw [List.length_map] at c5
        omega
      have hy1 := sm _ _ hy
      -- self.lows = tuple(lows)
      refine ⟨_, rfl, ?_⟩
      refine tupOf_of (sq1.same sm) fun tl Ha ql sa _ => ?_
      refine ⟨_, rfl, y, _, dy, _, rfl, sa _ _ hy1, T.cls_Box, T.noat_Box_lows, by decide, ?_⟩
      have sba : ∀ b o, b ≠ y → H b = some o → upd Ha y (.ins (He.ga K "Box") dy (putF "lows" (.ref tl) [])) b = some o := fun b o n e => by
        rw [upd_ne n]
        exact sa _ _ (sm _ _ e)
      have sq2a : Sq K (upd Ha y (.ins (He.ga K "Box") dy (putF "lows" (.ref tl) []))) a2 (hz.map V.int) := sq_of (hh2.elim (fun e => .inl (sba _ _ (ne_of e hy (fun z => nomatch z)) e)) fun e => .inr (sba _ _ (ne_of e hy (fun z => nomatch z)) e))
      have ql1 := sqT_ins (C' := He.ga K "Box") (dy' := dy) (fs' := putF "lows" (.ref tl) []) ql (sa _ _ hy1)
      -- self.highs = tuple(highs)
      refine ⟨_, rfl, ?_⟩
      refine tupOf_of sq2a fun th Hb qh sb _ => ?_
      refine ⟨_, rfl, y, _, dy, _, rfl, sb _ _ upd_same, T.cls_Box, T.noat_Box_highs, Nat.lt_of_le_of_lt (length_putF _ _ _) (by decide), ?_⟩
      have hyb := sb _ _ (upd_same (H := Ha) (a := y) (o := .ins (He.ga K "Box") dy (putF "lows" (.ref tl) [])))
      have ql2 := sqT_ins (C' := He.ga K "Box") (dy' := dy) (fs' := putF "highs" (.ref th) (putF "lows" (.ref tl) [])) (sqT_same sb ql1) hyb
      have qh2 := sqT_ins (C' := He.ga K "Box") (dy' := dy) (fs' := putF "highs" (.ref th) (putF "lows" (.ref tl) [])) qh hyb
      generalize hHc : upd Hb y (.ins (He.ga K "Box") dy (putF "highs" (.ref th) (putF "lows" (.ref tl) []))) = Hc at ql2 qh2 ⊢
      have hyc : Hc y = some (.ins (He.ga K "Box") dy (putF "highs" (.ref th) (putF "lows" (.ref tl) []))) := by rw [← hHc, upd_same]
      have sbc : ∀ b o, b ≠ y → H b = some o → Hc b = some o := fun b o n e => by
        rw [← hHc, upd_ne n]
        exact sb _ _ (sba b o n e)
      have l2 : (putF "highs" (V.ref th) (putF "lows" (.ref tl) [])).length ≤ 2 := Nat.le_trans (length_putF _ _ _) (Nat.succ_le_succ (length_putF _ _ _))
      -- self.told = (self.lows, self.highs)
      refine ⟨_, rfl, y, _, dy, _, _, rfl, hyc, T.cls_Box, T.noat_Box_lows, by rw [lookup_putF, if_neg (by decide +kernel), lookup_putF, if_pos rfl], _, rfl, y, _, dy, _, _, rfl, hyc, T.cls_Box, T.noat_Box_highs, by rw [lookup_putF, if_pos rfl], (by show 2 ≤ sizeLine; decide), fun tt nt => ?_⟩
      have st := same_new (o := HO.tup [V.ref tl, V.ref th]) nt
      refine ⟨_, rfl, y, _, dy, _, rfl, st _ _ hyc, T.cls_Box, T.noat_Box_told, by omega, ?_⟩
      have l3 : (putF "told" (V.ref tt) (putF "highs" (V.ref th) (putF "lows" (.ref tl) []))).length ≤ 3 := Nat.le_trans (length_putF _ _ _) (Nat.succ_le_succ l2)
      have l4 : (putF "size" (V.int 1) (putF "told" (V.ref tt) (putF "highs" (V.ref th) (putF "lows" (.ref tl) [])))).length ≤ 4 := Nat.le_trans (length_putF _ _ _) (Nat.succ_le_succ l3)
      -- self.size = 1
      refine ⟨_, rfl, y, _, dy, _, rfl, upd_same, T.cls_Box, T.noat_Box_size, by omega, ?_⟩
      rw [upd_upd]
      have bfs := boxFs_new tl th tt 1
      generalize putF "size" (V.int 1) (putF "told" (V.ref tt) (putF "highs" (V.ref th) (putF "lows" (.ref tl) []))) = fs at l4 bfs ⊢
      have ql3 := sqT_ins (C' := He.ga K "Box") (dy' := dy) (fs' := fs) (sqT_same st ql2) (st _ _ hyc)
      have qh3 := sqT_ins (C' := He.ga K "Box") (dy' := dy) (fs' := fs) (sqT_same st qh2) (st _ _ hyc)
      have qt3 : SqT K (upd (upd Hc tt (HO.tup [V.ref tl, V.ref th])) y (.ins (He.ga K "Box") dy fs)) tt [V.ref tl, V.ref th] := sqT_ins (SqT.of upd_same) (st _ _ hyc)
      -- for low, high in zip(self.lows, self.highs)
      refine ⟨_, rfl, y, _, dy, _, _, rfl, upd_same, T.cls_Box, T.noat_Box_lows, bfs.lows, _, rfl, y, _, dy, _, _, rfl, upd_same, T.cls_Box, T.noat_Box_highs, bfs.highs, tl, th, lz.map V.int, hz.map V.int, rfl, .inr ⟨ql3, qh3, ?_⟩⟩
      have rl := rg.len
      refine for_zipT (K := K) (a := tl) (b := th) (xs := lz.map V.int) (ys := hz.map V.int) (by rw [List.length_map, List.length_map, rl]) (fun i σ Hx => ∃ v4 v5 fs, σ = [some (.ref y), some (.ref a1), some (.ref a2), v3, v4, v5] ∧ (∀ b o, b ≠ y → H b = some o → Hx b = some o) ∧ Hx y = some (.ins (He.ga K "Box") dy fs) ∧ fs.length ≤ 4 + i ∧
        BoxFs fs tl th tt (boxSize lz hz i) ∧ SqT K Hx tl (lz.map V.int) ∧ SqT K Hx th (hz.map V.int) ∧ SqT K Hx tt [V.ref tl, V.ref th]) ⟨none, none, fs, rfl, fun b o n e => ?_, upd_same, by omega, bfs, ql3, qh3, qt3⟩ (fun i σ Hx h => ?_) ?_ ?_
      · rw [upd_ne n]
        exact st _ _ (sbc b o n e)
      · obtain ⟨_, _, _, _, _, _, _, _, h1, h2, _⟩ := h
        exact ⟨h1, h2⟩
      · rintro i x z Tp σ Hx hx hz' ⟨v4, v5, fs, rfl, keep, hyx, hfl, bf', qa, qb, qc⟩ nT
        have hi : i < lz.length := by
          have := (List.getElem?_eq_some_iff.mp hx).1
          rwa [List.length_map] at this
        have hi2 : i < hz.length := by omega
        obtain rfl : x = V.int lz[i] := by
          rw [List.getElem?_map, List.getElem?_eq_getElem hi] at hx
          exact (Option.some.inj hx).symm
        obtain rfl : z = V.int hz[i] := by
          rw [List.getElem?_map, List.getElem?_eq_getElem hi2] at hz'
          exact (Option.some.inj hz').symm
        have sT := same_new (o := HO.tup [V.int lz[i], V.int hz[i]]) nT
        refine ⟨Tp, _, rfl, SqT.of upd_same, rfl, _, _, rfl, _, _, rfl, rfl, ?_⟩
        obtain ⟨g1, g2⟩ := size_le rg i (by omega)
        have g3 : boxSize lz hz i ≤ 64 ^ 5 := Int.le_trans g2 (by
          have : i ≤ 5 := by omega
          match i, this with
          | 0, _ => decide
          | 1, _ => decide
          | 2, _ => decide
          | 3, _ => decide
          | 4, _ => decide
          | 5, _ => decide)
        refine ⟨_, rfl, y, _, dy, fs, _, rfl, sT _ _ hyx, T.cls_Box, T.noat_Box_size, bf'.size, _, rfl, _, rfl, _, _, rfl, rfl, _, _, rfl, rfl, .inl ⟨by omega, by omega⟩, ?_⟩
        refine ⟨_, rfl, y, _, dy, fs, rfl, sT _ _ hyx, T.cls_Box, T.noat_Box_size, by omega, ?_⟩
        refine ⟨_, _, _, rfl, fun b o n e => ?_, upd_same, Nat.le_trans (length_putF _ _ _) (by omega), ?_, sqT_ins (sqT_same sT qa) (sT _ _ hyx), sqT_ins (sqT_same sT qb) (sT _ _ hyx), sqT_ins (sqT_same sT qc) (sT _ _ hyx)⟩
        · rw [upd_ne n]
          exact sT _ _ (keep b o n e)
        · have e : boxSize lz hz (i + 1) = boxSize lz hz i * (hz[i] - lz[i]) := by
            show boxSize lz hz i * (hz.getD i 0 - lz.getD i 0) = _
            rw [List.getD_eq_getElem?_getD, List.getD_eq_getElem?_getD, List.getElem?_eq_getElem hi, List.getElem?_eq_getElem hi2]
            rfl
          rw [e]
          exact bf'.put
      · rintro σ Hx ⟨v4, v5, fs, rfl, keep, hyx, hfl, bf', qa, qb, qc⟩
        rw [List.length_map] at hfl bf'
        exact kQ lz hz Hx bf hs1 hs2 rg len5 keep ⟨dy, tl, th, tt, fs, hyx, ⟨by omega, bf'.holds⟩, bf'.lows, bf'.highs, bf'.told, bf'.size, qa, qb, qc⟩

end
end K00

set_option maxRecDepth 100000
set_option maxHeartbeats 4000000
namespace K00
open PySem PySem.Spec PyProof.Rows L2 Q RZ
section
variable {P : Program} {w : World} {K : PySem.W.Frag} {mg : Str → Option Value} {base : Heap} {f : Addr} {fd : FuncData}
theorem sq_ty {K : PySem.W.Frag} {H : Hp} {a : Addr} {xs : List V} (h : Sq K H a xs) : ∃ T : String, TyX K H (.ref a) (.type T) ∧ PySem.W.kitAny K (.type T) [.type "list", .type "tuple"] = some true := by
  have kl : PySem.W.kitAny K (.type "list") [.type "list", .type "tuple"] = some true := (Kn.lst (H := fun _ => some (.lst [])) (a := 0) (xs := []) rfl).seq
  have kt : PySem.W.kitAny K (.type "tuple") [.type "list", .type "tuple"] = some true := (Kn.tup (H := fun _ => some (.tup [])) (a := 0) (xs := []) rfl).seq
  rcases h with ((h | ⟨o, h⟩) | ⟨o, its, n, h, c, _⟩) | ((h | ⟨o, h⟩) | ⟨o, its, n, h, c, _⟩)
  · exact ⟨_, .base (.lst h), kl⟩
  · exact ⟨_, .base (.frz h), kl⟩
  · exact ⟨_, .kList h c, kl⟩
  · exact ⟨_, .base (.tup h), kt⟩
  · exact ⟨_, .fTuple h, kt⟩
  · exact ⟨_, .kTuple h c, kt⟩
/-- Sq stands while all but one instance is kept -/
theorem sq_but {K : PySem.W.Frag} {H H' : Hp} {a y C dy : Addr} {xs : List V} {fs : List (Str × V)} (h : Sq K H a xs) (hy : H y = some (.ins C dy fs)) (k : ∀ b o, b ≠ y → H b = some o → H' b = some o) : Sq K H' a xs := by
  rcases h with ((h | ⟨o, h⟩) | h) | ((h | ⟨o, h⟩) | h)
  · exact .inl (.inl (.inl (k _ _ (ne_of h hy (fun z => nomatch z)) h)))
  · exact .inl (.inl (.inr ⟨o, k _ _ (ne_of h hy (fun z => nomatch z)) h⟩))
  · exact .inl (.inr h)
  · exact .inr (.inl (.inl (k _ _ (ne_of h hy (fun z => nomatch z)) h)))
  · exact .inr (.inl (.inr ⟨o, k _ _ (ne_of h hy (fun z => nomatch z)) h⟩))
  · exact .inr (.inr h)
/-- Box(lows, highs), right, whatever the sequences are -/
def spBoxGood (K : PySem.W.Frag) : Sp := fun vs H Q _ => ∃ (y dy a1 a2 : Addr) (lz hz : List Int), vs = [.ref y, .ref a1, .ref a2] ∧ H y = some (.ins (He.ga K "Box") dy []) ∧ Sq K H a1 (lz.map V.int) ∧ Sq K H a2 (hz.map V.int) ∧ Rgs lz hz ∧ lz.length ≤ 5 ∧
  ∀ H', (∀ b o, b ≠ y → H b = some o → H' b = some o) → BoxAt K H' y lz hz → Q .non H'
theorem ok_boxgood (T : Tx K mg) : ∃ fd, FnOk P w K mg base (L2.CX P w) 3 (He.ma K (He.ga K "Box") "__init__") fd ["self", "lows", "highs"] (spBoxGood K) ∧ Binds K fd ["self", "lows", "highs"] [] := by
  obtain ⟨fd, F⟩ := T.d_Box___init__
  obtain ⟨fdX, G_BadBox, b_BadBox⟩ := ok_badbox (P := P) (w := w) (base := base) T
  have C_is_whole := C_is_whole (P := P) (w := w) (base := base) T
  refine ⟨fd, F.ok sc_Box___init__ (fun vs H Q E h => ?_) (fun cdv A outer s H vs Q E hr h => ?_), F.bindsN fun _ _ _ _ _ _ us hl => match us, hl with | [_, _, _], _ => rfl⟩
  · obtain ⟨y, dy, a1, a2, lz, hz, rfl, _⟩ := h
    rfl
  · obtain ⟨y, dy, a1, a2, lz, hz, rfl, hy, sq1, sq2, rg, len5, kQ⟩ := h
    refine ⟨_, (pss_cons (ps_if (PW.pt (pw_or (pt_not (pt_val (pe_callB call_isiT (by rfl) T.n_isinstance (by decide +kernel) (pa_cons (pv 1) (pa_cons (pe_tup (pa_cons (pe_bltn (v := .ty "list") (u := .type "list") (by rfl) T.n_list (by decide +kernel) rfl) (pa_cons (pe_bltn (v := .ty "tuple") (u := .type "tuple") (by rfl) T.n_tuple (by decide +kernel) rfl) pa_nil))) pa_nil))))) (pw_or1 (pt_cmpR op_gt (pe_callB call_len_seq (by rfl) T.n_len (by decide +kernel) (pa_cons (pv 1) pa_nil)) (pe_gint T.c_MOST_COLUMNS) (nomark _)))))
        (pss_one (ps_raise rfl (takes_of rfl rfl rfl rfl) (pmk_fld T.o_BadBox T.i_BadBox T.t_BadBox G_BadBox (hr.mono (by decide)) b_BadBox pass0 T.g_BadBox (by decide) (pa_cons pe_str (pa_cons pe_int pa_nil)) (fun _ _ _ _ h z => h _ _ z))))
        pss_nil)
      (pss_cons (ps_if (PW.pt (pw_or (pt_not (pt_val (pe_callB call_isiT (by rfl) T.n_isinstance (by decide +kernel) (pa_cons (pv 2) (pa_cons (pe_tup (pa_cons (pe_bltn (v := .ty "list") (u := .type "list") (by rfl) T.n_list (by decide +kernel) rfl) (pa_cons (pe_bltn (v := .ty "tuple") (u := .type "tuple") (by rfl) T.n_tuple (by decide +kernel) rfl) pa_nil))) pa_nil))))) (pw_or1 (pt_cmpR op_ne (pe_callB call_len_seq (by rfl) T.n_len (by decide +kernel) (pa_cons (pv 2) pa_nil)) (pe_callB call_len_seq (by rfl) T.n_len (by decide +kernel) (pa_cons (pv 1) pa_nil)) (nomark _)))))
        (pss_one (ps_raise rfl (takes_of rfl rfl rfl rfl) (pmk_fld T.o_BadBox T.i_BadBox T.t_BadBox G_BadBox (hr.mono (by decide)) b_BadBox pass0 T.g_BadBox (by decide) (pa_cons pe_str (pa_cons pe_int pa_nil)) (fun _ _ _ _ h z => h _ _ z))))
        pss_nil)
      (pss_cons (ps_for (passes_of rfl) rfl (pi_range1 (by rfl) T.n_range (pa_cons (pe_callB call_len_seq (by rfl) T.n_len (by decide +kernel) (pa_cons (pv 1) pa_nil)) pa_nil)) (pg_name (i := 3) sc_Box___init__.nd rfl (Or.inl rfl))
        (pss_cons (ps_if (pt_not (pt_val (pe_cal C_is_whole (hr.mono (by decide)) pass0 (pa_cons (pe_ix ix_seq (pv 1) (pv 3) (fun _ _ => rfl)) (pa_cons pe_int (pa_cons (pe_op op_sub (pe_gint T.c_HIGHEST) pe_int) pa_nil))))))
          (pss_one (ps_raise rfl (takes_of rfl rfl rfl rfl) (pmk_fld T.o_BadBox T.i_BadBox T.t_BadBox G_BadBox (hr.mono (by decide)) b_BadBox pass0 T.g_BadBox (by decide) (pa_cons pe_str (pa_cons (pv 3) pa_nil)) (fun _ _ _ _ h z => let ⟨v1, e1, z⟩ := z; ⟨v1, e1, h _ _ z⟩))))
          pss_nil)
        (pss_one (ps_if (pt_not (pt_val (pe_cal C_is_whole (hr.mono (by decide)) pass0 (pa_cons (pe_ix ix_seq (pv 2) (pv 3) (fun _ _ => rfl)) (pa_cons (pe_op op_add (pe_ix ix_seq (pv 1) (pv 3) (fun _ _ => rfl)) pe_int) (pa_cons (pe_gint T.c_HIGHEST) pa_nil))))))
          (pss_one (ps_raise rfl (takes_of rfl rfl rfl rfl) (pmk_fld T.o_BadBox T.i_BadBox T.t_BadBox G_BadBox (hr.mono (by decide)) b_BadBox pass0 T.g_BadBox (by decide) (pa_cons pe_str (pa_cons (pv 3) pa_nil)) (fun _ _ _ _ h z => let ⟨v1, e1, z⟩ := z; ⟨v1, e1, h _ _ z⟩))))
          pss_nil))))
      (pss_cons (ps_fld (pv 0) (pe_callTy call_tupOf (by rfl) T.n_tuple (by decide +kernel) (pa_cons (pv 1) pa_nil)) rfl)
      (pss_cons (ps_fld (pv 0) (pe_callTy call_tupOf (by rfl) T.n_tuple (by decide +kernel) (pa_cons (pv 2) pa_nil)) rfl)
      (pss_cons (ps_fld (pv 0) (pe_tup (pa_cons (pe_fld (pv 0) rfl) (pa_cons (pe_fld (pv 0) rfl) pa_nil))) rfl)
      (pss_cons (ps_fld (pv 0) pe_int rfl)
      (pss_one (ps_for (passes_of rfl) rfl (pi_zipA (by rfl) T.n_zip (pa_cons (pe_fld (pv 0) rfl) (pa_cons (pe_fld (pv 0) rfl) pa_nil))) (pg_tup rfl (pgs_cons (pg_name (i := 4) sc_Box___init__.nd rfl (Or.inl rfl)) (pgs_cons (pg_name (i := 5) sc_Box___init__.nd rfl (Or.inl rfl)) pgs_nil)))
        (pss_one (ps_fld (pv 0) (pe_op op_mul (pe_fld (pv 0) rfl) (pe_op op_sub (pv 5) (pv 4))) rfl))))))))))), ?_⟩
    have rl0 := rg.len
    have n1 : (lz.map V.int).length = lz.length := List.length_map ..
    have n2 : (hz.map V.int).length = lz.length := by rw [List.length_map, rl0]
    refine ⟨_, rfl, (by show 2 ≤ sizeLine; decide), fun p1 np1 => ?_⟩
    have s1 := same_new (o := HO.tup [V.ty "list", V.ty "tuple"]) np1
    obtain ⟨T1, ty1, z1⟩ := sq_ty (sq1.same s1)
    refine ⟨_, p1, _, _, _, _, rfl, upd_same, .cons (.ty _) (.cons (.ty _) .nil), ty1, z1, _, rfl, iteF ?_⟩
    refine ⟨_, rfl, _, _, rfl, sq1.same s1, _, _, rfl, rfl, _, rfl, ite2 (fun c => ?_) (fun c => ?_)⟩
    · rw [n1] at c
      have := of_decide_eq_true c
      omega
    generalize hH1 : upd H p1 (HO.tup [V.ty "list", V.ty "tuple"]) = H1 at s1 ⊢
    refine ⟨_, rfl, (by show 2 ≤ sizeLine; decide), fun p2 np2 => ?_⟩
    have s2 := s1.trans (same_new (o := HO.tup [V.ty "list", V.ty "tuple"]) np2)
    obtain ⟨T2, ty2, z2⟩ := sq_ty (sq2.same s2)
    refine ⟨_, p2, _, _, _, _, rfl, upd_same, .cons (.ty _) (.cons (.ty _) .nil), ty2, z2, _, rfl, iteF ?_⟩
    generalize hH2 : upd H1 p2 (HO.tup [V.ty "list", V.ty "tuple"]) = H2 at s2 ⊢
    refine ⟨_, rfl, _, _, rfl, sq2.same s2, _, rfl, _, _, rfl, sq1.same s2, rfl, _, rfl, ite2 (fun c => ?_) (fun c => ?_)⟩
    · rw [n1, n2] at c
      simp at c
    clear c
    -- the columns, one by one
    refine ⟨_, rfl, _, _, rfl, sq1.same s2, (lz.length : Int), (by rw [n1]), by omega, by omega, ?_⟩
    rw [Int.toNat_natCast]
    refine for_range (lo := 0) (n := lz.length) (fun i σ H' => (∃ v3, σ = [some (.ref y), some (.ref a1), some (.ref a2), v3, none, none]) ∧ Same H H') ⟨⟨none, rfl⟩, s2⟩ ?_ ?_
    · rintro i σ H' hi ⟨⟨v3, rfl⟩, sm⟩
      have hi2 : i < hz.length := by omega
      have g1 : (lz.map V.int)[i]? = some (.int lz[i]) := by rw [List.getElem?_map, List.getElem?_eq_getElem hi]; rfl
      have g2 : (hz.map V.int)[i]? = some (.int hz[i]) := by rw [List.getElem?_map, List.getElem?_eq_getElem hi2]; rfl
      have ra := rg.at (List.getElem?_eq_getElem hi) (List.getElem?_eq_getElem hi2)
      have ai1 : atI (lz.map V.int) ((0 : Int) + (i : Int)) = some (.int lz[i]) := by rw [Int.zero_add]; exact atI_nat g1
      have ai2 : atI (hz.map V.int) ((0 : Int) + (i : Int)) = some (.int hz[i]) := by rw [Int.zero_add]; exact atI_nat g2
      refine ⟨_, rfl, _, rfl, rix_of (sq1.same sm) ai1 ?_⟩
      refine ⟨_, _, rfl, rfl, _, 0, 63, _, rfl, .int _, _, rfl, ?_⟩
      have w1 : wholeV (.int lz[i]) 0 63 = true := by
        show (decide (0 ≤ lz[i]) && decide (lz[i] ≤ 63)) = true
        rw [decide_eq_true ra.1, decide_eq_true (show lz[i] ≤ 63 by omega)]
        rfl
      rw [w1]
      refine iteF ⟨_, rfl, _, rfl, rix_of (sq2.same sm) ai2 ?_⟩
      refine ⟨_, rfl, _, rfl, rix_of (sq1.same sm) ai1 ?_⟩
      refine ⟨lz[i], 1, rfl, rfl, _, lz[i] + 1, 64, _, rfl, .int _, _, rfl, ?_⟩
      have w2 : wholeV (.int hz[i]) (lz[i] + 1) 64 = true := by
        show (decide (lz[i] + 1 ≤ hz[i]) && decide (hz[i] ≤ 64)) = true
        rw [decide_eq_true (show lz[i] + 1 ≤ hz[i] by omega), decide_eq_true ra.2.2]
        rfl
      rw [w2]
      exact iteF ⟨⟨_, rfl⟩, sm⟩
    · rintro σ H' ⟨⟨v3, rfl⟩, sm⟩
      have hy1 := sm _ _ hy
      -- self.lows = tuple(lows)
      refine ⟨_, rfl, ?_⟩
      refine tupOf_of (sq1.same sm) fun tl Ha ql sa _ => ?_
      refine ⟨_, rfl, y, _, dy, _, rfl, sa _ _ hy1, T.cls_Box, T.noat_Box_lows, by decide, ?_⟩
      have sba : ∀ b o, b ≠ y → H b = some o → upd Ha y (.ins (He.ga K "Box") dy (putF "lows" (.ref tl) [])) b = some o := fun b o n e => by
        rw [upd_ne n]
        exact sa _ _ (sm _ _ e)
      have sq2a : Sq K (upd Ha y (.ins (He.ga K "Box") dy (putF "lows" (.ref tl) []))) a2 (hz.map V.int) := sq_but sq2 hy sba
      have ql1 := sqT_ins (C' := He.ga K "Box") (dy' := dy) (fs' := putF "lows" (.ref tl) []) ql (sa _ _ hy1)
      -- self.highs = tuple(highs)
      refine ⟨_, rfl, ?_⟩
      refine tupOf_of sq2a fun th Hb qh sb _ => ?_
      refine ⟨_, rfl, y, _, dy, _, rfl, sb _ _ upd_same, T.cls_Box, T.noat_Box_highs, Nat.lt_of_le_of_lt (length_putF _ _ _) (by decide), ?_⟩
      have hyb := sb _ _ (upd_same (H := Ha) (a := y) (o := .ins (He.ga K "Box") dy (putF "lows" (.ref tl) [])))
      have ql2 := sqT_ins (C' := He.ga K "Box") (dy' := dy) (fs' := putF "highs" (.ref th) (putF "lows" (.ref tl) [])) (sqT_same sb ql1) hyb
      have qh2 := sqT_ins (C' := He.ga K "Box") (dy' := dy) (fs' := putF "highs" (.ref th) (putF "lows" (.ref tl) [])) qh hyb
      generalize hHc : upd Hb y (.ins (He.ga K "Box") dy (putF "highs" (.ref th) (putF "lows" (.ref tl) []))) = Hc at ql2 qh2 ⊢
      have hyc : Hc y = some (.ins (He.ga K "Box") dy (putF "highs" (.ref th) (putF "lows" (.ref tl) []))) := by rw [← hHc, upd_same]
      have sbc : ∀ b o, b ≠ y → H b = some o → Hc b = some o := fun b o n e => by
        rw [← hHc, upd_ne n]
        exact sb _ _ (sba b o n e)
      have l2 : (putF "highs" (V.ref th) (putF "lows" (.ref tl) [])).length ≤ 2 := Nat.le_trans (length_putF _ _ _) (Nat.succ_le_succ (length_putF _ _ _))
      -- self.told = (self.lows, self.highs)
      refine ⟨_, rfl, y, _, dy, _, _, rfl, hyc, T.cls_Box, T.noat_Box_lows, by rw [lookup_putF, if_neg (by decide +kernel), lookup_putF, if_pos rfl], _, rfl, y, _, dy, _, _, rfl, hyc, T.cls_Box, T.noat_Box_highs, by rw [lookup_putF, if_pos rfl], (by show 2 ≤ sizeLine; decide), fun tt nt => ?_⟩
      have st := same_new (o := HO.tup [V.ref tl, V.ref th]) nt
      refine ⟨_, rfl, y, _, dy, _, rfl, st _ _ hyc, T.cls_Box, T.noat_Box_told, by omega, ?_⟩
      have l3 : (putF "told" (V.ref tt) (putF "highs" (V.ref th) (putF "lows" (.ref tl) []))).length ≤ 3 := Nat.le_trans (length_putF _ _ _) (Nat.succ_le_succ l2)
      have l4 : (putF "size" (V.int 1) (putF "told" (V.ref tt) (putF "highs" (V.ref th) (putF "lows" (.ref tl) [])))).length ≤ 4 := Nat.le_trans (length_putF _ _ _) (Nat.succ_le_succ l3)
      -- self.size = 1
      refine ⟨_, rfl, y, _, dy, _, rfl, upd_same, T.cls_Box, T.noat_Box_size, by omega, ?_⟩
      rw [upd_upd]
      have bfs := boxFs_new tl th tt 1
      generalize putF "size" (V.int 1) (putF "told" (V.ref tt) (putF "highs" (V.ref th) (putF "lows" (.ref tl) []))) = fs at l4 bfs ⊢
      have ql3 := sqT_ins (C' := He.ga K "Box") (dy' := dy) (fs' := fs) (sqT_same st ql2) (st _ _ hyc)
      have qh3 := sqT_ins (C' := He.ga K "Box") (dy' := dy) (fs' := fs) (sqT_same st qh2) (st _ _ hyc)
      have qt3 : SqT K (upd (upd Hc tt (HO.tup [V.ref tl, V.ref th])) y (.ins (He.ga K "Box") dy fs)) tt [V.ref tl, V.ref th] := sqT_ins (SqT.of upd_same) (st _ _ hyc)
      -- for low, high in zip(self.lows, self.highs)
      refine ⟨_, rfl, y, _, dy, _, _, rfl, upd_same, T.cls_Box, T.noat_Box_lows, bfs.lows, _, rfl, y, _, dy, _, _, rfl, upd_same, T.cls_Box, T.noat_Box_highs, bfs.highs, tl, th, lz.map V.int, hz.map V.int, rfl, .inr ⟨ql3, qh3, ?_⟩⟩
      have rl := rg.len
      refine for_zipT (K := K) (a := tl) (b := th) (xs := lz.map V.int) (ys := hz.map V.int) (by rw [List.length_map, List.length_map, rl]) (fun i σ Hx => ∃ v4 v5 fs, σ = [some (.ref y), some (.ref a1), some (.ref a2), v3, v4, v5] ∧ (∀ b o, b ≠ y → H b = some o → Hx b = some o) ∧ Hx y = some (.ins (He.ga K "Box") dy fs) ∧ fs.length ≤ 4 + i ∧
        BoxFs fs tl th tt (boxSize lz hz i) ∧ SqT K Hx tl (lz.map V.int) ∧ SqT K Hx th (hz.map V.int) ∧ SqT K Hx tt [V.ref tl, V.ref th]) ⟨none, none, fs, rfl, fun b o n e => ?_, upd_same, by omega, bfs, ql3, qh3, qt3⟩ (fun i σ Hx h => ?_) ?_ ?_
      · rw [upd_ne n]
        exact st _ _ (sbc b o n e)
      · obtain ⟨_, _, _, _, _, _, _, _, h1, h2, _⟩ := h
        exact ⟨h1, h2⟩
      · rintro i x z Tp σ Hx hx hz' ⟨v4, v5, fs, rfl, keep, hyx, hfl, bf', qa, qb, qc⟩ nT
        have hi : i < lz.length := by
          have := (List.getElem?_eq_some_iff.mp hx).1
          rwa [List.length_map] at this
        have hi2 : i < hz.length := by omega
        obtain rfl : x = V.int lz[i] := by
          rw [List.getElem?_map, List.getElem?_eq_getElem hi] at hx
          exact (Option.some.inj hx).symm
        obtain rfl : z = V.int hz[i] := by
          rw [List.getElem?_map, List.getElem?_eq_getElem hi2] at hz'
          exact (Option.some.inj hz').symm
        have sT := same_new (o := HO.tup [V.int lz[i], V.int hz[i]]) nT
        refine ⟨Tp, _, rfl, SqT.of upd_same, rfl, _, _, rfl, _, _, rfl, rfl, ?_⟩
        obtain ⟨g1, g2⟩ := size_le rg i (by omega)
        have g3 : boxSize lz hz i ≤ 64 ^ 5 := Int.le_trans g2 (by
          have : i ≤ 5 := by omega
          match i, this with
          | 0, _ => decide
          | 1, _ => decide
          | 2, _ => decide
          | 3, _ => decide
          | 4, _ => decide
          | 5, _ => decide)
        refine ⟨_, rfl, y, _, dy, fs, _, rfl, sT _ _ hyx, T.cls_Box, T.noat_Box_size, bf'.size, _, rfl, _, rfl, _, _, rfl, rfl, _, _, rfl, rfl, .inl ⟨by omega, by omega⟩, ?_⟩
        refine ⟨_, rfl, y, _, dy, fs, rfl, sT _ _ hyx, T.cls_Box, T.noat_Box_size, by omega, ?_⟩
        refine ⟨_, _, _, rfl, fun b o n e => ?_, upd_same, Nat.le_trans (length_putF _ _ _) (by omega), ?_, sqT_ins (sqT_same sT qa) (sT _ _ hyx), sqT_ins (sqT_same sT qb) (sT _ _ hyx), sqT_ins (sqT_same sT qc) (sT _ _ hyx)⟩
        · rw [upd_ne n]
          exact sT _ _ (keep b o n e)
        · have e : boxSize lz hz (i + 1) = boxSize lz hz i * (hz[i] - lz[i]) := by
            show boxSize lz hz i * (hz.getD i 0 - lz.getD i 0) = _
            rw [List.getD_eq_getElem?_getD, List.getD_eq_getElem?_getD, List.getElem?_eq_getElem hi, List.getElem?_eq_getElem hi2]
            rfl
          rw [e]
          exact bf'.put
      · rintro σ Hx ⟨v4, v5, fs, rfl, keep, hyx, hfl, bf', qa, qb, qc⟩
        rw [List.length_map] at hfl bf'
        exact kQ Hx keep ⟨dy, tl, th, tt, fs, hyx, ⟨by omega, bf'.holds⟩, bf'.lows, bf'.highs, bf'.told, bf'.size, qa, qb, qc⟩

end
end K00

set_option maxRecDepth 100000
set_option maxHeartbeats 4000000
/-! A loop over zip of three, each a list or a tuple. -/
namespace Q
open PySem PySem.Spec PyProof.Rows L2
/-- the three as they stand at each turn, the items in new triples -/
def ItzS3 (k1 k2 k3 : Bool) (K : PySem.W.Frag) (a b c : Addr) : It :=
  ⟨fun i H => ∃ (xs ys zs : List V) (x y z : V), SqB k1 K H a xs ∧ SqB k2 K H b ys ∧ SqB k3 K H c zs ∧ xs[i]? = some x ∧ ys[i]? = some y ∧ zs[i]? = some z,
    fun i H v H' => ∃ T x y z, v = .ref T ∧ H T = none ∧ H' = upd H T (.tup [x, y, z]) ∧ (∀ xs, SqB k1 K H a xs → xs[i]? = some x) ∧ (∀ ys, SqB k2 K H b ys → ys[i]? = some y) ∧ ∀ zs, SqB k3 K H c zs → zs[i]? = some z,
    fun i H => ∃ xs ys zs : List V, SqB k1 K H a xs ∧ SqB k2 K H b ys ∧ SqB k3 K H c zs ∧ xs.length = i ∧ ys.length = i ∧ zs.length = i⟩
theorem turn_zipS3 {P : Program} {w : World} {K : PySem.W.Frag} {elts : List Expr} {kk : Nat} {tpos : Pos} {k1 k2 k3 : Bool} {a b c z TI TO i1 i2 i3 : Addr} (S : ZipSep3 z TI TO i1 i2 i3 [i1, a] [i2, b] [i3, c]) (zi : z ≠ i1 ∧ z ≠ i2 ∧ z ≠ i3) (n1 : a ≠ i1) (n2 : b ≠ i2) (n3 : c ≠ i3) :
    Turn P w K (.Tuple elts kk tpos) (ItzS3 k1 k2 k3 K a b c) [z, TI, TO, i1, i2, i3] z (fun i h => IsZip h z TI TO .none ∧ IsTupOf3 h TI (.ref i1) (.ref i2) (.ref i3) ∧ (∃ x y u, IsTupOf3 h TO x y u) ∧ itB k1 h i1 a i ∧ itB k2 h i2 b i ∧ itB k3 h i3 c i) where
  mem := by simp
  obj := fun i h st d hd => by
    obtain ⟨hz, hTI, ⟨x, y, u, hTO⟩, t1, t2, t3⟩ := st
    have e' : d = z ∨ d = TI ∨ d = TO ∨ d = i1 ∨ d = i2 ∨ d = i3 := by simpa using hd
    rcases e' with rfl | rfl | rfl | rfl | rfl | rfl
    · exact ⟨_, hz, fun v q => nomatch q⟩
    · exact ⟨_, hTI, fun v q => nomatch q⟩
    · exact ⟨_, hTO, fun v q => nomatch q⟩
    · exact itB_ob t1
    · exact itB_ob t2
    · exact itB_ob t3
  keep := fun i h h' st k => by
    obtain ⟨hz, hTI, ⟨x, y, u, hTO⟩, h1, h2, h3⟩ := st
    exact ⟨k z (by simp) _ hz, k TI (by simp) _ hTI, ⟨x, y, u, k TO (by simp) _ hTO⟩, itB_at h1 fun o q => k i1 (by simp) o q, itB_at h2 fun o q => k i2 (by simp) o q, itB_at h3 fun o q => k i3 (by simp) o q⟩
  item := by
    intro X hP hw hK hc i pins s σ H E I hf st hg
    subst hP hw hK
    obtain ⟨hz, hTI, ⟨x0, y0, u0, hTO⟩, h1, h2, h3⟩ := st
    obtain ⟨xs, ys, zs, x, y, q, hqx, hqy, hqz, hx, hy, hz3⟩ := hg
    obtain ⟨its, rv, p, _⟩ := seqB I hqx
    obtain ⟨its2, rv2, p2, _⟩ := seqB I hqy
    obtain ⟨its3, rv3, p3, _⟩ := seqB I hqz
    obtain ⟨u, hu, ru⟩ := rv.get hx
    obtain ⟨u2, hu2, ru2⟩ := rv2.get hy
    obtain ⟨u3, hu3, ru3⟩ := rv3.get hz3
    have hzl : z < s.heap.objs.size := Heap.lt_size hz
    have hh : X.A.in1.handled = none := I.ok.hd hc
    refine wpAny_pyNext_zipD3_item S (drawsB (k := k1) (its := its) hh n1) (drawsB (k := k2) (its := its2) hh n2) (drawsB (k := k3) (its := its3) hh n3) hz hTI hTO ⟨h1, p⟩ ⟨h2, p2⟩ ⟨h3, p3⟩ (List.getElem?_eq_some_iff.mp hu).1 (List.getElem?_eq_some_iff.mp hu2).1 (List.getElem?_eq_some_iff.mp hu3).1
      fun v1 v2 v3 h' tk e1 e2 e3 z' TO' st1 st2 st3 hT hsz hk => ?_
    obtain rfl : u = v1 := Option.some.inj (hu.symm.trans e1)
    obtain rfl : u2 = v2 := Option.some.inj (hu2.symm.trans e2)
    obtain rfl : u3 = v3 := Option.some.inj (hu3.symm.trans e3)
    refine ⟨_, rfl, wpAny_letOwnedTupleGo_zip (s := { s with heap := h', toks := tk }) z' fun h'' z'' sb => ?_⟩
    have hT2 : h''.get? s.heap.objs.size = some { cls := .type "tuple", data := .seq #[u, u2, u3] } := (sb.2 _ (Nat.ne_of_gt hzl)).trans hT
    have new : ObjOk X.prog X.w (upd H s.heap.objs.size (.tup [x, y, q])) h'' s.heap.objs.size (.tup [x, y, q]) :=
      ⟨by show 3 ≤ sizeLine; decide, [u, u2, u3], .cons ru (.cons ru2 (.cons ru3 .nil)), ⟨_, hT2, rfl, _, rfl⟩⟩
    have I1 : Inv X pins σ (upd H s.heap.objs.size (.tup [x, y, q])) { s with heap := h'', toks := tk } :=
      I.turnedNew (t' := tk) (ch := [z, TI, TO, i1, i2, i3]) (fun d o hb q => (sb.2 d (fun q' => hb (by simp [q']))).trans (hk d o (fun q' => hb (by simp [q'])) (fun q' => hb (by simp [q'])) (fun q' => hb (by simp [q'])) (fun q' => hb (by simp [q'])) (fun q' => hb (by simp [q'])) q)) hf (Nat.le_refl _) new
    refine ⟨.ref s.heap.objs.size, _, I1, rfl, ⟨_, x, y, q, rfl, I.hok.fresh (Nat.le_refl _), rfl, fun l hl => by rw [seqB_inj I hqx hl]; exact hx, fun l hl => by rw [seqB_inj I hqy hl]; exact hy, fun l hl => by rw [seqB_inj I hqz hl]; exact hz3⟩, ⟨z'', ?_, ⟨u, u2, u3, ?_⟩, ?_, ?_, ?_⟩, fun d hcm => ?_⟩
    · exact (sb.2 _ S.TIz).trans (hk _ _ S.TIz S.TITO S.TIi1 S.TIi2 S.TIi3 hTI)
    · exact (sb.2 _ S.TOz).trans TO'
    · exact itB_at st1.1 fun o q => (sb.2 _ zi.1.symm).trans q
    · exact itB_at st2.1 fun o q => (sb.2 _ zi.2.1.symm).trans q
    · exact itB_at st3.1 fun o q => (sb.2 _ zi.2.2.symm).trans q
    · have hlt : d < s.heap.objs.size := by
        have e' : d = z ∨ d = TI ∨ d = TO ∨ d = i1 ∨ d = i2 ∨ d = i3 := by simpa using hcm
        rcases e' with rfl | rfl | rfl | rfl | rfl | rfl
        · exact hzl
        · exact Heap.lt_size hTI
        · exact Heap.lt_size hTO
        · obtain ⟨_, e1, _⟩ := itB_ob h1; exact Heap.lt_size e1
        · obtain ⟨_, e1, _⟩ := itB_ob h2; exact Heap.lt_size e1
        · obtain ⟨_, e1, _⟩ := itB_ob h3; exact Heap.lt_size e1
      rw [upd_ne (Nat.ne_of_lt hlt)]
      exact (hf d hcm).1
  done := by
    intro X hP hw hK hc i pins s σ H E I hf st hg
    subst hP hw hK
    obtain ⟨hz, hTI, ⟨x0, y0, u0, hTO⟩, h1, h2, h3⟩ := st
    obtain ⟨xs, ys, zs, hqx, hqy, hqz, e1, e2, e3⟩ := hg
    obtain ⟨its, rv, p, _⟩ := seqB I hqx
    obtain ⟨its2, rv2, p2, _⟩ := seqB I hqy
    obtain ⟨its3, rv3, p3, _⟩ := seqB I hqz
    have l1 := rv.length
    have l2 := rv2.length
    have l3 := rv3.length
    have hh : X.A.in1.handled = none := I.ok.hd hc
    exact wpAny_pyNext_zipD3_end S (drawsB (k := k1) (its := its) hh n1) (drawsB (k := k2) (its := its2) hh n2) (drawsB (k := k3) (its := its3) hh n3) hz hTI hTO ⟨h1, p⟩ ⟨h2, p2⟩ ⟨h3, p3⟩ (by omega) (by omega) (by omega) (.inl (by omega)) fun h' tk hk => ⟨rfl, I.turnedL (t' := tk) (ch := [z, TI, TO, i1, i2, i3]) (fun d o hb q =>
      hk d o (fun q' => hb (by simp [q'])) (fun q' => hb (by simp [q'])) (fun q' => hb (by simp [q'])) (fun q' => hb (by simp [q'])) (fun q' => hb (by simp [q'])) q) hf⟩
  self := fun A i s Q E st h => wpAny_pyIter_zip st.1 h
def iZipS3 (K : PySem.W.Frag) (ta : TA) : TI := fun σ H R => ta σ H fun vs H1 => ∃ a b c xs ys zs k1 k2 k3, vs = [.ref a, .ref b, .ref c] ∧ SqB k1 K H1 a xs ∧ SqB k2 K H1 b ys ∧ SqB k3 K H1 c zs ∧ R (ItzS3 k1 k2 k3 K a b c) H1
theorem vals3' {x y z : V} {us : List Value} (r : Vals [x, y, z] us) : ∃ a b c, us = [a, b, c] ∧ RelV x a ∧ RelV y b ∧ RelV z c := by
  cases r with
  | cons h1 r =>
    cases r with
    | cons h2 r =>
      cases r with
      | cons h3 r =>
        cases r
        exact ⟨_, _, _, rfl, h1, h2, h3⟩
theorem pi_zipS3 {X : Cx} {e e2 e3 : Expr} {ta : TA} {p pos tpos : Pos} {elts : List Expr} {kk : Nat} (hg : Gl X "zip") (hm : X.mg "zip" = none) (ha : PA X [e, e2, e3] ta)
    (hs : starEach [e, e2, e3] X.env = (false, eval e X.env) :: starEach [e2, e3] X.env := by rfl) (hpl : (backTo pos (starEach [e2, e3] X.env)).any (·.1) = false := by rfl) :
    PI X (.Tuple elts kk tpos) (.Call (.Name "zip" p) [e, e2, e3] [] pos) (iZipS3 X.K ta) := by
  refine ⟨fun pins s σ H R I h => ?_⟩
  refine Call_ (ld_blt I hg hm PyProof.Rows.boot_zip (PyProof.Rows.callWith_type1 (thn (ha.run pos pins s σ H _ I h) fun us s1 ⟨vs, H1, I1, r1, q1⟩ => ?_) hs hpl))
  obtain ⟨a, b, c, xs, ys, zs, k1, k2, k3, rfl, hqx, hqy, hqz, q⟩ := q1
  obtain ⟨u1, u2, u3, rfl, rr1, rr2, rr3⟩ := vals3' r1
  obtain rfl : u1 = Value.ref a := rr1
  obtain rfl : u2 = Value.ref b := rr2
  obtain rfl : u3 = Value.ref c := rr3
  obtain ⟨its, rv, p1, la⟩ := seqB I1 hqx
  obtain ⟨its2, rv2, p2, lb⟩ := seqB I1 hqy
  obtain ⟨its3, rv3, p3, lc⟩ := seqB I1 hqz
  refine zip_begins3 (beginsB (k := k1)) (beginsB (k := k2)) (beginsB (k := k3)) p1 p2 p3 fun h' hz hTI hTO g1 g2 g3 hsz hk => wpAny_pyIter_zip hz ?_
  have I2 : Inv X pins σ H1 { s1 with heap := h' } := I1.kept (t' := s1.toks) hk
  have ne : ∀ (i j : Nat), i ≠ j → s1.heap.objs.size + i ≠ s1.heap.objs.size + j := fun i j h z => h (Nat.add_left_cancel z)
  refine ⟨s1.heap.objs.size + 5, [s1.heap.objs.size + 5, s1.heap.objs.size + 3, s1.heap.objs.size + 4, s1.heap.objs.size, s1.heap.objs.size + 1, s1.heap.objs.size + 2], _, _, H1, rfl, I2,
    turn_zipS3 (zip_sep3 (fp1 := [a]) (fp2 := [b]) (fp3 := [c]) (fun d hd => by obtain rfl := List.mem_singleton.mp hd; exact la) (fun d hd => by obtain rfl := List.mem_singleton.mp hd; exact lb) (fun d hd => by obtain rfl := List.mem_singleton.mp hd; exact lc))
      ⟨ne 5 0 (by decide), ne 5 1 (by decide), ne 5 2 (by decide)⟩ (Nat.ne_of_lt la) (Nat.ne_of_lt (Nat.lt_succ_of_lt lb)) (Nat.ne_of_lt (Nat.lt_succ_of_lt (Nat.lt_succ_of_lt lc))), ⟨hz, hTI, ⟨_, _, _, hTO⟩, itB_new g1, itB_new g2, itB_new g3⟩, fun d hcm => ?_, q⟩
  have e' : d = s1.heap.objs.size + 5 ∨ d = s1.heap.objs.size + 3 ∨ d = s1.heap.objs.size + 4 ∨ d = s1.heap.objs.size ∨ d = s1.heap.objs.size + 1 ∨ d = s1.heap.objs.size + 2 := by simpa using hcm
  have hle : s1.heap.objs.size ≤ d := by
    rcases e' with z | z | z | z | z | z
    · rw [z]; exact Nat.le_add_right _ _
    · rw [z]; exact Nat.le_add_right _ _
    · rw [z]; exact Nat.le_add_right _ _
    · rw [z]; exact Nat.le_refl _
    · rw [z]; exact Nat.le_add_right _ _
    · rw [z]; exact Nat.le_add_right _ _
  exact I1.fpOk hle (I1.hok.fresh hle)
/-- a loop over zip of three of one length -/
theorem for_zipS3 {K : PySem.W.Frag} {k1 k2 k3 : Bool} {a b c : Addr} {xs ys zs : List V} {g : TG} {tb : TS} {D : Ends} {σ : L2.St} {H : Hp} (hl : xs.length = ys.length) (hl2 : xs.length = zs.length) (Pv : Nat → L2.St → Hp → Prop) (h0 : Pv 0 σ H) (hq : ∀ i σ H, Pv i σ H → SqB k1 K H a xs ∧ SqB k2 K H b ys ∧ SqB k3 K H c zs)
    (hs : ∀ (i : Nat) (x y z : V) (T : Addr) (σ : L2.St) (H : Hp), xs[i]? = some x → ys[i]? = some y → zs[i]? = some z → Pv i σ H → H T = none → g (.ref T) σ (upd H T (.tup [x, y, z])) fun σ2 H2 => tb { D with nx := Pv (i + 1), ct := Pv (i + 1), bk := D.nx } σ2 H2) (hd : ∀ σ H, Pv xs.length σ H → D.nx σ H) :
    ∃ W : Nat → Nat → L2.St → Hp → Prop, (∃ m, W 0 m σ H) ∧ ∀ i m σ H, W i m σ H →
      ((ItzS3 k1 k2 k3 K a b c).stop i H ∧ D.nx σ H) ∨ ((ItzS3 k1 k2 k3 K a b c).go i H ∧ ∃ N : L2.St → Hp → Prop, (∀ σ' H', N σ' H' → ∃ m', m' < m ∧ W (i + 1) m' σ' H') ∧ ∀ v H', (ItzS3 k1 k2 k3 K a b c).yld i H v H' → g v σ H' fun σ2 H2 => tb { D with nx := N, ct := N, bk := D.nx } σ2 H2) := by
  refine ⟨fun i m σ H => m = xs.length - i ∧ i ≤ xs.length ∧ Pv i σ H, ⟨xs.length, rfl, Nat.zero_le _, h0⟩, ?_⟩
  rintro i m σ H ⟨rfl, hi, p⟩
  obtain ⟨qx, qy, qz⟩ := hq i σ H p
  by_cases hlt : i < xs.length
  · have hx : xs[i]? = some xs[i] := List.getElem?_eq_getElem hlt
    have hlt2 : i < ys.length := by omega
    have hy : ys[i]? = some ys[i] := List.getElem?_eq_getElem hlt2
    have hlt3 : i < zs.length := by omega
    have hz : zs[i]? = some zs[i] := List.getElem?_eq_getElem hlt3
    refine .inr ⟨⟨xs, ys, zs, _, _, _, qx, qy, qz, hx, hy, hz⟩, Pv (i + 1), fun σ' H' p' => ⟨xs.length - (i + 1), by omega, rfl, hlt, p'⟩, fun v H' y => ?_⟩
    obtain ⟨T, x', y', z', rfl, hT, rfl, f1, f2, f3⟩ := y
    exact hs i x' y' z' T σ H (f1 xs qx) (f2 ys qy) (f3 zs qz) p hT
  · obtain rfl : i = xs.length := by omega
    exact .inl ⟨⟨xs, ys, zs, qx, qy, qz, rfl, by omega, by omega⟩, hd σ H p⟩
theorem walk_seq {K : PySem.W.Frag} {k : Bool} {a : Addr} {xs : List V} : Walk (ItS k K a) xs.length (fun H => SqB k K H a xs) (YAt xs) := match k with
  | true => walk_list
  | false => walk_tup
theorem walk_zipS {K : PySem.W.Frag} {k1 k2 : Bool} {a b : Addr} {xs ys : List V} (hl : xs.length = ys.length) :
    Walk (ItzS k1 k2 K a b) xs.length (fun H => SqB k1 K H a xs ∧ SqB k2 K H b ys) fun i H v H' => ∃ T x y, v = .ref T ∧ H T = none ∧ H' = upd H T (.tup [x, y]) ∧ xs[i]? = some x ∧ ys[i]? = some y where
  goes := fun i H hi ⟨qx, qy⟩ => ⟨xs, ys, _, _, qx, qy, List.getElem?_eq_getElem hi, List.getElem?_eq_getElem (by omega)⟩
  stops := fun H ⟨qx, qy⟩ => ⟨xs, ys, qx, qy, rfl, hl.symm⟩
  yields := fun i H x H' hi ⟨qx, qy⟩ ⟨T, u, v, e1, e2, e3, f1, f2⟩ => ⟨T, u, v, e1, e2, e3, f1 _ qx, f2 _ qy⟩
end Q

set_option maxRecDepth 100000
set_option maxHeartbeats 4000000
namespace K00
open PySem PySem.Spec PyProof.Rows L2 Q RZ
section
variable {P : Program} {w : World} {K : PySem.W.Frag} {mg : Str → Option Value} {base : Heap} {f : Addr} {fd : FuncData}
/-- a new right box -/
theorem make_good {K : PySem.W.Frag} {H1 : Hp} {a b : Addr} {lz hz : List Int} {Q : VK} {E : XK} (ha : Sq K H1 a (lz.map V.int)) (hb : Sq K H1 b (hz.map V.int)) (rg : Rgs lz hz) (l5 : lz.length ≤ 5) (k : ∀ y H2, L2.Same H1 H2 → BoxAt K H2 y lz hz → Q (.ref y) H2) :
    ∀ x dx, H1 x = none → H1 dx = none → dx ≠ x → spBoxGood K (.ref x :: ([.ref a, .ref b] ++ [])) (upd (upd H1 dx (.own x)) x (.ins (He.ga K "Box") dx [])) (fun v H2 => v = .non ∧ Q (.ref x) H2) E := fun x dx nx nd ne => by
  have s1 : L2.Same H1 (upd (upd H1 dx (.own x)) x (.ins (He.ga K "Box") dx [])) := (same_new nd).trans (same_new (by rw [upd_ne ne.symm]; exact nx))
  exact ⟨x, dx, a, b, lz, hz, rfl, upd_same, ha.same s1, hb.same s1, rg, l5, fun H2 kp bx => ⟨rfl, k x H2 (fun c o e => kp c o (fun z => by rw [z, nx] at e; cases e) (s1 c o e)) bx⟩⟩
/-- Box.__eq__ of two boxes -/
def spBoxEq (K : PySem.W.Frag) : Sp := fun vs H Q _ => ∃ (a b : Addr) (l1 h1 l2 h2 : List Int), vs = [.ref a, .ref b] ∧ BoxAt K H a l1 h1 ∧ BoxAt K H b l2 h2 ∧ ∀ H', L2.Same H H' → Q (.bl (decide (l1 = l2) && decide (h1 = h2))) H'
theorem ok_boxeq (T : Tx K mg) : ∃ fd, FnOk P w K mg base (L2.CX P w) 1 (He.ma K (He.ga K "Box") "__eq__") fd ["self", "other"] (spBoxEq K) ∧ Binds K fd ["self", "other"] [] := by
  obtain ⟨fd, F⟩ := T.d_Box___eq__
  refine ⟨fd, F.ok sc_Box___eq__ (fun vs H Q E h => ?_) (fun cdv A outer s H vs Q E hr h => ?_), F.bindsN fun _ _ _ _ _ _ us hl => match us, hl with | [_, _], _ => rfl⟩
  · obtain ⟨a, b, l1, h1, l2, h2, rfl, _⟩ := h
    rfl
  · obtain ⟨a, b, l1, h1, l2, h2, rfl, b1, b2, q⟩ := h
    obtain ⟨dy, tl, th, tt, fs, g1, g2, g3, g4, g5, g6, g7, g8, g9⟩ := id b1
    obtain ⟨ey, ul, uh, ut, gs, j1, j2, j3, j4, j5, j6, j7, j8, j9⟩ := id b2
    refine ⟨_, PSs.nox (pss_one (ps_ret (pe_and (pe_callB call_isi (by rfl) T.n_isinstance (by decide +kernel) (pa_cons (pv 1) (pa_cons (pe_glob (v := .ref (He.ga K "Box")) rfl T.g_Box rfl) pa_nil))) (pe_and (pe_cmpR (op_eqD hr.units) (pe_fld (pv 0) rfl) (pe_fld (pv 1) rfl) (nomark _)) (pe_one (pe_cmpR (op_eqD hr.units) (pe_fld (pv 0) rfl) (pe_fld (pv 1) rfl) (nomark _))))))), ?_⟩
    refine ⟨_, rfl, _, _, _, _, _, rfl, .own _, T.is_Box.ty T.cls_Box j1, T.kit_Box_Box, _, rfl, iteT ?_⟩
    refine ⟨_, rfl, a, _, dy, _, _, rfl, g1, T.cls_Box, T.noat_Box_lows, g3, _, rfl, b, _, ey, _, _, rfl, j1, T.cls_Box, T.noat_Box_lows, j3, _, _, dp_ints g7, dp_ints j7, shaped_ints _, shaped_ints _, _, rfl, ?_⟩
    rw [eqv_ints]
    refine ite2 (fun c => ?_) (fun c => ?_)
    · refine ⟨_, rfl, a, _, dy, _, _, rfl, g1, T.cls_Box, T.noat_Box_highs, g4, _, rfl, b, _, ey, _, _, rfl, j1, T.cls_Box, T.noat_Box_highs, j4, _, _, dp_ints g8, dp_ints j8, shaped_ints _, shaped_ints _, ?_⟩
      rw [eqv_ints]
      have := q H (Same.refl H)
      rw [c, Bool.true_and] at this
      exact this
    · have := q H (Same.refl H)
      rw [Bool.eq_false_iff.mpr c, Bool.false_and] at this
      exact this
/-- check_like -/
def spLike (K : PySem.W.Frag) : Sp := fun vs H Q E => ∃ (a b : Addr) (l1 h1 l2 h2 : List Int), vs = [.ref a, .ref b] ∧ BoxAt K H a l1 h1 ∧ BoxAt K H b l2 h2 ∧ (l1.length ≠ l2.length → E (.ref (He.ga K "UnlikeBoxes")) none H) ∧ (l1.length = l2.length → Q .non H)
theorem C_check_like (T : Tx K mg) : Cal P w K mg base (L2.CX P w) 1 "check_like" ["one", "other"] [] (spLike K) := by
  obtain ⟨fd, F⟩ := T.d_check_like
  refine ⟨_, fd, [], F.ok sc_check_like (fun vs H Q E h => ?_) (fun cdv A outer s H vs Q E hr h => ?_), T.g_check_like, F.kp, F.bindsN fun _ _ _ _ _ _ us hl => match us, hl with | [_, _], _ => rfl, .nil⟩
  · obtain ⟨a, b, l1, h1, l2, h2, rfl, _⟩ := h
    rfl
  · obtain ⟨a, b, l1, h1, l2, h2, rfl, b1, b2, kE, kQ⟩ := h
    obtain ⟨dy, tl, th, tt, fs, g1, g2, g3, g4, g5, g6, g7, g8, g9⟩ := id b1
    obtain ⟨ey, ul, uh, ut, gs, j1, j2, j3, j4, j5, j6, j7, j8, j9⟩ := id b2
    refine ⟨_, (pss_one (ps_if (pt_cmpR op_ne (pe_callB call_len_seq (by rfl) T.n_len (by decide +kernel) (pa_cons (pe_fld (pv 0) rfl) pa_nil)) (pe_callB call_len_seq (by rfl) T.n_len (by decide +kernel) (pa_cons (pe_fld (pv 1) rfl) pa_nil)) (nomark _))
        (pss_one (ps_raise rfl (takes_of rfl rfl rfl rfl) (pmk_own0 T.b_UnlikeBoxes T.g_UnlikeBoxes T.k_UnlikeBoxes (raises_own T.x_UnlikeBoxes.hs T.ty_UnlikeBoxes))))
        pss_nil)), ?_⟩
    refine ⟨_, rfl, a, _, dy, _, _, rfl, g1, T.cls_Box, T.noat_Box_lows, g3, _, _, rfl, .inr g7, _, rfl, b, _, ey, _, _, rfl, j1, T.cls_Box, T.noat_Box_lows, j3, _, _, rfl, .inr j7, rfl, _, rfl, ?_⟩
    rw [List.length_map, List.length_map]
    refine ite2 (fun c => kE fun z => ?_) (fun c => kQ ?_)
    · rw [z, decide_eq_true rfl] at c
      cases c
    · have c2 : (decide (V.int (l1.length : Int) = V.int (l2.length : Int))) = true := by
        cases y : decide (V.int (l1.length : Int) = V.int (l2.length : Int)) with
        | true => rfl
        | false => rw [y] at c; exact absurd rfl c
      have c3 := of_decide_eq_true c2
      injection c3 with c3
      omega
/-- whole_box(widths) -/
def spWholeBox (K : PySem.W.Frag) : Sp := fun vs H Q _ => ∃ (l : Addr) (ws : List Int) (k : Bool), vs = [.ref l] ∧ SqB k K H l (ws.map V.int) ∧ ws.length ≤ 5 ∧ (∀ w ∈ ws, 1 ≤ w ∧ w ≤ 64) ∧ ∀ y H', L2.Same H H' → BoxAt K H' y (ws.map fun _ => 0) ws → Q (.ref y) H'
theorem C_whole_box (T : Tx K mg) : Cal P w K mg base (L2.CX P w) 5 "whole_box" ["widths"] [] (spWholeBox K) := by
  obtain ⟨fd, F⟩ := T.d_whole_box
  obtain ⟨fdB, G_Box, b_Box⟩ := ok_boxgood (P := P) (w := w) (base := base) T
  refine ⟨_, fd, [], F.ok sc_whole_box (fun vs H Q E h => ?_) (fun cdv A outer s H vs Q E hr h => ?_), T.g_whole_box, F.kp, F.bindsN fun _ _ _ _ _ _ us hl => match us, hl with | [_], _ => rfl, .nil⟩
  · obtain ⟨l, ws, k, rfl, _⟩ := h
    rfl
  · obtain ⟨l, ws, k, rfl, hl, len, rg, kQ⟩ := h
    refine ⟨_, PSs.nox (pss_one (ps_ret (pe_make T.mk_Box G_Box (hr.mono (by decide)) (by rfl) T.g_Box b_Box .nil passX (pa_cons (pe_lc (own := [("width", 1)]) (g := gName 1) (tt := tYes) (by rfl) sc_whole_box.nd (pi_seq (pv 0)) (blkOk_by (N := ["widths", "width"]) (sc := defScope s_whole_box) (by decide +kernel)) (fun _ _ _ _ _ => (pg_name (i := 1) sc_whole_box.nd rfl (Or.inl rfl))) (fun _ _ _ _ _ => pts_nil) (fun _ _ _ _ _ => pe_int)) (pa_cons (pv 0) pa_nil))))), ?_⟩
    refine ⟨_, rfl, l, _, k, rfl, hl, fun D nd => ?_⟩
    have zeros : ∀ n : Nat, (List.replicate n (0 : Int)).map V.int ++ [V.int 0] = (List.replicate (n + 1) (0 : Int)).map V.int := fun n => by
      rw [List.replicate_succ', List.map_append]
      rfl
    refine lc_it walk_seq (fun i H' => L2.Same H H' ∧ H' D = some (.lst ((List.replicate i (0 : Int)).map V.int))) ⟨same_new nd, upd_same⟩ (fun i H' _ p => hl.same p.1) ?_ ?_
    · rintro i x H1 H2 hi ⟨sm, hD⟩ ⟨rfl, hx⟩
      rw [List.length_map] at hi
      refine ⟨rfl, _, hD, ?_, ?_, ?_⟩
      · rw [List.length_map, List.length_replicate]
        exact small1000 (by omega)
      · exact fun b o e => by
          rw [upd_ne (ne_of_none e nd)]
          exact sm b o e
      · rw [upd_same, zeros]
    · rintro H1 ⟨sm, hD⟩
      rw [List.length_map] at hD
      have rg0 : ∀ ws : List Int, (∀ w ∈ ws, 1 ≤ w ∧ w ≤ 64) → Rgs (ws.map fun _ => 0) ws := fun ws => by
        induction ws with
        | nil => exact fun _ => trivial
        | cons w ws ih => exact fun h => ⟨Int.le_refl _, by have := (h w List.mem_cons_self).1; show (0 : Int) < w; omega, (h w List.mem_cons_self).2, ih fun v hv => h v (List.mem_cons_of_mem _ hv)⟩
      have e0 : (ws.map fun _ => (0 : Int)).map V.int = (List.replicate ws.length (0 : Int)).map V.int := by rw [List.map_const']
      refine ⟨_, rfl, make_good (lz := ws.map fun _ => 0) (.inl (SqL.of (by rw [e0]; exact hD))) ((hl.same sm).sq) (rg0 ws rg) (by rw [List.length_map]; exact len) fun y H2 s2 bx => kQ y H2 (sm.trans s2) bx⟩
/-- Box.of_told -/
def spOfTold (K : PySem.W.Frag) : Sp := fun vs H Q _ => ∃ (t tl th : Addr) (lz hz : List Int), vs = [.ref (He.ga K "Box"), .ref t] ∧ SqT K H t [.ref tl, .ref th] ∧ Sq K H tl (lz.map V.int) ∧ Sq K H th (hz.map V.int) ∧ Rgs lz hz ∧ lz.length ≤ 5 ∧ ∀ y H', L2.Same H H' → BoxAt K H' y lz hz → Q (.ref y) H'
theorem ok_oftold (T : Tx K mg) : ∃ fd, FnOk P w K mg base (L2.CX P w) 5 (He5.wf K (He.ga K "Box") "classmethod" "of_told") fd ["cls", "told"] (spOfTold K) ∧ Binds K fd ["cls", "told"] [] := by
  obtain ⟨fd, F⟩ := T.d_Box_of_told
  obtain ⟨fdB, G_Box, b_Box⟩ := ok_boxgood (P := P) (w := w) (base := base) T
  refine ⟨fd, F.ok sc_Box_of_told (fun vs H Q E h => ?_) (fun cdv A outer s H vs Q E hr h => ?_), F.bindsN fun _ _ _ _ _ _ us hl => match us, hl with | [_, _], _ => rfl⟩
  · obtain ⟨t, tl, th, lz, hz, rfl, _⟩ := h
    rfl
  · obtain ⟨t, tl, th, lz, hz, rfl, ht, hl, hh, rg, l5, k⟩ := h
    refine ⟨_, PSs.nox (pss_one (ps_ret (pe_makeL (i := 0) T.mk_Box G_Box (hr.mono (by decide)) rfl (Or.inl rfl) b_Box .nil passX (pa_cons (pe_ix ix_tup (pv 1) pe_int (fun _ _ => rfl)) (pa_cons (pe_ix ix_tup (pv 1) pe_int (fun _ _ => rfl)) pa_nil))))), ?_⟩
    exact ⟨rfl, _, rfl, t, _, _, _, rfl, rfl, ht, rfl, _, rfl, t, _, _, _, rfl, rfl, ht, rfl, make_good hl hh rg l5 k⟩
/-- Box.holds(point) -/
def inBox : List Int → List Int → List Int → Bool
  | p :: ps, l :: ls, h :: hs => decide (l ≤ p) && decide (p < h) && inBox ps ls hs
  | _, _, _ => true
def spHolds (K : PySem.W.Frag) : Sp := fun vs H Q _ => ∃ (y t : Addr) (lz hz ps : List Int), vs = [.ref y, .ref t] ∧ BoxAt K H y lz hz ∧ lz.length = hz.length ∧ SqT K H t (ps.map V.int) ∧ ∀ H', L2.Same H H' → Q (.bl (decide (ps.length = lz.length) && inBox ps lz hz)) H'
theorem ok_holds (T : Tx K mg) : ∃ fd, FnOk P w K mg base (L2.CX P w) 1 (He.ma K (He.ga K "Box") "holds") fd ["self", "point"] (spHolds K) ∧ Binds K fd ["self", "point"] [] := by
  obtain ⟨fd, F⟩ := T.d_Box_holds
  refine ⟨fd, F.ok sc_Box_holds (fun vs H Q E h => ?_) (fun cdv A outer s H vs Q E hr h => ?_), F.bindsN fun _ _ _ _ _ _ us hl => match us, hl with | [_, _], _ => rfl⟩
  · obtain ⟨y, t, lz, hz, ps, rfl, _⟩ := h
    rfl
  · obtain ⟨y, t, lz, hz, ps, rfl, bx, el, ht, q⟩ := h
    obtain ⟨dy, tl, th, tt, fs, g1, g2, g3, g4, g5, g6, g7, g8, g9⟩ := id bx
    refine ⟨_, PSs.nox (pss_cons (ps_if (pt_cmpR op_ne (pe_callB call_len_seq (by rfl) T.n_len (by decide +kernel) (pa_cons (pv 1) pa_nil)) (pe_callB call_len_seq (by rfl) T.n_len (by decide +kernel) (pa_cons (pe_fld (pv 0) rfl) pa_nil)) (nomark _))
        (pss_one (ps_ret pe_bl))
        pss_nil)
      (pss_cons (ps_for PassesOwn.never rfl (pi_zipS3 (by rfl) T.n_zip (pa_cons (pv 1) (pa_cons (pe_fld (pv 0) rfl) (pa_cons (pe_fld (pv 0) rfl) pa_nil)))) (pg_tup rfl (pgs_cons (pg_name (i := 2) sc_Box_holds.nd rfl (Or.inl rfl)) (pgs_cons (pg_name (i := 3) sc_Box_holds.nd rfl (Or.inl rfl)) (pgs_cons (pg_name (i := 4) sc_Box_holds.nd rfl (Or.inl rfl)) pgs_nil))))
        (pss_one (ps_if (pt_not (pt_chain op_le op_lt (pv 3) (pv 2) (pv 4)))
          (pss_one (ps_ret pe_bl))
          pss_nil)))
      (pss_one (ps_ret pe_bl)))), ?_⟩
    refine ⟨_, rfl, _, _, rfl, .inr ht, _, rfl, y, _, dy, _, _, rfl, g1, T.cls_Box, T.noat_Box_lows, g3, _, _, rfl, .inr g7, rfl, _, rfl, ?_⟩
    rw [List.length_map, List.length_map]
    refine ite2 (fun c => ?_) (fun c => ?_)
    · have := q H (Same.refl H)
      have e : decide (ps.length = lz.length) = false := by
        cases z : decide (ps.length = lz.length) with
        | false => rfl
        | true =>
          rw [of_decide_eq_true z, decide_eq_true rfl] at c
          cases c
      rw [e, Bool.false_and] at this
      exact this
    have lp : ps.length = lz.length := by
      cases z : decide (ps.length = lz.length) with
      | true => exact of_decide_eq_true z
      | false =>
        exfalso
        apply c
        have : ¬ (ps.length = lz.length) := of_decide_eq_false z
        have e : decide (V.int (ps.length : Int) = V.int (lz.length : Int)) = false := decide_eq_false fun w => this (by injection w with w; omega)
        rw [e]
        rfl
    rw [lp, decide_eq_true rfl, Bool.true_and] at q
    refine ⟨_, rfl, _, rfl, y, _, dy, _, _, rfl, g1, T.cls_Box, T.noat_Box_lows, g3, _, rfl, y, _, dy, _, _, rfl, g1, T.cls_Box, T.noat_Box_highs, g4, t, tl, th, _, _, _, false, false, false, rfl, ht, g7, g8, ?_⟩
    refine for_zipS3 (by rw [List.length_map, List.length_map, lp]) (by rw [List.length_map, List.length_map, lp, el]) (fun i σ H' => (∃ v2 v3 v4, σ = [some (.ref y), some (.ref t), v2, v3, v4]) ∧ L2.Same H H' ∧ inBox ps lz hz = inBox (ps.drop i) (lz.drop i) (hz.drop i)) ⟨⟨none, none, none, rfl⟩, Same.refl H, rfl⟩ (fun i σ H' p => ⟨sqT_same p.2.1 ht, sqT_same p.2.1 g7, sqT_same p.2.1 g8⟩) ?_ ?_
    · rintro i x1 x2 x3 Tp σ H' e1 e2 e3 ⟨⟨v2, v3, v4, rfl⟩, sm, ib⟩ nT
      have hi : i < ps.length := by
        have := (List.getElem?_eq_some_iff.mp e1).1
        rwa [List.length_map] at this
      have hi2 : i < lz.length := by omega
      have hi3 : i < hz.length := by omega
      obtain rfl : x1 = V.int ps[i] := by
        rw [List.getElem?_map, List.getElem?_eq_getElem hi] at e1
        exact (Option.some.inj e1).symm
      obtain rfl : x2 = V.int lz[i] := by
        rw [List.getElem?_map, List.getElem?_eq_getElem hi2] at e2
        exact (Option.some.inj e2).symm
      obtain rfl : x3 = V.int hz[i] := by
        rw [List.getElem?_map, List.getElem?_eq_getElem hi3] at e3
        exact (Option.some.inj e3).symm
      rw [List.drop_eq_getElem_cons hi, List.drop_eq_getElem_cons hi2, List.drop_eq_getElem_cons hi3] at ib
      have ib : inBox ps lz hz = (decide (lz[i] ≤ ps[i]) && decide (ps[i] < hz[i]) && inBox (ps.drop (i + 1)) (lz.drop (i + 1)) (hz.drop (i + 1))) := ib
      have sT := sm.trans (same_new (o := HO.tup [V.int ps[i], V.int lz[i], V.int hz[i]]) nT)
      refine ⟨Tp, _, rfl, SqT.of upd_same, rfl, _, _, rfl, _, _, rfl, _, _, rfl, rfl, ?_⟩
      refine ⟨_, rfl, _, rfl, _, _, rfl, rfl, _, rfl, ite2 (fun c1 => ?_) (fun c1 => ?_)⟩
      · refine ⟨_, rfl, _, _, rfl, rfl, _, rfl, ?_⟩
        rw [c1, Bool.true_and] at ib
        cases c2 : decide (ps[i] < hz[i]) with
        | true =>
          rw [c2, Bool.true_and] at ib
          exact iteF ⟨⟨_, _, _, rfl⟩, sT, ib⟩
        | false =>
          rw [c2, Bool.false_and] at ib
          have := q _ sT
          rw [ib] at this
          exact iteT this
      · have c3 : decide (lz[i] ≤ ps[i]) = false := Bool.eq_false_iff.mpr c1
        rw [c3, Bool.false_and, Bool.false_and] at ib
        have := q _ sT
        rw [ib] at this
        exact ⟨_, rfl, iteT this⟩
    · rintro σ H' ⟨⟨v2, v3, v4, rfl⟩, sm, ib⟩
      rw [List.length_map] at ib
      have e1 : inBox ps lz hz = true := by
        rw [ib, List.drop_length]
        unfold inBox
        rfl
      have := q H' sm
      rw [e1] at this
      exact this

end
end K00

set_option maxRecDepth 100000
set_option maxHeartbeats 4000000
namespace K00
open PySem PySem.Spec PyProof.Rows L2 Q RZ
section
variable {P : Program} {w : World} {K : PySem.W.Frag} {mg : Str → Option Value} {base : Heap} {f : Addr} {fd : FuncData}
/-- all ranges hold something -/
def allLt : List Int → List Int → Bool
  | l :: ls, h :: hs => decide (l < h) && allLt ls hs
  | _, _ => true
theorem allLt_drop {ls hs : List Int} {i : Nat} (h1 : i < ls.length) (h2 : i < hs.length) : allLt (ls.drop i) (hs.drop i) = (decide (ls[i] < hs[i]) && allLt (ls.drop (i + 1)) (hs.drop (i + 1))) := by
  rw [List.drop_eq_getElem_cons h1, List.drop_eq_getElem_cons h2]
  rfl
abbrev mxs (xs ys : List Int) : List Int := List.zipWith (fun x y => if y > x then y else x) xs ys
abbrev mns (xs ys : List Int) : List Int := List.zipWith (fun x y => if y < x then y else x) xs ys
theorem rgs_common : ∀ {l1 h1 l2 h2 : List Int}, Rgs l1 h1 → Rgs l2 h2 → l1.length = l2.length → allLt (mxs l1 l2) (mns h1 h2) = true → Rgs (mxs l1 l2) (mns h1 h2)
  | [], [], [], [], _, _, _, _ => trivial
  | a :: l1, b :: h1, c :: l2, d :: h2, r1, r2, e, al => by
    have al : (decide ((if c > a then c else a) < (if d < b then d else b)) && allLt (mxs l1 l2) (mns h1 h2)) = true := al
    rw [Bool.and_eq_true, decide_eq_true_eq] at al
    obtain ⟨x1, x2, x3, x4⟩ := r1
    obtain ⟨y1, y2, y3, y4⟩ := r2
    refine ⟨?_, al.1, ?_, rgs_common x4 y4 (by simpa using e) al.2⟩
    · show (0 : Int) ≤ if c > a then c else a
      split <;> omega
    · show (if d < b then d else b) ≤ (64 : Int)
      split <;> omega
  | [], _ :: _, _, _, r, _, _, _ => r.elim
  | _ :: _, [], _, _, r, _, _, _ => r.elim
  | _, _, [], _ :: _, _, r, _, _ => r.elim
  | _, _, _ :: _, [], _, r, _, _ => r.elim
  | [], _, _ :: _, _, _, _, e, _ => by cases e
  | _ :: _, _, [], _, _, _, e, _ => by cases e
/-- a comprehension over zip of two rows of numbers -/
theorem lc_zipI {K : PySem.W.Frag} {f : Int → Int → Int} {k1 k2 : Bool} {a b : Addr} {xs ys : List Int} {g : TG} {te : TE} {vs : List Nat} {σ : L2.St} {H : Hp} {D : Addr} {Qd : Hp → Prop} (hl : xs.length = ys.length) (l1 : xs.length ≤ 1000) (ha : SqB k1 K H a (xs.map V.int)) (hb : SqB k2 K H b (ys.map V.int)) (nd : H D = none)
    (hs : ∀ (x y : Int) (T : Addr) (H1 : Hp) (R : V → Hp → Prop) (N : Hp → Prop), H1 T = none → R (.int (f x y)) (upd H1 T (.tup [.int x, .int y])) → g (.ref T) (wipe σ vs) (upd H1 T (.tup [.int x, .int y])) fun σ2 H2 => wipe σ2 vs = wipe σ vs ∧ tYes σ2 H2 fun b H3 => if b = true then te σ2 H3 R else N H3)
    (hd : ∀ H', L2.Same H H' → H' D = some (.lst ((List.zipWith f xs ys).map V.int)) → Qd H') :
    ∃ W : Nat → Nat → Hp → Prop, (∃ m, W 0 m (upd H D (.lst []))) ∧ ∀ i m H, W i m H →
      ((ItzS k1 k2 K a b).stop i H ∧ Qd H) ∨ ((ItzS k1 k2 K a b).go i H ∧ ∃ Nx : Hp → Prop, (∀ H', Nx H' → ∃ m', m' < m ∧ W (i + 1) m' H') ∧ ∀ x H', (ItzS k1 k2 K a b).yld i H x H' → g x (wipe σ vs) H' fun σ2 H2 => wipe σ2 vs = wipe σ vs ∧ tYes σ2 H2 fun b H3 =>
        if b = true then te σ2 H3 fun y H4 => ∃ acc, H4 D = some (.lst acc) ∧ acc.length < sizeLine ∧ Nx (upd H4 D (.lst (acc ++ [y]))) else Nx H3) := by
  refine lc_it (walk_zipS (by rw [List.length_map, List.length_map, hl])) (fun i H' => L2.Same H H' ∧ H' D = some (.lst (((List.zipWith f xs ys).take i).map V.int))) ⟨same_new nd, upd_same⟩ (fun i H' _ p => ⟨ha.same p.1, hb.same p.1⟩) ?_ ?_
  · rintro i v H1 H2 hi ⟨sm, hD⟩ ⟨T, x, y, rfl, nT, rfl, e1, e2⟩
    rw [List.length_map] at hi
    have hi2 : i < ys.length := by omega
    obtain rfl : x = V.int xs[i] := by
      rw [List.getElem?_map, List.getElem?_eq_getElem hi] at e1
      exact (Option.some.inj e1).symm
    obtain rfl : y = V.int ys[i] := by
      rw [List.getElem?_map, List.getElem?_eq_getElem hi2] at e2
      exact (Option.some.inj e2).symm
    have tD : T ≠ D := fun z => by rw [z, hD] at nT; cases nT
    have sT := same_new (o := HO.tup [V.int xs[i], V.int ys[i]]) nT
    have li : i < (List.zipWith f xs ys).length := by rw [List.length_zipWith]; omega
    refine hs xs[i] ys[i] T H1 _ _ nT ⟨_, sT _ _ hD, ?_, ?_, ?_⟩
    · rw [List.length_map, List.length_take]
      exact small1000 (by omega)
    · exact fun b o e => by
        rw [upd_ne (ne_of_none e nd)]
        exact sT _ _ (sm b o e)
    · rw [upd_same, List.take_succ_eq_append_getElem li, List.map_append, List.getElem_zipWith]
      rfl
  · rintro H1 ⟨sm, hD⟩
    rw [List.length_map] at hD
    refine hd H1 sm ?_
    have e : (List.zipWith f xs ys).take xs.length = List.zipWith f xs ys := List.take_of_length_le (by rw [List.length_zipWith]; omega)
    rw [e] at hD
    exact hD
/-- meet_boxes -/
def spMeet (K : PySem.W.Frag) : Sp := fun vs H Q E => ∃ (a b : Addr) (l1 h1 l2 h2 : List Int), vs = [.ref a, .ref b] ∧ BoxAt K H a l1 h1 ∧ BoxAt K H b l2 h2 ∧ Rgs l1 h1 ∧ Rgs l2 h2 ∧ l1.length ≤ 5 ∧ (l1.length ≠ l2.length → E (.ref (He.ga K "UnlikeBoxes")) none H) ∧
  (l1.length = l2.length → (allLt (mxs l1 l2) (mns h1 h2) = false → ∀ H', L2.Same H H' → Q .non H') ∧ (allLt (mxs l1 l2) (mns h1 h2) = true → ∀ y H', L2.Same H H' → BoxAt K H' y (mxs l1 l2) (mns h1 h2) → Q (.ref y) H'))
theorem C_meet_boxes (T : Tx K mg) : Cal P w K mg base (L2.CX P w) 5 "meet_boxes" ["one", "other"] [] (spMeet K) := by
  obtain ⟨fd, F⟩ := T.d_meet_boxes
  obtain ⟨fdB, G_Box, b_Box⟩ := ok_boxgood (P := P) (w := w) (base := base) T
  have C_check_like := C_check_like (P := P) (w := w) (base := base) T
  refine ⟨_, fd, [], F.ok sc_meet_boxes (fun vs H Q E h => ?_) (fun cdv A outer s H vs Q E hr h => ?_), T.g_meet_boxes, F.kp, F.bindsN fun _ _ _ _ _ _ us hl => match us, hl with | [_, _], _ => rfl, .nil⟩
  · obtain ⟨a, b, l1, h1, l2, h2, rfl, _⟩ := h
    rfl
  · obtain ⟨a, b, l1, h1, l2, h2, rfl, b1, b2, r1, r2, len, kE, kQ⟩ := h
    obtain ⟨dy, tl, th, tt, fs, g1, g2, g3, g4, g5, g6, g7, g8, g9⟩ := id b1
    obtain ⟨ey, ul, uh, ut, gs, j1, j2, j3, j4, j5, j6, j7, j8, j9⟩ := id b2
    refine ⟨_, (pss_cons (ps_expr (pe_cal C_check_like (hr.mono (by decide)) (passes_call (takes_of rfl rfl rfl rfl) (fun _ _ _ _ h => h)) (pa_cons (pv 0) (pa_cons (pv 1) pa_nil))))
      (pss_cons (ps_setLc (i := 4) (own := [("low", 2), ("second", 3)]) (g := gTup K 2 (gCons (gName 2) (gCons (gName 3) gNil))) (tt := tYes) (by rfl) sc_meet_boxes.nd rfl rfl (sw_true rfl rfl rfl (by decide +kernel)) (pi_zipS (by rfl) T.n_zip (pa_cons (pe_fld (pv 0) rfl) (pa_cons (pe_fld (pv 1) rfl) pa_nil))) (blkOk_by (N := ["one", "other", "low", "second", "lows", "high", "highs"]) (sc := defScope s_meet_boxes) (by decide +kernel)) (fun _ _ _ _ _ => (pg_tup rfl (pgs_cons (pg_name (i := 2) sc_meet_boxes.nd rfl (Or.inl rfl)) (pgs_cons (pg_name (i := 3) sc_meet_boxes.nd rfl (Or.inl rfl)) pgs_nil)))) (fun _ _ _ _ _ => pts_nil) (fun _ _ _ _ _ => (pe_callB (call_max2 rfl) (by rfl) T.n_max (by decide +kernel) (pa_cons (pv 2) (pa_cons (pv 3) pa_nil)))))
      (pss_cons (ps_setLc (i := 6) (own := [("high", 5), ("second", 3)]) (g := gTup K 2 (gCons (gName 5) (gCons (gName 3) gNil))) (tt := tYes) (by rfl) sc_meet_boxes.nd rfl rfl (sw_true rfl rfl rfl (by decide +kernel)) (pi_zipS (by rfl) T.n_zip (pa_cons (pe_fld (pv 0) rfl) (pa_cons (pe_fld (pv 1) rfl) pa_nil))) (blkOk_by (N := ["one", "other", "low", "second", "lows", "high", "highs"]) (sc := defScope s_meet_boxes) (by decide +kernel)) (fun _ _ _ _ _ => (pg_tup rfl (pgs_cons (pg_name (i := 5) sc_meet_boxes.nd rfl (Or.inl rfl)) (pgs_cons (pg_name (i := 3) sc_meet_boxes.nd rfl (Or.inl rfl)) pgs_nil)))) (fun _ _ _ _ _ => pts_nil) (fun _ _ _ _ _ => (pe_callB (call_min2 rfl) (by rfl) T.n_min (by decide +kernel) (pa_cons (pv 5) (pa_cons (pv 3) pa_nil)))))
      (pss_cons (ps_for (passes_of rfl) rfl (pi_zipS (by rfl) T.n_zip (pa_cons (pv 4) (pa_cons (pv 6) pa_nil))) (pg_tup rfl (pgs_cons (pg_name (i := 2) sc_meet_boxes.nd rfl (Or.inl rfl)) (pgs_cons (pg_name (i := 5) sc_meet_boxes.nd rfl (Or.inl rfl)) pgs_nil)))
        (pss_one (ps_if (pt_cmpR op_ge (pv 2) (pv 5) (nomark _))
          (pss_one (ps_ret pe_non))
          pss_nil)))
      (pss_one (ps_ret (pe_make T.mk_Box G_Box (hr.mono (by decide)) (by rfl) T.g_Box b_Box .nil passX (pa_cons (pv 4) (pa_cons (pv 6) pa_nil))))))))), ?_⟩
    refine ⟨_, rfl, _, rfl, a, b, l1, h1, l2, h2, rfl, b1, b2, kE, fun el => ?_⟩
    obtain ⟨kN, kB⟩ := kQ el
    have e1 := r1.len
    have e2 := r2.len
    refine ⟨_, rfl, a, _, dy, _, _, rfl, g1, T.cls_Box, T.noat_Box_lows, g3, _, rfl, b, _, ey, _, _, rfl, j1, T.cls_Box, T.noat_Box_lows, j3, tl, ul, _, _, false, false, rfl, g7, j7, fun D nd => ?_⟩
    refine lc_zipI (f := fun x y => if y > x then y else x) el (by omega) (k1 := false) (k2 := false) g7 j7 nd (fun x y Tp Hx R N nT q => ?_) fun H1 s1 hD => ?_
    · refine ⟨Tp, _, rfl, SqT.of upd_same, rfl, _, _, rfl, _, _, rfl, rfl, rfl, _, rfl, _, rfl, x, y, rfl, q⟩
    have g1' := s1 _ _ g1
    have j1' := s1 _ _ j1
    refine ⟨_, rfl, a, _, dy, _, _, rfl, g1', T.cls_Box, T.noat_Box_highs, g4, _, rfl, b, _, ey, _, _, rfl, j1', T.cls_Box, T.noat_Box_highs, j4, th, uh, _, _, false, false, rfl, sqT_same s1 g8, sqT_same s1 j8, fun D2 nd2 => ?_⟩
    refine lc_zipI (f := fun x y => if y < x then y else x) (by omega) (by omega) (k1 := false) (k2 := false) (sqT_same s1 g8) (sqT_same s1 j8) nd2 (fun x y Tp Hx R N nT q => ?_) fun H2 s2 hD2 => ?_
    · refine ⟨Tp, _, rfl, SqT.of upd_same, rfl, _, _, rfl, _, _, rfl, rfl, rfl, _, rfl, _, rfl, x, y, rfl, q⟩
    have hD' := s2 _ _ hD
    have s12 := s1.trans s2
    have len1 : (mxs l1 l2).length = l1.length := by rw [List.length_zipWith]; omega
    have len2 : (mns h1 h2).length = l1.length := by rw [List.length_zipWith]; omega
    refine ⟨_, rfl, _, rfl, D, D2, _, _, true, true, rfl, SqL.of hD', SqL.of hD2, ?_⟩
    refine for_zipS (by rw [List.length_map, List.length_map, len1, len2]) (fun i σ H' => (∃ v2 v5, σ = [some (.ref a), some (.ref b), v2, none, some (.ref D), v5, some (.ref D2)]) ∧ L2.Same H2 H' ∧ allLt (mxs l1 l2) (mns h1 h2) = allLt ((mxs l1 l2).drop i) ((mns h1 h2).drop i)) ⟨⟨none, none, rfl⟩, Same.refl H2, rfl⟩ (fun i σ H' p => ⟨SqL.of (p.2.1 _ _ hD'), SqL.of (p.2.1 _ _ hD2)⟩) ?_ ?_
    · rintro i x1 x2 Tp σ H' e1 e2 ⟨⟨v2, v5, rfl⟩, sm, al⟩ nT
      have hi : i < (mxs l1 l2).length := by
        have := (List.getElem?_eq_some_iff.mp e1).1
        rwa [List.length_map] at this
      have hi2 : i < (mns h1 h2).length := by omega
      obtain rfl : x1 = V.int (mxs l1 l2)[i] := by
        rw [List.getElem?_map, List.getElem?_eq_getElem hi] at e1
        exact (Option.some.inj e1).symm
      obtain rfl : x2 = V.int (mns h1 h2)[i] := by
        rw [List.getElem?_map, List.getElem?_eq_getElem hi2] at e2
        exact (Option.some.inj e2).symm
      have st := allLt_drop hi hi2
      have sT := sm.trans (same_new (o := HO.tup [V.int (mxs l1 l2)[i], V.int (mns h1 h2)[i]]) nT)
      refine ⟨Tp, _, rfl, SqT.of upd_same, rfl, _, _, rfl, _, _, rfl, rfl, ?_⟩
      refine ⟨_, rfl, _, rfl, _, _, rfl, rfl, _, rfl, ite2 (fun c => ?_) (fun c => ?_)⟩
      · have c' : decide ((mxs l1 l2)[i] < (mns h1 h2)[i]) = false := decide_eq_false (by have := of_decide_eq_true c; omega)
        rw [st, c', Bool.false_and] at al
        exact kN al _ (s12.trans sT)
      · have c' : decide ((mxs l1 l2)[i] < (mns h1 h2)[i]) = true := by
          have := Bool.eq_false_iff.mpr c
          have := of_decide_eq_false this
          exact decide_eq_true (by omega)
        rw [st, c', Bool.true_and] at al
        exact ⟨⟨_, _, rfl⟩, sT, al⟩
    · rintro σ H' ⟨⟨v2, v5, rfl⟩, sm, al⟩
      rw [List.length_map] at al
      have e : allLt (mxs l1 l2) (mns h1 h2) = true := by
        rw [al, List.drop_length]
        unfold allLt
        rfl
      exact ⟨_, rfl, _, rfl, make_good (.inl (SqL.of (sm _ _ hD'))) (.inl (SqL.of (sm _ _ hD2))) (rgs_common r1 r2 el e) (by rw [len1]; exact len) fun z H3 s3 bx => kB e z H3 ((s12.trans sm).trans s3) bx⟩

end
end K00

set_option maxRecDepth 100000
set_option maxHeartbeats 4000000
namespace K00
open PySem PySem.Spec PyProof.Rows L2 Q RZ
section
variable {P : Program} {w : World} {K : PySem.W.Frag} {mg : Str → Option Value} {base : Heap} {f : Addr} {fd : FuncData}
theorem ok_badcolumn (T : Tx K mg) : ∃ fd, FnOk P w K mg base CX0 1 (He.ma K (He.ga K "BadColumn") "__init__") fd ["self", "column"] (spXI (He.ga K "BadColumn") 1 fun vs => [("column", vs.getD 0 .non)]) ∧ Binds K fd ["self", "column"] [] := by
  obtain ⟨fd, F⟩ := T.d_BadColumn___init__
  refine ⟨fd, F.ok sc_BadColumn___init__ (fun vs H Q E h => ?_) (fun cdv A outer s H vs Q E hr h => ?_), F.bindsN fun _ _ _ _ _ _ us hl => match us, hl with | [_, _], _ => rfl⟩
  · obtain ⟨a, ws, rfl, hl, _⟩ := h
    show ws.length + 1 = 2
    omega
  · obtain ⟨a, ws, rfl, hl, ha, q⟩ := h
    match ws, hl with
    | [x], _ =>
      refine ⟨_, PSs.nox (pss_one (ps_ost (pv 0) (pv 1))), ?_⟩
      exact ⟨_, rfl, _, rfl, a, _, rfl, T.o_BadColumn, T.noat_BadColumn_column, .inl ⟨ha, fun dx nd ne => q dx nd ne⟩⟩
/-- o.f[i], a field of whole numbers -/
theorem ixfld {K : PySem.W.Frag} {σ : L2.St} {H : Hp} {Q : VK} {k m : Nat} {y tl dy C : Addr} {fs : List (Str × V)} {f : Str} {xs : List Int} {i : Nat} (hk : σ[k]? = some (some (.ref y))) (hm : σ[m]? = some (some (.int (i : Int)))) (hy : H y = some (.ins C dy fs)) (cl : Cls K C) (na : NoAttr K C f)
    (hf : fs.lookup f = some (.ref tl)) (ht : SqT K H tl (xs.map V.int)) (hi : i < xs.length) (q : Q (.int (xs.getD i 0)) H) : tOp (rIxT K) (tFld K (tVar k) f) (tVar m) σ H Q := by
  have v : (xs.map V.int)[i]? = some (.int (xs.getD i 0)) := by rw [List.getElem?_map, List.getElem?_eq_getElem hi, List.getD_eq_getElem?_getD, List.getElem?_eq_getElem hi]; rfl
  exact ⟨_, hk, y, _, dy, _, _, rfl, hy, cl, na, hf, _, hm, tl, _, _, _, rfl, rfl, ht, atI_nat v, q⟩
theorem rgs_of : ∀ {L M : List Int}, L.length = M.length → allLt L M = true → (∀ x ∈ L, 0 ≤ x) → (∀ y ∈ M, y ≤ 64) → Rgs L M
  | [], [], _, _, _, _ => trivial
  | [], _ :: _, e, _, _, _ => by cases e
  | _ :: _, [], e, _, _, _ => by cases e
  | x :: L, y :: M, e, al, h0, h1 => by
    have al : (decide (x < y) && allLt L M) = true := al
    rw [Bool.and_eq_true, decide_eq_true_eq] at al
    exact ⟨h0 x List.mem_cons_self, al.1, h1 y List.mem_cons_self, rgs_of (by simpa using e) al.2 (fun z hz => h0 z (List.mem_cons_of_mem _ hz)) fun z hz => h1 z (List.mem_cons_of_mem _ hz)⟩
theorem rgs_getD {l h : List Int} (r : Rgs l h) {i : Nat} (hi : i < l.length) : 0 ≤ l.getD i 0 ∧ l.getD i 0 < h.getD i 0 ∧ h.getD i 0 ≤ 64 := by
  have hi2 : i < h.length := by have := r.len; omega
  have e1 : l.getD i 0 = l[i] := by rw [List.getD_eq_getElem?_getD, List.getElem?_eq_getElem hi]; rfl
  have e2 : h.getD i 0 = h[i] := by rw [List.getD_eq_getElem?_getD, List.getElem?_eq_getElem hi2]; rfl
  rw [e1, e2]
  exact r.at (List.getElem?_eq_getElem hi) (List.getElem?_eq_getElem hi2)
/-- the join's lows (or highs): f in the column c, g elsewhere -/
def joinI (f g : Int → Int → Int) (c : Nat) (xs ys : List Int) : List Int := (List.range xs.length).map fun i => if i = c then f (xs.getD i 0) (ys.getD i 0) else g (xs.getD i 0) (ys.getD i 0)
abbrev imx (x y : Int) : Int := if y > x then y else x
abbrev imn (x y : Int) : Int := if y < x then y else x
def spJoin (K : PySem.W.Frag) : Sp := fun vs H Q E => ∃ (a b : Addr) (v : V) (t : String) (l1 h1 l2 h2 : List Int), vs = [.ref a, .ref b, v] ∧ BoxAt K H a l1 h1 ∧ BoxAt K H b l2 h2 ∧ Rgs l1 h1 ∧ Rgs l2 h2 ∧ l1.length ≤ 5 ∧ Kn H v t ∧ (l1.length ≠ l2.length → E (.ref (He.ga K "UnlikeBoxes")) none H) ∧
  (l1.length = l2.length → (wholeV v 0 ((l1.length : Int) - 1) = false → ∀ d H', L2.Same H H' → H d = none → H' d = some (.xd [("column", v)]) → E (.ref (He.ga K "BadColumn")) (some d) H') ∧
    ∀ c : Nat, v = .int c → c < l1.length → ((l1.getD c 0 > h2.getD c 0 ∨ l2.getD c 0 > h1.getD c 0 ∨ allLt (joinI imn imx c l1 l2) (joinI imx imn c h1 h2) = false) → ∀ H', L2.Same H H' → Q .non H') ∧
      (¬ l1.getD c 0 > h2.getD c 0 → ¬ l2.getD c 0 > h1.getD c 0 → allLt (joinI imn imx c l1 l2) (joinI imx imn c h1 h2) = true → ∀ y H', L2.Same H H' → BoxAt K H' y (joinI imn imx c l1 l2) (joinI imx imn c h1 h2) → Q (.ref y) H'))
theorem C_join_along (T : Tx K mg) : Cal P w K mg base (L2.CX P w) 5 "join_along" ["one", "other", "column"] [] (spJoin K) := by
  obtain ⟨fd, F⟩ := T.d_join_along
  obtain ⟨fdB, G_Box, b_Box⟩ := ok_boxgood (P := P) (w := w) (base := base) T
  obtain ⟨fdX, G_BadColumn, b_BadColumn⟩ := ok_badcolumn (P := P) (w := w) (base := base) T
  have C_check_like := C_check_like (P := P) (w := w) (base := base) T
  have C_is_whole := C_is_whole (P := P) (w := w) (base := base) T
  refine ⟨_, fd, [], F.ok sc_join_along (fun vs H Q E h => ?_) (fun cdv A outer s H vs Q E hr h => ?_), T.g_join_along, F.kp, F.bindsN fun _ _ _ _ _ _ us hl => match us, hl with | [_, _, _], _ => rfl, .nil⟩
  · obtain ⟨a, b, v, t, l1, h1, l2, h2, rfl, _⟩ := h
    rfl
  · obtain ⟨a, b, v, t, l1, h1, l2, h2, rfl, b1, b2, r1, r2, len, kn, kE, kQ⟩ := h
    obtain ⟨dy, tl, th, tt, fs, g1, g2, g3, g4, g5, g6, g7, g8, g9⟩ := id b1
    obtain ⟨ey, ul, uh, ut, gs, j1, j2, j3, j4, j5, j6, j7, j8, j9⟩ := id b2
    refine ⟨_, (pss_cons (ps_expr (pe_cal C_check_like (hr.mono (by decide)) (passes_call (takes_of rfl rfl rfl rfl) (fun _ _ _ _ h => h)) (pa_cons (pv 0) (pa_cons (pv 1) pa_nil))))
      (pss_cons (ps_if (pt_not (pt_val (pe_cal C_is_whole (hr.mono (by decide)) pass0 (pa_cons (pv 2) (pa_cons pe_int (pa_cons (pe_op op_sub (pe_callB call_len_seq (by rfl) T.n_len (by decide +kernel) (pa_cons (pe_fld (pv 0) rfl) pa_nil)) pe_int) pa_nil))))))
        (pss_one (ps_raise rfl (takes_of rfl rfl rfl rfl) (pmk_fld T.o_BadColumn T.i_BadColumn T.t_BadColumn G_BadColumn (hr.mono (by decide)) b_BadColumn pass0 T.g_BadColumn (by decide) (pa_cons (pv 2) pa_nil) (fun _ _ _ _ h z => let ⟨v1, e1, z⟩ := z; ⟨v1, e1, h _ _ z⟩))))
        pss_nil)
      (pss_cons (ps_if (PW.pt (pw_or (pt_cmpR op_gt (pe_ix ix_tup (pe_fld (pv 0) rfl) (pv 2) (fun _ _ => rfl)) (pe_ix ix_tup (pe_fld (pv 1) rfl) (pv 2) (fun _ _ => rfl)) (nomark _)) (pw_or1 (pt_cmpR op_gt (pe_ix ix_tup (pe_fld (pv 1) rfl) (pv 2) (fun _ _ => rfl)) (pe_ix ix_tup (pe_fld (pv 0) rfl) (pv 2) (fun _ _ => rfl)) (nomark _)))))
        (pss_one (ps_ret pe_non))
        pss_nil)
      (pss_cons (ps_set (i := 3) sc_join_along.nd rfl (Or.inl rfl) (pe_lst pa_nil))
      (pss_cons (ps_set (i := 4) sc_join_along.nd rfl (Or.inl rfl) (pe_lst pa_nil))
      (pss_cons (ps_for (passes_of rfl) rfl (pi_range1 (by rfl) T.n_range (pa_cons (pe_callB call_len_seq (by rfl) T.n_len (by decide +kernel) (pa_cons (pe_fld (pv 0) rfl) pa_nil)) pa_nil)) (pg_name (i := 5) sc_join_along.nd rfl (Or.inl rfl))
        (pss_cons (ps_if (pt_cmpR op_eq (pv 5) (pv 2) (nomark _))
          (pss_cons (ps_expr (pe_bm PySem.F.plainAttrs_list PySem.F.slot_list_append PySem.F.type_list_append mt_append (pv 3) (pa_cons (pe_callB (call_min2 rfl) (by rfl) T.n_min (by decide +kernel) (pa_cons (pe_ix ix_tup (pe_fld (pv 0) rfl) (pv 5) (fun _ _ => rfl)) (pa_cons (pe_ix ix_tup (pe_fld (pv 1) rfl) (pv 5) (fun _ _ => rfl)) pa_nil))) pa_nil)))
          (pss_one (ps_expr (pe_bm PySem.F.plainAttrs_list PySem.F.slot_list_append PySem.F.type_list_append mt_append (pv 4) (pa_cons (pe_callB (call_max2 rfl) (by rfl) T.n_max (by decide +kernel) (pa_cons (pe_ix ix_tup (pe_fld (pv 0) rfl) (pv 5) (fun _ _ => rfl)) (pa_cons (pe_ix ix_tup (pe_fld (pv 1) rfl) (pv 5) (fun _ _ => rfl)) pa_nil))) pa_nil)))))
          (pss_cons (ps_expr (pe_bm PySem.F.plainAttrs_list PySem.F.slot_list_append PySem.F.type_list_append mt_append (pv 3) (pa_cons (pe_callB (call_max2 rfl) (by rfl) T.n_max (by decide +kernel) (pa_cons (pe_ix ix_tup (pe_fld (pv 0) rfl) (pv 5) (fun _ _ => rfl)) (pa_cons (pe_ix ix_tup (pe_fld (pv 1) rfl) (pv 5) (fun _ _ => rfl)) pa_nil))) pa_nil)))
          (pss_one (ps_expr (pe_bm PySem.F.plainAttrs_list PySem.F.slot_list_append PySem.F.type_list_append mt_append (pv 4) (pa_cons (pe_callB (call_min2 rfl) (by rfl) T.n_min (by decide +kernel) (pa_cons (pe_ix ix_tup (pe_fld (pv 0) rfl) (pv 5) (fun _ _ => rfl)) (pa_cons (pe_ix ix_tup (pe_fld (pv 1) rfl) (pv 5) (fun _ _ => rfl)) pa_nil))) pa_nil))))))
        (pss_one (ps_if (pt_cmpR op_ge (pe_ix ix_list (pv 3) (pv 5) (fun _ _ => rfl)) (pe_ix ix_list (pv 4) (pv 5) (fun _ _ => rfl)) (nomark _))
          (pss_one (ps_ret pe_non))
          pss_nil))))
      (pss_one (ps_ret (pe_make T.mk_Box G_Box (hr.mono (by decide)) (by rfl) T.g_Box b_Box .nil passX (pa_cons (pv 3) (pa_cons (pv 4) pa_nil))))))))))), ?_⟩
    refine ⟨_, rfl, _, rfl, a, b, l1, h1, l2, h2, rfl, b1, b2, kE, fun el => ?_⟩
    obtain ⟨kX, kB⟩ := kQ el
    have e1 := r1.len
    have e2 := r2.len
    refine ⟨_, rfl, _, rfl, a, _, dy, _, _, rfl, g1, T.cls_Box, T.noat_Box_lows, g3, _, _, rfl, .inr g7, _, _, rfl, rfl, _, _, _, t, rfl, kn, _, rfl, ?_⟩
    rw [List.length_map]
    cases hw : wholeV v 0 ((l1.length : Int) - 1) with
    | false => exact iteT ⟨_, rfl, rfl, fun d nd => kX hw d _ (same_new nd) nd upd_same⟩
    | true =>
    obtain ⟨c, rfl, hc⟩ : ∃ c : Nat, v = .int c ∧ c < l1.length := by
      cases v with
      | int i =>
        have hw : (decide (0 ≤ i) && decide (i ≤ (l1.length : Int) - 1)) = true := hw
        rw [Bool.and_eq_true, decide_eq_true_eq, decide_eq_true_eq] at hw
        exact ⟨i.toNat, by rw [Int.toNat_of_nonneg hw.1], by omega⟩
      | _ => cases hw
    obtain ⟨kN, kR⟩ := kB c rfl hc
    refine iteF ?_
    refine ixfld rfl rfl g1 T.cls_Box T.noat_Box_lows g3 g7 hc (ixfld rfl rfl j1 T.cls_Box T.noat_Box_highs j4 j8 (by omega) ⟨_, _, rfl, rfl, _, rfl, ite2 (fun c1 => kN (.inl (of_decide_eq_true c1)) H (Same.refl H)) (fun c1 => ?_)⟩)
    refine ixfld rfl rfl j1 T.cls_Box T.noat_Box_lows j3 j7 (by omega) (ixfld rfl rfl g1 T.cls_Box T.noat_Box_highs g4 g8 (by omega) ⟨_, _, rfl, rfl, _, rfl, ite2 (fun c2 => ?_) (fun c2 => ?_)⟩)
    · exact kN (.inr (.inl (of_decide_eq_true c2))) H (Same.refl H)
    have n1 : ¬ l1.getD c 0 > h2.getD c 0 := fun z => c1 (decide_eq_true z)
    have n2 : ¬ l2.getD c 0 > h1.getD c 0 := fun z => c2 (decide_eq_true z)
    refine ⟨Nat.zero_le _, fun D nD => ⟨Nat.zero_le _, fun D2 nD2 => ?_⟩⟩
    have s0 : L2.Same H (upd (upd H D (.lst [])) D2 (.lst [])) := (same_new nD).trans (same_new nD2)
    have dne : D ≠ D2 := fun z => by rw [← z, upd_same] at nD2; cases nD2
    have nD2' : H D2 = none := by
      have z := nD2
      rw [upd_ne (fun z => dne z.symm)] at z
      exact z
    have z0 : sizeLine ≥ 1000 := by have := small1000 (n := 999) (by omega); omega
    refine ⟨_, rfl, a, _, dy, _, _, rfl, s0 _ _ g1, T.cls_Box, T.noat_Box_lows, g3, _, _, rfl, .inr (sqT_same s0 g7), _, rfl, by rw [List.length_map]; omega, by rw [List.length_map]; omega, ?_⟩
    rw [List.length_map, Int.toNat_natCast]
    obtain ⟨JL, eJ⟩ : ∃ JL, JL = joinI imn imx c l1 l2 := ⟨_, rfl⟩
    obtain ⟨JH, eK⟩ : ∃ JH, JH = joinI imx imn c h1 h2 := ⟨_, rfl⟩
    rw [← eJ, ← eK] at kN kR
    have lJ : JL.length = l1.length := by rw [eJ]; unfold joinI; rw [List.length_map, List.length_range]
    have lK : JH.length = l1.length := by rw [eK]; unfold joinI; rw [List.length_map, List.length_range]; omega
    have aJ : ∀ i, i < l1.length → JL[i]? = some (if i = c then imn (l1.getD i 0) (l2.getD i 0) else imx (l1.getD i 0) (l2.getD i 0)) := fun i hi => by
      rw [eJ]
      unfold joinI
      rw [List.getElem?_map, List.getElem?_range hi]
      rfl
    have aK : ∀ i, i < l1.length → JH[i]? = some (if i = c then imx (h1.getD i 0) (h2.getD i 0) else imn (h1.getD i 0) (h2.getD i 0)) := fun i hi => by
      rw [eK]
      unfold joinI
      rw [List.getElem?_map, List.getElem?_range (by omega)]
      rfl
    refine for_range (lo := 0) (n := l1.length) (fun i σ H' => (∃ v5, σ = [some (.ref a), some (.ref b), some (.int c), some (.ref D), some (.ref D2), v5]) ∧ L2.Same H H' ∧ H' D = some (.lst ((JL.take i).map V.int)) ∧ H' D2 = some (.lst ((JH.take i).map V.int)) ∧ allLt JL JH = allLt (JL.drop i) (JH.drop i)) ⟨⟨none, rfl⟩, s0, by rw [upd_ne dne, upd_same]; rfl, by rw [upd_same]; rfl, rfl⟩ ?_ ?_
    · rintro i σ H' hi ⟨⟨v5, rfl⟩, sm, hD, hD2, al⟩
      have hiJ : i < JL.length := by omega
      have hiK : i < JH.length := by omega
      have ll : ∀ (L : List Int), ((L.take i).map V.int).length < sizeLine := fun L => small1000 (by rw [List.length_map, List.length_take]; omega)
      have a1 := sm _ _ g1
      have b1' := sm _ _ j1
      rw [Int.zero_add]
      have st := allLt_drop hiJ hiK
      have tk : ∀ (L : List Int) (w : Int), L[i]? = some w → (L.take i).map V.int ++ [V.int w] = (L.take (i + 1)).map V.int := fun L w e => by
        rw [List.take_add_one, e, List.map_append]
        rfl
      refine ⟨_, rfl, _, rfl, rfl, _, rfl, ite2 (fun ce => ?_) (fun ce => ?_)⟩
      · have ce' : i = c := by
          have := of_decide_eq_true ce
          injection this with this
          omega
        have vJ := aJ i hi
        have vK := aK i hi
        rw [if_pos ce'] at vJ vK
        refine ⟨_, rfl, .inl ⟨rfl, _, SqL.of hD⟩, ixfld rfl rfl a1 T.cls_Box T.noat_Box_lows g3 (sqT_same sm g7) hi (ixfld rfl rfl b1' T.cls_Box T.noat_Box_lows j3 (sqT_same sm j7) (by omega) ⟨_, _, rfl, D, _, _, rfl, rfl, hD, ll JL, ?_⟩)⟩
        rw [tk JL _ vJ]
        have s4 : L2.Same H (upd H' D (.lst ((JL.take (i + 1)).map V.int))) := fun b o e => by
          rw [upd_ne (ne_of_none e nD)]
          exact sm b o e
        have hD2' : upd H' D (.lst ((JL.take (i + 1)).map V.int)) D2 = some (.lst ((JH.take i).map V.int)) := by
          rw [upd_ne dne.symm]
          exact hD2
        refine ⟨_, rfl, .inl ⟨rfl, _, SqL.of hD2'⟩, ixfld rfl rfl (s4 _ _ g1) T.cls_Box T.noat_Box_highs g4 (sqT_same s4 g8) (by omega) (ixfld rfl rfl (s4 _ _ j1) T.cls_Box T.noat_Box_highs j4 (sqT_same s4 j8) (by omega) ⟨_, _, rfl, D2, _, _, rfl, rfl, hD2', ll JH, ?_⟩)⟩
        rw [tk JH _ vK]
        have s5 : L2.Same H (upd (upd H' D (.lst ((JL.take (i + 1)).map V.int))) D2 (.lst ((JH.take (i + 1)).map V.int))) := fun b o e => by
          rw [upd_ne (ne_of_none e nD2')]
          exact s4 b o e
        have q1 : upd (upd H' D (.lst ((JL.take (i + 1)).map V.int))) D2 (.lst ((JH.take (i + 1)).map V.int)) D = some (.lst ((JL.take (i + 1)).map V.int)) := by rw [upd_ne dne, upd_same]
        have q2 : upd (upd H' D (.lst ((JL.take (i + 1)).map V.int))) D2 (.lst ((JH.take (i + 1)).map V.int)) D2 = some (.lst ((JH.take (i + 1)).map V.int)) := upd_same
        have v1 : ((JL.take (i + 1)).map V.int)[i]? = some (.int JL[i]) := by rw [List.getElem?_map, List.getElem?_take_of_lt (by omega), List.getElem?_eq_getElem hiJ]; rfl
        have v2 : ((JH.take (i + 1)).map V.int)[i]? = some (.int JH[i]) := by rw [List.getElem?_map, List.getElem?_take_of_lt (by omega), List.getElem?_eq_getElem hiK]; rfl
        refine ⟨_, rfl, _, rfl, D, _, _, _, rfl, rfl, SqL.of q1, atI_nat v1, _, rfl, _, rfl, D2, _, _, _, rfl, rfl, SqL.of q2, atI_nat v2, _, _, rfl, rfl, _, rfl, ite2 (fun cc => ?_) (fun cc => ?_)⟩
        · have c' : decide (JL[i] < JH[i]) = false := decide_eq_false (by have := of_decide_eq_true cc; omega)
          rw [st, c', Bool.false_and] at al
          exact kN (.inr (.inr al)) _ s5
        · have c' : decide (JL[i] < JH[i]) = true := by
            have := of_decide_eq_false (Bool.eq_false_iff.mpr cc)
            exact decide_eq_true (by omega)
          rw [st, c', Bool.true_and] at al
          exact ⟨⟨_, rfl⟩, s5, q1, q2, al⟩
      · have ce' : ¬ i = c := fun z => ce (by rw [z]; exact decide_eq_true rfl)
        have vJ := aJ i hi
        have vK := aK i hi
        rw [if_neg ce'] at vJ vK
        refine ⟨_, rfl, .inl ⟨rfl, _, SqL.of hD⟩, ixfld rfl rfl a1 T.cls_Box T.noat_Box_lows g3 (sqT_same sm g7) hi (ixfld rfl rfl b1' T.cls_Box T.noat_Box_lows j3 (sqT_same sm j7) (by omega) ⟨_, _, rfl, D, _, _, rfl, rfl, hD, ll JL, ?_⟩)⟩
        rw [tk JL _ vJ]
        have s4 : L2.Same H (upd H' D (.lst ((JL.take (i + 1)).map V.int))) := fun b o e => by
          rw [upd_ne (ne_of_none e nD)]
          exact sm b o e
        have hD2' : upd H' D (.lst ((JL.take (i + 1)).map V.int)) D2 = some (.lst ((JH.take i).map V.int)) := by
          rw [upd_ne dne.symm]
          exact hD2
        refine ⟨_, rfl, .inl ⟨rfl, _, SqL.of hD2'⟩, ixfld rfl rfl (s4 _ _ g1) T.cls_Box T.noat_Box_highs g4 (sqT_same s4 g8) (by omega) (ixfld rfl rfl (s4 _ _ j1) T.cls_Box T.noat_Box_highs j4 (sqT_same s4 j8) (by omega) ⟨_, _, rfl, D2, _, _, rfl, rfl, hD2', ll JH, ?_⟩)⟩
        rw [tk JH _ vK]
        have s5 : L2.Same H (upd (upd H' D (.lst ((JL.take (i + 1)).map V.int))) D2 (.lst ((JH.take (i + 1)).map V.int))) := fun b o e => by
          rw [upd_ne (ne_of_none e nD2')]
          exact s4 b o e
        have q1 : upd (upd H' D (.lst ((JL.take (i + 1)).map V.int))) D2 (.lst ((JH.take (i + 1)).map V.int)) D = some (.lst ((JL.take (i + 1)).map V.int)) := by rw [upd_ne dne, upd_same]
        have q2 : upd (upd H' D (.lst ((JL.take (i + 1)).map V.int))) D2 (.lst ((JH.take (i + 1)).map V.int)) D2 = some (.lst ((JH.take (i + 1)).map V.int)) := upd_same
        have v1 : ((JL.take (i + 1)).map V.int)[i]? = some (.int JL[i]) := by rw [List.getElem?_map, List.getElem?_take_of_lt (by omega), List.getElem?_eq_getElem hiJ]; rfl
        have v2 : ((JH.take (i + 1)).map V.int)[i]? = some (.int JH[i]) := by rw [List.getElem?_map, List.getElem?_take_of_lt (by omega), List.getElem?_eq_getElem hiK]; rfl
        refine ⟨_, rfl, _, rfl, D, _, _, _, rfl, rfl, SqL.of q1, atI_nat v1, _, rfl, _, rfl, D2, _, _, _, rfl, rfl, SqL.of q2, atI_nat v2, _, _, rfl, rfl, _, rfl, ite2 (fun cc => ?_) (fun cc => ?_)⟩
        · have c' : decide (JL[i] < JH[i]) = false := decide_eq_false (by have := of_decide_eq_true cc; omega)
          rw [st, c', Bool.false_and] at al
          exact kN (.inr (.inr al)) _ s5
        · have c' : decide (JL[i] < JH[i]) = true := by
            have := of_decide_eq_false (Bool.eq_false_iff.mpr cc)
            exact decide_eq_true (by omega)
          rw [st, c', Bool.true_and] at al
          exact ⟨⟨_, rfl⟩, s5, q1, q2, al⟩
    · rintro σ H' ⟨⟨v5, rfl⟩, sm, hD, hD2, al⟩
      have e : allLt JL JH = true := by
        rw [al, List.drop_eq_nil_of_le (by omega)]
        unfold allLt
        rfl
      rw [List.take_of_length_le (by omega)] at hD hD2
      refine ⟨_, rfl, _, rfl, make_good (.inl (SqL.of hD)) (.inl (SqL.of hD2)) ?_ (by omega) fun z H3 s3 bx => kR n1 n2 e z H3 (sm.trans s3) bx⟩
      refine rgs_of (by omega) e (fun x hx => ?_) fun x hx => ?_
      · rw [eJ] at hx
        obtain ⟨i, hi, rfl⟩ := List.mem_map.mp hx
        have hi := List.mem_range.mp hi
        have z1 := rgs_getD r1 hi
        have z2 := rgs_getD r2 (i := i) (by omega)
        show (0 : Int) ≤ if i = c then (if l2.getD i 0 < l1.getD i 0 then l2.getD i 0 else l1.getD i 0) else if l2.getD i 0 > l1.getD i 0 then l2.getD i 0 else l1.getD i 0
        split <;> split <;> omega
      · rw [eK] at hx
        obtain ⟨i, hi, rfl⟩ := List.mem_map.mp hx
        have hi := List.mem_range.mp hi
        have z1 := rgs_getD r1 (i := i) (by omega)
        have z2 := rgs_getD r2 (i := i) (by omega)
        show (if i = c then (if h2.getD i 0 > h1.getD i 0 then h2.getD i 0 else h1.getD i 0) else if h2.getD i 0 < h1.getD i 0 then h2.getD i 0 else h1.getD i 0) ≤ (64 : Int)
        split <;> split <;> omega

end
end K00

set_option maxRecDepth 100000
set_option maxHeartbeats 4000000
/-! The rules whose relation names the written part, inside one comprehension (B) and inside two (BB).  Printed by mkblk.py. -/
namespace Q
open PySem PySem.Spec PyProof.Rows L2
section
variable {X : Cx} {s s2 : Shared} {H H2 : Hp} {sc sc2 : Scope} {ce ce2 : Env} {fp fp2 : List Addr}
theorem op_catAB : OpR (X.blk s H sc ce fp) (binaryOp .Add) (rCatA X.K) := op_catA (X := (X.blk s H sc ce fp))
theorem op_catABB : OpR ((X.blk s H sc ce fp).blk s2 H2 sc2 ce2 fp2) (binaryOp .Add) (rCatA X.K) := op_catA (X := ((X.blk s H sc ce fp).blk s2 H2 sc2 ce2 fp2))
theorem op_catTB : OpR (X.blk s H sc ce fp) (binaryOp .Add) (rCatT X.K) := op_catT (X := (X.blk s H sc ce fp))
theorem op_catTBB : OpR ((X.blk s H sc ce fp).blk s2 H2 sc2 ce2 fp2) (binaryOp .Add) (rCatT X.K) := op_catT (X := ((X.blk s H sc ce fp).blk s2 H2 sc2 ce2 fp2))
theorem ix_listB : IxR (X.blk s H sc ce fp)  (rIxL X.K) := ix_list (X := (X.blk s H sc ce fp))
theorem ix_listBB : IxR ((X.blk s H sc ce fp).blk s2 H2 sc2 ce2 fp2)  (rIxL X.K) := ix_list (X := ((X.blk s H sc ce fp).blk s2 H2 sc2 ce2 fp2))
theorem ix_tupB : IxR (X.blk s H sc ce fp)  (rIxT X.K) := ix_tup (X := (X.blk s H sc ce fp))
theorem ix_tupBB : IxR ((X.blk s H sc ce fp).blk s2 H2 sc2 ce2 fp2)  (rIxT X.K) := ix_tup (X := ((X.blk s H sc ce fp).blk s2 H2 sc2 ce2 fp2))
theorem ix_seqB : IxR (X.blk s H sc ce fp)  (rIx X.K) := ix_seq (X := (X.blk s H sc ce fp))
theorem ix_seqBB : IxR ((X.blk s H sc ce fp).blk s2 H2 sc2 ce2 fp2)  (rIx X.K) := ix_seq (X := ((X.blk s H sc ce fp).blk s2 H2 sc2 ce2 fp2))
theorem call_len_seqB : CallR (X.blk s H sc ce fp) (.builtin "len") (fun xs H Q => ∃ p ys, xs = [.ref p] ∧ (SqL X.K H p ys ∨ SqT X.K H p ys) ∧ Q (.int ys.length) H) := call_len_seq (X := (X.blk s H sc ce fp))
theorem call_len_seqBB : CallR ((X.blk s H sc ce fp).blk s2 H2 sc2 ce2 fp2) (.builtin "len") (fun xs H Q => ∃ p ys, xs = [.ref p] ∧ (SqL X.K H p ys ∨ SqT X.K H p ys) ∧ Q (.int ys.length) H) := call_len_seq (X := ((X.blk s H sc ce fp).blk s2 H2 sc2 ce2 fp2))
theorem call_tupOfB : CallR (X.blk s H sc ce fp) (.type "tuple") (rTupOf X.K) := call_tupOf (X := (X.blk s H sc ce fp))
theorem call_tupOfBB : CallR ((X.blk s H sc ce fp).blk s2 H2 sc2 ce2 fp2) (.type "tuple") (rTupOf X.K) := call_tupOf (X := ((X.blk s H sc ce fp).blk s2 H2 sc2 ce2 fp2))
theorem call_list_ofB : CallR (X.blk s H sc ce fp) (.type "list") (fun xs H Q => ∃ p ys, xs = [.ref p] ∧ (SqL X.K H p ys ∨ SqT X.K H p ys) ∧ ∀ l, H l = none → Q (.ref l) (upd H l (.lst ys))) := call_list_of (X := (X.blk s H sc ce fp))
theorem call_list_ofBB : CallR ((X.blk s H sc ce fp).blk s2 H2 sc2 ce2 fp2) (.type "list") (fun xs H Q => ∃ p ys, xs = [.ref p] ∧ (SqL X.K H p ys ∨ SqT X.K H p ys) ∧ ∀ l, H l = none → Q (.ref l) (upd H l (.lst ys))) := call_list_of (X := ((X.blk s H sc ce fp).blk s2 H2 sc2 ce2 fp2))
theorem call_isiB : CallR (X.blk s H sc ce fp) (.builtin "isinstance") (rIsi X.K) := call_isi (X := (X.blk s H sc ce fp))
theorem call_isiBB : CallR ((X.blk s H sc ce fp).blk s2 H2 sc2 ce2 fp2) (.builtin "isinstance") (rIsi X.K) := call_isi (X := ((X.blk s H sc ce fp).blk s2 H2 sc2 ce2 fp2))
theorem call_isiTB : CallR (X.blk s H sc ce fp) (.builtin "isinstance") (rIsiT X.K) := call_isiT (X := (X.blk s H sc ce fp))
theorem call_isiTBB : CallR ((X.blk s H sc ce fp).blk s2 H2 sc2 ce2 fp2) (.builtin "isinstance") (rIsiT X.K) := call_isiT (X := ((X.blk s H sc ce fp).blk s2 H2 sc2 ce2 fp2))
theorem pi_listB {tg l : Expr} {tl : TE} (hl : PE (X.blk s H sc ce fp) l tl) : PI (X.blk s H sc ce fp) tg l (iList X.K tl) := pi_list hl
theorem pi_listBB {tg l : Expr} {tl : TE} (hl : PE ((X.blk s H sc ce fp).blk s2 H2 sc2 ce2 fp2) l tl) : PI ((X.blk s H sc ce fp).blk s2 H2 sc2 ce2 fp2) tg l (iList X.K tl) := pi_list hl
theorem pi_tupB {tg l : Expr} {tl : TE} (hl : PE (X.blk s H sc ce fp) l tl) : PI (X.blk s H sc ce fp) tg l (iTup X.K tl) := pi_tup hl
theorem pi_tupBB {tg l : Expr} {tl : TE} (hl : PE ((X.blk s H sc ce fp).blk s2 H2 sc2 ce2 fp2) l tl) : PI ((X.blk s H sc ce fp).blk s2 H2 sc2 ce2 fp2) tg l (iTup X.K tl) := pi_tup hl
theorem pi_seqB {tg l : Expr} {tl : TE} (hl : PE (X.blk s H sc ce fp) l tl) : PI (X.blk s H sc ce fp) tg l (iSeq X.K tl) := pi_seq hl
theorem pi_seqBB {tg l : Expr} {tl : TE} (hl : PE ((X.blk s H sc ce fp).blk s2 H2 sc2 ce2 fp2) l tl) : PI ((X.blk s H sc ce fp).blk s2 H2 sc2 ce2 fp2) tg l (iSeq X.K tl) := pi_seq hl
end
end Q

set_option maxRecDepth 100000
set_option maxHeartbeats 4000000
namespace K00
open PySem PySem.Spec PyProof.Rows L2 Q RZ
/-- a list of couples of whole numbers -/
def PairsAt (H : Hp) (l : Addr) (rs : List (Int × Int)) : Prop := ∃ ts : List Addr, H l = some (.lst (ts.map V.ref)) ∧ ts.length = rs.length ∧ ∀ (i : Nat) (t : Addr) (r : Int × Int), ts[i]? = some t → rs[i]? = some r → H t = some (.tup [.int r.1, .int r.2])
theorem PairsAt.same {H H' : Hp} {l : Addr} {rs : List (Int × Int)} (h : PairsAt H l rs) (s : L2.Same H H') : PairsAt H' l rs := by
  obtain ⟨ts, h1, h2, h3⟩ := h
  exact ⟨ts, s _ _ h1, h2, fun i t r e1 e2 => s _ _ (h3 i t r e1 e2)⟩
section
variable {P : Program} {w : World} {K : PySem.W.Frag} {mg : Str → Option Value} {base : Heap} {f : Addr} {fd : FuncData}
/-- [f(pair) for pair in ranges] -/
theorem lc_pairs {K : PySem.W.Frag} {fn : Int × Int → Int} {l : Addr} {rs : List (Int × Int)} {g : TG} {te : TE} {vs : List Nat} {σ : L2.St} {H : Hp} {D : Addr} {Qd : Hp → Prop} {ts : List Addr} (l1 : rs.length ≤ 1000) (hl : H l = some (.lst (ts.map V.ref))) (tl : ts.length = rs.length)
    (ht : ∀ (i : Nat) (t : Addr) (r : Int × Int), ts[i]? = some t → rs[i]? = some r → H t = some (.tup [.int r.1, .int r.2])) (nd : H D = none)
    (hs : ∀ (r : Int × Int) (t : Addr) (H1 : Hp) (R : V → Hp → Prop) (N : Hp → Prop), H1 t = some (.tup [.int r.1, .int r.2]) → R (.int (fn r)) H1 → g (.ref t) (wipe σ vs) H1 fun σ2 H2 => wipe σ2 vs = wipe σ vs ∧ tYes σ2 H2 fun b H3 => if b = true then te σ2 H3 R else N H3)
    (hd : ∀ H', L2.Same H H' → H' D = some (.lst ((rs.map fn).map V.int)) → Qd H') :
    ∃ W : Nat → Nat → Hp → Prop, (∃ m, W 0 m (upd H D (.lst []))) ∧ ∀ i m H, W i m H →
      ((Itl K l).stop i H ∧ Qd H) ∨ ((Itl K l).go i H ∧ ∃ Nx : Hp → Prop, (∀ H', Nx H' → ∃ m', m' < m ∧ W (i + 1) m' H') ∧ ∀ x H', (Itl K l).yld i H x H' → g x (wipe σ vs) H' fun σ2 H2 => wipe σ2 vs = wipe σ vs ∧ tYes σ2 H2 fun b H3 =>
        if b = true then te σ2 H3 fun y H4 => ∃ acc, H4 D = some (.lst acc) ∧ acc.length < sizeLine ∧ Nx (upd H4 D (.lst (acc ++ [y]))) else Nx H3) := by
  refine lc_it walk_list (fun i H' => L2.Same H H' ∧ H' D = some (.lst (((rs.map fn).take i).map V.int))) ⟨same_new nd, upd_same⟩ (fun i H' _ p => SqL.of (p.1 _ _ hl)) ?_ ?_
  · rintro i v H1 H2 hi ⟨sm, hD⟩ ⟨rfl, e⟩
    rw [List.length_map] at hi
    have hi2 : i < rs.length := by omega
    obtain rfl : v = V.ref ts[i] := by
      rw [List.getElem?_map, List.getElem?_eq_getElem hi] at e
      exact (Option.some.inj e).symm
    have h1 := sm _ _ (ht i _ _ (List.getElem?_eq_getElem hi) (List.getElem?_eq_getElem hi2))
    refine hs rs[i] ts[i] _ _ _ h1 ⟨_, hD, ?_, ?_, ?_⟩
    · rw [List.length_map, List.length_take, List.length_map]
      exact small1000 (by omega)
    · exact fun b o e => by
        rw [upd_ne (ne_of_none e nd)]
        exact sm b o e
    · rw [upd_same, List.take_add_one, List.getElem?_map, List.getElem?_eq_getElem hi2, List.map_append]
      rfl
  · rintro H1 ⟨sm, hD⟩
    rw [List.length_map, List.take_of_length_le (by rw [List.length_map]; omega)] at hD
    exact hd H1 sm hD
def spLawBox (K : PySem.W.Frag) : Sp := fun vs H Q _ => ∃ (l : Addr) (rs : List (Int × Int)), vs = [.ref l] ∧ PairsAt H l rs ∧ rs.length ≤ 5 ∧ Rgs (rs.map (·.1)) (rs.map (·.2)) ∧ ∀ y H', L2.Same H H' → BoxAt K H' y (rs.map (·.1)) (rs.map (·.2)) → Q (.ref y) H'
theorem C__law_box (T : Tx K mg) : Cal P w K mg base (L2.CX P w) 5 "_law_box" ["ranges"] [] (spLawBox K) := by
  obtain ⟨fd, F⟩ := T.d__law_box
  obtain ⟨fdB, G_Box, b_Box⟩ := ok_boxgood (P := P) (w := w) (base := base) T
  refine ⟨_, fd, [], F.ok sc__law_box (fun vs H Q E h => ?_) (fun cdv A outer s H vs Q E hr h => ?_), T.g__law_box, F.kp, F.bindsN fun _ _ _ _ _ _ us hl => match us, hl with | [_], _ => rfl, .nil⟩
  · obtain ⟨l, rs, rfl, _⟩ := h
    rfl
  · obtain ⟨l, rs, rfl, ⟨ts, hl, tl, ht⟩, len, rg, kQ⟩ := h
    refine ⟨_, PSs.nox (pss_one (ps_ret (pe_make T.mk_Box G_Box (hr.mono (by decide)) (by rfl) T.g_Box b_Box .nil passX (pa_cons (pe_lc (own := [("pair", 1)]) (g := gName 1) (tt := tYes) (by rfl) sc__law_box.nd (pi_list (pv 0)) (blkOk_by (N := ["ranges", "pair"]) (sc := defScope s__law_box) (by decide +kernel)) (fun _ _ _ _ _ => (pg_name (i := 1) sc__law_box.nd rfl (Or.inl rfl))) (fun _ _ _ _ _ => pts_nil) (fun _ _ _ _ _ => (pe_ix ix_tupB (pv 1) pe_int (fun _ _ => rfl)))) (pa_cons (pe_callTy call_tupOf (by rfl) T.n_tuple (by decide +kernel) (pa_cons (pe_lc (own := [("pair", 1)]) (g := gName 1) (tt := tYes) (by rfl) sc__law_box.nd (pi_list (pv 0)) (blkOk_by (N := ["ranges", "pair"]) (sc := defScope s__law_box) (by decide +kernel)) (fun _ _ _ _ _ => (pg_name (i := 1) sc__law_box.nd rfl (Or.inl rfl))) (fun _ _ _ _ _ => pts_nil) (fun _ _ _ _ _ => (pe_ix ix_tupB (pv 1) pe_int (fun _ _ => rfl)))) pa_nil)) pa_nil))))), ?_⟩
    refine ⟨_, rfl, l, rfl, ⟨_, SqL.of hl⟩, fun D nd => ?_⟩
    refine lc_pairs (fn := (·.1)) (by omega) hl tl ht nd (fun r t H1 R N h1 q => ?_) fun H1 s1 hD => ?_
    · exact ⟨rfl, _, rfl, t, _, _, _, rfl, rfl, SqT.of h1, rfl, q⟩
    refine ⟨_, rfl, l, rfl, ⟨_, SqL.of (s1 _ _ hl)⟩, fun D2 nd2 => ?_⟩
    refine lc_pairs (fn := (·.2)) (by omega) (s1 _ _ hl) tl (fun i t r e1 e2 => s1 _ _ (ht i t r e1 e2)) nd2 (fun r t H2 R N h1 q => ?_) fun H2 s2 hD2 => ?_
    · exact ⟨rfl, _, rfl, t, _, _, _, rfl, rfl, SqT.of h1, rfl, q⟩
    refine tupOf_of (.inl (SqL.of hD2)) fun tp H3 q3 s3 _ => ?_
    have sAll := (s1.trans s2).trans s3
    exact make_good (.inl (SqL.of (s3 _ _ (s2 _ _ hD)))) (.inr q3) rg (by rw [List.length_map]; exact len) fun y H4 s4 bx => kQ y H4 (sAll.trans s4) bx
end
end K00

set_option maxRecDepth 100000
set_option maxHeartbeats 4000000
namespace K00
open PySem PySem.Spec PyProof.Rows L2 Q RZ
section
variable {P : Program} {w : World} {K : PySem.W.Frag} {mg : Str → Option Value} {base : Heap} {f : Addr} {fd : FuncData}
/-- _law_common -/
def commonOf (xs ys : List (Int × Int)) : List (Int × Int) := List.zipWith (fun a b => (imx a.1 b.1, imn a.2 b.2)) xs ys
def spCommon : Sp := fun vs H Q _ => ∃ (a b : Addr) (xs ys : List (Int × Int)), vs = [.ref a, .ref b] ∧ PairsAt H a xs ∧ PairsAt H b ys ∧ xs.length = ys.length ∧ xs.length ≤ 5 ∧ ∀ l H', H l = none → L2.Same H H' → PairsAt H' l (commonOf xs ys) → Q (.ref l) H'
theorem PairsAt.at {H : Hp} {l : Addr} {rs : List (Int × Int)} (h : PairsAt H l rs) {i : Nat} (hi : i < rs.length) : ∃ ts t, H l = some (.lst ts) ∧ ts[i]? = some (.ref t) ∧ H t = some (.tup [.int rs[i].1, .int rs[i].2]) := by
  obtain ⟨ts, h1, h2, h3⟩ := h
  have hi2 : i < ts.length := by omega
  exact ⟨_, ts[i], h1, by rw [List.getElem?_map, List.getElem?_eq_getElem hi2]; rfl, h3 i _ _ (List.getElem?_eq_getElem hi2) (List.getElem?_eq_getElem hi)⟩
theorem C__law_common (T : Tx K mg) : Cal P w K mg base CX0 1 "_law_common" ["one", "other"] [] spCommon := by
  obtain ⟨fd, F⟩ := T.d__law_common
  refine ⟨_, fd, [], F.ok sc__law_common (fun vs H Q E h => ?_) (fun cdv A outer s H vs Q E hr h => ?_), T.g__law_common, F.kp, F.bindsN fun _ _ _ _ _ _ us hl => match us, hl with | [_, _], _ => rfl, .nil⟩
  · obtain ⟨a, b, xs, ys, rfl, _⟩ := h
    rfl
  · obtain ⟨a, b, xs, ys, rfl, pa, pb, el, len, kQ⟩ := h
    refine ⟨_, PSs.nox (pss_one (ps_ret (pe_lc (own := [("k", 2)]) (g := gName 2) (tt := tYes) (by rfl) sc__law_common.nd (pi_range1 (by rfl) T.n_range (pa_cons (pe_callB call_len_seq (by rfl) T.n_len (by decide +kernel) (pa_cons (pv 0) pa_nil)) pa_nil)) (blkOk_by (N := ["one", "other", "k"]) (sc := defScope s__law_common) (by decide +kernel)) (fun _ _ _ _ _ => (pg_name (i := 2) sc__law_common.nd rfl (Or.inl rfl))) (fun _ _ _ _ _ => pts_nil) (fun _ _ _ _ _ => (pe_tup (pa_cons (pe_callB (call_max2 rfl) (by rfl) T.n_max (by decide +kernel) (pa_cons (pe_ix ix_seqB (pe_ix ix_listB (pv 0) (pv 2) (fun _ _ => rfl)) pe_int (fun _ _ => rfl)) (pa_cons (pe_ix ix_seqB (pe_ix ix_listB (pv 1) (pv 2) (fun _ _ => rfl)) pe_int (fun _ _ => rfl)) pa_nil))) (pa_cons (pe_callB (call_min2 rfl) (by rfl) T.n_min (by decide +kernel) (pa_cons (pe_ix ix_seqB (pe_ix ix_listB (pv 0) (pv 2) (fun _ _ => rfl)) pe_int (fun _ _ => rfl)) (pa_cons (pe_ix ix_seqB (pe_ix ix_listB (pv 1) (pv 2) (fun _ _ => rfl)) pe_int (fun _ _ => rfl)) pa_nil))) pa_nil))))))), ?_⟩
    obtain ⟨ts, ha, tl, ht⟩ := id pa
    refine ⟨_, rfl, _, _, rfl, .inl (SqL.of ha), _, rfl, by rw [List.length_map]; omega, by rw [List.length_map]; omega, fun D nd => ?_⟩
    rw [List.length_map, tl, Int.toNat_natCast]
    refine lc_range (lo := 0) (n := xs.length) (fun i H' => L2.Same H H' ∧ ∃ us : List Addr, H' D = some (.lst (us.map V.ref)) ∧ us.length = i ∧ ∀ (j : Nat) (t : Addr) (r : Int × Int), us[j]? = some t → (commonOf xs ys)[j]? = some r → H' t = some (.tup [.int r.1, .int r.2])) ⟨same_new nd, [], by rw [upd_same]; rfl, rfl, fun j t r e => by simp at e⟩ ?_ ?_
    · rintro i H1 hi ⟨sm, us, hD, ul, hu⟩
      have hi2 : i < ys.length := by omega
      obtain ⟨vs1, t1, q1, q2, q3⟩ := (pa.same sm).at hi
      obtain ⟨vs2, t2, q4, q5, q6⟩ := (pb.same sm).at hi2
      rw [Int.zero_add]
      refine ⟨rfl, _, rfl, _, rfl, a, _, _, _, rfl, rfl, SqL.of q1, atI_nat q2, .inr (.inl ⟨t1, _, 0, _, rfl, rfl, SqT.of q3, rfl, ?_⟩)⟩
      refine ⟨_, rfl, _, rfl, b, _, _, _, rfl, rfl, SqL.of q4, atI_nat q5, .inr (.inl ⟨t2, _, 0, _, rfl, rfl, SqT.of q6, rfl, _, _, rfl, ?_⟩)⟩
      refine ⟨_, rfl, _, rfl, a, _, _, _, rfl, rfl, SqL.of q1, atI_nat q2, .inr (.inl ⟨t1, _, 1, _, rfl, rfl, SqT.of q3, rfl, ?_⟩)⟩
      refine ⟨_, rfl, _, rfl, b, _, _, _, rfl, rfl, SqL.of q4, atI_nat q5, .inr (.inl ⟨t2, _, 1, _, rfl, rfl, SqT.of q6, rfl, _, _, rfl, ?_⟩)⟩
      refine ⟨(by show 2 ≤ sizeLine; decide), fun p np => ⟨_, (same_new np) _ _ hD, ?_, ?_⟩⟩
      · rw [List.length_map, ul]
        exact small1000 (by omega)
      · have sp := same_new (o := HO.tup [V.int (imx xs[i].1 ys[i].1), V.int (imn xs[i].2 ys[i].2)]) np
        have pD : p ≠ D := fun z => by rw [z, hD] at np; cases np
        refine ⟨fun c o e => ?_, us ++ [p], ?_, by rw [List.length_append, ul]; rfl, fun j t r e1 e2 => ?_⟩
        · rw [upd_ne (ne_of_none e nd)]
          exact sp _ _ (sm c o e)
        · rw [upd_same, List.map_append]
          rfl
        · have tD : ∀ t r, H1 t = some (.tup r) → t ≠ D := fun t r e z => by rw [z, hD] at e; cases e
          by_cases hj : j < us.length
          · rw [List.getElem?_append_left hj] at e1
            have := hu j t r e1 e2
            rw [upd_ne (tD _ _ this)]
            exact sp _ _ this
          · have hj2 : j = us.length := by
              have := (List.getElem?_eq_some_iff.mp e1).1
              rw [List.length_append, List.length_singleton] at this
              omega
            subst hj2
            rw [List.getElem?_append_right (Nat.le_refl _), Nat.sub_self] at e1
            obtain rfl : p = t := by
              have e1 : some p = some t := e1
              cases e1
              rfl
            rw [ul] at e2
            have li : i < (commonOf xs ys).length := by unfold commonOf; rw [List.length_zipWith]; omega
            have er : r = (imx xs[i].1 ys[i].1, imn xs[i].2 ys[i].2) := by
              rw [List.getElem?_eq_getElem li] at e2
              rw [← Option.some.inj e2]
              exact List.getElem_zipWith ..
            rw [er, upd_ne pD]
            exact upd_same
    · rintro H1 ⟨sm, us, hD, ul, hu⟩
      refine kQ D H1 nd sm ⟨us, hD, ?_, hu⟩
      unfold commonOf
      rw [List.length_zipWith]
      omega
end
end K00

set_option maxRecDepth 100000
set_option maxHeartbeats 4000000
namespace K00
open PySem PySem.Spec PyProof.Rows L2 Q RZ
section
variable {P : Program} {w : World} {K : PySem.W.Frag} {mg : Str → Option Value} {base : Heap} {f : Addr} {fd : FuncData}
/-- _law_is_great: either answer -/
def spGreat (K : PySem.W.Frag) : Sp := fun vs H Q _ => ∃ (a : Addr) (ns : List Int), vs = [.ref a] ∧ SqL K H a (ns.map V.int) ∧ ∀ b, Q (.bl b) H
theorem C__law_is_great (T : Tx K mg) : Cal P w K mg base CX0 1 "_law_is_great" ["script"] [] (spGreat K) := by
  obtain ⟨fd, F⟩ := T.d__law_is_great
  refine ⟨_, fd, [], F.ok sc__law_is_great (fun vs H Q E h => ?_) (fun cdv A outer s H vs Q E hr h => ?_), T.g__law_is_great, F.kp, F.bindsN fun _ _ _ _ _ _ us hl => match us, hl with | [_], _ => rfl, .nil⟩
  · obtain ⟨a, ns, rfl, _⟩ := h
    rfl
  · obtain ⟨a, ns, rfl, hS, kQ⟩ := h
    refine ⟨_, PSs.nox (pss_one (ps_ret (pe_and (pe_cmpR op_gt (pe_callB call_len_seq (by rfl) T.n_len (by decide +kernel) (pa_cons (pv 0) pa_nil)) pe_int (nomark _)) (pe_one (pe_cmpR op_eq (pe_op op_mod (pe_callTy call_int1 (by rfl) T.n_int (by decide +kernel) (pa_cons (pe_ix ix_list (pv 0) (pe_un un_neg pe_int) (fun _ _ => rfl)) pa_nil)) pe_int) pe_int (nomark _)))))), ?_⟩
    refine ⟨_, rfl, _, _, rfl, .inl hS, _, _, rfl, rfl, _, rfl, ite2 (fun c => ?_) (fun c => kQ _)⟩
    have hn : 0 < ns.length := by
      have := of_decide_eq_true c
      rw [List.length_map] at this
      omega
    obtain ⟨xs, x, rfl⟩ : ∃ xs x, ns = xs ++ [x] := ⟨ns.dropLast, ns.getLast (by intro z; rw [z] at hn; cases hn), (List.dropLast_concat_getLast _).symm⟩
    have e : (xs ++ [x]).map V.int = xs.map V.int ++ [V.int x] := by rw [List.map_append]; rfl
    rw [e] at hS
    refine ⟨_, rfl, 1, rfl, a, _, _, _, rfl, rfl, hS, atI_last _ _, .inl ⟨_, rfl, _, _, rfl, rfl, (by show (0 : Int) < 8; decide), rfl, kQ _⟩⟩
end
end K00

set_option maxRecDepth 100000
set_option maxHeartbeats 4000000
namespace K00
open PySem PySem.Spec PyProof.Rows L2 Q RZ
section
variable {P : Program} {w : World} {K : PySem.W.Frag} {mg : Str → Option Value} {base : Heap} {f : Addr} {fd : FuncData}
/-- _law_ranges: for each base a range of at most `most`, at 0 to 2 above it -/
def spRanges : Sp := fun vs H Q _ => ∃ (b c l : Addr) (bs : List Int) (most n : Int), vs = [.ref b, .ref l, .int most] ∧ BagAt H b c n ∧ n < 2 ^ 58 ∧ H l = some (.lst (bs.map V.int)) ∧ l ≠ b ∧ bs.length ≤ 5 ∧ 1 ≤ most ∧ most ≤ 64 ∧ (∀ z ∈ bs, 0 ≤ z ∧ z ≤ 59) ∧
  ∀ l' rs H', Kb b H H' → BagAt H' b c (n + 10) → PairsAt H' l' rs → rs.length = bs.length → (∀ (i : Nat) z r, bs[i]? = some z → rs[i]? = some r → z ≤ r.1 ∧ r.1 ≤ z + 2 ∧ r.1 < r.2 ∧ r.2 ≤ r.1 + most) → Q (.ref l') H'
theorem C__law_ranges (T : Tx K mg) : Cal P w K mg base CX0 2 "_law_ranges" ["bag", "bases", "most"] [] spRanges := by
  obtain ⟨fd, F⟩ := T.d__law_ranges
  have C__law_draw := C_draw (P := P) (w := w) (base := base) T
  refine ⟨_, fd, [], F.ok sc__law_ranges (fun vs H Q E h => ?_) (fun cdv A outer s H vs Q E hr h => ?_), T.g__law_ranges, F.kp, F.bindsN fun _ _ _ _ _ _ us hl => match us, hl with | [_, _, _], _ => rfl, .nil⟩
  · obtain ⟨b, c, l, bs, most, n, rfl, _⟩ := h
    rfl
  · obtain ⟨b, c, l, bs, most, n, rfl, B, hn, hl, lb, len, m1, m2, hz, kQ⟩ := h
    refine ⟨_, PSs.nox (pss_cons (ps_set (i := 3) sc__law_ranges.nd rfl (Or.inl rfl) (pe_lst pa_nil))
      (pss_cons (ps_for PassesOwn.never rfl (pi_list (pv 1)) (pg_name (i := 4) sc__law_ranges.nd rfl (Or.inl rfl))
        (pss_cons (ps_set (i := 5) sc__law_ranges.nd rfl (Or.inl rfl) (pe_op op_add (pv 4) (pe_cal C__law_draw (hr.mono (by decide)) pass0 (pa_cons (pv 0) (pa_cons pe_int pa_nil)))))
        (pss_one (ps_expr (pe_bm PySem.F.plainAttrs_list PySem.F.slot_list_append PySem.F.type_list_append mt_append (pv 3) (pa_cons (pe_tup (pa_cons (pv 5) (pa_cons (pe_op op_add (pe_op op_add (pv 5) pe_int) (pe_cal C__law_draw (hr.mono (by decide)) pass0 (pa_cons (pv 0) (pa_cons (pv 2) pa_nil)))) pa_nil))) pa_nil))))))
      (pss_one (ps_ret (pv 3))))), ?_⟩
    refine ⟨Nat.zero_le _, fun D nD => ?_⟩
    have bD : D ≠ b := (B.new nD).1
    refine ⟨_, rfl, l, rfl, ⟨_, SqL.of (same_new nD _ _ hl)⟩, ?_⟩
    refine for_list (xs := bs.map V.int) (fun i σ H' => (∃ v4 v5, σ = [some (.ref b), some (.ref l), some (.int most), some (.ref D), v4, v5]) ∧ Kb b H H' ∧ BagAt H' b c (n + 2 * i) ∧ ∃ (us : List Addr) (rs : List (Int × Int)), H' D = some (.lst (us.map V.ref)) ∧ us.length = i ∧ rs.length = i ∧
      (∀ (j : Nat) (t : Addr) (r : Int × Int), us[j]? = some t → rs[j]? = some r → H' t = some (.tup [.int r.1, .int r.2])) ∧ ∀ (j : Nat) z r, bs[j]? = some z → rs[j]? = some r → z ≤ r.1 ∧ r.1 ≤ z + 2 ∧ r.1 < r.2 ∧ r.2 ≤ r.1 + most) ⟨⟨none, none, rfl⟩, Kb.of_same (same_new nD), ?_, [], [], by rw [upd_same]; rfl, rfl, rfl, fun j t r e => by simp at e, fun j z r _ e => by simp at e⟩ ?_ ?_ ?_
    · exact (B.same (same_new nD)).mono (by omega)
    · rintro i σ H' _ ⟨_, kb, _⟩
      exact SqL.of (kb _ _ lb hl)
    · rintro i x σ H' e ⟨⟨v4, v5, rfl⟩, kb, B1, us, rs, hD, ul, rl, hu, hr2⟩
      have hi : i < bs.length := by
        have := (List.getElem?_eq_some_iff.mp e).1
        rwa [List.length_map] at this
      obtain rfl : x = V.int bs[i] := by
        rw [List.getElem?_map, List.getElem?_eq_getElem hi] at e
        exact (Option.some.inj e).symm
      refine ⟨_, rfl, _, rfl, b, c, _, n + 2 * i, rfl, B1, by decide, by decide, by omega, fun r1 H2 l1 u1 o1 B2 => ⟨_, _, rfl, rfl, ?_⟩⟩
      have hD2 : H2 D = some (.lst (us.map V.ref)) := o1.at bD hD
      refine ⟨_, rfl, .inl ⟨rfl, _, SqL.of hD2⟩, _, rfl, _, rfl, _, _, rfl, rfl, _, rfl, _, rfl, b, c, _, n + 2 * i + 1, rfl, B2, by omega, by omega, by omega, fun r2 H3 l2 u2 o2 B3 => ⟨_, _, rfl, rfl, (by show 2 ≤ sizeLine; decide), fun p np => ?_⟩⟩
      have hD3 : H3 D = some (.lst (us.map V.ref)) := o2.at bD hD2
      have sp := same_new (o := HO.tup [V.int (bs[i] + r1), V.int (bs[i] + r1 + 1 + r2)]) np
      have pD : p ≠ D := fun z => by rw [z, hD3] at np; cases np
      have Db : ∀ t r, H' t = some (.tup r) → t ≠ b := fun t r e z => by
        obtain ⟨⟨ns, pp, rr, kk, mm, h1, _⟩⟩ := And.intro B1 trivial |>.1 |> fun y => (⟨y⟩ : Nonempty _)
        rw [z, h1] at e
        cases e
      refine ⟨D, _, _, rfl, rfl, sp _ _ hD3, ?_, ?_⟩
      · rw [List.length_map, ul]
        exact small1000 (by omega)
      have cD : D ≠ c := (B.new nD).2
      have tD : ∀ t r, H3 t = some (.tup r) → t ≠ D := fun t r e z => by rw [z, hD3] at e; cases e
      refine ⟨⟨_, _, rfl⟩, fun a o na e => ?_, ?_, us ++ [p], rs ++ [(bs[i] + r1, bs[i] + r1 + 1 + r2)], by rw [upd_same, List.map_append]; rfl, by rw [List.length_append, ul]; rfl, by rw [List.length_append, rl]; rfl, fun j t r e1 e2 => ?_, fun j z r e1 e2 => ?_⟩
      · rw [upd_ne (ne_of_none e nD)]
        exact sp _ _ (o2.kb _ _ na (o1.kb _ _ na (kb _ _ na e)))
      · obtain ⟨ns, pp, rr, kk, mm, h1, h2, h3, h4, h5, h6⟩ := B3.same sp
        exact ⟨ns, pp, rr, kk, mm, by rw [upd_ne bD.symm]; exact h1, by rw [upd_ne cD.symm]; exact h2, h3, by omega, h5, h6⟩
      · by_cases hj : j < us.length
        · rw [List.getElem?_append_left hj] at e1
          rw [List.getElem?_append_left (by omega)] at e2
          have q := hu j t r e1 e2
          have q3 := o2.at (Db _ _ q) (o1.at (Db _ _ q) q)
          rw [upd_ne (tD _ _ q3)]
          exact sp _ _ q3
        · have hj2 : j = us.length := by
            have := (List.getElem?_eq_some_iff.mp e1).1
            rw [List.length_append, List.length_singleton] at this
            omega
          subst hj2
          rw [List.getElem?_append_right (Nat.le_refl _), Nat.sub_self] at e1
          rw [List.getElem?_append_right (by omega), show us.length - rs.length = 0 by omega] at e2
          cases e1
          cases e2
          rw [upd_ne pD]
          exact upd_same
      · by_cases hj : j < rs.length
        · rw [List.getElem?_append_left hj] at e2
          exact hr2 j z r e1 e2
        · have hj2 : j = rs.length := by
            have := (List.getElem?_eq_some_iff.mp e2).1
            rw [List.length_append, List.length_singleton] at this
            omega
          subst hj2
          rw [List.getElem?_append_right (Nat.le_refl _), Nat.sub_self] at e2
          cases e2
          rw [rl, List.getElem?_eq_getElem hi] at e1
          cases e1
          show bs[i] ≤ bs[i] + r1 ∧ bs[i] + r1 ≤ bs[i] + 2 ∧ bs[i] + r1 < bs[i] + r1 + 1 + r2 ∧ bs[i] + r1 + 1 + r2 ≤ bs[i] + r1 + most
          omega
    · rintro σ H' ⟨⟨v4, v5, rfl⟩, kb, B1, us, rs, hD, ul, rl, hu, hr2⟩
      rw [List.length_map] at ul rl B1
      exact ⟨_, rfl, kQ D rs H' kb (B1.mono (by omega)) ⟨us, hD, by omega, hu⟩ rl hr2⟩
end
end K00

set_option maxRecDepth 100000
set_option maxHeartbeats 4000000
/-! A list comprehension, each item for what it stands for. -/
namespace Q
open PySem PySem.Spec PyProof.Rows L2
theorem Paired.imp {α β : Type} {R S : α → β → Prop} {as : List α} {bs : List β} (h : Paired R as bs) (f : ∀ a b, R a b → S a b) : Paired S as bs := Paired.mapP h f
theorem paired_get {α β : Type} {R : α → β → Prop} : ∀ {as : List α} {bs : List β}, Paired R as bs → ∀ (i : Nat) (a : α) (b : β), as[i]? = some a → bs[i]? = some b → R a b
  | _, _, .nil, i, a, b, h1, _ => by simp at h1
  | _, _, .cons x r, 0, a, b, h1, h2 => by cases h1; cases h2; exact x
  | _, _, .cons x r, i + 1, a, b, h1, h2 => paired_get r i a b h1 h2
theorem paired_len {α β : Type} {R : α → β → Prop} {as : List α} {bs : List β} (h : Paired R as bs) : as.length = bs.length := by
  induction h with
  | nil => rfl
  | cons _ _ ih => rw [List.length_cons, List.length_cons, ih]
theorem paired_and {α β : Type} {R : α → β → Prop} {p : β → Prop} : ∀ {as : List α} {bs : List β}, Paired R as bs → (∀ b ∈ bs, p b) → Paired (fun a b => R a b ∧ p b) as bs
  | _, _, .nil, _ => .nil
  | _, _, .cons a r, h => .cons ⟨a, h _ List.mem_cons_self⟩ (paired_and r fun b m => h b (List.mem_cons_of_mem _ m))
theorem lc_keep {J : It} {n : Nat} {G : Hp → Prop} {Y : Nat → Hp → V → Hp → Prop} (w : Walk J n G Y) {γ : Type} {cs : List γ} (hn : n = cs.length) {p : γ → Bool} {R : Hp → V → γ → Prop} (keepR : ∀ H H' y c, NL H H' → R H y c → R H' y c)
    {g : TG} {tt : TT} {te : TE} {vs : List Nat} {σ : L2.St} {H : Hp} {D : Addr} {Qd : Hp → Prop} (nD : H D = none) (len : cs.length < sizeLine) (hG : ∀ H', L2.Same H H' → G H') (hY : ∀ i H1 x H2, Y i H1 x H2 → L2.Same H1 H2)
    (hs : ∀ (i : Nat) (x : V) (H1 H2 : Hp) (R' : V → Hp → Prop) (N : Hp → Prop) (hi : i < cs.length), L2.Same H H1 → Y i H1 x H2 → (p cs[i] = true → ∀ y H3, L2.Same H2 H3 → R H3 y cs[i] → R' y H3) → (p cs[i] = false → ∀ H3, L2.Same H2 H3 → N H3) →
      g x (wipe σ vs) H2 fun σ2 H3 => wipe σ2 vs = wipe σ vs ∧ tt σ2 H3 fun b H4 => if b = true then te σ2 H4 R' else N H4)
    (hd : ∀ H' ys, L2.Same H H' → H' D = some (.lst ys) → Paired (R H') ys (cs.filter p) → Qd H') :
    ∃ W : Nat → Nat → Hp → Prop, (∃ m, W 0 m (upd H D (.lst []))) ∧ ∀ i m H, W i m H →
      (J.stop i H ∧ Qd H) ∨ (J.go i H ∧ ∃ Nx : Hp → Prop, (∀ H', Nx H' → ∃ m', m' < m ∧ W (i + 1) m' H') ∧ ∀ x H', J.yld i H x H' → g x (wipe σ vs) H' fun σ2 H2 => wipe σ2 vs = wipe σ vs ∧ tt σ2 H2 fun b H3 =>
        if b = true then te σ2 H3 fun y H4 => ∃ acc, H4 D = some (.lst acc) ∧ acc.length < sizeLine ∧ Nx (upd H4 D (.lst (acc ++ [y]))) else Nx H3) := by
  subst hn
  refine lc_it w (fun i H' => L2.Same H H' ∧ ∃ acc, H' D = some (.lst acc) ∧ Paired (R H') acc ((cs.take i).filter p)) ⟨same_new nD, [], upd_same, .nil⟩ (fun i H' _ q => hG H' q.1) ?_ ?_
  · rintro i x H1 H2 hi ⟨sm, acc, hD, hp⟩ y
    have s12 := hY _ _ _ _ y
    have ln : acc.length < sizeLine := by
      have h1 := paired_len hp
      have h2 := List.length_filter_le p (cs.take i)
      rw [List.length_take] at h2
      omega
    have et : (cs.take (i + 1)).filter p = (cs.take i).filter p ++ (if p cs[i] = true then [cs[i]] else []) := by
      rw [List.take_succ_eq_append_getElem hi, List.filter_append]
      by_cases q : p cs[i] = true
      · rw [if_pos q, List.filter_cons_of_pos q, List.filter_nil]
      · rw [if_neg q, List.filter_cons_of_neg q, List.filter_nil]
    refine hs i x H1 H2 _ _ hi sm y (fun q v H3 s3 r => ?_) fun q H3 s3 => ?_
    · have hD3 := s3 _ _ (s12 _ _ hD)
      have nl : NL H3 (upd H3 D (.lst (acc ++ [v]))) := NL.lst hD3
      refine ⟨acc, hD3, ln, same_but ((sm.trans s12).trans s3) nD, acc ++ [v], upd_same, ?_⟩
      rw [et, if_pos q]
      exact Paired.snoc (Paired.mapP hp fun a b z => keepR _ _ _ _ (((NL.same s12).trans (NL.same s3)).trans nl) z) (keepR _ _ _ _ nl r)
    · refine ⟨(sm.trans s12).trans s3, acc, s3 _ _ (s12 _ _ hD), ?_⟩
      rw [et, if_neg (by rw [q]; exact Bool.false_ne_true), List.append_nil]
      exact Paired.mapP hp fun a b z => keepR _ _ _ _ ((NL.same s12).trans (NL.same s3)) z
  · rintro H1 ⟨sm, acc, hD, hp⟩
    rw [List.take_length] at hp
    exact hd H1 acc sm hD hp
theorem yat_same {xs : List V} : ∀ i H1 x H2, YAt xs i H1 x H2 → L2.Same H1 H2 := fun _ _ _ _ y => by
  rw [y.1]
  exact Same.refl _
/-- over a list whose items stand for cs; no test -/
theorem lc_each {K : PySem.W.Frag} {a : Addr} {xs : List V} {γ δ : Type} {S : Hp → V → γ → Prop} {f : γ → δ} {cs : List γ} {R : Hp → V → δ → Prop} (keepR : ∀ H H' y c, NL H H' → R H y c → R H' y c) (keepS : ∀ H H' y c, NL H H' → S H y c → S H' y c)
    {g : TG} {te : TE} {vs : List Nat} {σ : L2.St} {H : Hp} {D : Addr} {Qd : Hp → Prop} (nD : H D = none) (hl : SqL K H a xs) (hp : Paired (S H) xs cs) (len : cs.length < sizeLine)
    (hs : ∀ (x : V) (c : γ) (H1 : Hp) (R' : V → Hp → Prop) (N : Hp → Prop), L2.Same H H1 → S H1 x c → (∀ y H3, L2.Same H1 H3 → R H3 y (f c) → R' y H3) →
      g x (wipe σ vs) H1 fun σ2 H3 => wipe σ2 vs = wipe σ vs ∧ tYes σ2 H3 fun b H4 => if b = true then te σ2 H4 R' else N H4)
    (hd : ∀ H' ys, L2.Same H H' → H' D = some (.lst ys) → Paired (R H') ys (cs.map f) → Qd H') :
    ∃ W : Nat → Nat → Hp → Prop, (∃ m, W 0 m (upd H D (.lst []))) ∧ ∀ i m H, W i m H →
      ((Itl K a).stop i H ∧ Qd H) ∨ ((Itl K a).go i H ∧ ∃ Nx : Hp → Prop, (∀ H', Nx H' → ∃ m', m' < m ∧ W (i + 1) m' H') ∧ ∀ x H', (Itl K a).yld i H x H' → g x (wipe σ vs) H' fun σ2 H2 => wipe σ2 vs = wipe σ vs ∧ tYes σ2 H2 fun b H3 =>
        if b = true then te σ2 H3 fun y H4 => ∃ acc, H4 D = some (.lst acc) ∧ acc.length < sizeLine ∧ Nx (upd H4 D (.lst (acc ++ [y]))) else Nx H3) := by
  refine lc_keep (walk_list (xs := xs)) (cs := cs) (paired_len hp) (p := fun _ => true) (R := fun H y c => R H y (f c)) (fun H H' y c => keepR H H' y (f c)) nD len (fun H' s => s.seq hl) yat_same (fun i x H1 H2 R' N hi s y k1 k2 => ?_) fun H' ys s e q => hd H' ys s e ?_
  · obtain ⟨rfl, e⟩ := y
    refine hs x cs[i] H2 R' N s ?_ (k1 rfl)
    exact keepS _ _ _ _ (NL.same s) (paired_get hp i _ _ e (List.getElem?_eq_getElem hi))
  · have ef : cs.filter (fun _ => true) = cs := List.filter_eq_self.mpr fun _ _ => rfl
    rw [ef] at q
    have : ∀ {as : List V} {bs : List γ}, Paired (fun y c => R H' y (f c)) as bs → Paired (R H') as (bs.map f) := fun h => by
      induction h with
      | nil => exact .nil
      | cons a _ ih => exact .cons a ih
    exact this q
/-- over a list whose items stand for cs: those that pass a test -/
theorem lc_pick {K : PySem.W.Frag} {a : Addr} {xs : List V} {γ : Type} {S : Hp → V → γ → Prop} {cs : List γ} {p : γ → Bool} {R : Hp → V → γ → Prop} (keepR : ∀ H H' y c, NL H H' → R H y c → R H' y c) (keepS : ∀ H H' y c, NL H H' → S H y c → S H' y c)
    {g : TG} {tt : TT} {te : TE} {vs : List Nat} {σ : L2.St} {H : Hp} {D : Addr} {Qd : Hp → Prop} (nD : H D = none) (hl : SqL K H a xs) (hp : Paired (S H) xs cs) (len : cs.length < sizeLine)
    (hs : ∀ (x : V) (c : γ) (H1 : Hp) (R' : V → Hp → Prop) (N : Hp → Prop), L2.Same H H1 → S H1 x c → (p c = true → ∀ y H3, L2.Same H1 H3 → R H3 y c → R' y H3) → (p c = false → ∀ H3, L2.Same H1 H3 → N H3) →
      g x (wipe σ vs) H1 fun σ2 H3 => wipe σ2 vs = wipe σ vs ∧ tt σ2 H3 fun b H4 => if b = true then te σ2 H4 R' else N H4)
    (hd : ∀ H' ys, L2.Same H H' → H' D = some (.lst ys) → Paired (R H') ys (cs.filter p) → Qd H') :
    ∃ W : Nat → Nat → Hp → Prop, (∃ m, W 0 m (upd H D (.lst []))) ∧ ∀ i m H, W i m H →
      ((Itl K a).stop i H ∧ Qd H) ∨ ((Itl K a).go i H ∧ ∃ Nx : Hp → Prop, (∀ H', Nx H' → ∃ m', m' < m ∧ W (i + 1) m' H') ∧ ∀ x H', (Itl K a).yld i H x H' → g x (wipe σ vs) H' fun σ2 H2 => wipe σ2 vs = wipe σ vs ∧ tt σ2 H2 fun b H3 =>
        if b = true then te σ2 H3 fun y H4 => ∃ acc, H4 D = some (.lst acc) ∧ acc.length < sizeLine ∧ Nx (upd H4 D (.lst (acc ++ [y]))) else Nx H3) := by
  refine lc_keep (walk_list (xs := xs)) (cs := cs) (paired_len hp) (p := p) (R := R) keepR nD len (fun H' s => s.seq hl) yat_same (fun i x H1 H2 R' N hi s y k1 k2 => ?_) hd
  obtain ⟨rfl, e⟩ := y
  exact hs x cs[i] H2 R' N s (keepS _ _ _ _ (NL.same s) (paired_get hp i _ _ e (List.getElem?_eq_getElem hi))) k1 k2
/-- over range(lo, lo + n) -/
theorem lc_rng {lo : Int} {n : Nat} {δ : Type} {f : Nat → δ} {p : Nat → Bool} {R : Hp → V → δ → Prop} (keepR : ∀ H H' y c, NL H H' → R H y c → R H' y c) {g : TG} {tt : TT} {te : TE} {vs : List Nat} {σ : L2.St} {H : Hp} {D : Addr} {Qd : Hp → Prop} (nD : H D = none) (len : n < sizeLine)
    (hs : ∀ (i : Nat) (H1 : Hp) (R' : V → Hp → Prop) (N : Hp → Prop), i < n → L2.Same H H1 → (p i = true → ∀ y H3, L2.Same H1 H3 → R H3 y (f i) → R' y H3) → (p i = false → ∀ H3, L2.Same H1 H3 → N H3) →
      g (.int (lo + i)) (wipe σ vs) H1 fun σ2 H3 => wipe σ2 vs = wipe σ vs ∧ tt σ2 H3 fun b H4 => if b = true then te σ2 H4 R' else N H4)
    (hd : ∀ H' ys, L2.Same H H' → H' D = some (.lst ys) → Paired (R H') ys (((List.range n).filter p).map f) → Qd H') :
    ∃ W : Nat → Nat → Hp → Prop, (∃ m, W 0 m (upd H D (.lst []))) ∧ ∀ i m H, W i m H →
      ((Itr lo n).stop i H ∧ Qd H) ∨ ((Itr lo n).go i H ∧ ∃ Nx : Hp → Prop, (∀ H', Nx H' → ∃ m', m' < m ∧ W (i + 1) m' H') ∧ ∀ x H', (Itr lo n).yld i H x H' → g x (wipe σ vs) H' fun σ2 H2 => wipe σ2 vs = wipe σ vs ∧ tt σ2 H2 fun b H3 =>
        if b = true then te σ2 H3 fun y H4 => ∃ acc, H4 D = some (.lst acc) ∧ acc.length < sizeLine ∧ Nx (upd H4 D (.lst (acc ++ [y]))) else Nx H3) := by
  refine lc_keep (walk_range (lo := lo) (n := n)) (cs := List.range n) (by rw [List.length_range]) (p := p) (R := fun H y i => R H y (f i)) (fun H H' y c => keepR H H' y (f c)) nD (by rw [List.length_range]; exact len) (fun _ _ => trivial) (fun _ _ _ _ y => by rw [y.1]; exact Same.refl _) (fun i x H1 H2 R' N hi s y k1 k2 => ?_) fun H' ys s e q => hd H' ys s e ?_
  · obtain ⟨rfl, rfl⟩ := y
    have ei : (List.range n)[i] = i := List.getElem_range ..
    rw [ei] at k1 k2
    exact hs i H2 R' N (by rwa [List.length_range] at hi) s k1 k2
  · have : ∀ {as : List V} {bs : List Nat}, Paired (fun y c => R H' y (f c)) as bs → Paired (R H') as (bs.map f) := fun h => by
      induction h with
      | nil => exact .nil
      | cons a _ ih => exact .cons a ih
    exact this q
end Q

set_option maxRecDepth 100000
set_option maxHeartbeats 4000000
namespace K00
open PySem PySem.Spec PyProof.Rows L2 Q RZ
section
variable {P : Program} {w : World} {K : PySem.W.Frag} {mg : Str → Option Value} {base : Heap} {f : Addr} {fd : FuncData}
theorem BoxAt.nl {K : PySem.W.Frag} {H H' : Hp} {y : Addr} {lz hz : List Int} (k : NL H H') (h : BoxAt K H y lz hz) : BoxAt K H' y lz hz := by
  obtain ⟨dy, tl, th, tt, fs, g1, g2, g3, g4, g5, g6, g7, g8, g9⟩ := h
  exact ⟨dy, tl, th, tt, fs, k.ins g1, g2, g3, g4, g5, g6, k.sqT g7, k.sqT g8, k.sqT g9⟩
/-- the pieces of (l, h) less (cl, ch), column by column -/
def cutStep (l h cl ch : List Int) (i : Nat) : List (List Int × List Int) :=
  (if l.getD i 0 < cl.getD i 0 then [(cl.take i ++ l.drop i, ch.take i ++ cl.getD i 0 :: h.drop (i + 1))] else []) ++ (if ch.getD i 0 < h.getD i 0 then [(cl.take i ++ ch.getD i 0 :: l.drop (i + 1), ch.take i ++ h.drop i)] else [])
def cuts (l h cl ch : List Int) (n : Nat) : List (List Int × List Int) := (List.range n).flatMap (cutStep l h cl ch)
theorem cuts_succ (l h cl ch : List Int) (n : Nat) : cuts l h cl ch (n + 1) = cuts l h cl ch n ++ cutStep l h cl ch n := by
  unfold cuts
  rw [List.range_succ, List.flatMap_append]
  simp
theorem cutStep_le (l h cl ch : List Int) (i : Nat) : (cutStep l h cl ch i).length ≤ 2 := by
  unfold cutStep
  rw [List.length_append]
  split <;> split <;> simp
theorem cuts_le (l h cl ch : List Int) : ∀ n, (cuts l h cl ch n).length ≤ 2 * n
  | 0 => by simp [cuts]
  | n + 1 => by
    have := cuts_le l h cl ch n
    have := cutStep_le l h cl ch n
    rw [cuts_succ, List.length_append]
    omega
def cutD (c : List Int × List Int) : PyData := .tuple [.tuple (c.1.map PyData.int), .tuple (c.2.map PyData.int)]
theorem cutD_depth (c : List Int × List Int) : (cutD c).depth ≤ 60 := by
  have : (cutD c).depth = 2 := by
    unfold cutD
    simp [PyData.depth, PyData.depthAll, PySem.W.depth_ints]
  omega
theorem cuts_alike {cs : List (List Int × List Int)} : PySem.W.AllAlike (cs.map cutD) ∧ PySem.W.Sortable (cs.map cutD) := by
  refine ⟨PySem.W.AllAlike.of fun c d => ?_, PySem.W.Sortable.tuples fun c => ⟨_, _, rfl⟩⟩
  unfold cutD
  simp [PySem.W.alike, PySem.W.alikeAll, PySem.W.alike_ints]
theorem rgs_take : ∀ {l h : List Int} (i : Nat), Rgs l h → Rgs (l.take i) (h.take i)
  | [], [], i, _ => by rw [List.take_nil]; exact trivial
  | _ :: _, _ :: _, 0, _ => trivial
  | _ :: _, _ :: _, i + 1, r => ⟨r.1, r.2.1, r.2.2.1, rgs_take i r.2.2.2⟩
  | [], _ :: _, _, r => r.elim
  | _ :: _, [], _, r => r.elim
theorem rgs_drop : ∀ {l h : List Int} (i : Nat), Rgs l h → Rgs (l.drop i) (h.drop i)
  | _, _, 0, r => r
  | [], [], i + 1, _ => trivial
  | _ :: _, _ :: _, i + 1, r => rgs_drop i r.2.2.2
  | [], _ :: _, _ + 1, r => r.elim
  | _ :: _, [], _ + 1, r => r.elim
theorem rgs_app : ∀ {l h l' h' : List Int}, Rgs l h → Rgs l' h' → Rgs (l ++ l') (h ++ h')
  | [], [], _, _, _, r => r
  | _ :: _, _ :: _, _, _, a, r => ⟨a.1, a.2.1, a.2.2.1, rgs_app a.2.2.2 r⟩
  | [], _ :: _, _, _, a, _ => a.elim
  | _ :: _, [], _, _, a, _ => a.elim
theorem drop_getD {l : List Int} {i : Nat} (h : i < l.length) : l.drop i = l.getD i 0 :: l.drop (i + 1) := by
  rw [List.getD_eq_getElem?_getD, List.getElem?_eq_getElem h]
  exact List.drop_eq_getElem_cons h
theorem cuts_rgs {l h cl ch : List Int} (r : Rgs l h) (rc : Rgs cl ch) (e : cl.length = l.length) {n : Nat} (hn : n ≤ l.length) : ∀ c ∈ cuts l h cl ch n, Rgs c.1 c.2 ∧ c.1.length = l.length := by
  intro c hc
  have e1 := r.len
  have e2 := rc.len
  obtain ⟨i, hi, m⟩ := List.mem_flatMap.mp hc
  have hi : i < l.length := by have := List.mem_range.mp hi; omega
  have a := rgs_getD r hi
  have b := rgs_getD rc (i := i) (by omega)
  unfold cutStep at m
  rcases List.mem_append.mp m with m | m
  · split at m
    · cases m with
      | head =>
        refine ⟨?_, by ((try simp only [List.length_map, List.length_take, List.length_drop, List.length_append, List.length_cons, List.length_nil, List.length_zipWith, List.length_set, List.length_replicate, List.length_range]) <;> omega)⟩
        show Rgs (cl.take i ++ l.drop i) (ch.take i ++ cl.getD i 0 :: h.drop (i + 1))
        rw [drop_getD hi]
        exact rgs_app (rgs_take i rc) ⟨a.1, by assumption, by omega, rgs_drop (i + 1) r⟩
      | tail _ m => cases m
    · cases m
  · split at m
    · cases m with
      | head =>
        refine ⟨?_, by ((try simp only [List.length_map, List.length_take, List.length_drop, List.length_append, List.length_cons, List.length_nil, List.length_zipWith, List.length_set, List.length_replicate, List.length_range]) <;> omega)⟩
        show Rgs (cl.take i ++ ch.getD i 0 :: l.drop (i + 1)) (ch.take i ++ h.drop i)
        rw [drop_getD (show i < h.length by omega)]
        exact rgs_app (rgs_take i rc) ⟨by omega, by assumption, a.2.2, rgs_drop (i + 1) r⟩
      | tail _ m => cases m
    · cases m
/-- a couple of rows of whole numbers -/
def CpAt (K : PySem.W.Frag) (H : Hp) (v : V) (c : List Int × List Int) : Prop := ∃ t tl th, v = .ref t ∧ H t = some (.tup [.ref tl, .ref th]) ∧ SqT K H tl (c.1.map V.int) ∧ SqT K H th (c.2.map V.int)
theorem CpAt.nl {H H' : Hp} {v : V} {c : List Int × List Int} (k : NL H H') (h : CpAt K H v c) : CpAt K H' v c := by
  obtain ⟨t, tl, th, e, h1, h2, h3⟩ := h
  exact ⟨t, tl, th, e, k.tup h1, k.sqT h2, k.sqT h3⟩
theorem CpAt.dp {H : Hp} {v : V} {c : List Int × List Int} (h : CpAt K H v c) : Dp K H v (cutD c) := by
  obtain ⟨t, tl, th, rfl, h1, h2, h3⟩ := h
  exact .tup (SqT.of h1) (.cons (dp_ints h2) (.cons (dp_ints h3) .nil))
/-- such couples in a row -/
def Cps (K : PySem.W.Frag) (H : Hp) (vs : List V) (cs : List (List Int × List Int)) : Prop := Paired (fun v c => CpAt K H v c) vs cs
theorem Cps.nl {H H' : Hp} {vs : List V} {cs : List (List Int × List Int)} (k : NL H H') (h : Cps K H vs cs) : Cps K H' vs cs := Paired.mapP h fun _ _ z => z.nl k
theorem Cps.snoc {H : Hp} {vs : List V} {cs : List (List Int × List Int)} {v : V} {c : List Int × List Int} (h : Cps K H vs cs) (a : CpAt K H v c) : Cps K H (vs ++ [v]) (cs ++ [c]) := Paired.snoc h a
theorem mix_at {xs ys : List Int} {i : Nat} (e : xs.length = ys.length) (h : i < ys.length) : (xs.take i ++ ys.drop i)[i]? = some (ys.getD i 0) ∧ (xs.take i ++ ys.drop i).take i = xs.take i ∧ (xs.take i ++ ys.drop i).drop (i + 1) = ys.drop (i + 1) ∧ (xs.take i ++ ys.drop i).set i (xs.getD i 0) = xs.take (i + 1) ++ ys.drop (i + 1) ∧ (xs.take i ++ ys.drop i).length = ys.length := by
  have lt : (xs.take i).length = i := by rw [List.length_take]; omega
  have e1 : ys.getD i 0 = ys[i] := by rw [List.getD_eq_getElem?_getD, List.getElem?_eq_getElem h]; rfl
  have hx : i < xs.length := by omega
  have e2 : xs.getD i 0 = xs[i] := by rw [List.getD_eq_getElem?_getD, List.getElem?_eq_getElem hx]; rfl
  refine ⟨?_, ?_, ?_, ?_, ?_⟩
  · rw [List.getElem?_append_right (by omega), lt, Nat.sub_self, List.getElem?_drop, Nat.add_zero, List.getElem?_eq_getElem h, e1]
  · rw [List.take_append_of_le_length (by omega), List.take_of_length_le (by omega)]
  · rw [List.drop_append, lt, List.drop_eq_nil_of_le (by omega), List.nil_append, List.drop_drop]
    congr 1
    omega
  · rw [List.set_append_right _ _ (by omega), lt, Nat.sub_self, List.drop_eq_getElem_cons h, e2, List.take_succ_eq_append_getElem hx, List.append_assoc]
    rfl
  · rw [List.length_append, lt, List.length_drop]
    omega
/-- box_less -/
def spLess (K : PySem.W.Frag) : Sp := fun vs H Q E => ∃ (a b : Addr) (l1 h1 l2 h2 : List Int), vs = [.ref a, .ref b] ∧ BoxAt K H a l1 h1 ∧ BoxAt K H b l2 h2 ∧ Rgs l1 h1 ∧ Rgs l2 h2 ∧ l1.length ≤ 5 ∧ (l1.length ≠ l2.length → E (.ref (He.ga K "UnlikeBoxes")) none H) ∧
  (l1.length = l2.length → (allLt (mxs l1 l2) (mns h1 h2) = false → ∀ p H', L2.Same H H' → SqT K H' p [.ref a] → Q (.ref p) H') ∧ (allLt (mxs l1 l2) (mns h1 h2) = true → ∀ p ys H', L2.Same H H' → SqT K H' p ys →
    Paired (fun v c => ∃ y, v = V.ref y ∧ BoxAt K H' y c.1 c.2) ys ((cuts l1 h1 (mxs l1 l2) (mns h1 h2) l1.length).mergeSort (PySem.W.dataLe false cutD)) → Q (.ref p) H'))
theorem C_box_less (T : Tx K mg) : Cal P w K mg base (L2.CX P w) 6 "box_less" ["one", "other"] [] (spLess K) := by
  obtain ⟨fd, F⟩ := T.d_box_less
  obtain ⟨fdB, G_Box, b_Box⟩ := ok_boxgood (P := P) (w := w) (base := base) T
  have C_meet_boxes := C_meet_boxes (P := P) (w := w) (base := base) T
  refine ⟨_, fd, [], F.ok sc_box_less (fun vs H Q E h => ?_) (fun cdv A outer s H vs Q E hr h => ?_), T.g_box_less, F.kp, F.bindsN fun _ _ _ _ _ _ us hl => match us, hl with | [_, _], _ => rfl, .nil⟩
  · obtain ⟨a, b, l1, h1, l2, h2, rfl, _⟩ := h
    rfl
  · obtain ⟨a, b, l1, h1, l2, h2, rfl, b1, b2, r1, r2, len, kE, kQ⟩ := h
    refine ⟨_, (pss_cons (ps_set (i := 2) sc_box_less.nd rfl (Or.inl rfl) (pe_cal C_meet_boxes (hr.mono (by decide)) (passes_call (takes_of rfl rfl rfl rfl) (fun _ _ _ _ h => h)) (pa_cons (pv 0) (pa_cons (pv 1) pa_nil))))
      (pss_cons (ps_if (pt_cmpR op_isN (pv 2) pe_non (nomark _))
        (pss_one (ps_ret (pe_tup (pa_cons (pv 0) pa_nil))))
        pss_nil)
      (pss_cons (ps_set (i := 3) sc_box_less.nd rfl (Or.inl rfl) (pe_lst pa_nil))
      (pss_cons (ps_set (i := 4) sc_box_less.nd rfl (Or.inl rfl) (pe_callTy call_list_of (by rfl) T.n_list (by decide +kernel) (pa_cons (pe_fld (pv 0) rfl) pa_nil)))
      (pss_cons (ps_set (i := 5) sc_box_less.nd rfl (Or.inl rfl) (pe_callTy call_list_of (by rfl) T.n_list (by decide +kernel) (pa_cons (pe_fld (pv 0) rfl) pa_nil)))
      (pss_cons (ps_for (passes_of rfl) rfl (pi_range1 (by rfl) T.n_range (pa_cons (pe_callB call_len_seq (by rfl) T.n_len (by decide +kernel) (pa_cons (pv 4) pa_nil)) pa_nil)) (pg_name (i := 6) sc_box_less.nd rfl (Or.inl rfl))
        (C8.pss_cut (ps_if (pt_cmpR op_lt (pe_ix ix_list (pv 4) (pv 6) (fun _ _ => rfl)) (pe_ix ix_tup (pe_fld (pv 2) rfl) (pv 6) (fun _ _ => rfl)) (nomark _))
          (pss_one (ps_expr (pe_bm PySem.F.plainAttrs_list PySem.F.slot_list_append PySem.F.type_list_append mt_append (pv 3) (pa_cons (pe_tup (pa_cons (pe_callTy call_tupOf (by rfl) T.n_tuple (by decide +kernel) (pa_cons (pv 4) pa_nil)) (pa_cons (pe_callTy call_tupOf (by rfl) T.n_tuple (by decide +kernel) (pa_cons (pe_op op_cat (pe_op op_cat (pe_slice sl_list (pv 5) po_none (po_some (pv 6))) (pe_lst (pa_cons (pe_ix ix_tup (pe_fld (pv 2) rfl) (pv 6) (fun _ _ => rfl)) pa_nil))) (pe_slice sl_list (pv 5) (po_some (pe_op op_add (pv 6) pe_int)) po_none)) pa_nil)) pa_nil))) pa_nil))))
          pss_nil)
        (C8.pss_cut (ps_if (pt_cmpR op_lt (pe_ix ix_tup (pe_fld (pv 2) rfl) (pv 6) (fun _ _ => rfl)) (pe_ix ix_list (pv 5) (pv 6) (fun _ _ => rfl)) (nomark _))
          (pss_one (ps_expr (pe_bm PySem.F.plainAttrs_list PySem.F.slot_list_append PySem.F.type_list_append mt_append (pv 3) (pa_cons (pe_tup (pa_cons (pe_callTy call_tupOf (by rfl) T.n_tuple (by decide +kernel) (pa_cons (pe_op op_cat (pe_op op_cat (pe_slice sl_list (pv 4) po_none (po_some (pv 6))) (pe_lst (pa_cons (pe_ix ix_tup (pe_fld (pv 2) rfl) (pv 6) (fun _ _ => rfl)) pa_nil))) (pe_slice sl_list (pv 4) (po_some (pe_op op_add (pv 6) pe_int)) po_none)) pa_nil)) (pa_cons (pe_callTy call_tupOf (by rfl) T.n_tuple (by decide +kernel) (pa_cons (pv 5) pa_nil)) pa_nil))) pa_nil))))
          pss_nil)
        (pss_cons (ps_asg (pe_ix ix_tup (pe_fld (pv 2) rfl) (pv 6) (fun _ _ => rfl)) (pg_sub (pv 4) (pv 6) set_list))
        (pss_one (ps_asg (pe_ix ix_tup (pe_fld (pv 2) rfl) (pv 6) (fun _ _ => rfl)) (pg_sub (pv 5) (pv 6) set_list)))))))
      (pss_one (ps_ret (pe_callTy call_tupOf (by rfl) T.n_tuple (by decide +kernel) (pa_cons (pe_lc (own := [("low", 7), ("high", 8)]) (g := gTup K 2 (gCons (gName 7) (gCons (gName 8) gNil))) (tt := tYes) (by rfl) sc_box_less.nd (pi_list (pe_callB (cr_sortedR hr) (by rfl) T.n_sorted (by decide +kernel) (pa_cons (pv 3) pa_nil))) (blkOk_by (N := ["one", "other", "common", "corners", "lows", "highs", "at", "low", "high"]) (sc := defScope s_box_less) (by decide +kernel)) (fun _ _ _ _ _ => (pg_tup rfl (pgs_cons (pg_name (i := 7) sc_box_less.nd rfl (Or.inl rfl)) (pgs_cons (pg_name (i := 8) sc_box_less.nd rfl (Or.inl rfl)) pgs_nil)))) (fun _ _ _ _ _ => pts_nil) (fun _ _ _ _ _ => (pe_make T.mk_Box G_Box (hr.mono (by decide)) (by rfl) T.g_Box b_Box .nil passX (pa_cons (pv 7) (pa_cons (pv 8) pa_nil))))) pa_nil)))))))))), ?_⟩
    refine ⟨_, rfl, _, rfl, a, b, l1, h1, l2, h2, rfl, b1, b2, r1, r2, len, kE, fun el => ⟨fun c0 H1 s1 => ?_, fun c0 y H1 s1 bc => ?_⟩⟩
    · refine ⟨_, rfl, rfl, _, rfl, iteT ⟨_, rfl, (by show 1 ≤ sizeLine; decide), fun p np => ?_⟩⟩
      exact (kQ el).1 c0 p _ (s1.trans (same_new np)) (SqT.of upd_same)
    refine ⟨_, rfl, rfl, _, rfl, iteF ?_⟩
    have kR := (kQ el).2 c0
    generalize hcl : mxs l1 l2 = cl at bc kR c0
    generalize hch : mns h1 h2 = ch at bc kR c0
    have e1 := r1.len
    have e2 := r2.len
    have ncl : cl.length = l1.length := by rw [← hcl, List.length_zipWith]; omega
    have nch : ch.length = l1.length := by rw [← hch, List.length_zipWith]; omega
    obtain ⟨dy, tl, th, tt, fs, g1, g2, g3, g4, g5, g6, g7, g8, g9⟩ := b1.nl (NL.same s1)
    refine ⟨Nat.zero_le _, fun D nD => ?_⟩
    have sD := same_new (o := HO.lst []) nD
    refine ⟨_, rfl, a, _, dy, _, _, rfl, sD _ _ g1, T.cls_Box, T.noat_Box_lows, g3, _, _, rfl, .inr (sqT_same sD g7), fun L nL => ?_⟩
    have sL := sD.trans (same_new (o := HO.lst (l1.map V.int)) nL)
    refine ⟨_, rfl, a, _, dy, _, _, rfl, sL _ _ g1, T.cls_Box, T.noat_Box_highs, g4, _, _, rfl, .inr (sqT_same sL g8), fun M nM => ?_⟩
    have sM := sL.trans (same_new (o := HO.lst (h1.map V.int)) nM)
    have LD : L ≠ D := fun z => by rw [z, upd_same] at nL; cases nL
    have nL1 : H1 L = none := by rw [upd_ne LD] at nL; exact nL
    have ML : M ≠ L := fun z => by rw [z, upd_same] at nM; cases nM
    have MD : M ≠ D := fun z => by rw [z, upd_ne LD.symm, upd_same] at nM; cases nM
    have nM1 : H1 M = none := by rw [upd_ne ML, upd_ne MD] at nM; exact nM
    refine ⟨_, rfl, _, _, rfl, .inl (SqL.of (by rw [upd_ne ML.symm]; exact upd_same)), _, rfl, by rw [List.length_map]; omega, by rw [List.length_map]; omega, ?_⟩
    rw [List.length_map, Int.toNat_natCast]
    refine for_range (lo := 0) (n := l1.length) (fun i σ H' => (∃ v6, σ = [some (.ref a), some (.ref b), some (.ref y), some (.ref D), some (.ref L), some (.ref M), v6, none, none]) ∧ L2.Same H1 H' ∧ (∃ vs, H' D = some (.lst vs) ∧ Cps K H' vs (cuts l1 h1 cl ch i)) ∧ H' L = some (.lst ((cl.take i ++ l1.drop i).map V.int)) ∧
      H' M = some (.lst ((ch.take i ++ h1.drop i).map V.int))) ⟨⟨none, rfl⟩, sM, ⟨[], by rw [upd_ne MD.symm, upd_ne LD.symm, upd_same], .nil⟩, by rw [upd_ne ML.symm, upd_same]; rfl, by rw [upd_same]; rfl⟩ ?_ ?_
    · rintro i σ H' hi ⟨⟨v6, rfl⟩, sm, ⟨vs, hD, hC⟩, hL, hM⟩
      rw [Int.zero_add]
      obtain ⟨a1, a2, a3, a4, a5⟩ := mix_at ncl hi
      obtain ⟨c1, c2, c3, c4, c5⟩ := mix_at (xs := ch) (ys := h1) (i := i) (by omega) (by omega)
      obtain ⟨ey, ul, uh, ut, gs, j1, j2, j3, j4, j5, j6, j7, j8, j9⟩ := bc.nl (NL.same sm)
      have z0 : sizeLine ≥ 1000 := by have := small1000 (n := 999) (by omega); omega
      have iA : ∀ (xs : List Int) (x : Int), xs[i]? = some x → (xs.map V.int)[i]? = some (.int x) := fun xs x e => by rw [List.getElem?_map, e]; rfl
      have lv : vs.length ≤ 20 := by
        have := Paired.length hC
        have := cuts_le l1 h1 cl ch i
        omega
      refine ⟨fun σ2 H2 => σ2 = [some (.ref a), some (.ref b), some (.ref y), some (.ref D), some (.ref L), some (.ref M), some (.int i), none, none] ∧ L2.Same H1 H2 ∧ (∃ vs, H2 D = some (.lst vs) ∧ Cps K H2 vs (cuts l1 h1 cl ch i ++ (if l1.getD i 0 < cl.getD i 0 then [(cl.take i ++ l1.drop i, ch.take i ++ cl.getD i 0 :: h1.drop (i + 1))] else []))) ∧ H2 L = some (.lst ((cl.take i ++ l1.drop i).map V.int)) ∧
        H2 M = some (.lst ((ch.take i ++ h1.drop i).map V.int)), ?_, ?_⟩
      · refine ⟨_, rfl, _, rfl, L, _, _, _, rfl, rfl, SqL.of hL, atI_nat (iA _ _ a1), ixfld rfl rfl j1 T.cls_Box T.noat_Box_lows j3 j7 (by omega) ⟨_, _, rfl, rfl, _, rfl, ite2 (fun c => ?_) (fun c => ?_)⟩⟩
        · have c' := of_decide_eq_true c
          rw [if_pos c']
          refine ⟨_, rfl, .inl ⟨rfl, _, SqL.of hD⟩, _, rfl, tupL_of (SqL.of hL) fun t1 m1 => ?_⟩
          generalize hq_ : L2.upd H' t1 _ = Ha
          obtain ⟨k1, o1⟩ := _root_.Q.nwS m1 hq_
          clear hq_
          refine ⟨_, rfl, _, rfl, _, rfl, M, _, rfl, SqL.of (k1 _ _ hM), fun p1 m2 => ?_⟩
          rw [cutV_take _ (by ((try simp only [List.length_map, List.length_take, List.length_drop, List.length_append, List.length_cons, List.length_nil, List.length_zipWith, List.length_set, List.length_replicate, List.length_range]) <;> omega)), ← List.map_take, c2]
          generalize hq_ : L2.upd Ha p1 _ = Hb
          obtain ⟨k2, o2⟩ := _root_.Q.nwS m2 hq_
          clear hq_
          have kb := k1.trans k2
          refine ixfld rfl rfl (kb _ _ j1) T.cls_Box T.noat_Box_lows j3 (sqT_same kb j7) (by omega) ⟨(by show 1 ≤ sizeLine; omega), fun p2 m3 => ?_⟩
          generalize hq_ : L2.upd Hb p2 _ = Hc
          obtain ⟨k3, o3⟩ := _root_.Q.nwS m3 hq_
          clear hq_
          refine ⟨p1, p2, _, _, rfl, rfl, k3 _ _ o2, o3, (by ((try simp only [List.length_map, List.length_take, List.length_drop, List.length_append, List.length_cons, List.length_nil, List.length_zipWith, List.length_set, List.length_replicate, List.length_range]) <;> omega)), fun p3 m4 => ?_⟩
          generalize hq_ : L2.upd Hc p3 _ = Hd
          obtain ⟨k4, o4⟩ := _root_.Q.nwS m4 hq_
          clear hq_
          have kd := (kb.trans k3).trans k4
          refine ⟨_, rfl, _, rfl, _, _, rfl, rfl, _, rfl, M, _, rfl, SqL.of (kd _ _ hM), fun p4 m5 => ?_⟩
          rw [show ((i : Int) + 1) = ((i + 1 : Nat) : Int) by omega, cutV_drop, ← List.map_drop, c3]
          generalize hq_ : L2.upd Hd p4 _ = He
          obtain ⟨k5, o5⟩ := _root_.Q.nwS m5 hq_
          clear hq_
          refine ⟨p3, p4, _, _, rfl, rfl, k5 _ _ o4, o5, (by ((try simp only [List.length_map, List.length_take, List.length_drop, List.length_append, List.length_cons, List.length_nil, List.length_zipWith, List.length_set, List.length_replicate, List.length_range]) <;> omega)), fun p5 m6 => ?_⟩
          rw [show (ch.take i).map V.int ++ [V.int (cl.getD i 0)] ++ (h1.drop (i + 1)).map V.int = (ch.take i ++ cl.getD i 0 :: h1.drop (i + 1)).map V.int by simp]
          generalize hq_ : L2.upd He p5 _ = Hf
          obtain ⟨k6, o6⟩ := _root_.Q.nwS m6 hq_
          clear hq_
          refine tupL_of (SqL.of o6) fun t2 m7 => ?_
          generalize hq_ : L2.upd Hf t2 _ = Hg
          obtain ⟨k7, o7⟩ := _root_.Q.nwS m7 hq_
          clear hq_
          refine ⟨(by show 2 ≤ sizeLine; decide), fun t3 m8 => ?_⟩
          generalize hq_ : L2.upd Hg t3 _ = Hh
          obtain ⟨k8, o8⟩ := _root_.Q.nwS m8 hq_
          clear hq_
          have kx := ((((k2.trans k3).trans k4).trans k5).trans k6).trans (k7.trans k8)
          have kh := k1.trans kx
          refine ⟨D, _, _, rfl, rfl, kh _ _ hD, by omega, ?_⟩
          generalize hq_ : L2.upd Hh D _ = Hi
          obtain ⟨ku, ou⟩ := _root_.Q.updS hq_
          clear hq_
          have nl := (NL.same kh).trans (NL.put (kh _ _ hD) ku)
          refine ⟨rfl, Same.put (sm.trans kh) nD ku, ⟨_, ou, Cps.snoc (hC.nl nl) ⟨t3, t1, t2, rfl, ?_, ?_, ?_⟩⟩, ?_, ?_⟩
          · exact (NL.put (kh _ _ hD) ku).tup o8
          · exact SqT.of ((NL.put (kh _ _ hD) ku).tup (kx _ _ o1))
          · exact SqT.of ((NL.put (kh _ _ hD) ku).tup (k8 _ _ o7))
          · exact ku _ _ LD (kh _ _ hL)
          · exact ku _ _ MD (kh _ _ hM)
        · have c' : ¬ l1.getD i 0 < cl.getD i 0 := fun z => c (decide_eq_true z)
          rw [if_neg c', List.append_nil]
          exact ⟨rfl, sm, ⟨vs, hD, hC⟩, hL, hM⟩
      rintro σ2 H2 ⟨rfl, sm2, ⟨vs2, hD2, hC2⟩, hL2, hM2⟩
      obtain ⟨ey, ul, uh, ut, gs, j1, j2, j3, j4, j5, j6, j7, j8, j9⟩ := bc.nl (NL.same sm2)
      have lv2 : vs2.length ≤ 21 := by
        have q0 := Paired.length hC2
        have q1 := cuts_le l1 h1 cl ch i
        have q : ∀ (p : Prop) [Decidable p] (x : List Int × List Int), (if p then [x] else []).length ≤ 1 := fun p _ x => by split <;> simp
        have q2 := q (l1.getD i 0 < cl.getD i 0) (cl.take i ++ l1.drop i, ch.take i ++ cl.getD i 0 :: h1.drop (i + 1))
        rw [List.length_append] at q0
        omega
      refine ⟨fun σ2 H2 => σ2 = [some (.ref a), some (.ref b), some (.ref y), some (.ref D), some (.ref L), some (.ref M), some (.int i), none, none] ∧ L2.Same H1 H2 ∧ (∃ vs, H2 D = some (.lst vs) ∧ Cps K H2 vs (cuts l1 h1 cl ch (i + 1))) ∧ H2 L = some (.lst ((cl.take i ++ l1.drop i).map V.int)) ∧
        H2 M = some (.lst ((ch.take i ++ h1.drop i).map V.int)), ?_, ?_⟩
      · rw [cuts_succ]
        unfold cutStep
        rw [← List.append_assoc]
        refine ixfld rfl rfl j1 T.cls_Box T.noat_Box_highs j4 j8 (by omega) ⟨_, rfl, _, rfl, M, _, _, _, rfl, rfl, SqL.of hM2, atI_nat (iA _ _ c1), _, _, rfl, rfl, _, rfl, ite2 (fun c => ?_) (fun c => ?_)⟩
        · have c' := of_decide_eq_true c
          rw [if_pos c']
          refine ⟨_, rfl, .inl ⟨rfl, _, SqL.of hD2⟩, _, rfl, _, rfl, _, rfl, L, _, rfl, SqL.of hL2, fun p1 m2 => ?_⟩
          rw [cutV_take _ (by ((try simp only [List.length_map, List.length_take, List.length_drop, List.length_append, List.length_cons, List.length_nil, List.length_zipWith, List.length_set, List.length_replicate, List.length_range]) <;> omega)), ← List.map_take, a2]
          generalize hq_ : L2.upd H2 p1 _ = Hb
          obtain ⟨k2, o2⟩ := _root_.Q.nwS m2 hq_
          clear hq_
          refine ixfld rfl rfl (k2 _ _ j1) T.cls_Box T.noat_Box_highs j4 (sqT_same k2 j8) (by omega) ⟨(by show 1 ≤ sizeLine; omega), fun p2 m3 => ?_⟩
          generalize hq_ : L2.upd Hb p2 _ = Hc
          obtain ⟨k3, o3⟩ := _root_.Q.nwS m3 hq_
          clear hq_
          refine ⟨p1, p2, _, _, rfl, rfl, k3 _ _ o2, o3, (by ((try simp only [List.length_map, List.length_take, List.length_drop, List.length_append, List.length_cons, List.length_nil, List.length_zipWith, List.length_set, List.length_replicate, List.length_range]) <;> omega)), fun p3 m4 => ?_⟩
          generalize hq_ : L2.upd Hc p3 _ = Hd
          obtain ⟨k4, o4⟩ := _root_.Q.nwS m4 hq_
          clear hq_
          have kd := (k2.trans k3).trans k4
          refine ⟨_, rfl, _, rfl, _, _, rfl, rfl, _, rfl, L, _, rfl, SqL.of (kd _ _ hL2), fun p4 m5 => ?_⟩
          rw [show ((i : Int) + 1) = ((i + 1 : Nat) : Int) by omega, cutV_drop, ← List.map_drop, a3]
          generalize hq_ : L2.upd Hd p4 _ = He
          obtain ⟨k5, o5⟩ := _root_.Q.nwS m5 hq_
          clear hq_
          refine ⟨p3, p4, _, _, rfl, rfl, k5 _ _ o4, o5, (by ((try simp only [List.length_map, List.length_take, List.length_drop, List.length_append, List.length_cons, List.length_nil, List.length_zipWith, List.length_set, List.length_replicate, List.length_range]) <;> omega)), fun p5 m6 => ?_⟩
          rw [show (cl.take i).map V.int ++ [V.int (ch.getD i 0)] ++ (l1.drop (i + 1)).map V.int = (cl.take i ++ ch.getD i 0 :: l1.drop (i + 1)).map V.int by simp]
          generalize hq_ : L2.upd He p5 _ = Hf
          obtain ⟨k6, o6⟩ := _root_.Q.nwS m6 hq_
          clear hq_
          refine tupL_of (SqL.of o6) fun t2 m7 => ?_
          generalize hq_ : L2.upd Hf t2 _ = Hg
          obtain ⟨k7, o7⟩ := _root_.Q.nwS m7 hq_
          clear hq_
          have kg := ((kd.trans k5).trans k6).trans k7
          refine ⟨_, rfl, tupL_of (SqL.of (kg _ _ hM2)) fun t1 m1 => ?_⟩
          generalize hq_ : L2.upd Hg t1 _ = Ha
          obtain ⟨k1, o1⟩ := _root_.Q.nwS m1 hq_
          clear hq_
          refine ⟨(by show 2 ≤ sizeLine; decide), fun t3 m8 => ?_⟩
          generalize hq_ : L2.upd Ha t3 _ = Hh
          obtain ⟨k8, o8⟩ := _root_.Q.nwS m8 hq_
          clear hq_
          have kh := (kg.trans k1).trans k8
          refine ⟨D, _, _, rfl, rfl, kh _ _ hD2, by omega, ?_⟩
          generalize hq_ : L2.upd Hh D _ = Hi
          obtain ⟨ku, ou⟩ := _root_.Q.updS hq_
          clear hq_
          have nl := (NL.same kh).trans (NL.put (kh _ _ hD2) ku)
          refine ⟨rfl, Same.put (sm2.trans kh) nD ku, ⟨_, ou, Cps.snoc (hC2.nl nl) ⟨t3, t2, t1, rfl, ?_, ?_, ?_⟩⟩, ?_, ?_⟩
          · exact (NL.put (kh _ _ hD2) ku).tup o8
          · exact SqT.of ((NL.put (kh _ _ hD2) ku).tup (k8 _ _ (k1 _ _ o7)))
          · exact SqT.of ((NL.put (kh _ _ hD2) ku).tup (k8 _ _ o1))
          · exact ku _ _ LD (kh _ _ hL2)
          · exact ku _ _ MD (kh _ _ hM2)
        · have c' : ¬ ch.getD i 0 < h1.getD i 0 := fun z => c (decide_eq_true z)
          rw [if_neg c', List.append_nil]
          exact ⟨rfl, sm2, ⟨vs2, hD2, hC2⟩, hL2, hM2⟩
      rintro σ3 H3 ⟨rfl, sm3, ⟨vs3, hD3, hC3⟩, hL3, hM3⟩
      obtain ⟨ey, ul, uh, ut, gs, j1, j2, j3, j4, j5, j6, j7, j8, j9⟩ := bc.nl (NL.same sm3)
      refine ixfld rfl rfl j1 T.cls_Box T.noat_Box_lows j3 j7 (by omega) ⟨_, rfl, _, rfl, L, _, _, i, rfl, rfl, hL3, ix_nat (by ((try simp only [List.length_map, List.length_take, List.length_drop, List.length_append, List.length_cons, List.length_nil, List.length_zipWith, List.length_set, List.length_replicate, List.length_range]) <;> omega)), ?_⟩
      rw [show ((cl.take i ++ l1.drop i).map V.int).set i (V.int (cl.getD i 0)) = (cl.take (i + 1) ++ l1.drop (i + 1)).map V.int by rw [← a4, List.map_set]]
      generalize hq_ : L2.upd H3 L _ = H4
      obtain ⟨u4, o4⟩ := _root_.Q.updS hq_
      clear hq_
      have nl4 := NL.put hL3 u4
      have sm4 := Same.put sm3 nL1 u4
      refine ixfld rfl rfl (nl4.ins j1) T.cls_Box T.noat_Box_highs j4 (nl4.sqT j8) (by omega) ⟨_, rfl, _, rfl, M, _, _, i, rfl, rfl, u4 _ _ ML hM3, ix_nat (by ((try simp only [List.length_map, List.length_take, List.length_drop, List.length_append, List.length_cons, List.length_nil, List.length_zipWith, List.length_set, List.length_replicate, List.length_range]) <;> omega)), ?_⟩
      rw [show ((ch.take i ++ h1.drop i).map V.int).set i (V.int (ch.getD i 0)) = (ch.take (i + 1) ++ h1.drop (i + 1)).map V.int by rw [← c4, List.map_set]]
      generalize hq_ : L2.upd H4 M _ = H5
      obtain ⟨u5, o5⟩ := _root_.Q.updS hq_
      clear hq_
      have nl5 := nl4.trans (NL.put (u4 _ _ ML hM3) u5)
      exact ⟨⟨_, rfl⟩, Same.put sm4 nM1 u5, ⟨vs3, u5 _ _ MD.symm (u4 _ _ LD.symm hD3), hC3.nl nl5⟩, u5 _ _ ML.symm o4, o5⟩
    · rintro σ H' ⟨⟨v6, rfl⟩, sm, ⟨vs, hD, hC⟩, hL, hM⟩
      have q0 := Paired.length hC
      have q1 := cuts_le l1 h1 cl ch l1.length
      refine ⟨_, rfl, ?_⟩
      show rSortedD K [.ref D] H' _
      refine sortedD_of (R := fun v c => CpAt K H' v c) (enc := cutD) (SqL.of hD) hC (fun v c _ z => z.dp) (.inl cuts_alike) (fun c _ => cutD_depth c) fun l ys nl py => ?_
      have q2 := Paired.length py
      rw [List.length_mergeSort] at q2
      generalize hq_ : L2.upd H' l _ = Ha
      obtain ⟨k1, o1⟩ := _root_.Q.nwS nl hq_
      clear hq_
      have py1 := Cps.nl (NL.same k1) py
      refine ⟨l, rfl, ⟨_, SqL.of o1⟩, fun E nE => ?_⟩
      have rc : Rgs cl ch := by
        rw [← hcl, ← hch]
        exact rgs_common r1 r2 el (by rw [hcl, hch]; exact c0)
      have pz := paired_and py1 (p := fun c => Rgs c.1 c.2 ∧ c.1.length = l1.length) fun c m => cuts_rgs r1 rc ncl (Nat.le_refl _) c (List.mem_mergeSort.mp m)
      refine lc_each (S := fun H v c => CpAt K H v c ∧ Rgs c.1 c.2 ∧ c.1.length = l1.length) (f := id) (R := fun H v c => ∃ y, v = .ref y ∧ BoxAt K H y c.1 c.2) (fun H H' y c k ⟨z, e, b⟩ => ⟨z, e, b.nl k⟩) (fun H H' y c k z => ⟨z.1.nl k, z.2⟩) nE (SqL.of o1) pz (small1000 (by rw [List.length_mergeSort]; omega)) (fun x c H1 R' N s1 cp q => ?_) fun H2 zs s2 hE pz2 => ?_
      · obtain ⟨⟨t, tl, th, rfl, h1, h2, h3⟩, rg, lc⟩ := cp
        refine ⟨t, _, rfl, SqT.of h1, rfl, _, _, rfl, _, _, rfl, rfl, rfl, _, rfl, _, rfl, make_good (.inr h2) (.inr h3) rg (by omega) fun y H4 s4 bx => q _ H4 s4 ⟨y, rfl, bx⟩⟩
      refine tupOf_of (.inl (SqL.of hE)) fun tp H3 q3 s3 _ => ?_
      rw [List.map_id] at pz2
      exact kR tp zs H3 (((s1.trans sm).trans k1).trans (s2.trans s3)) q3 (Paired.mapP pz2 fun v c ⟨z, e, b⟩ => ⟨z, e, b.nl (NL.same s3)⟩)

end
end K00

set_option maxRecDepth 100000
set_option maxHeartbeats 4000000
/-! The points of a box, column by column; a list of points. -/
namespace Q
open PySem PySem.Spec PyProof.Rows L2
/-- how many -/
def cnt : List Int → List Int → Nat
  | l :: ls, h :: hs => (h - l).toNat * cnt ls hs
  | _, _ => 1
theorem upTo_len (l h : Int) : (upTo l h).length = (h - l).toNat := by
  unfold upTo
  rw [List.length_map, List.length_range]
theorem upTo_mem {l h v : Int} : v ∈ upTo l h ↔ l ≤ v ∧ v < h := by
  unfold upTo
  rw [List.mem_map]
  constructor
  · rintro ⟨k, hk, rfl⟩
    have := List.mem_range.mp hk
    omega
  · rintro ⟨h1, h2⟩
    exact ⟨(v - l).toNat, List.mem_range.mpr (by omega), by omega⟩
theorem flat_len {α β : Type} {f : α → List β} {n : Nat} : ∀ {as : List α}, (∀ a ∈ as, (f a).length = n) → (as.flatMap f).length = as.length * n
  | [], _ => by simp
  | a :: as, h => by
    rw [List.flatMap_cons, List.length_append, h a List.mem_cons_self, flat_len fun x m => h x (List.mem_cons_of_mem _ m), List.length_cons, Nat.succ_mul]
    omega
theorem spots_len : ∀ ls hs : List Int, (spots ls hs).length = cnt ls hs
  | [], [] => rfl
  | [], _ :: _ => rfl
  | _ :: _, [] => rfl
  | l :: ls, h :: hs => by
    show ((upTo l h).flatMap fun v => (spots ls hs).map (v :: ·)).length = (h - l).toNat * cnt ls hs
    rw [flat_len (n := cnt ls hs) fun v _ => by rw [List.length_map, spots_len], upTo_len]
theorem spots_snoc : ∀ {ls hs : List Int}, ls.length = hs.length → ∀ l h, spots (ls ++ [l]) (hs ++ [h]) = (spots ls hs).flatMap fun p => (upTo l h).map fun v => p ++ [v]
  | [], [], _, l, h => by
    show ((upTo l h).flatMap fun v => (spots [] []).map (v :: ·)) = ([[]] : List (List Int)).flatMap _
    have e : (fun v : Int => (spots [] []).map (v :: ·)) = fun v => [[v]] := rfl
    rw [e, List.flatMap_singleton]
    show (upTo l h).flatMap (fun v => [[v]]) = (upTo l h).map fun v => [] ++ [v]
    rw [← List.map_eq_flatMap]
    rfl
  | a :: ls, b :: hs, e, l, h => by
    show ((upTo a b).flatMap fun v => (spots (ls ++ [l]) (hs ++ [h])).map (v :: ·)) = ((upTo a b).flatMap fun v => (spots ls hs).map (v :: ·)).flatMap _
    rw [List.flatMap_assoc]
    congr 1
    funext v
    rw [spots_snoc (by simpa using e), List.map_flatMap, List.flatMap_map]
    congr 1
    funext p
    rw [List.map_map]
    rfl
  | [], _ :: _, e, _, _ => by cases e
  | _ :: _, [], e, _, _ => by cases e
theorem mem_spots : ∀ {ls hs p : List Int}, ls.length = hs.length → (p ∈ spots ls hs ↔ Within ls hs p)
  | [], [], p, _ => by
    show p ∈ [[]] ↔ _
    constructor
    · intro m
      rw [List.mem_singleton.mp m]
      exact .nil
    · intro m
      cases m
      exact List.mem_singleton.mpr rfl
  | l :: ls, h :: hs, p, e => by
    show p ∈ ((upTo l h).flatMap fun v => (spots ls hs).map (v :: ·)) ↔ _
    constructor
    · intro m
      obtain ⟨v, hv, m⟩ := List.mem_flatMap.mp m
      obtain ⟨q, hq, rfl⟩ := List.mem_map.mp m
      have := upTo_mem.mp hv
      exact .cons this.1 this.2 ((mem_spots (by simpa using e)).mp hq)
    · intro m
      cases m with
      | cons a b r => exact List.mem_flatMap.mpr ⟨_, upTo_mem.mpr ⟨a, b⟩, List.mem_map.mpr ⟨_, (mem_spots (by simpa using e)).mpr r, rfl⟩⟩
  | [], _ :: _, _, e => by cases e
  | _ :: _, [], _, e => by cases e
/-- all ranges hold something -/
def Full : List Int → List Int → Prop
  | l :: ls, h :: hs => l < h ∧ Full ls hs
  | [], [] => True
  | _, _ => False
theorem Full.len : ∀ {ls hs : List Int}, Full ls hs → ls.length = hs.length
  | [], [], _ => rfl
  | _ :: _, _ :: _, h => by rw [List.length_cons, List.length_cons, h.2.len]
  | [], _ :: _, h => h.elim
  | _ :: _, [], h => h.elim
theorem cnt_pos : ∀ {ls hs : List Int}, Full ls hs → 1 ≤ cnt ls hs
  | [], [], _ => Nat.le_refl _
  | l :: ls, h :: hs, f => by
    have a := cnt_pos f.2
    have b := f.1
    show 1 ≤ (h - l).toNat * cnt ls hs
    have : 1 ≤ (h - l).toNat := by omega
    exact Nat.mul_le_mul this a
  | [], _ :: _, h => h.elim
  | _ :: _, [], h => h.elim
theorem cnt_take : ∀ {ls hs : List Int} (k : Nat), Full ls hs → cnt (ls.take k) (hs.take k) ≤ cnt ls hs
  | [], [], k, _ => by rw [List.take_nil]; exact Nat.le_refl _
  | l :: ls, h :: hs, 0, f => cnt_pos f
  | l :: ls, h :: hs, k + 1, f => Nat.mul_le_mul (Nat.le_refl _) (cnt_take k f.2)
  | [], _ :: _, _, h => h.elim
  | _ :: _, [], _, h => h.elim
/-- a point as a tuple of ours -/
def ptRel (H : Hp) (v : V) (p : List Int) : Prop := ∃ t, v = .ref t ∧ H t = some (.tup (p.map V.int))
theorem ptRel.nl {H H' : Hp} {v : V} {p : List Int} (k : NL H H') (h : ptRel H v p) : ptRel H' v p := by
  obtain ⟨t, e, h⟩ := h
  exact ⟨t, e, k.tup h⟩
/-- a list of points -/
def SpotsAt (H : Hp) (l : Addr) (ps : List (List Int)) : Prop := ∃ vs, H l = some (.lst vs) ∧ Paired (ptRel H) vs ps
theorem SpotsAt.same {H H' : Hp} {l : Addr} {ps : List (List Int)} (h : SpotsAt H l ps) (s : L2.Same H H') : SpotsAt H' l ps := by
  obtain ⟨vs, h1, h2⟩ := h
  exact ⟨vs, s _ _ h1, Paired.mapP h2 fun _ _ z => z.nl (NL.same s)⟩
/-- a couple of numbers -/
def prRel (H : Hp) (v : V) (r : Int × Int) : Prop := ∃ t, v = .ref t ∧ H t = some (.tup [.int r.1, .int r.2])
theorem prRel.nl {H H' : Hp} {v : V} {r : Int × Int} (k : NL H H') (h : prRel H v r) : prRel H' v r := by
  obtain ⟨t, e, h⟩ := h
  exact ⟨t, e, k.tup h⟩
/-- the bag is a list: all but the lists stands -/
theorem kb_nl {b c : Addr} {n : Int} {H H' : Hp} (k : Kb b H H') (B : BagAt H b c n) : NL H H' := fun a o no _ e => by
  by_cases z : a = b
  · obtain ⟨ns, p, r, q, m, h1, _⟩ := B
    rw [z, h1] at e
    exact absurd (Option.some.inj e).symm (no _)
  · exact k a o z e
/-- a list of ours that was not there is written -/
theorem kb_put {b D : Addr} {H H1 H2 : Hp} (k : Kb b H H1) (nD : H D = none) (u : ∀ a o, a ≠ D → H1 a = some o → H2 a = some o) : Kb b H H2 := fun a o na e => u a o (ne_of_none e nD) (k a o na e)
theorem bag_but {b c D : Addr} {n : Int} {H1 H2 : Hp} (B : BagAt H1 b c n) (bD : D ≠ b) (cD : D ≠ c) (u : ∀ a o, a ≠ D → H1 a = some o → H2 a = some o) : BagAt H2 b c n := by
  obtain ⟨ns, p, r, q, m, h1, h2, h3⟩ := B
  exact ⟨ns, p, r, q, m, u _ _ bD.symm h1, u _ _ cD.symm h2, h3⟩
theorem paired_app {α β : Type} {R : α → β → Prop} {as as' : List α} {bs bs' : List β} (h : Paired R as bs) (h' : Paired R as' bs') : Paired R (as ++ as') (bs ++ bs') := by
  induction h with
  | nil => exact h'
  | cons a _ ih => exact .cons a ih
theorem paired_at {α β : Type} {R : α → β → Prop} : ∀ {as : List α} {bs : List β}, Paired R as bs → ∀ (i : Nat) (hi : i < bs.length), ∃ a, as[i]? = some a ∧ R a bs[i]
  | _, _, .nil, i, hi => absurd hi (Nat.not_lt_zero _)
  | _, _, .cons x r, 0, hi => ⟨_, rfl, x⟩
  | _, _, .cons x r, i + 1, hi => paired_at r i (by rw [List.length_cons] at hi; omega)
theorem paired_idx {α β : Type} {R : α → β → Prop} : ∀ {as : List α} {bs : List β}, as.length = bs.length → (∀ (i : Nat) (a : α) (b : β), as[i]? = some a → bs[i]? = some b → R a b) → Paired R as bs
  | [], [], _, _ => .nil
  | a :: as, b :: bs, e, h => .cons (h 0 a b rfl rfl) (paired_idx (by simpa using e) fun i x y h1 h2 => h (i + 1) x y h1 h2)
  | [], _ :: _, e, _ => by cases e
  | _ :: _, [], e, _ => by cases e
end Q

set_option maxRecDepth 100000
set_option maxHeartbeats 4000000
namespace K00
open PySem PySem.Spec PyProof.Rows L2 Q RZ
section
variable {P : Program} {w : World} {K : PySem.W.Frag} {mg : Str → Option Value} {base : Heap} {f : Addr} {fd : FuncData}
theorem PairsAt.paired {H : Hp} {l : Addr} {rs : List (Int × Int)} (h : PairsAt H l rs) : ∃ vs, H l = some (.lst vs) ∧ Paired (prRel H) vs rs := by
  obtain ⟨ts, h1, h2, h3⟩ := h
  refine ⟨_, h1, paired_idx (by rw [List.length_map, h2]) fun i a b e1 e2 => ?_⟩
  rw [List.getElem?_map] at e1
  obtain ⟨t, e3, rfl⟩ := Option.map_eq_some_iff.mp e1
  exact ⟨t, rfl, h3 i t b e3 e2⟩
theorem pairsAt_of {H : Hp} {l : Addr} {vs : List V} {rs : List (Int × Int)} (h : H l = some (.lst vs)) (p : Paired (prRel H) vs rs) : PairsAt H l rs := by
  have key : ∀ {vs : List V} {rs : List (Int × Int)}, Paired (prRel H) vs rs → ∃ ts : List Addr, vs = ts.map V.ref ∧ ts.length = rs.length ∧ ∀ (i : Nat) (t : Addr) (r : Int × Int), ts[i]? = some t → rs[i]? = some r → H t = some (.tup [.int r.1, .int r.2]) := fun p => by
    induction p with
    | nil => exact ⟨[], rfl, rfl, fun i t r e => by simp at e⟩
    | cons a _ ih =>
      obtain ⟨ts, e1, e2, e3⟩ := ih
      obtain ⟨t, rfl, h⟩ := a
      refine ⟨t :: ts, by rw [e1]; rfl, by rw [List.length_cons, List.length_cons, e2], fun i t' r q1 q2 => ?_⟩
      cases i with
      | zero => cases q1; cases q2; exact h
      | succ i => exact e3 i t' r q1 q2
  obtain ⟨ts, e1, e2, e3⟩ := key p
  exact ⟨ts, by rw [h, e1], e2, e3⟩
abbrev los (rs : List (Int × Int)) : List Int := rs.map (·.1)
abbrev his (rs : List (Int × Int)) : List Int := rs.map (·.2)
theorem full_of : ∀ {rs : List (Int × Int)}, (∀ r ∈ rs, r.1 < r.2) → Full (los rs) (his rs)
  | [], _ => trivial
  | r :: rs, h => ⟨h r List.mem_cons_self, full_of fun x m => h x (List.mem_cons_of_mem _ m)⟩
/-- _law_spots -/
def spSpots : Sp := fun vs H Q _ => ∃ (l : Addr) (rs : List (Int × Int)), vs = [.ref l] ∧ PairsAt H l rs ∧ cnt (los rs) (his rs) ≤ 10000 ∧ (∀ r ∈ rs, -1000 ≤ r.1 ∧ r.1 < r.2 ∧ r.2 ≤ 1000) ∧ rs.length ≤ 1000 ∧ ∀ p H', L2.Same H H' → SpotsAt H' p (spots (los rs) (his rs)) → Q (.ref p) H'
theorem C__law_spots (T : Tx K mg) : Cal P w K mg base CX0 1 "_law_spots" ["ranges"] [] spSpots := by
  obtain ⟨fd, F⟩ := T.d__law_spots
  refine ⟨_, fd, [], F.ok sc__law_spots (fun vs H Q E h => ?_) (fun cdv A outer s H vs Q E hr h => ?_), T.g__law_spots, F.kp, F.bindsN fun _ _ _ _ _ _ us hl => match us, hl with | [_], _ => rfl, .nil⟩
  · obtain ⟨l, rs, rfl, _⟩ := h
    rfl
  · obtain ⟨l, rs, rfl, pa, hc, bd, len, kQ⟩ := h
    have fu := full_of fun r m => (bd r m).2.1
    refine ⟨_, PSs.nox (pss_cons (ps_set (i := 1) sc__law_spots.nd rfl (Or.inl rfl) (pe_lst (pa_cons (pe_tup pa_nil) pa_nil)))
      (pss_cons (ps_for PassesOwn.never rfl (pi_list (pv 0)) (pg_tup rfl (pgs_cons (pg_name (i := 2) sc__law_spots.nd rfl (Or.inl rfl)) (pgs_cons (pg_name (i := 3) sc__law_spots.nd rfl (Or.inl rfl)) pgs_nil)))
        (pss_cons (ps_set (i := 4) sc__law_spots.nd rfl (Or.inl rfl) (pe_lst pa_nil))
        (pss_cons (ps_for PassesOwn.never rfl (pi_list (pe_callTy call_list_of (by rfl) T.n_list (by decide +kernel) (pa_cons (pv 1) pa_nil))) (pg_name (i := 5) sc__law_spots.nd rfl (Or.inr rfl))
          (pss_one (ps_set (i := 4) sc__law_spots.nd rfl (Or.inl rfl) (pe_op op_cat (pv 4) (pe_lc (own := [("value", 6)]) (g := gName 6) (tt := tYes) (by rfl) sc__law_spots.nd (pi_range2 (by rfl) T.n_range (pa_cons (pv 2) (pa_cons (pv 3) pa_nil))) (blkOk_by (N := ["ranges", "spots", "low", "high", "longer", "spot", "value"]) (sc := defScope s__law_spots) (by decide +kernel)) (fun _ _ _ _ _ => (pg_name (i := 6) sc__law_spots.nd rfl (Or.inl rfl))) (fun _ _ _ _ _ => pts_nil) (fun _ _ _ _ _ => (pe_op op_catAB (pv 5) (pe_tup (pa_cons (pv 6) pa_nil)))))))))
        (pss_one (ps_set (i := 1) sc__law_spots.nd rfl (Or.inl rfl) (pv 4))))))
      (pss_one (ps_ret (pv 1))))), ?_⟩
    have zl : 20000 < sizeLine := by decide
    obtain ⟨vs, hl, hp⟩ := pa.paired
    refine ⟨Nat.zero_le _, fun t0 n0 => ?_⟩
    generalize hq_ : L2.upd H t0 _ = Ha
    obtain ⟨s1, e1⟩ := _root_.Q.nwS n0 hq_
    clear hq_
    refine ⟨(by show 1 ≤ sizeLine; decide), fun D0 n1 => ?_⟩
    generalize hq_ : L2.upd Ha D0 _ = Hb
    obtain ⟨s2, e2⟩ := _root_.Q.nwS n1 hq_
    clear hq_
    have sb := s1.trans s2
    refine ⟨_, rfl, l, rfl, ⟨_, SqL.of (sb _ _ hl)⟩, ?_⟩
    refine for_list (xs := vs) (fun i σ H' => (∃ D v2 v3 v4 v5, σ = [some (.ref l), some (.ref D), v2, v3, v4, v5, none] ∧ SpotsAt H' D (spots ((los rs).take i) ((his rs).take i))) ∧ L2.Same H H') ⟨⟨D0, none, none, none, none, rfl, [.ref t0], e2, .cons ⟨t0, rfl, s2 _ _ e1⟩ .nil⟩, sb⟩ (fun i σ H' _ q => SqL.of (q.2 _ _ hl)) ?_ ?_
    · rintro i x σ H' e ⟨⟨D, v2, v3, v4, v5, rfl, ws, hD, hW⟩, sm⟩
      have hi : i < rs.length := by
        have := (List.getElem?_eq_some_iff.mp e).1
        have := paired_len hp
        omega
      obtain ⟨x', ex, t, rfl, ht⟩ := paired_at hp i hi
      rw [e] at ex
      cases ex
      have i1 : i < (los rs).length := by ((try simp only [List.length_map, List.length_take, List.length_drop, List.length_append, List.length_cons, List.length_nil, List.length_zipWith, List.length_set, List.length_replicate, List.length_range]) <;> omega)
      have i2 : i < (his rs).length := by ((try simp only [List.length_map, List.length_take, List.length_drop, List.length_append, List.length_cons, List.length_nil, List.length_zipWith, List.length_set, List.length_replicate, List.length_range]) <;> omega)
      have ft := spots_snoc (ls := (los rs).take i) (hs := (his rs).take i) (by ((try simp only [List.length_map, List.length_take, List.length_drop, List.length_append, List.length_cons, List.length_nil, List.length_zipWith, List.length_set, List.length_replicate, List.length_range]) <;> omega)) rs[i].1 rs[i].2
      have t1 : (los rs).take i ++ [rs[i].1] = (los rs).take (i + 1) := by
        rw [List.take_succ_eq_append_getElem i1, List.getElem_map]
      have t2 : (his rs).take i ++ [rs[i].2] = (his rs).take (i + 1) := by
        rw [List.take_succ_eq_append_getElem i2, List.getElem_map]
      rw [t1, t2] at ft
      have ct := cnt_take (i + 1) fu
      rw [← spots_len, ft, flat_len (n := (rs[i].2 - rs[i].1).toNat) fun a _ => by rw [List.length_map, upTo_len]] at ct
      have lp : ∀ p ∈ spots ((los rs).take i) ((his rs).take i), p.length ≤ 1000 := fun p m => by
        have := ((mem_spots (by ((try simp only [List.length_map, List.length_take, List.length_drop, List.length_append, List.length_cons, List.length_nil, List.length_zipWith, List.length_set, List.length_replicate, List.length_range]) <;> omega))).mp m).length.2
        rw [this]
        ((try simp only [List.length_map, List.length_take, List.length_drop, List.length_append, List.length_cons, List.length_nil, List.length_zipWith, List.length_set, List.length_replicate, List.length_range]) <;> omega)
      generalize hps : spots ((los rs).take i) ((his rs).take i) = ps at hW ft ct lp
      have bi := bd _ (List.getElem_mem hi)
      refine ⟨t, _, rfl, SqT.of (sm _ _ ht), rfl, _, _, rfl, _, _, rfl, rfl, ?_⟩
      refine ⟨Nat.zero_le _, fun E0 m0 => ?_⟩
      generalize hq_ : L2.upd H' E0 _ = Hc
      obtain ⟨s3, e3⟩ := _root_.Q.nwS m0 hq_
      clear hq_
      refine ⟨_, rfl, D, _, rfl, .inl (SqL.of (s3 _ _ hD)), fun C m1 => ?_⟩
      generalize hq_ : L2.upd Hc C _ = Hd
      obtain ⟨s4, e4⟩ := _root_.Q.nwS m1 hq_
      clear hq_
      have sd := s3.trans s4
      refine ⟨_, rfl, ⟨_, SqL.of e4⟩, ?_⟩
      have lW := paired_len hW
      generalize hlo : rs[i].1 = lo at ft bi ct ht s2
      generalize hhi : rs[i].2 = hi' at ft bi ct ht
      refine for_list (xs := ws) (fun j σ H' => (∃ E us v5, σ = [some (.ref l), some (.ref D), some (.int lo), some (.int hi'), some (.ref E), v5, none] ∧ H' E = some (.lst us) ∧ Paired (ptRel H') us ((ps.take j).flatMap fun p => (_root_.Q.upTo lo hi').map fun v => p ++ [v])) ∧ L2.Same Hd H') ⟨⟨E0, [], _, rfl, s4 _ _ e3, .nil⟩, Same.refl _⟩ (fun i σ H' _ q => SqL.of (q.2 _ _ e4)) ?_ ?_
      · rintro j x σ H2 ex ⟨⟨E, us, v5, rfl, hE, hU⟩, sm2⟩
        have hj : j < ps.length := by
          have := (List.getElem?_eq_some_iff.mp ex).1
          omega
        obtain ⟨x', ex', tp, rfl, htp⟩ := paired_at (Paired.mapP hW fun _ _ z => z.nl (NL.same (sd.trans sm2))) j hj
        rw [ex] at ex'
        cases ex'
        refine ⟨_, rfl, _, rfl, _, rfl, lo, hi', rfl, ⟨by omega, by omega, by omega, by omega⟩, fun F nF => ?_⟩
        have nn : (hi' - lo).toNat < sizeLine := by omega
        refine lc_rng (f := fun k => ps[j] ++ [lo + (k : Int)]) (p := fun _ => true) (R := ptRel) (fun _ _ _ _ k z => z.nl k) nF nn (fun k H3 R' N hk s3 k1 _ => ?_) fun H3 ys s3 hF hY => ?_
        · refine ⟨rfl, _, rfl, _, rfl, (by show 1 ≤ sizeLine; decide), fun q nq => ?_⟩
          generalize hq_ : L2.upd H3 q _ = H4
          obtain ⟨s5, e5⟩ := _root_.Q.nwS nq hq_
          clear hq_
          have h1 := s5 _ _ (s3 _ _ htp)
          refine ⟨tp, q, _, _, rfl, rfl, SqT.of h1, SqT.of e5, ?_, fun e => ?_, fun _ e => ?_, fun _ _ r nr => ?_⟩
          · show (ps[j].map V.int).length + 1 ≤ sizeLine
            have := lp _ (List.getElem_mem hj)
            rw [List.length_map]
            omega
          · refine k1 rfl _ _ s5 ⟨q, rfl, ?_⟩
            have : ps[j] = [] := by simpa using e
            rw [this]
            exact e5
          · cases e
          · generalize hq_ : L2.upd H4 r _ = H5
            obtain ⟨s6, e6⟩ := _root_.Q.nwS nr hq_
            clear hq_
            exact k1 rfl _ _ (s5.trans s6) ⟨r, rfl, by rw [e6, List.map_append]; rfl⟩
        · have ef : (List.range (hi' - lo).toNat).filter (fun _ => true) = List.range (hi' - lo).toNat := List.filter_eq_self.mpr fun _ _ => rfl
          rw [ef] at hY
          have lY := paired_len hY
          have lU := paired_len hU
          rw [flat_len (n := (hi' - lo).toNat) fun a _ => by rw [List.length_map, upTo_len], List.length_take, Nat.min_eq_left (by omega)] at lU
          rw [List.length_map, List.length_range] at lY
          have lt : j * (hi' - lo).toNat + (hi' - lo).toNat ≤ ps.length * (hi' - lo).toNat := by
            rw [← Nat.succ_mul]
            exact Nat.mul_le_mul_right _ hj
          refine ⟨E, F, _, _, rfl, rfl, s3 _ _ hE, hF, by omega, fun G nG => ?_⟩
          generalize hq_ : L2.upd H3 G _ = H4
          obtain ⟨s4', e5⟩ := _root_.Q.nwS nG hq_
          clear hq_
          refine ⟨⟨G, _, _, rfl, e5, ?_⟩, (sm2.trans s3).trans s4'⟩
          rw [List.take_succ_eq_append_getElem hj, List.flatMap_append]
          refine paired_app (Paired.mapP hU fun _ _ z => z.nl (NL.same (s3.trans s4'))) ?_
          have : [ps[j]].flatMap (fun p => (_root_.Q.upTo lo hi').map fun v => p ++ [v]) = (List.range (hi' - lo).toNat).map fun (k : Nat) => ps[j] ++ [lo + (k : Int)] := by
            unfold _root_.Q.upTo
            simp
          rw [this]
          exact Paired.mapP hY fun _ _ z => z.nl (NL.same s4')
      · rintro σ H2 ⟨⟨E, us, v5, rfl, hE, hU⟩, sm2⟩
        rw [lW, List.take_length, ← ft] at hU
        exact ⟨_, rfl, ⟨E, _, _, _, _, rfl, us, hE, hU⟩, (sm.trans sd).trans sm2⟩
    · rintro σ H' ⟨⟨D, v2, v3, v4, v5, rfl, hD⟩, sm⟩
      rw [List.take_of_length_le (by have := paired_len hp; ((try simp only [List.length_map, List.length_take, List.length_drop, List.length_append, List.length_cons, List.length_nil, List.length_zipWith, List.length_set, List.length_replicate, List.length_range]) <;> omega)), List.take_of_length_le (by have := paired_len hp; ((try simp only [List.length_map, List.length_take, List.length_drop, List.length_append, List.length_cons, List.length_nil, List.length_zipWith, List.length_set, List.length_replicate, List.length_range]) <;> omega))] at hD
      exact ⟨_, rfl, kQ D H' sm hD⟩

end
end K00

set_option maxRecDepth 100000
set_option maxHeartbeats 4000000
namespace K00
open PySem PySem.Spec PyProof.Rows L2 Q RZ
section
variable {P : Program} {w : World} {K : PySem.W.Frag} {mg : Str → Option Value} {base : Heap} {f : Addr} {fd : FuncData}
theorem boxSize_cons (l h : Int) (ls hs : List Int) : ∀ n, boxSize (l :: ls) (h :: hs) (n + 1) = (h - l) * boxSize ls hs n
  | 0 => by
    show (1 : Int) * (h - l) = (h - l) * 1
    omega
  | n + 1 => by
    show boxSize (l :: ls) (h :: hs) (n + 1) * ((h :: hs).getD (n + 1) 0 - (l :: ls).getD (n + 1) 0) = (h - l) * (boxSize ls hs n * (hs.getD n 0 - ls.getD n 0))
    rw [boxSize_cons l h ls hs n, Int.mul_assoc]
    rfl
theorem boxSize_cnt : ∀ {ls hs : List Int}, Full ls hs → boxSize ls hs ls.length = (cnt ls hs : Int)
  | [], [], _ => rfl
  | l :: ls, h :: hs, f => by
    show boxSize (l :: ls) (h :: hs) (ls.length + 1) = (((h - l).toNat * cnt ls hs : Nat) : Int)
    rw [boxSize_cons, boxSize_cnt f.2, Int.natCast_mul, Int.toNat_of_nonneg (by have := f.1; omega)]
  | [], _ :: _, h => h.elim
  | _ :: _, [], h => h.elim
theorem rgs_full : ∀ {ls hs : List Int}, Rgs ls hs → Full ls hs
  | [], [], _ => trivial
  | _ :: _, _ :: _, r => ⟨r.2.1, rgs_full r.2.2.2⟩
  | [], _ :: _, h => h.elim
  | _ :: _, [], h => h.elim
theorem rgs_all : ∀ {rs : List (Int × Int)}, Rgs (los rs) (his rs) → ∀ r ∈ rs, 0 ≤ r.1 ∧ r.1 < r.2 ∧ r.2 ≤ 64
  | r :: rs, h, x, m => by
    rcases List.mem_cons.mp m with e | m
    · rw [e]
      exact ⟨h.1, h.2.1, h.2.2.1⟩
    · exact rgs_all h.2.2.2 x m
theorem sqt_tuple {K : PySem.W.Frag} {H : Hp} {p tl th : Addr} {l h : List Int} (hp : SqT K H p [.ref tl, .ref th]) (h1 : SqT K H tl (l.map V.int)) (h2 : SqT K H th (h.map V.int)) : Dp K H (.ref p) (cutD (l, h)) := .tup hp (.cons (dp_ints h1) (.cons (dp_ints h2) .nil))
theorem cutD_eqv (c : List Int × List Int) : PyData.eqv (cutD c) (cutD c) = true := by
  unfold cutD
  simp [PyData.eqv, PyData.eqvAll, eqvAll_ints]
theorem cutD_shaped (c : List Int × List Int) : SeqAt.shaped (cutD c) = true := by
  show (PyData.canLayAll0 [.tuple (c.1.map PyData.int), .tuple (c.2.map PyData.int)] && decide (PyData.depthAll [.tuple (c.1.map PyData.int), .tuple (c.2.map PyData.int)] + 1 ≤ 64)) = true
  have e : ∀ ns : List Int, PyData.canLay0 (.tuple (ns.map PyData.int)) = true := fun ns => by
    have := lay_ints ns
    simp only [PyData.canLay0, this]
  have d : ∀ ns : List Int, PyData.depth (.tuple (ns.map PyData.int)) = 1 := fun ns => by
    show PyData.depthAll (ns.map PyData.int) + 1 = 1
    rw [Q.depth_ints]
  simp [PyData.canLayAll0, PyData.depthAll, e, d]
/-- _law_is_box of a right box -/
def spIsBox (K : PySem.W.Frag) : Sp := fun vs H Q _ => ∃ (y l : Addr) (rs : List (Int × Int)), vs = [.ref y, .ref l] ∧ BoxAt K H y (los rs) (his rs) ∧ PairsAt H l rs ∧ Rgs (los rs) (his rs) ∧ rs.length ≤ 5 ∧ cnt (los rs) (his rs) ≤ 10000 ∧ ∀ H', L2.Same H H' → Q (.bl true) H'
theorem C__law_is_box (T : Tx K mg) : Cal P w K mg base CX0 6 "_law_is_box" ["made", "ranges"] [] (spIsBox K) := by
  obtain ⟨fd, F⟩ := T.d__law_is_box
  obtain ⟨fdE, E_Box, bE_Box⟩ := ok_boxeq (P := P) (w := w) (base := base) T
  obtain ⟨fdT, G_told, b_told⟩ := ok_oftold (P := P) (w := w) (base := base) T
  have M_Box_of_told := G_told.raw b_told .nil
  have C__law_box := C__law_box (P := P) (w := w) (base := base) T
  have C__law_spots := C__law_spots (P := P) (w := w) (base := base) T
  refine ⟨_, fd, [], F.ok sc__law_is_box (fun vs H Q E h => ?_) (fun cdv A outer s H vs Q E hr h => ?_), T.g__law_is_box, F.kp, F.bindsN fun _ _ _ _ _ _ us hl => match us, hl with | [_, _], _ => rfl, .nil⟩
  · obtain ⟨y, l, rs, rfl, _⟩ := h
    rfl
  · obtain ⟨y, l, rs, rfl, bx, pa, rg, len, hc, kQ⟩ := h
    obtain ⟨dy, tl, th, tt, fs, g1, g2, g3, g4, g5, g6, g7, g8, g9⟩ := id bx
    refine ⟨_, PSs.nox (pss_cons (ps_if (PW.pt (pw_or (pt_not (pt_val (pe_callB call_isi (by rfl) T.n_isinstance (by decide +kernel) (pa_cons (pv 0) (pa_cons (pe_glob (v := .ref (He.ga K "Box")) rfl T.g_Box rfl) pa_nil))))) (pw_or1 (pt_cmpR (op_neO E_Box (hr.mono (by decide)) T.eq_Box.eq T.eq_Box.ne T.eq_Box.ob T.eq_Box.fn bE_Box passX) (pv 0) (pe_cal C__law_box (hr.mono (by decide)) passX (pa_cons (pv 1) pa_nil)) (nomark _)))))
        (pss_one (ps_ret pe_bl))
        pss_nil)
      (pss_cons (ps_set (i := 3) sc__law_is_box.nd rfl (Or.inl rfl) (pe_callTy call_tupOf (by rfl) T.n_tuple (by decide +kernel) (pa_cons (pe_lc (own := [("pair", 2)]) (g := gName 2) (tt := tYes) (by rfl) sc__law_is_box.nd (pi_list (pv 1)) (blkOk_by (N := ["made", "ranges", "pair", "lows", "highs"]) (sc := defScope s__law_is_box) (by decide +kernel)) (fun _ _ _ _ _ => (pg_name (i := 2) sc__law_is_box.nd rfl (Or.inl rfl))) (fun _ _ _ _ _ => pts_nil) (fun _ _ _ _ _ => (pe_ix ix_tupB (pv 2) pe_int (fun _ _ => rfl)))) pa_nil)))
      (pss_cons (ps_set (i := 4) sc__law_is_box.nd rfl (Or.inl rfl) (pe_callTy call_tupOf (by rfl) T.n_tuple (by decide +kernel) (pa_cons (pe_lc (own := [("pair", 2)]) (g := gName 2) (tt := tYes) (by rfl) sc__law_is_box.nd (pi_list (pv 1)) (blkOk_by (N := ["made", "ranges", "pair", "lows", "highs"]) (sc := defScope s__law_is_box) (by decide +kernel)) (fun _ _ _ _ _ => (pg_name (i := 2) sc__law_is_box.nd rfl (Or.inl rfl))) (fun _ _ _ _ _ => pts_nil) (fun _ _ _ _ _ => (pe_ix ix_tupB (pv 2) pe_int (fun _ _ => rfl)))) pa_nil)))
      (pss_cons (ps_if (PW.pt (pw_or (pt_cmpR (op_neD hr.units) (pe_fld (pv 0) rfl) (pv 3) (nomark _)) (pw_or (pt_cmpR (op_neD hr.units) (pe_fld (pv 0) rfl) (pv 4) (nomark _)) (pw_or1 (pt_cmpR (op_neD hr.units) (pe_fld (pv 0) rfl) (pe_tup (pa_cons (pv 3) (pa_cons (pv 4) pa_nil))) (nomark _))))))
        (pss_one (ps_ret pe_bl))
        pss_nil)
      (pss_one (ps_ret (pe_and (pe_cmpR (op_eqO E_Box (hr.mono (by decide)) T.eq_Box.eq T.eq_Box.fn bE_Box passX) (ClX.pe_cmeth (pe_glob (v := .ref (He.ga K "Box")) rfl T.g_Box rfl) T.cr_Box T.cm_Box_of_told M_Box_of_told (hr.mono (by decide)) passX (pa_cons (pe_fld (pv 0) rfl) pa_nil)) (pv 0) (nomark _)) (pe_one (pe_cmpR op_eq (pe_fld (pv 0) rfl) (pe_callB call_len_seq (by rfl) T.n_len (by decide +kernel) (pa_cons (pe_cal C__law_spots (hr.mono (by decide)) pass0 (pa_cons (pv 1) pa_nil)) pa_nil)) (nomark _)))))))))), ?_⟩
    refine ⟨_, rfl, _, _, _, _, _, rfl, .own _, T.is_Box.ty T.cls_Box g1, T.kit_Box_Box, _, rfl, iteF ?_⟩
    refine ⟨_, rfl, _, rfl, l, rs, rfl, pa, len, rg, fun y2 H1 s1 bx2 => ?_⟩
    have bx1 := bx.nl (NL.same s1)
    obtain ⟨dy', _, _, _, fs', k1, _⟩ := id bx2
    obtain ⟨dy'', _, _, _, fs'', k2, _⟩ := id bx1
    refine ⟨y, y2, _, _, _, _, rfl, rfl, k2, k1, y, y2, _, _, _, _, rfl, bx1, bx2, fun H2 s2 => ⟨_, rfl, _, rfl, ?_⟩⟩
    rw [decide_eq_true rfl, decide_eq_true rfl]
    refine iteF ?_
    have s12 := s1.trans s2
    obtain ⟨vs, hl, hp⟩ := pa.paired
    refine ⟨_, rfl, l, rfl, ⟨_, SqL.of (s12 _ _ hl)⟩, fun D nD => ?_⟩
    have len2 : rs.length < sizeLine := small1000 (by omega)
    refine lc_each (S := prRel) (f := fun r : Int × Int => r.1) (R := fun _ v c => v = .int c) (fun _ _ _ _ _ z => z) (fun _ _ _ _ k z => z.nl k) nD (SqL.of (s12 _ _ hl)) (Paired.mapP hp fun _ _ z => z.nl (NL.same s12)) len2 (fun x c H3 R' N s3 ⟨t, e, ht⟩ q => ?_) fun H3 ys s3 hD pD => ?_
    · subst e
      exact ⟨rfl, _, rfl, t, _, _, _, rfl, rfl, SqT.of ht, rfl, q _ _ (Same.refl _) rfl⟩
    have ivs : ∀ {as : List V} {bs : List Int}, Paired (fun v (c : Int) => v = .int c) as bs → as = bs.map V.int := fun h => by
      induction h with
      | nil => rfl
      | cons a _ ih => rw [a, ih]; rfl
    rw [ivs pD] at hD
    refine tupL_of (SqL.of hD) fun t1 n1 => ?_
    generalize hq_ : L2.upd H3 t1 _ = H4
    obtain ⟨s4, e4⟩ := _root_.Q.nwS n1 hq_
    clear hq_
    have s14 := (s12.trans s3).trans s4
    refine ⟨_, rfl, l, rfl, ⟨_, SqL.of (s14 _ _ hl)⟩, fun D nD => ?_⟩
    refine lc_each (S := prRel) (f := fun r : Int × Int => r.2) (R := fun _ v c => v = .int c) (fun _ _ _ _ _ z => z) (fun _ _ _ _ k z => z.nl k) nD (SqL.of (s14 _ _ hl)) (Paired.mapP hp fun _ _ z => z.nl (NL.same s14)) len2 (fun x c H3 R' N s3 ⟨t, e, ht⟩ q => ?_) fun H5 ys s5 hD pD => ?_
    · subst e
      exact ⟨rfl, _, rfl, t, _, _, _, rfl, rfl, SqT.of ht, rfl, q _ _ (Same.refl _) rfl⟩
    rw [ivs pD] at hD
    refine tupL_of (SqL.of hD) fun t2 n2 => ?_
    generalize hq_ : L2.upd H5 t2 _ = H6
    obtain ⟨s6, e6⟩ := _root_.Q.nwS n2 hq_
    clear hq_
    have s16 := (s14.trans s5).trans s6
    have q1 := SqT.of (K := K) ((s5.trans s6) _ _ e4)
    have q2 := SqT.of (K := K) e6
    refine ⟨_, rfl, y, _, dy, _, _, rfl, s16 _ _ g1, T.cls_Box, T.noat_Box_lows, g3, _, rfl, _, _, dp_ints (sqT_same s16 g7), dp_ints q1, shaped_ints _, shaped_ints _, _, rfl, ?_⟩
    rw [eqv_ints, decide_eq_true rfl]
    refine iteF ?_
    refine ⟨_, rfl, y, _, dy, _, _, rfl, s16 _ _ g1, T.cls_Box, T.noat_Box_highs, g4, _, rfl, _, _, dp_ints (sqT_same s16 g8), dp_ints q2, shaped_ints _, shaped_ints _, _, rfl, ?_⟩
    rw [eqv_ints, decide_eq_true rfl]
    refine iteF ?_
    refine ⟨_, rfl, y, _, dy, _, _, rfl, s16 _ _ g1, T.cls_Box, T.noat_Box_told, g5, _, rfl, _, rfl, (by show 2 ≤ sizeLine; decide), fun t3 n3 => ?_⟩
    generalize hq_ : L2.upd H6 t3 _ = H7
    obtain ⟨s7, e7⟩ := _root_.Q.nwS n3 hq_
    clear hq_
    have s17 := s16.trans s7
    refine ⟨_, _, sqt_tuple (sqT_same s17 g9) (sqT_same s17 g7) (sqT_same s17 g8), sqt_tuple (SqT.of e7) (sqT_same s7 q1) (sqT_same s7 q2), cutD_shaped _, cutD_shaped _, _, rfl, ?_⟩
    rw [cutD_eqv]
    refine iteF ?_
    refine ⟨rfl, _, rfl, y, _, dy, _, _, rfl, s17 _ _ g1, T.cls_Box, T.noat_Box_told, g5, tt, tl, th, _, _, rfl, sqT_same s17 g9, .inr (sqT_same s17 g7), .inr (sqT_same s17 g8), rg, (by ((try simp only [List.length_map, List.length_take, List.length_drop, List.length_append, List.length_cons, List.length_nil, List.length_zipWith, List.length_set, List.length_replicate, List.length_range]) <;> omega)), fun y3 H8 s8 bx3 => ?_⟩
    have s18 := s17.trans s8
    have bx4 := bx.nl (NL.same s18)
    obtain ⟨_, _, _, _, _, k3, _⟩ := id bx3
    obtain ⟨_, _, _, _, _, k4, _⟩ := id bx4
    refine ⟨_, rfl, y3, y, _, _, _, _, rfl, rfl, k3, k4, y3, y, _, _, _, _, rfl, bx3, bx4, fun H9 s9 => ⟨_, rfl, ?_⟩⟩
    rw [decide_eq_true rfl, decide_eq_true rfl]
    have s19 := s18.trans s9
    refine ⟨_, rfl, iteT ?_⟩
    refine ⟨_, rfl, y, _, dy, _, _, rfl, s19 _ _ g1, T.cls_Box, T.noat_Box_size, g6, ?_⟩
    refine ⟨_, rfl, l, rs, rfl, pa.same s19, hc, (fun r m => by have := rgs_all rg r m; omega), by omega, fun p Hx sx ps => ?_⟩
    obtain ⟨vs', hv, hq⟩ := ps
    refine ⟨_, _, rfl, .inl (SqL.of hv), rfl, ?_⟩
    have le := paired_len hq
    rw [spots_len] at le
    rw [boxSize_cnt (rgs_full rg), le, decide_eq_true rfl]
    exact kQ _ (s19.trans sx)

end
end K00

set_option maxRecDepth 100000
set_option maxHeartbeats 4000000
namespace K00
open PySem PySem.Spec PyProof.Rows L2 Q RZ
section
variable {P : Program} {w : World} {K : PySem.W.Frag} {mg : Str → Option Value} {base : Heap} {f : Addr} {fd : FuncData}
theorem commonOf_los : ∀ {xs ys : List (Int × Int)}, los (commonOf xs ys) = mxs (los xs) (los ys)
  | [], _ => rfl
  | _ :: _, [] => rfl
  | x :: xs, y :: ys => congrArg (imx x.1 y.1 :: ·) (commonOf_los (xs := xs) (ys := ys))
theorem commonOf_his : ∀ {xs ys : List (Int × Int)}, his (commonOf xs ys) = mns (his xs) (his ys)
  | [], _ => rfl
  | _ :: _, [] => rfl
  | x :: xs, y :: ys => congrArg (imn x.2 y.2 :: ·) (commonOf_his (xs := xs) (ys := ys))
theorem allLt_filter : ∀ rs : List (Int × Int), (rs.filter fun r => decide (r.1 ≥ r.2)).isEmpty = allLt (los rs) (his rs)
  | [] => rfl
  | r :: rs => by
    show _ = (decide (r.1 < r.2) && allLt (los rs) (his rs))
    rw [← allLt_filter rs]
    by_cases h : r.1 < r.2
    · rw [List.filter_cons_of_neg (by simp; omega), decide_eq_true h, Bool.true_and]
    · rw [List.filter_cons_of_pos (by simp; omega), decide_eq_false h, Bool.false_and]
      rfl
theorem cnt_common : ∀ {xs ys : List (Int × Int)}, xs.length = ys.length → cnt (los (commonOf xs ys)) (his (commonOf xs ys)) ≤ cnt (los xs) (his xs)
  | [], [], _ => Nat.le_refl _
  | x :: xs, y :: ys, e => by
    have ih := cnt_common (xs := xs) (ys := ys) (by simpa using e)
    show ((imn x.2 y.2) - (imx x.1 y.1)).toNat * cnt (los (commonOf xs ys)) (his (commonOf xs ys)) ≤ (x.2 - x.1).toNat * cnt (los xs) (his xs)
    refine Nat.mul_le_mul ?_ ih
    show ((if y.2 < x.2 then y.2 else x.2) - (if y.1 > x.1 then y.1 else x.1)).toNat ≤ _
    split <;> split <;> omega
  | [], _ :: _, e => by cases e
  | _ :: _, [], e => by cases e
theorem commonOf_len {xs ys : List (Int × Int)} (e : xs.length = ys.length) : (commonOf xs ys).length = xs.length := by
  unfold commonOf
  ((try simp only [List.length_map, List.length_take, List.length_drop, List.length_append, List.length_cons, List.length_nil, List.length_zipWith, List.length_set, List.length_replicate, List.length_range]) <;> omega)
def spMeetR : Sp := fun vs H Q _ => ∃ (a b : Addr) (xs ys : List (Int × Int)), vs = [.ref a, .ref b] ∧ PairsAt H a xs ∧ PairsAt H b ys ∧ xs.length = ys.length ∧ xs.length ≤ 5 ∧ Rgs (los xs) (his xs) ∧ Rgs (los ys) (his ys) ∧ cnt (los xs) (his xs) ≤ 10000 ∧ ∀ H', L2.Same H H' → Q (.bl true) H'
theorem C__law_meet_right (T : Tx K mg) : Cal P w K mg base CX0 7 "_law_meet_right" ["one", "other"] [] spMeetR := by
  obtain ⟨fd, F⟩ := T.d__law_meet_right
  have C__law_box := C__law_box (P := P) (w := w) (base := base) T
  have C__law_common := C__law_common (P := P) (w := w) (base := base) T
  have C_meet_boxes := C_meet_boxes (P := P) (w := w) (base := base) T
  have C__law_is_box := C__law_is_box (P := P) (w := w) (base := base) T
  refine ⟨_, fd, [], F.ok sc__law_meet_right (fun vs H Q E h => ?_) (fun cdv A outer s H vs Q E hr h => ?_), T.g__law_meet_right, F.kp, F.bindsN fun _ _ _ _ _ _ us hl => match us, hl with | [_, _], _ => rfl, .nil⟩
  · obtain ⟨a, b, xs, ys, rfl, _⟩ := h
    rfl
  · obtain ⟨a, b, xs, ys, rfl, pa, pb, el, len, r1, r2, hc, kQ⟩ := h
    refine ⟨_, PSs.nox (pss_cons (ps_set (i := 2) sc__law_meet_right.nd rfl (Or.inl rfl) (pe_cal C__law_common (hr.mono (by decide)) pass0 (pa_cons (pv 0) (pa_cons (pv 1) pa_nil))))
      (C8.pss_cut (ps_set (i := 3) sc__law_meet_right.nd rfl (Or.inl rfl) (pe_cal C_meet_boxes (hr.mono (by decide)) passX (pa_cons (pe_cal C__law_box (hr.mono (by decide)) passX (pa_cons (pv 0) pa_nil)) (pa_cons (pe_cal C__law_box (hr.mono (by decide)) passX (pa_cons (pv 1) pa_nil)) pa_nil))))
      (pss_cons (ps_if (pt_truth (pe_lc (own := [("pair", 4)]) (g := gName 4) (tt := _) (by rfl) sc__law_meet_right.nd (pi_list (pv 2)) (blkOk_by (N := ["one", "other", "due", "made", "pair"]) (sc := defScope s__law_meet_right) (by decide +kernel)) (fun _ _ _ _ _ => (pg_name (i := 4) sc__law_meet_right.nd rfl (Or.inl rfl))) (fun _ _ _ _ _ => (pts_one (pt_cmpR op_ge (pe_ix ix_tupB (pv 4) pe_int (fun _ _ => rfl)) (pe_ix ix_tupB (pv 4) pe_int (fun _ _ => rfl)) (nomark _)))) (fun _ _ _ _ _ => (pv 4))) (by intro _; rfl))
        (pss_one (ps_ret (pe_cmpR op_isN (pv 3) pe_non (nomark _))))
        pss_nil)
      (pss_one (ps_ret (pe_cal C__law_is_box (hr.mono (by decide)) pass0 (pa_cons (pv 3) (pa_cons (pv 2) pa_nil)))))))), ?_⟩
    refine ⟨_, rfl, _, rfl, a, b, xs, ys, rfl, pa, pb, el, len, fun d H1 _ s1 pd => ?_⟩
    have el2 : (los xs).length = (los ys).length := by ((try simp only [List.length_map, List.length_take, List.length_drop, List.length_append, List.length_cons, List.length_nil, List.length_zipWith, List.length_set, List.length_replicate, List.length_range]) <;> omega)
    have ed := allLt_filter (commonOf xs ys)
    rw [commonOf_los, commonOf_his] at ed
    refine ⟨fun σ' H' => ∃ v, σ' = [some (.ref a), some (.ref b), some (.ref d), some v, none] ∧ L2.Same H1 H' ∧ ((allLt (mxs (los xs) (los ys)) (mns (his xs) (his ys)) = false ∧ v = .non) ∨ ∃ y, v = .ref y ∧ allLt (mxs (los xs) (los ys)) (mns (his xs) (his ys)) = true ∧ BoxAt K H' y (mxs (los xs) (los ys)) (mns (his xs) (his ys))), ?_, ?_⟩
    · refine ⟨_, rfl, a, xs, rfl, pa.same s1, len, r1, fun y1 H2 s2 b1 => ?_⟩
      have s12 := s1.trans s2
      refine ⟨_, rfl, b, ys, rfl, pb.same s12, by omega, r2, fun y2 H3 s3 b2 => ?_⟩
      refine ⟨y1, y2, _, _, _, _, rfl, b1.nl (NL.same s3), b2, r1, r2, by ((try simp only [List.length_map, List.length_take, List.length_drop, List.length_append, List.length_cons, List.length_nil, List.length_zipWith, List.length_set, List.length_replicate, List.length_range]) <;> omega), fun z => absurd el2 z, fun _ => ⟨fun c0 H4 s4 => ?_, fun c0 y H4 s4 bx => ?_⟩⟩
      · exact ⟨_, rfl, (s2.trans s3).trans s4, .inl ⟨c0, rfl⟩⟩
      · exact ⟨_, rfl, (s2.trans s3).trans s4, .inr ⟨y, rfl, c0, bx⟩⟩
    · rintro σ' H2 ⟨v, rfl, s2, hv⟩
      have s12 := s1.trans s2
      obtain ⟨vs, hl, hp⟩ := (pd.same s2).paired
      have ln := commonOf_len el
      refine ⟨_, rfl, d, rfl, ⟨_, SqL.of hl⟩, fun D nD => ?_⟩
      refine lc_pick (S := prRel) (p := fun r : Int × Int => decide (r.1 ≥ r.2)) (R := fun _ _ _ => True) (fun _ _ _ _ _ z => z) (fun _ _ _ _ k z => z.nl k) nD (SqL.of hl) hp (small1000 (by omega)) (fun x c H3 R' N s3 ⟨t, e, ht⟩ k1 k2 => ?_) fun H3 us s3 hD pD => ?_
      · subst e
        refine ⟨rfl, _, rfl, t, _, _, _, rfl, rfl, SqT.of ht, rfl, _, rfl, t, _, _, _, rfl, rfl, SqT.of ht, rfl, _, _, rfl, rfl, _, rfl, ite2 (fun q => ?_) (fun q => ?_)⟩
        · exact ⟨_, rfl, k1 q _ _ (Same.refl _) trivial⟩
        · exact k2 (Bool.eq_false_iff.mpr q) _ (Same.refl _)
      have lu := paired_len pD
      have eu : us.isEmpty = allLt (mxs (los xs) (los ys)) (mns (his xs) (his ys)) := by
        rw [← ed]
        cases us with
        | nil => rw [List.eq_nil_of_length_eq_zero lu.symm]; rfl
        | cons u us => cases h : (commonOf xs ys).filter fun r => decide (r.1 ≥ r.2) with
          | nil => rw [h] at lu; cases lu
          | cons _ _ => rfl
      have s13 := s12.trans s3
      rcases hv with ⟨c0, rfl⟩ | ⟨y, rfl, c0, bx⟩
      · refine ⟨true, .inl ⟨us, SqL.of hD, by rw [eu, c0]; rfl⟩, iteT ⟨_, rfl, rfl, ?_⟩⟩
        exact kQ _ s13
      · refine ⟨false, .inl ⟨us, SqL.of hD, by rw [eu, c0]; rfl⟩, iteF ?_⟩
        refine ⟨_, rfl, _, rfl, y, d, commonOf xs ys, rfl, ?_, (pd.same s2).same s3, ?_, by omega, Nat.le_trans (cnt_common el) hc, fun H' s' => kQ _ (s13.trans s')⟩
        · rw [commonOf_los, commonOf_his]
          exact bx.nl (NL.same s3)
        · rw [commonOf_los, commonOf_his]
          exact rgs_common r1 r2 el2 c0

end
end K00

set_option maxRecDepth 100000
set_option maxHeartbeats 4000000
/-! try with several except clauses, each with a name or without one. -/
namespace Q
open PySem PySem.Spec PyProof.Rows L2
abbrev TX := Addr → Value → Option Addr → TS
/-- a suite whose clause names the exception in slot i -/
def tNamed (i : Nat) (ts : TX) : TX := fun a cls d D σ H => ts a cls d { nx := fun z G => D.nx (z.set i none) G, rt := D.rt, bk := fun z G => D.bk (z.set i none) G, ct := fun z G => D.ct (z.set i none) G } (σ.set i (some (.ref a))) H
def SuiteOk (X : Cx) (ss : List Stmt) (ts : TX) : Prop := ∀ (a : Addr) (oe : Obj) (cls : Value) (d : Option Addr) (qs : List (Addr × Obj)), Zc cls d oe → (∃ vs, oe.data = .fields vs) → PSs (X.suite a ((a, oe) :: qs)) ss (ts a cls d)
inductive ClsOk (X : Cx) : List ExceptHandler → List (Value × TX) → Prop
  | nil : ClsOk X [] []
  | bare {x : Str} {c : Value} {ts : TX} {b₀ : Stmt} {rest : List Stmt} {np hp : Pos} {hds : List ExceptHandler} {l : List (Value × TX)} (hc : Names X x c) (hsu : SuiteOk X (b₀ :: rest) ts) (r : ClsOk X hds l) :
      ClsOk X (.ExceptHandler (some (.Name x np)) none (b₀ :: rest) hp :: hds) ((c, ts) :: l)
  | named {x n : Str} {c : Value} {i : Nat} {ts : TX} {b₀ : Stmt} {rest : List Stmt} {np hp : Pos} {hds : List ExceptHandler} {l : List (Value × TX)} (hN : X.N.Nodup) (hi : X.N[i]? = some n) (hk : X.env.kindOf n = some .local) (hc : Names X x c) (hsu : SuiteOk X (b₀ :: rest) ts) (r : ClsOk X hds l) :
      ClsOk X (.ExceptHandler (some (.Name x np)) (some n) (b₀ :: rest) hp :: hds) ((c, tNamed i ts) :: l)
section
variable {X : Cx} {ss : List Stmt} {hd₀ : ExceptHandler} {hds : List ExceptHandler} {l : List (Value × TX)} {pos : Pos} {tb : WX → TS} {Wo : WX}
theorem ps_try_cls (hst : X.stack = X.env :: X.outer) (hfr : X.env.frame = some X.env.locals) (tk : Takes X Wo)
    (hb : ∀ (W : WX) (qs : List (Addr × Obj)) (xe : Value → Shared → Prop), Takes (X.tr qs xe) W → PassesOwn (model X.prog X.w) X.A X.env xe → PSs (X.tr qs xe) ss (tb W)) (hh : ClsOk X (hd₀ :: hds) l) :
    PS X (.Try ss (hd₀ :: hds) [] [] pos) (fun D σ H => tb (wMany X.K Wo D l) D σ H) := by
  refine ⟨fun pins s σ H D I todo => ?_⟩
  have okI := I.ok
  have frs_ : X.A.frames = some (X.env :: X.outer) := by rw [okI.frames, hst]
  refine wpAny_Try_except (wpAny_mono ((hb (wMany X.K Wo D l) (X.pn ++ pins) (fun e s₁ => wpAny (model X.prog X.w) X.A (noteFrame e X.env) (fun _ s₂ => wpAny (model X.prog X.w) X.A (setFlight e none) (fun _ s₃ =>
      wpAny (model X.prog X.w) X.A (handleBy e X.env (hd₀ :: hds)) (SP X pins D) X.xe s₃) X.xe s₂) X.xe s₁) (fun u s' out => ?caught) PassesOwn.looking).run [] s σ H D (I.toTry _) todo) (fun fl s1 over => ?done) fun _ _ z => z)
  case done =>
    cases fl with
    | next => exact let ⟨z, G, J, q⟩ := over; wpAny_execs_nil ⟨z, G, J.ofTry okI, q⟩
    | brk => exact let ⟨z, G, J, q⟩ := over; ⟨z, G, J.ofTry okI, q⟩
    | cont => exact let ⟨z, G, J, q⟩ := over; ⟨z, G, J.ofTry okI, q⟩
    | ret u => exact let ⟨v, z, G, J, r, q⟩ := over; ⟨v, z, G, J.ofTry okI, r, q⟩
  case caught =>
    obtain ⟨a, B, sI, pins', σ', H', cls, d, rfl, Jt, nb, up, sky, na, os, ag, want⟩ := out
    have J : Inv X pins σ' H' sI := Jt.ofTry okI
    have sk : Sky B (X.env :: X.outer) a (Zc cls d) X.env.locals s'.heap := by rw [← hst]; exact sky
    show wpAny (model X.prog X.w) X.A (noteFrame (.ref a) X.env) _ _ _
    refine Sky.land Zc.steady frs_ hfr sk fun g3 f3 u3 => ?_
    have J3 : Inv X pins σ' H' { s' with heap := g3 } := J.landed nb f3.1 (up.trans u3) os ag
    obtain ⟨oX, vX, atX, zX, dX⟩ := f3.there
    have nfr : a ∉ frs (X.env :: X.outer) := fun hm => by
      obtain ⟨_, o', e', hnf⟩ := f3.2.2.1.mem hm
      rw [atX] at e'; cases e'; exact hnf _ dX
    have nL : a ≠ X.env.locals := fun z => nfr (List.mem_filterMap.mpr ⟨X.env, List.mem_cons_self, by rw [hfr, z]⟩)
    have nF : a ∉ X.fs := fun hm => let ⟨e, he, q⟩ := List.mem_filterMap.mp hm; nfr (List.mem_filterMap.mpr ⟨e, List.mem_cons_of_mem _ he, q⟩)
    have S3 := J3.suite atX dX na nL nF
    have looks : PySem.W.Looks (model X.prog X.w) g3 (typeOf (.ref a)) cls := fun A Q E s k q => wpAny_typeOf_ref (k _ _ atX) (by rw [zX.1]; exact q)
    have asks : ∀ {x : Str} {np : Pos} {c : Value} {Q : Value → Shared → Prop} {E : Value → Shared → Prop}, Names X x c → Q c { s' with heap := g3 } → wpAny (model X.prog X.w) (X.A.mark (some (.ref a))) (eval (.Name x np) X.env) Q E { s' with heap := g3 } := fun hc q => by
      obtain ⟨h1, h2, h3 | ⟨h3, h4, h5⟩⟩ := hc
      · exact ld_glob (X := X.suite a ((a, oX) :: (X.pn ++ pins))) S3 h1 h3 q h2
      · exact ld_blt (X := X.suite a ((a, oX) :: (X.pn ++ pins))) S3 h1 h3 h4 q h5 h2
    have go : ∀ {hs2 : List ExceptHandler} {l2 : List (Value × TX)}, ClsOk X hs2 l2 → wMany X.K Wo D l2 cls d σ' H' → wpAny (model X.prog X.w) X.A (handleBy (.ref a) X.env hs2) (SP X pins D) X.xe { s' with heap := g3 } := by
      intro hs2 l2 ck
      induction ck with
      | nil =>
        intro w
        refine wpAny_handleBy_nil ?_
        obtain ⟨k1, k2, k3, oe, vs, T, oT, ts', he, hz, hd, h1, hr⟩ := id f3
        unfold PySem.passOn
        refine wpAny_bind (wpAny_field he hd h1 ?_); rw [if_neg (show ¬ ((Value.ref T == Value.none) = true) from by simp)]
        have fin : wpAny (model X.prog X.w) X.A (setFlight (.ref a) X.env.frame) (fun _ s4 => wpAny (model X.prog X.w) X.A (throw (.ref a) : Sem Flow) (SP X pins D) X.xe s4) X.xe { s' with heap := g3 } := by
          rw [hfr]
          exact HandSPX.setFlight_upZ f3 fun g4 hh4 up4 => wpAny_throw (tk _ _ ⟨a, B, sI, pins, σ', H', cls, d, rfl, J, nb, (up.trans u3).trans up4, .inr (.inr (by rw [hst]; exact hh4)), na, os, ag, w⟩)
        first
          | exact wpAny_bind (wpAny_pure (wpAny_bind fin))
          | exact wpAny_bind fin
      | @bare x c ts b₀ rest np hp hds' l' hc hsu _ ih =>
        intro w
        obtain ⟨b, hb1, yes, no⟩ := w
        refine wpAny_handleBy_cons (codeAny_handlers_test (asks hc ((PySem.W.exm_one (M := model X.prog X.w) J3.kIn looks hb1).here ?_))) (by intro q; cases q)
        cases b with
        | false => exact ih (no rfl)
        | true =>
          refine codeAny_handlers_suite (HandSPX.lands_againZ f3 fun g4 f4 u4 => ?_)
          obtain ⟨o4, v4, at4, z4, d4⟩ := f4.there
          have S4 := Inv.suite (J.landed nb f4.1 ((up.trans u3).trans u4) os ag : Inv X pins σ' H' { s' with heap := g4 }) at4 d4 na nL nF
          refine wpAny_mono ((hsu a o4 cls d (X.pn ++ pins) z4 ⟨_, d4⟩).run [] _ _ H' _ S4 (yes rfl a na)) (fun fl s6 hq => ?_) (fun _ _ z => False.elim z)
          cases fl with
          | next => exact let ⟨z, G, S6, q6⟩ := hq; ⟨_, _, S6.unsuite okI, q6⟩
          | brk => exact let ⟨z, G, S6, q6⟩ := hq; ⟨_, _, S6.unsuite okI, q6⟩
          | cont => exact let ⟨z, G, S6, q6⟩ := hq; ⟨_, _, S6.unsuite okI, q6⟩
          | ret u => exact let ⟨v, z, G, S6, r6, q6⟩ := hq; ⟨_, _, _, S6.unsuite okI, r6, q6⟩
      | @named x n c i ts b₀ rest np hp hds' l' hN hi hk hc hsu _ ih =>
        intro w
        obtain ⟨b, hb1, yes, no⟩ := w
        refine wpAny_handleBy_cons (codeAny_handlers_test (asks hc ((PySem.W.exm_one (M := model X.prog X.w) J3.kIn looks hb1).here ?_))) (by intro q; cases q)
        cases b with
        | false => exact ih (no rfl)
        | true =>
          refine codeAny_handlers_suite_as (HandSPX.lands_againZ f3 fun g4 f4 u4 => ?_)
          obtain ⟨o4, v4, at4, z4, d4⟩ := f4.there
          have S4 := Inv.suite (J.landed nb f4.1 ((up.trans u3).trans u4) os ag : Inv X pins σ' H' { s' with heap := g4 }) at4 d4 na nL nF
          refine store_ok (X := X.suite a ((a, o4) :: (X.pn ++ pins))) (v := .ref a) S4 hN hi (.inl hk) rfl (fun s5 S5 => ?_) (.inr hk)
          refine wpAny_mono ((hsu a o4 cls d (X.pn ++ pins) z4 ⟨_, d4⟩).run [] s5 _ H' _ S5 (yes rfl a na)) (fun fl s6 hq => ?_) (fun _ _ z => False.elim z)
          have back : ∀ {z : L2.St} {G : Hp} {Q : Shared → Prop}, Inv (X.suite a ((a, o4) :: (X.pn ++ pins))) [] z G s6 → (∀ s7, Inv X pins (z.set i none) G s7 → Q s7) → wpAny (model X.prog X.w) X.A (do bindName X.env n .none; unbindBehindTheSuite X.env n hp) (fun _ s7 => Q s7) X.xe s6 :=
            fun S6 q => gone_ok (S6.unsuite okI) hN hi hk q
          cases fl with
          | next => exact let ⟨z, G, S6, q6⟩ := hq; back S6 fun s7 J7 => ⟨_, _, J7, q6⟩
          | brk => exact let ⟨z, G, S6, q6⟩ := hq; back S6 fun s7 J7 => ⟨_, _, J7, q6⟩
          | cont => exact let ⟨z, G, S6, q6⟩ := hq; back S6 fun s7 J7 => ⟨_, _, J7, q6⟩
          | ret u => exact let ⟨v, z, G, S6, r6, q6⟩ := hq; back S6 fun s7 J7 => ⟨_, _, _, J7, r6, q6⟩
    exact go hh want
theorem op_eqDS {X : Cx} {a : Addr} {qs : List (Addr × Obj)} {k : Nat} (hr : Room k X.A) : OpR (X.suite a qs) (compareOp .Eq) (rEqD X.K) := op_eqD (X := X.suite a qs) (by exact hr.units)
theorem op_neDS {X : Cx} {a : Addr} {qs : List (Addr × Obj)} {k : Nat} (hr : Room k X.A) : OpR (X.suite a qs) (compareOp .NotEq) (rNeD X.K) := op_neD (X := X.suite a qs) (by exact hr.units)
end
end Q

set_option maxRecDepth 100000
set_option maxHeartbeats 4000000
namespace K00
open PySem PySem.Spec PyProof.Rows L2 Q RZ
section
variable {P : Program} {w : World} {K : PySem.W.Frag} {mg : Str → Option Value} {base : Heap} {f : Addr} {fd : FuncData}
def spRefused (K : PySem.W.Frag) : Sp := fun vs H Q _ => ∃ (a b : Addr) (v : V) (t : String) (d : PyData) (l1 h1 l2 h2 : List Int) (due : Str), vs = [.ref a, .ref b, v, .str due] ∧ BoxAt K H a l1 h1 ∧ BoxAt K H b l2 h2 ∧ Rgs l1 h1 ∧ Rgs l2 h2 ∧ l1.length ≤ 5 ∧ (∀ H', Kn H' v t) ∧ (∀ H', Dp K H' v d) ∧
  SeqAt.shaped d = true ∧ PyData.eqv d d = true ∧ ((l1.length ≠ l2.length ∧ due = "unlike") ∨ (l1.length = l2.length ∧ wholeV v 0 ((l1.length : Int) - 1) = false ∧ due = "column")) ∧ ∀ H', L2.Same H H' → Q (.bl true) H'
theorem C__law_refused (T : Tx K mg) : Cal P w K mg base CX0 6 "_law_refused" ["one", "other", "column", "due"] [] (spRefused K) := by
  obtain ⟨fd, F⟩ := T.d__law_refused
  have C_join_along := C_join_along (P := P) (w := w) (base := base) T
  refine ⟨_, fd, [], F.ok sc__law_refused (fun vs H Q E h => ?_) (fun cdv A outer s H vs Q E hr h => ?_), T.g__law_refused, F.kp, F.bindsN fun _ _ _ _ _ _ us hl => match us, hl with | [_, _, _, _], _ => rfl, .nil⟩
  · obtain ⟨a, b, v, t, d, l1, h1, l2, h2, due, rfl, _⟩ := h
    rfl
  · obtain ⟨a, b, v, t, d, l1, h1, l2, h2, due, rfl, b1, b2, r1, r2, len, kn, dp, sh, ev, cs, kQ⟩ := h
    refine ⟨_, PSs.nox (pss_cons (ps_set (i := 4) sc__law_refused.nd rfl (Or.inl rfl) pe_str)
      (pss_cons (ps_try_cls (tb := _) rfl rfl takes0 (fun W pn xe tk _ => (pss_one (ps_expr (pe_calS C_join_along (hr.mono (by decide)) (fun σ => passAt tk σ) (pa_cons (pv 0) (pa_cons (pv 1) (pa_cons (pv 2) pa_nil)))))))
        (.bare (ts := _) ⟨rfl, by decide, Or.inl T.g_UnlikeBoxes⟩ (fun a oe cls d pn hz hf => (pss_one (ps_set (i := 4) sc__law_refused.nd rfl (Or.inl rfl) pe_str))) (.named (i := 5) (ts := _) sc__law_refused.nd rfl rfl ⟨rfl, by decide, Or.inl T.g_BadColumn⟩ (fun a oe cls d pn hz hf => (pss_one (ps_set (i := 4) sc__law_refused.nd rfl (Or.inl rfl) (pe_ifExp (pt_cmpR (op_eqDS hr) (pe_xf (xfC_of T.x_BadColumn) T.noat_BadColumn_column hz hf (pv 5)) (pv 2) (nomark _)) pe_str pe_str)))) .nil)))
      (pss_one (ps_ret (pe_cmpR op_eq (pv 4) (pv 3) (nomark _)))))), ?_⟩
    refine ⟨_, rfl, _, rfl, _, rfl, a, b, v, t, _, _, _, _, rfl, b1, b2, r1, r2, len, kn H, fun ne => ?_, fun el => ⟨fun hw d' H' s' nd hd => ?_, fun c e hc => ?_⟩⟩
    · refine ⟨true, T.e_UnlikeBoxes, fun _ a na => ?_, fun z => nomatch z⟩
      rcases cs with ⟨_, rfl⟩ | ⟨z, _⟩
      · exact ⟨_, rfl, _, rfl, rfl, kQ H (Same.refl _)⟩
      · exact absurd z ne
    · refine ⟨false, T.e_BadColumn_UnlikeBoxes, (fun z => nomatch z), fun _ => ⟨true, T.e_BadColumn, fun _ a na => ?_, fun z => nomatch z⟩⟩
      rcases cs with ⟨z, _⟩ | ⟨_, _, rfl⟩
      · exact absurd el z
      · refine ⟨_, rfl, rfl, rfl, _, _, _, rfl, hd, rfl, _, rfl, d, d, dp _, dp _, sh, sh, _, rfl, ?_⟩
        rw [ev]
        exact iteT ⟨_, rfl, _, rfl, rfl, kQ _ s'⟩
    · rcases cs with ⟨z, _⟩ | ⟨_, hw, _⟩
      · exact absurd el z
      · exfalso
        rw [e] at hw
        have : (decide ((0 : Int) ≤ c) && decide ((c : Int) ≤ (l1.length : Int) - 1)) = false := hw
        rw [decide_eq_true (by omega), decide_eq_true (by omega)] at this
        cases this
/-- _law_unlike -/
def spUnlike (K : PySem.W.Frag) : Sp := fun vs H Q _ => ∃ (a b : Addr) (l1 h1 l2 h2 : List Int), vs = [.ref a, .ref b] ∧ BoxAt K H a l1 h1 ∧ BoxAt K H b l2 h2 ∧ Rgs l1 h1 ∧ Rgs l2 h2 ∧ l1.length ≤ 5 ∧ l2.length ≤ 5 ∧ l1.length ≠ l2.length ∧ Q (.bl true) H
theorem C__law_unlike (T : Tx K mg) : Cal P w K mg base CX0 7 "_law_unlike" ["one", "other"] [] (spUnlike K) := by
  obtain ⟨fd, F⟩ := T.d__law_unlike
  have C_meet_boxes := C_meet_boxes (P := P) (w := w) (base := base) T
  have C_box_less := C_box_less (P := P) (w := w) (base := base) T
  refine ⟨_, fd, [], F.ok sc__law_unlike (fun vs H Q E h => ?_) (fun cdv A outer s H vs Q E hr h => ?_), T.g__law_unlike, F.kp, F.bindsN fun _ _ _ _ _ _ us hl => match us, hl with | [_, _], _ => rfl, .nil⟩
  · obtain ⟨a, b, l1, h1, l2, h2, rfl, _⟩ := h
    rfl
  · obtain ⟨a, b, l1, h1, l2, h2, rfl, b1, b2, r1, r2, len, len2, ne, kQ⟩ := h
    refine ⟨_, PSs.nox (pss_cons (ps_set (i := 2) sc__law_unlike.nd rfl (Or.inl rfl) pe_int)
      (pss_cons (ps_try_only (tb := _) (ts := _) rfl rfl ⟨rfl, by decide, Or.inl T.g_UnlikeBoxes⟩ takes0 (fun W pn xe tk _ => (pss_one (ps_expr (pe_calS C_meet_boxes (hr.mono (by decide)) (fun σ => passAt tk σ) (pa_cons (pv 0) (pa_cons (pv 1) pa_nil))))))
        (fun a oe cls d pn hz hf => (pss_one (ps_set (i := 2) sc__law_unlike.nd rfl (Or.inl rfl) (pe_op op_add (pv 2) pe_int)))))
      (pss_cons (ps_try_only (tb := _) (ts := _) rfl rfl ⟨rfl, by decide, Or.inl T.g_UnlikeBoxes⟩ takes0 (fun W pn xe tk _ => (pss_one (ps_expr (pe_calS C_box_less (hr.mono (by decide)) (fun σ => passAt tk σ) (pa_cons (pv 1) (pa_cons (pv 0) pa_nil))))))
        (fun a oe cls d pn hz hf => (pss_one (ps_set (i := 2) sc__law_unlike.nd rfl (Or.inl rfl) (pe_op op_add (pv 2) pe_int)))))
      (pss_one (ps_ret (pe_cmpR op_eq (pv 2) pe_int (nomark _))))))), ?_⟩
    refine ⟨_, rfl, _, rfl, a, b, _, _, _, _, rfl, b1, b2, r1, r2, len, fun _ => ?_, fun el => absurd el ne⟩
    refine ⟨true, T.e_UnlikeBoxes, fun _ x nx => ?_, fun z => nomatch z⟩
    refine ⟨_, rfl, _, _, rfl, rfl, ?_⟩
    refine ⟨_, rfl, _, rfl, b, a, _, _, _, _, rfl, b2, b1, r2, r1, len2, fun _ => ?_, fun el => absurd el.symm ne⟩
    refine ⟨true, T.e_UnlikeBoxes, fun _ x nx => ?_, fun z => nomatch z⟩
    exact ⟨_, rfl, _, _, rfl, rfl, _, rfl, rfl, kQ⟩

end
end K00

set_option maxRecDepth 100000
set_option maxHeartbeats 4000000
namespace K00
open PySem PySem.Spec PyProof.Rows L2 Q RZ
section
variable {P : Program} {w : World} {K : PySem.W.Frag} {mg : Str → Option Value} {base : Heap} {f : Addr} {fd : FuncData}
/-- _law_wide_ranges -/
def spWide : Sp := fun vs H Q _ => ∃ (b c l : Addr) (bs : List Int) (wd n : Int), vs = [.ref b, .ref l, .int wd] ∧ BagAt H b c n ∧ n < 2 ^ 58 ∧ H l = some (.lst (bs.map V.int)) ∧ l ≠ b ∧ bs.length ≤ 5 ∧ (∀ z ∈ bs, 0 ≤ z ∧ z ≤ 59) ∧
  ∀ l' rs H', Kb b H H' → BagAt H' b c (n + 15) → PairsAt H' l' rs → rs.length = bs.length → (∀ (i : Nat) r, rs[i]? = some r → 0 ≤ r.1 ∧ r.1 < r.2 ∧ r.2 ≤ 64 ∧ ((i : Int) ≠ wd → r.2 ≤ r.1 + 2)) → Q (.ref l') H'
theorem C__law_wide_ranges (T : Tx K mg) : Cal P w K mg base CX0 2 "_law_wide_ranges" ["bag", "bases", "wide"] [] spWide := by
  obtain ⟨fd, F⟩ := T.d__law_wide_ranges
  have C__law_draw := C_draw (P := P) (w := w) (base := base) T
  refine ⟨_, fd, [], F.ok sc__law_wide_ranges (fun vs H Q E h => ?_) (fun cdv A outer s H vs Q E hr h => ?_), T.g__law_wide_ranges, F.kp, F.bindsN fun _ _ _ _ _ _ us hl => match us, hl with | [_, _, _], _ => rfl, .nil⟩
  · obtain ⟨b, c, l, bs, wd, n, rfl, _⟩ := h
    rfl
  · obtain ⟨b, c, l, bs, wd, n, rfl, B, hn, hl, lb, len, hz, kQ⟩ := h
    refine ⟨_, PSs.nox (pss_cons (ps_set (i := 3) sc__law_wide_ranges.nd rfl (Or.inl rfl) (pe_lst pa_nil))
      (pss_cons (ps_for PassesOwn.never rfl (pi_range1 (by rfl) T.n_range (pa_cons (pe_callB call_len_seq (by rfl) T.n_len (by decide +kernel) (pa_cons (pv 1) pa_nil)) pa_nil)) (pg_name (i := 4) sc__law_wide_ranges.nd rfl (Or.inl rfl))
        (C8.pss_cut (ps_set (i := 5) sc__law_wide_ranges.nd rfl (Or.inl rfl) (pe_ifExp (pt_cmpR op_eq (pv 4) (pv 2) (nomark _)) (pe_cal C__law_draw (hr.mono (by decide)) pass0 (pa_cons (pv 0) (pa_cons (pe_ix ix_list (pe_lst (pa_cons pe_int (pa_cons pe_int (pa_cons pe_int pa_nil)))) (pe_cal C__law_draw (hr.mono (by decide)) pass0 (pa_cons (pv 0) (pa_cons pe_int pa_nil))) (fun _ _ => rfl)) pa_nil))) (pe_op op_add (pe_ix ix_list (pv 1) (pv 4) (fun _ _ => rfl)) (pe_cal C__law_draw (hr.mono (by decide)) pass0 (pa_cons (pv 0) (pa_cons pe_int pa_nil))))))
        (pss_one (ps_expr (pe_bm PySem.F.plainAttrs_list PySem.F.slot_list_append PySem.F.type_list_append mt_append (pv 3) (pa_cons (pe_tup (pa_cons (pv 5) (pa_cons (pe_op op_add (pe_op op_add (pv 5) pe_int) (pe_cal C__law_draw (hr.mono (by decide)) pass0 (pa_cons (pv 0) (pa_cons (pe_ifExp (pt_cmpR op_eq (pv 4) (pv 2) (nomark _)) (pe_op op_sub pe_int (pv 5)) pe_int) pa_nil)))) pa_nil))) pa_nil))))))
      (pss_one (ps_ret (pv 3))))), ?_⟩
    refine ⟨Nat.zero_le _, fun D nD => ?_⟩
    have bD : D ≠ b := (B.new nD).1
    have cD : D ≠ c := (B.new nD).2
    refine ⟨_, rfl, l, _, rfl, .inl (SqL.of (same_new nD _ _ hl)), _, rfl, by ((try simp only [List.length_map, List.length_take, List.length_drop, List.length_append, List.length_cons, List.length_nil, List.length_zipWith, List.length_set, List.length_replicate, List.length_range]) <;> omega), by ((try simp only [List.length_map, List.length_take, List.length_drop, List.length_append, List.length_cons, List.length_nil, List.length_zipWith, List.length_set, List.length_replicate, List.length_range]) <;> omega), ?_⟩
    rw [List.length_map, Int.toNat_natCast]
    refine for_range (lo := 0) (n := bs.length) (fun i σ H' => (∃ v4 v5, σ = [some (.ref b), some (.ref l), some (.int wd), some (.ref D), v4, v5]) ∧ Kb b H H' ∧ BagAt H' b c (n + 3 * i) ∧ ∃ (us : List V) (rs : List (Int × Int)), H' D = some (.lst us) ∧ rs.length = i ∧ Paired (prRel H') us rs ∧
      ∀ (j : Nat) r, rs[j]? = some r → 0 ≤ r.1 ∧ r.1 < r.2 ∧ r.2 ≤ 64 ∧ ((j : Int) ≠ wd → r.2 ≤ r.1 + 2)) ⟨⟨none, none, rfl⟩, Kb.of_same (same_new nD), ?_, [], [], by rw [upd_same], rfl, .nil, fun j r e => by simp at e⟩ ?_ ?_
    · exact (B.same (same_new nD)).mono (by omega)
    · rintro i σ H' hi ⟨⟨v4, v5, rfl⟩, kb, B1, us, rs, hD, rl, hu, hr2⟩
      rw [Int.zero_add]
      have lu := paired_len hu
      have hli := kb _ _ lb hl
      have zb := hz _ (List.getElem_mem hi)
      refine ⟨fun σ2 H2 => ∃ low : Int, σ2 = [some (.ref b), some (.ref l), some (.int wd), some (.ref D), some (.int i), some (.int low)] ∧ Kb b H' H2 ∧ BagAt H2 b c (n + 3 * i + 2) ∧ 0 ≤ low ∧ low ≤ 63 ∧ ((i : Int) ≠ wd → low ≤ 61), ?_, ?_⟩
      · refine ⟨_, rfl, _, rfl, rfl, _, rfl, ite2 (fun ce => ?_) (fun ce => ?_)⟩
        · have ce' : (i : Int) = wd := by
            have := of_decide_eq_true ce
            injection this
          refine ⟨_, rfl, (by show 3 ≤ sizeLine; decide), fun L nL => ?_⟩
          have BL := B1.same (same_new (o := HO.lst [V.int 4, V.int 64, V.int 16]) nL)
          have Lb := (B1.new nL).1
          have kL : Kb b H' (L2.upd H' L (.lst [V.int 4, V.int 64, V.int 16])) := Kb.of_same (same_new nL)
          refine ⟨_, rfl, b, c, _, n + 3 * i, rfl, BL, by decide, by decide, by omega, fun r1 H2 l1 u1 o1 B2 => ?_⟩
          have hL2 : H2 L = some (.lst [V.int 4, V.int 64, V.int 16]) := o1.at Lb upd_same
          obtain ⟨lim, hlim, lb1, lb2⟩ : ∃ lim : Int, atI [V.int 4, V.int 64, V.int 16] r1 = some (.int lim) ∧ 0 < lim ∧ lim ≤ 64 := by
            have : r1 = 0 ∨ r1 = 1 ∨ r1 = 2 := by omega
            rcases this with rfl | rfl | rfl
            · exact ⟨4, rfl, by decide, by decide⟩
            · exact ⟨64, rfl, by decide, by decide⟩
            · exact ⟨16, rfl, by decide, by decide⟩
          refine ⟨L, _, _, _, rfl, rfl, SqL.of hL2, hlim, b, c, _, n + 3 * i + 1, rfl, B2, by omega, by omega, by omega, fun r2 H3 l2 u2 o2 B3 => ?_⟩
          exact ⟨r2, rfl, fun a o na e => o2.kb _ _ na (o1.kb _ _ na (kL _ _ na e)), B3.mono (by omega), l2, by omega, fun z => absurd ce' z⟩
        · refine ⟨_, rfl, _, rfl, l, _, _, _, rfl, rfl, SqL.of hli, atI_nat (by rw [List.getElem?_map, List.getElem?_eq_getElem hi]; rfl), _, rfl, b, c, _, n + 3 * i, rfl, B1, by decide, by decide, by omega, fun r1 H2 l1 u1 o1 B2 => ⟨_, _, rfl, rfl, ?_⟩⟩
          exact ⟨_, rfl, fun a o na e => o1.kb _ _ na e, B2.mono (by omega), by omega, by omega, fun _ => by omega⟩
      · rintro σ2 H2 ⟨low, rfl, k2, B2, lw0, lw1, lw2⟩
        have hD2 := k2 _ _ bD hD
        refine ⟨_, rfl, .inl ⟨rfl, _, SqL.of hD2⟩, _, rfl, _, rfl, _, _, rfl, rfl, _, rfl, _, rfl, _, rfl, rfl, _, rfl, ite2 (fun ce => ?_) (fun ce => ?_)⟩
        · have ce' : (i : Int) = wd := by
            have := of_decide_eq_true ce
            injection this
          refine ⟨_, rfl, _, _, rfl, rfl, b, c, _, _, rfl, B2, by omega, by omega, by omega, fun r H3 l3 u3 o3 B3 => ?_⟩
          have nl3 := kb_nl o3.kb B2
          refine ⟨_, _, rfl, rfl, (by show 2 ≤ sizeLine; decide), fun p np => ?_⟩
          generalize hq_ : L2.upd H3 p _ = H4
          obtain ⟨s4, e4⟩ := _root_.Q.nwS np hq_
          clear hq_
          have hD3 := s4 _ _ (o3.at bD hD2)
          refine ⟨D, _, _, rfl, rfl, hD3, small1000 (by omega), ?_⟩
          generalize hq_ : L2.upd H4 D _ = H5
          obtain ⟨u5, e5⟩ := _root_.Q.updS hq_
          clear hq_
          have nl5 := NL.put hD3 u5
          have nl := (((kb_nl k2 B1).trans nl3).trans (NL.same s4)).trans nl5
          have kb4 : Kb b H H4 := ((kb.trans k2).trans o3.kb).trans (Kb.of_same s4)
          refine ⟨⟨_, _, rfl⟩, kb_put kb4 nD u5, (bag_but (B3.same s4) bD cD u5).mono (by omega), _, rs ++ [(low, low + 1 + r)], e5, by ((try simp only [List.length_map, List.length_take, List.length_drop, List.length_append, List.length_cons, List.length_nil, List.length_zipWith, List.length_set, List.length_replicate, List.length_range]) <;> omega), Paired.snoc (Paired.mapP hu fun _ _ z => z.nl nl) ⟨p, rfl, nl5.tup e4⟩, fun j q e => ?_⟩
          by_cases hj : j < rs.length
          · rw [List.getElem?_append_left hj] at e
            exact hr2 j q e
          · have hj2 : j = rs.length := by
              have := (List.getElem?_eq_some_iff.mp e).1
              rw [List.length_append, List.length_singleton] at this
              omega
            subst hj2
            rw [List.getElem?_append_right (Nat.le_refl _), Nat.sub_self] at e
            cases e
            rw [rl]
            exact ⟨lw0, by show low < low + 1 + r; omega, by show low + 1 + r ≤ 64; omega, fun z => absurd ce' z⟩
        · have nw : (i : Int) ≠ wd := fun z => ce (decide_eq_true (by rw [z]))
          have l61 := lw2 nw
          refine ⟨b, c, _, _, rfl, B2, by decide, by decide, by omega, fun r H3 l3 u3 o3 B3 => ?_⟩
          have nl3 := kb_nl o3.kb B2
          refine ⟨_, _, rfl, rfl, (by show 2 ≤ sizeLine; decide), fun p np => ?_⟩
          generalize hq_ : L2.upd H3 p _ = H4
          obtain ⟨s4, e4⟩ := _root_.Q.nwS np hq_
          clear hq_
          have hD3 := s4 _ _ (o3.at bD hD2)
          refine ⟨D, _, _, rfl, rfl, hD3, small1000 (by omega), ?_⟩
          generalize hq_ : L2.upd H4 D _ = H5
          obtain ⟨u5, e5⟩ := _root_.Q.updS hq_
          clear hq_
          have nl5 := NL.put hD3 u5
          have nl := (((kb_nl k2 B1).trans nl3).trans (NL.same s4)).trans nl5
          have kb4 : Kb b H H4 := ((kb.trans k2).trans o3.kb).trans (Kb.of_same s4)
          refine ⟨⟨_, _, rfl⟩, kb_put kb4 nD u5, (bag_but (B3.same s4) bD cD u5).mono (by omega), _, rs ++ [(low, low + 1 + r)], e5, by ((try simp only [List.length_map, List.length_take, List.length_drop, List.length_append, List.length_cons, List.length_nil, List.length_zipWith, List.length_set, List.length_replicate, List.length_range]) <;> omega), Paired.snoc (Paired.mapP hu fun _ _ z => z.nl nl) ⟨p, rfl, nl5.tup e4⟩, fun j q e => ?_⟩
          by_cases hj : j < rs.length
          · rw [List.getElem?_append_left hj] at e
            exact hr2 j q e
          · have hj2 : j = rs.length := by
              have := (List.getElem?_eq_some_iff.mp e).1
              rw [List.length_append, List.length_singleton] at this
              omega
            subst hj2
            rw [List.getElem?_append_right (Nat.le_refl _), Nat.sub_self] at e
            cases e
            rw [rl]
            exact ⟨lw0, by show low < low + 1 + r; omega, by show low + 1 + r ≤ 64; omega, fun z => by have := lw2 z; show low + 1 + r ≤ low + 2; omega⟩
    · rintro σ H' ⟨⟨v4, v5, rfl⟩, kb, B1, us, rs, hD, rl, hu, hr2⟩
      exact ⟨_, rfl, kQ D rs H' kb (B1.mono (by omega)) (pairsAt_of hD hu) rl hr2⟩

end
end K00

set_option maxRecDepth 100000
set_option maxHeartbeats 4000000
/-! Ascending lists; points within ranges; a dict's keys. -/
namespace Q
open PySem PySem.Spec PyProof.Rows L2
theorem asc_ext {α : Type} {lt : α → α → Prop} (irr : ∀ x, ¬ lt x x) (asy : ∀ x y, lt x y → ¬ lt y x) : ∀ {l m : List α}, l.Pairwise lt → m.Pairwise lt → (∀ x, x ∈ l ↔ x ∈ m) → l = m
  | [], [], _, _, _ => rfl
  | [], y :: m, _, _, h => absurd ((h y).mpr List.mem_cons_self) (by simp)
  | x :: l, [], _, _, h => absurd ((h x).mp List.mem_cons_self) (by simp)
  | x :: l, y :: m, p, q, h => by
    obtain ⟨p1, p2⟩ := List.pairwise_cons.mp p
    obtain ⟨q1, q2⟩ := List.pairwise_cons.mp q
    have e : x = y := by
      rcases List.mem_cons.mp ((h x).mp List.mem_cons_self) with e | a
      · exact e
      · rcases List.mem_cons.mp ((h y).mpr List.mem_cons_self) with e | b
        · exact e.symm
        · exact absurd (p1 _ b) (asy _ _ (q1 _ a))
    subst e
    rw [asc_ext irr asy p2 q2 fun z => ⟨fun a => by
      rcases List.mem_cons.mp ((h z).mp (List.mem_cons_of_mem _ a)) with e | b
      · exact absurd (p1 z a) (by rw [e]; exact irr _)
      · exact b, fun a => by
      rcases List.mem_cons.mp ((h z).mpr (List.mem_cons_of_mem _ a)) with e | b
      · exact absurd (q1 z a) (by rw [e]; exact irr _)
      · exact b⟩]
theorem asc_int {l m : List Int} (h : l.Pairwise (· < ·)) (k : m.Pairwise (· < ·)) (e : ∀ x, x ∈ l ↔ x ∈ m) : l = m := asc_ext (fun x => by omega) (fun x y => by omega) h k e
theorem upTo_asc (l h : Int) : (upTo l h).Pairwise (· < ·) := by
  unfold upTo
  rw [List.pairwise_map]
  refine List.Pairwise.imp ?_ (List.pairwise_lt_range (n := (h - l).toNat))
  intro a b q
  omega
theorem app_asc {l m : List Int} (h : l.Pairwise (· < ·)) (k : m.Pairwise (· < ·)) (e : ∀ x ∈ l, ∀ y ∈ m, x < y) : (l ++ m).Pairwise (· < ·) := List.pairwise_append.mpr ⟨h, k, e⟩
theorem upTo_first {l h : Int} (lt : l < h) : (upTo l h)[0]? = some l ∧ ∃ xs, upTo l h = xs ++ [h - 1] := by
  refine ⟨by rw [upTo_cons lt]; rfl, ?_⟩
  unfold upTo
  obtain ⟨n, e⟩ : ∃ n : Nat, (h - l).toNat = n + 1 := ⟨(h - l).toNat - 1, by omega⟩
  rw [e, List.range_succ, List.map_append]
  refine ⟨(List.range n).map fun (k : Nat) => l + (k : Int), ?_⟩
  have : l + (n : Int) = h - 1 := by omega
  rw [← this]
  rfl
/-- within, place by place -/
theorem within_iff : ∀ {ls hs p : List Int}, ls.length = hs.length → (Within ls hs p ↔ p.length = ls.length ∧ ∀ i, i < ls.length → ls.getD i 0 ≤ p.getD i 0 ∧ p.getD i 0 < hs.getD i 0)
  | [], [], p, _ => by
    constructor
    · intro h
      cases h
      exact ⟨rfl, fun i hi => absurd hi (Nat.not_lt_zero _)⟩
    · rintro ⟨h, _⟩
      rw [List.eq_nil_of_length_eq_zero h]
      exact .nil
  | l :: ls, h :: hs, [], e => by
    constructor
    · intro w
      cases w
    · rintro ⟨w, _⟩
      cases w
  | l :: ls, h :: hs, x :: p, e => by
    have ih := within_iff (ls := ls) (hs := hs) (p := p) (by simpa using e)
    constructor
    · intro w
      cases w with
      | cons a b r =>
        obtain ⟨r1, r2⟩ := ih.mp r
        refine ⟨by rw [List.length_cons, List.length_cons, r1], fun i hi => ?_⟩
        cases i with
        | zero => exact ⟨a, b⟩
        | succ i => exact r2 i (by rw [List.length_cons] at hi; omega)
    · rintro ⟨w1, w2⟩
      have z := w2 0 (by rw [List.length_cons]; omega)
      exact .cons z.1 z.2 (ih.mpr ⟨by simpa using w1, fun i hi => w2 (i + 1) (by rw [List.length_cons]; omega)⟩)
  | [], _ :: _, _, e => by cases e
  | _ :: _, [], _, e => by cases e
theorem nodup_len {α : Type} [DecidableEq α] : ∀ {l m : List α}, l.Nodup → (∀ x ∈ l, x ∈ m) → l.length ≤ m.length
  | [], _, _, _ => Nat.zero_le _
  | x :: l, m, n, h => by
    obtain ⟨n1, n2⟩ := List.nodup_cons.mp n
    have hx := h x List.mem_cons_self
    have ih := nodup_len n2 (m := m.erase x) fun y hy => (List.mem_erase_of_ne (fun e : y = x => n1 (by rw [← e]; exact hy))).2 (h y (List.mem_cons_of_mem _ hy))
    have e := List.length_erase_of_mem hx
    have := List.length_pos_of_mem hx
    rw [List.length_cons]
    omega
/-- the points ascend -/
theorem lex_cons {x y : Int} {p q : List Int} : (x :: p) < (y :: q) ↔ x < y ∨ (x = y ∧ p < q) := List.cons_lt_cons_iff
theorem lex_irr : ∀ p : List Int, ¬ p < p
  | [] => by intro h; cases h
  | x :: p => by
    rw [lex_cons]
    rintro (h | ⟨_, h⟩)
    · omega
    · exact lex_irr p h
theorem lex_asy : ∀ p q : List Int, p < q → ¬ q < p
  | [], [], h, _ => by cases h
  | [], _ :: _, _, k => by cases k
  | _ :: _, [], h, _ => by cases h
  | x :: p, y :: q, h, k => by
    rw [lex_cons] at h k
    rcases h with h | ⟨e, h⟩ <;> rcases k with k | ⟨e', k⟩
    · omega
    · omega
    · omega
    · exact lex_asy p q h k
theorem spots_asc : ∀ ls hs : List Int, (spots ls hs).Pairwise (· < ·)
  | [], [] => List.pairwise_singleton _ _
  | [], _ :: _ => List.pairwise_singleton _ _
  | _ :: _, [] => List.pairwise_singleton _ _
  | l :: ls, h :: hs => by
    show ((upTo l h).flatMap fun v => (spots ls hs).map (v :: ·)).Pairwise (· < ·)
    rw [List.pairwise_flatMap]
    refine ⟨fun v _ => ?_, ?_⟩
    · rw [List.pairwise_map]
      exact (spots_asc ls hs).imp fun {a b} q => lex_cons.mpr (.inr ⟨rfl, q⟩)
    · refine (upTo_asc l h).imp fun {a b} q x hx y hy => ?_
      obtain ⟨x', _, rfl⟩ := List.mem_map.mp hx
      obtain ⟨y', _, rfl⟩ := List.mem_map.mp hy
      exact lex_cons.mpr (.inl q)
theorem spots_nodup (ls hs : List Int) : (spots ls hs).Nodup := List.Pairwise.imp (S := fun a b => a ≠ b) (fun {a b} q e => lex_irr a (by rw [← e] at q; exact q)) (spots_asc ls hs)
/-! ### a dict made of pairs has just their keys -/
theorem valV_mergeT (k : List Key) : ∀ (ps acc : List (List Key × V)), (valV (mergeT acc ps) k).isSome = true ↔ (valV acc k).isSome = true ∨ k ∈ ps.map Prod.fst
  | [], acc => by
    show (valV acc k).isSome = true ↔ _
    simp
  | p :: ps, acc => by
    show (valV (mergeT (putK acc p.1 p.2) ps) k).isSome = true ↔ _
    rw [valV_mergeT k ps, valV_put, List.map_cons, List.mem_cons]
    by_cases e : k = p.1
    · rw [if_pos e]
      exact ⟨fun _ => .inr (.inl e), fun _ => .inl rfl⟩
    · rw [if_neg e]
      exact ⟨fun h => h.elim .inl fun z => .inr (.inr z), fun h => h.elim .inl fun z => z.elim (fun y => absurd y e) .inr⟩
abbrev ptKey (p : List Int) : List Key := p.map Sum.inl
theorem ptKey_kV (p : List Int) : (ptKey p).map kV = p.map V.int := by
  rw [List.map_map]
  rfl
theorem ptKey_inj {p q : List Int} (h : ptKey p = ptKey q) : p = q := List.map_inj_right (fun _ _ e => Sum.inl.inj e) |>.mp h
/-- the dict of points: is it in -/
theorem dict_pts (ps : List (List Int)) (q : List Int) : (valV (mergeT [] (ps.map fun p => (ptKey p, V.bl true))) (ptKey q)).isSome = decide (q ∈ ps) := by
  rw [Bool.eq_iff_iff, decide_eq_true_eq, valV_mergeT, List.map_map]
  constructor
  · rintro (h | h)
    · cases h
    · obtain ⟨p, hp, e⟩ := List.mem_map.mp h
      rw [← ptKey_inj e]
      exact hp
  · exact fun h => .inr (List.mem_map.mpr ⟨q, h, rfl⟩)
/-- a couple of a point and True -/
def kvRel (H : Hp) (v : V) (p : List Int) : Prop := ∃ q kb, v = .ref q ∧ H q = some (.tup [.ref kb, .bl true]) ∧ H kb = some (.tup (p.map V.int))
theorem kvRel.nl {H H' : Hp} {v : V} {p : List Int} (k : NL H H') (h : kvRel H v p) : kvRel H' v p := by
  obtain ⟨q, kb, e, h1, h2⟩ := h
  exact ⟨q, kb, e, k.tup h1, k.tup h2⟩
theorem dictPts_of {K : PySem.W.Frag} {H : Hp} {a : Addr} {ys : List V} {ps : List (List Int)} {Q : VK} (h : H a = some (.lst ys)) (hp : Paired (kvRel H) ys ps) (q : ∀ p, H p = none → Q (.ref p) (upd H p (.dT (mergeT [] (ps.map fun p => (ptKey p, V.bl true)))))) :
    rDictT K [.ref a] H Q := by
  unfold rDictT
  have key : ∀ {ys : List V} {ps : List (List Int)}, Paired (kvRel H) ys ps → ∃ as : List Addr, ys = as.map V.ref ∧ Paired (fun (p : Addr) (kv : List Key × V) => ∃ kb, SqT K H p [.ref kb, kv.2] ∧ H kb = some (.tup (kv.1.map kV))) as (ps.map fun p => (ptKey p, V.bl true)) := fun hp => by
    induction hp with
    | nil => exact ⟨[], rfl, .nil⟩
    | cons x _ ih =>
      obtain ⟨as, e, r⟩ := ih
      obtain ⟨q, kb, rfl, h1, h2⟩ := x
      exact ⟨q :: as, by rw [e]; rfl, .cons ⟨kb, SqT.of h1, by rw [h2, ptKey_kV]⟩ r⟩
  obtain ⟨as, e, r⟩ := key hp
  exact ⟨a, as, _, rfl, SqL.of (by rw [h, e]), r, q⟩
/-- is the point in the dict -/
theorem dget_pt {H : Hp} {d t : Addr} {ps : List (List Int)} {p : List Int} (h : H d = some (.dT (mergeT [] (ps.map fun p => (ptKey p, V.bl true))))) (ht : H t = some (.tup (p.map V.int))) : ∃ o, DGet H d (.ref t) o ∧ o.isSome = decide (p ∈ ps) :=
  ⟨_, DGet.t (k := ptKey p) h (by rw [ht, ptKey_kV]), dict_pts ps p⟩
end Q

set_option maxRecDepth 100000
set_option maxHeartbeats 4000000
/-! set(a list of whole numbers), and such a set sorted, however many it has. -/
namespace Q
open PySem PySem.Spec PyProof.Rows L2
section
variable {P : Program} {w : World} {A : Around} {E : Value → Shared → Prop} {s : Shared}
/-- a set as it is made -/
abbrev set0 (w : World) : Obj := { cls := .type "set", dict := none, data := .set #[] 0 (.fresh 0 0 (!w.params.followText "set-order")) }
set_option maxHeartbeats 8000000 in
theorem set_of_list {l : Addr} {xs : Array Value} (ns : List Int) {Q : Value → Shared → Prop} (hA : A.handled = none) (hl : s.heap.IsList l xs) (hi : IntsAre xs.toList ns) (few : ns.length + 1 < scanBound)
    (todo : ∀ (h' : Heap) (tk c : Nat), SetR w h' s.heap.objs.size (fun j => decide (j ∈ ns)) c → c ≤ ns.length → (∀ b o, s.heap.get? b = some o → h'.get? b = some o) → Q (.ref s.heap.objs.size) { s with heap := h', toks := tk }) :
    wpAny (model P w) A (call (.type "set") [.ref l]) Q E s := by
  have sz : xs.size = ns.length := (Array.length_toList ▸ IntsAre.length hi :)
  have atS : (s.heap.push (set0 w)).get? s.heap.objs.size = some (set0 w) := Heap.get?_push_size _ rfl
  have upS : (s.heap.push (set0 w)).objs.size = s.heap.objs.size + 1 := Heap.size_push ..
  have lS : l < s.heap.objs.size := let ⟨_, e, _⟩ := hl; Heap.lt_size e
  obtain ⟨c, tl, hmro⟩ := F.called_set.mro
  have hmade := F.called_set.made
  have hsub := F.called_set.sub
  refine wpAny_call (codeAny_of_tree (show wpAny _ _ (callAny (.type "set") _) _ _ _ from wpAny_pure ⟨Code.quiet_builtin _ (by decide +kernel), codeAny_builtin F.entry_type_call ?_⟩))
  rw [Around.under_plain (weight_type_call_type "set" [.ref l] []) rfl]
  have no := F.called_set.notType
  have can := F.called_set.canCreate
  have one := F.typeCall_set_1 (.ref l)
  repeat (any_goals (first | assumption | wp_step))
  refine codeAny_mono (code_set_led1 (.ref l) (E := E) (Q₁ := fun obj s₁ => obj = .ref s.heap.objs.size ∧ s₁ = { s with heap := s.heap.push (set0 w) }) ⟨rfl, rfl⟩) fun r s₁ hr => ?_
  match r, hr with
  | .error e, hr => exact hr
  | .ok .next, hr => exact hr.elim
  | .ok .brk, hr => exact hr.elim
  | .ok .cont, hr => exact hr.elim
  | .ok (.ret obj), hr =>
    obtain ⟨rfl, rfl⟩ := hr
    have tS : Shared.TypeIs { s with heap := s.heap.push (set0 w) } (.ref s.heap.objs.size) "set" := ⟨_, atS, rfl⟩
    have i1 := F.called_set.init.lookup
    have i2 := F.called_set.init.bind (.ref s.heap.objs.size)
    repeat (any_goals (first | assumption | wp_step))
    refine codeAny_mono (codeAny_call_builtin (R := wants (fun r s₂ => r = .none ∧ ∃ h' tk c, s₂ = { s with heap := h', toks := tk } ∧ SetR w h' s.heap.objs.size (fun j => decide (j ∈ ns)) c ∧ c ≤ ns.length ∧ (∀ b o, s.heap.get? b = some o → h'.get? b = some o)) E)
      F.called_set.init.plain F.entry_set_init (check_set_init_1 tS ?_)) fun r₂ s₂ hr₂ => ?_
    · obtain ⟨⟨cl, dd, da, sl⟩, atl, hc, nl, hd⟩ := hl
      simp only at hc hd
      subst hc hd
      have atl' := Heap.get?_push_of_some (set0 w) atl
      have q1 := F.sub_list_set
      have q2 := F.sub_list_frozenset
      have q3 : (Value.type "list" == Value.type "dict") = false := by decide
      have isl : (s.heap.push (set0 w)).IsList l xs := ⟨_, atl', rfl, nl, rfl⟩
      unfold Builtin.«set.__init__» noKeywords Builtin.Frozenset.updateFrom
      generalize hPI : pyIter = PI
      wp_walk
      subst hPI
      refine wpAny_pyIter_list isl (wpAny_bind (wpAny_runValue ?_))
      have hA3 : A.in1.in1.in1.handled = none := by simp [hA]
      have lI : l ≠ (s.heap.push (set0 w)).objs.size := by rw [upS]; exact Nat.ne_of_lt (Nat.lt_succ_of_lt lS)
      have offS : s.heap.objs.size ∉ [(s.heap.push (set0 w)).objs.size, l] := by
        rw [upS]
        simp only [List.mem_cons, List.mem_singleton, List.not_mem_nil, or_false, not_or]
        exact ⟨Nat.ne_of_lt (Nat.lt_succ_self _), Nat.ne_of_gt lS⟩
      have val : ∀ (i : Nat) (v : Value), xs[i]? = some v → ∃ k t, ns[i]? = some k ∧ v = .int k t := fun i v hv => by
        have hin : i < ns.length := by rw [← sz]; exact (Array.getElem?_eq_some_iff.mp hv).1
        obtain ⟨t, e⟩ := IntsAre.int_at hi i v (by rw [Array.getElem?_toList]; exact hv)
        exact ⟨ns[i], t, List.getElem?_eq_getElem hin, by rw [e, List.getD_eq_getElem?_getD, List.getElem?_eq_getElem hin]; rfl⟩
      refine set_update_ints ((Walks.list hA3 _ l lI xs).toS) s.heap.objs.size offS ns sz few val (xs.size - 0) 0 _ (by omega) (Nat.zero_le _) ⟨⟨_, Heap.get?_push_size _ rfl, rfl, rfl⟩, (isl.push _)⟩ ⟨0, Nat.le_refl 0, setR_new_at (Heap.get?_push_of_some _ atS)⟩ fun s' c' hm hc' hS' => ?_
      obtain ⟨h', g2, d', tk', os'⟩ := s'
      obtain rfl : g2 = s.gens := hm.gens
      obtain rfl : d' = s.drawn := hm.drawn
      obtain rfl : os' = s.os := hm.os
      show wpAny _ _ _ _ _ _
      refine wpAny_pure (show wpAny _ _ (ret Value.none) _ _ _ from wpAny_pure ⟨rfl, h', tk', c', rfl, hS', by rw [← sz]; exact hc', fun b o e => ?_⟩)
      have b0 : b < s.heap.objs.size := Heap.lt_size e
      refine hm.heap b o ?_ (Heap.get?_push_of_some _ (Heap.get?_push_of_some _ e))
      rw [upS]
      simp only [List.mem_cons, List.mem_singleton, List.not_mem_nil, or_false, not_or]
      exact ⟨Nat.ne_of_lt b0, Nat.ne_of_lt (Nat.lt_succ_of_lt b0)⟩
    · match r₂, hr₂ with
      | .error e, hr₂ => exact hr₂
      | .ok .next, hr₂ => exact hr₂.elim
      | .ok .brk, hr₂ => exact hr₂.elim
      | .ok .cont, hr₂ => exact hr₂.elim
      | .ok (.ret r), hr₂ =>
        obtain ⟨rfl, h', tk, c', rfl, hS', hc', hk'⟩ := hr₂
        repeat (any_goals (first | assumption | wp_step))
        exact todo _ _ _ hS' hc' hk'
end
section
variable {P : Program} {w : World} {A : Around} {E : Value → Shared → Prop} {s : Shared}
theorem sorted_setN {a : Addr} {S : Int → Bool} {n : Nat} {Q : Value → Shared → Prop} (R : SetR w s.heap a S n) (hA : A.handled = none) (few : n ≤ 4000)
    (todo : ∀ s' p (out : List Value) (c : Nat) (ns : List Int), (∀ b o, s.heap.get? b = some o → s'.heap.get? b = some o) → s'.gens = s.gens → s'.os = s.os → s.heap.objs.size ≤ p → s'.heap.get? p = some (seqObj "list" out.toArray c) → IntsAre out ns →
      ns.Pairwise (· < ·) → (∀ k, k ∈ ns ↔ S k = true) → ns.length = n → Q (.ref p) s') : wpAny (model P w) A (call (.builtin "sorted") [.ref a]) Q E s := by
  obtain ⟨o, es, ep, t, ho, hex, hd, g, nd, hm, hb, hf, hn, hr, hl⟩ := R
  refine Calls.call_function_entry kind_sorted plain_sorted entry_sorted (args_sorted1 _) ?_
  unfold Builtin.«sorted»
  refine wpAny_bind (m := checkCount "sorted" 1 1 _) (wpAny_pure (wpAny_bind (collect_set (A := A.in1) hA ⟨o, ho, hex.1, hd⟩ hf hb hr hl fun s1 vs k1 hz g1 o1 pm => ?_)))
  have hvl : vs.length = n := by rw [pm.length_eq, List.length_map, Array.length_toList, hn]
  have big : 4001 ≤ sizeLine := by decide
  have hI : IntsAre vs (vs.map Builtin.Re.reRawOf) := ints_of vs fun v hv => by
    obtain ⟨e, he, q⟩ := List.mem_map.mp (pm.mem_iff.mp hv)
    obtain ⟨k, tk, h1, _⟩ := g e he
    exact ⟨k, tk, q ▸ h1⟩
  have pk : (vs.map Builtin.Re.reRawOf).Perm (es.toList.map keyOf) := by
    have q := pm.map Builtin.Re.reRawOf
    rwa [List.map_map] at q
  refine wpAny_bind (wpAny_newList ?_ (by rw [hvl]; omega))
  have atL : (s1.heap.push (seqObj "list" vs.toArray 0)).get? s1.heap.objs.size = some (seqObj "list" vs.toArray 0) := Heap.get?_push_size _ rfl
  refine wpAny_bind (wpAny_holding (wpAny_call_entry slot_list_sort ⟨_, atL, rfl⟩ entry_list_sort (SrtO.list_sort_ord SrtO.swo_int atL (by rw [hvl]; omega) (fun h2 => SrtO.ints_sortable hI h2) fun out h1 h2 => ⟨_, rfl, ?_⟩) (args_list_sort _)))
  obtain ⟨a1, a2, a3⟩ := SrtO.ints_out hI h1 h2
  obtain ⟨c, hc⟩ := sortedHeap_at (vs := vs) (out := out.toArray) atL
  have pn := a2.trans pk
  refine wpAny_pure ⟨_, rfl, todo _ s1.heap.objs.size out c _ (fun b u e => ?_) g1 o1 hz hc a1 (lt_of_le_nodup _ a3 (pn.nodup_iff.mpr nd)) (fun k => by rw [pn.mem_iff, ← hm k]) ?_⟩
  · have q := k1 b u e
    have lt := Heap.lt_size q
    show (sortedHeap (s1.heap.push (seqObj "list" vs.toArray 0)) s1.heap.objs.size vs out.toArray).get? b = some u
    rw [sortedHeap_old (Nat.ne_of_lt lt) (by rw [size_push']; exact Nat.lt_succ_of_lt lt)]
    exact Heap.get?_push_of_some _ q
  · rw [pn.length_eq, List.length_map, Array.length_toList, hn]
end
/-- set(xs), xs a list of whole numbers -/
@[irreducible] def rSetI (K : PySem.W.Frag) (w : World) : List V → Hp → VK → Prop := fun vs H Q => ∃ (a : Addr) (ns : List Int), vs = [.ref a] ∧ SqL K H a (ns.map V.int) ∧ ns.length ≤ 4000 ∧ ∀ p c, H p = none → c ≤ ns.length → Q (.ref p) (upd H p (SetO w p (fun j => decide (j ∈ ns)) c))
theorem call_setI {X : Cx} (hc : X.calm = true) : CallR X (.type "set") (rSetI X.K X.w) := by
  intro pins s σ H vs us Q I r h
  unfold rSetI at h
  obtain ⟨a, ns, rfl, hs, few, q⟩ := h
  obtain ⟨its, rv, hl, hz⟩ := I.list hs
  rw [Vals.ref1 r]
  refine set_of_list (xs := its.toArray) ns (I.ok.hd hc) hl.isList (by simpa using rv.ints) (by have : 4002 ≤ scanBound := by decide
                                                                                                omega) fun h' tk c R hc' k => ?_
  exact ⟨.ref s.heap.objs.size, upd H s.heap.objs.size (SetO X.w s.heap.objs.size (fun j => decide (j ∈ ns)) c), I.laid (t' := tk) k (Nat.le_refl _) (setO_new R), rfl, q _ c (I.hok.fresh (Nat.le_refl _)) hc'⟩
/-- sorted(s) of such a set -/
@[irreducible] def rSortedN (w : World) : List V → Hp → VK → Prop := fun vs H Q => ∃ (a : Addr) (S : Int → Bool) (n : Nat), vs = [V.ref a] ∧ H a = some (SetO w a S n) ∧ n ≤ 4000 ∧
  ∀ (ns : List Int) (p : Addr), ns.Pairwise (· < ·) → (∀ k : Int, k ∈ ns ↔ S k = true) → H p = none → Q (.ref p) (upd H p (.lst (ns.map V.int)))
theorem cr_sortedN {X : Cx} (hc : X.calm = true) : CallR X (.builtin "sorted") (rSortedN X.w) := by
  intro pins s σ H vs us Q I r h
  unfold rSortedN at h
  obtain ⟨a, S, n, rfl, ha, few, q⟩ := h
  rw [Vals.ref1 r]
  refine sorted_setN (setO_get I ha) (I.ok.hd hc) few fun s' p out c ns k g o hp hg hi hs hm hl => ?_
  have big : 4001 ≤ sizeLine := by decide
  have hn : H p = none := I.hok.fresh hp
  have J : Inv X pins σ (upd H p (.lst (ns.map V.int))) { s with heap := s'.heap, gens := s'.gens, drawn := s'.drawn, toks := s'.toks } :=
    I.call (ch := []) (Un.laid k hp hn) (I.hok.laid k hp ⟨by rw [List.length_map, hl]; omega, out, c, vals_of_ints hi, hg⟩) (by rw [g]; exact I.bare) (fun _ z => nomatch z)
  have e : s' = { s with heap := s'.heap, gens := s'.gens, drawn := s'.drawn, toks := s'.toks } := by
    cases s'; cases s; cases o; rfl
  rw [e]
  exact ⟨.ref p, _, J, rfl, q ns p hs hm hn⟩
theorem setI_of {K : PySem.W.Frag} {w : World} {H : Hp} {a : Addr} {ns : List Int} {Q : VK} (h : SqL K H a (ns.map V.int)) (l : ns.length ≤ 4000) (q : ∀ p c, H p = none → c ≤ ns.length → Q (.ref p) (upd H p (SetO w p (fun j => decide (j ∈ ns)) c))) : rSetI K w [.ref a] H Q := by
  unfold rSetI
  exact ⟨a, ns, rfl, h, l, q⟩
theorem sortedN_of {w : World} {H : Hp} {a : Addr} {S : Int → Bool} {n : Nat} {Q : VK} (h : H a = some (SetO w a S n)) (l : n ≤ 4000) (q : ∀ (ns : List Int) (p : Addr), ns.Pairwise (· < ·) → (∀ k : Int, k ∈ ns ↔ S k = true) → H p = none → Q (.ref p) (upd H p (.lst (ns.map V.int)))) : rSortedN w [.ref a] H Q := by
  unfold rSortedN
  exact ⟨a, S, n, rfl, h, l, q⟩
end Q

set_option maxRecDepth 100000
set_option maxHeartbeats 4000000
namespace K00
open PySem PySem.Spec PyProof.Rows L2 Q RZ
section
variable {P : Program} {w : World} {K : PySem.W.Frag} {mg : Str → Option Value} {base : Heap} {f : Addr} {fd : FuncData}
theorem along_eq {a1 b1 a2 b2 : Int} (h1 : a1 < b1) (h2 : a2 < b2) {ns : List Int} (asc : ns.Pairwise (· < ·)) (mem : ∀ k, k ∈ ns ↔ (a1 ≤ k ∧ k < b1) ∨ (a2 ≤ k ∧ k < b2)) :
    ∃ f xs z, ns[0]? = some f ∧ ns = xs ++ [z] ∧ f ≤ z ∧ (ns = _root_.Q.upTo f (z + 1) ↔ ¬ a1 > b2 ∧ ¬ a2 > b1) ∧ ((¬ a1 > b2 ∧ ¬ a2 > b1) → f = imn a1 a2 ∧ z + 1 = imx b1 b2) := by
  have two : ∀ {a b a' b' : Int}, a < b → a' < b' → b < a' → (∀ k, k ∈ ns ↔ (a ≤ k ∧ k < b) ∨ (a' ≤ k ∧ k < b')) → ∃ f xs z, ns[0]? = some f ∧ ns = xs ++ [z] ∧ f ≤ z ∧ ns ≠ _root_.Q.upTo f (z + 1) := by
    intro a b a' b' q1 q2 q3 q4
    have e : ns = _root_.Q.upTo a b ++ _root_.Q.upTo a' b' := asc_int asc (app_asc (upTo_asc _ _) (upTo_asc _ _) fun x hx y hy => by
      have := upTo_mem.mp hx
      have := upTo_mem.mp hy
      omega) fun x => by rw [q4, List.mem_append, upTo_mem, upTo_mem]
    obtain ⟨f1, _⟩ := upTo_first q1
    obtain ⟨_, xs, f2⟩ := upTo_first q2
    refine ⟨a, _root_.Q.upTo a b ++ xs, b' - 1, ?_, by rw [e, f2, List.append_assoc], by omega, fun z => ?_⟩
    · rw [e, List.getElem?_append_left (by rw [upTo_len]; omega), f1]
    · have m : b ∈ ns := by
        rw [z]
        exact upTo_mem.mpr (by omega)
      have := (q4 b).mp m
      omega
  by_cases c1 : a1 > b2
  · obtain ⟨f, xs, z, e1, e2, e3, e4⟩ := two h2 h1 c1 fun k => by rw [mem]; exact Or.comm
    exact ⟨f, xs, z, e1, e2, e3, ⟨fun q => absurd q e4, fun q => absurd c1 q.1⟩, fun q => absurd c1 q.1⟩
  · by_cases c2 : a2 > b1
    · obtain ⟨f, xs, z, e1, e2, e3, e4⟩ := two h1 h2 c2 mem
      exact ⟨f, xs, z, e1, e2, e3, ⟨fun q => absurd q e4, fun q => absurd c2 q.2⟩, fun q => absurd c2 q.2⟩
    · have lt : imn a1 a2 < imx b1 b2 := by
        show (if a2 < a1 then a2 else a1) < (if b2 > b1 then b2 else b1)
        split <;> split <;> omega
      have e : ns = _root_.Q.upTo (imn a1 a2) (imx b1 b2) := asc_int asc (upTo_asc _ _) fun x => by
        rw [mem, upTo_mem]
        show _ ↔ (if a2 < a1 then a2 else a1) ≤ x ∧ x < (if b2 > b1 then b2 else b1)
        split <;> split <;> omega
      obtain ⟨f1, xs, f2⟩ := upTo_first lt
      exact ⟨imn a1 a2, xs, imx b1 b2 - 1, by rw [e, f1], by rw [e, f2], by omega, ⟨fun _ => ⟨c1, c2⟩, fun _ => by rw [Int.sub_add_cancel]; exact e⟩, fun _ => ⟨rfl, Int.sub_add_cancel _ _⟩⟩
theorem allLt_all : ∀ {L H : List Int}, L.length = H.length → allLt L H = (List.range L.length).all fun i => decide (L.getD i 0 < H.getD i 0)
  | [], [], _ => rfl
  | l :: L, h :: H, e => by
    show (decide (l < h) && allLt L H) = (List.range (L.length + 1)).all _
    rw [List.range_succ_eq_map, List.all_cons, List.all_map, allLt_all (by simpa using e)]
    rfl
  | [], _ :: _, e => by cases e
  | _ :: _, [], e => by cases e
theorem joinI_len (f g : Int → Int → Int) (c : Nat) (xs ys : List Int) : (joinI f g c xs ys).length = xs.length := by
  unfold joinI
  ((try simp only [List.length_map, List.length_take, List.length_drop, List.length_append, List.length_cons, List.length_nil, List.length_zipWith, List.length_set, List.length_replicate, List.length_range]) <;> omega)
theorem joinI_get (f g : Int → Int → Int) (c : Nat) (xs ys : List Int) {i : Nat} (h : i < xs.length) : (joinI f g c xs ys).getD i 0 = if i = c then f (xs.getD i 0) (ys.getD i 0) else g (xs.getD i 0) (ys.getD i 0) := by
  unfold joinI
  rw [List.getD_eq_getElem?_getD, List.getElem?_map, List.getElem?_range h]
  rfl
theorem los_get {rs : List (Int × Int)} {i : Nat} (h : i < rs.length) : (los rs).getD i 0 = rs[i].1 := by
  rw [List.getD_eq_getElem?_getD, List.getElem?_map, List.getElem?_eq_getElem h]
  rfl
theorem his_get {rs : List (Int × Int)} {i : Nat} (h : i < rs.length) : (his rs).getD i 0 = rs[i].2 := by
  rw [List.getD_eq_getElem?_getD, List.getElem?_map, List.getElem?_eq_getElem h]
  rfl
theorem commonOf_get {xs ys : List (Int × Int)} (e : xs.length = ys.length) {i : Nat} (h : i < xs.length) : (commonOf xs ys)[i]? = some (imx xs[i].1 ys[i].1, imn xs[i].2 ys[i].2) := by
  unfold commonOf
  rw [List.getElem?_zipWith, List.getElem?_eq_getElem h, List.getElem?_eq_getElem (show i < ys.length by omega)]
/-- the columns, c aside, in which the two have nothing in common -/
def emptyIn (c : Nat) (due : List (Int × Int)) (k : Nat) : Bool := decide (k ≠ c) && decide ((due.getD k (0, 0)).1 ≥ (due.getD k (0, 0)).2)
theorem empty_all {xs ys : List (Int × Int)} (e : xs.length = ys.length) (r1 : Rgs (los xs) (his xs)) (r2 : Rgs (los ys) (his ys)) {c : Nat} (hc : c < xs.length) :
    ((List.range xs.length).filter (emptyIn c (commonOf xs ys))).isEmpty = allLt (joinI imn imx c (los xs) (los ys)) (joinI imx imn c (his xs) (his ys)) := by
  have hl : (los xs).length = xs.length := List.length_map ..
  have hh : (his xs).length = xs.length := List.length_map ..
  rw [allLt_all (by rw [joinI_len, joinI_len, hl, hh]), joinI_len, hl]
  rw [Bool.eq_iff_iff, List.isEmpty_iff, List.filter_eq_nil_iff, List.all_eq_true]
  have key : ∀ k ∈ List.range xs.length, (¬ emptyIn c (commonOf xs ys) k = true ↔ decide ((joinI imn imx c (los xs) (los ys)).getD k 0 < (joinI imx imn c (his xs) (his ys)).getD k 0) = true) := fun k hk => by
    have hk := List.mem_range.mp hk
    have hy : k < ys.length := by omega
    have b1 := rgs_all r1 _ (List.getElem_mem hk)
    have b2 := rgs_all r2 _ (List.getElem_mem hy)
    rw [joinI_get _ _ _ _ _ (by rw [hl]; exact hk), joinI_get _ _ _ _ _ (by rw [hh]; exact hk), los_get hk, los_get hy, his_get hk, his_get hy, decide_eq_true_eq]
    unfold emptyIn
    rw [List.getD_eq_getElem?_getD, commonOf_get e hk]
    by_cases z : k = c
    · rw [if_pos z, if_pos z]
      simp [z]
      show (if ys[c].1 < xs[c].1 then ys[c].1 else xs[c].1) < (if ys[c].2 > xs[c].2 then ys[c].2 else xs[c].2)
      subst z
      split <;> split <;> omega
    · rw [if_neg z, if_neg z]
      simp [z]
  exact ⟨fun h k hk => (key k hk).mp (h k hk), fun h k hk => (key k hk).mpr (h k hk)⟩
theorem due_los {xs ys : List (Int × Int)} (e : xs.length = ys.length) {c : Nat} {lo hi : Int} (hc : c < xs.length) (h1 : lo = imn ((los xs).getD c 0) ((los ys).getD c 0)) (h2 : hi = imx ((his xs).getD c 0) ((his ys).getD c 0)) :
    los ((commonOf xs ys).set c (lo, hi)) = joinI imn imx c (los xs) (los ys) ∧ his ((commonOf xs ys).set c (lo, hi)) = joinI imx imn c (his xs) (his ys) := by
  have ln := commonOf_len e
  constructor
  · refine List.ext_getElem? fun i => ?_
    unfold joinI
    rw [List.getElem?_map, List.getElem?_map]
    by_cases hi' : i < xs.length
    · rw [List.getElem?_range (by ((try simp only [List.length_map, List.length_take, List.length_drop, List.length_append, List.length_cons, List.length_nil, List.length_zipWith, List.length_set, List.length_replicate, List.length_range]) <;> omega)), List.getElem?_set]
      by_cases z : c = i
      · subst z
        rw [if_pos rfl, if_pos (by omega)]
        simp [h1]
      · rw [if_neg z, commonOf_get e hi']
        simp only [Option.map_some]
        rw [if_neg (fun y => z y.symm), los_get hi', los_get (show i < ys.length by omega)]
    · rw [List.getElem?_eq_none (by ((try simp only [List.length_map, List.length_take, List.length_drop, List.length_append, List.length_cons, List.length_nil, List.length_zipWith, List.length_set, List.length_replicate, List.length_range]) <;> omega)), List.getElem?_eq_none (by ((try simp only [List.length_map, List.length_take, List.length_drop, List.length_append, List.length_cons, List.length_nil, List.length_zipWith, List.length_set, List.length_replicate, List.length_range]) <;> omega))]
      rfl
  · refine List.ext_getElem? fun i => ?_
    unfold joinI
    rw [List.getElem?_map, List.getElem?_map]
    by_cases hi' : i < xs.length
    · rw [List.getElem?_range (by ((try simp only [List.length_map, List.length_take, List.length_drop, List.length_append, List.length_cons, List.length_nil, List.length_zipWith, List.length_set, List.length_replicate, List.length_range]) <;> omega)), List.getElem?_set]
      by_cases z : c = i
      · subst z
        rw [if_pos rfl, if_pos (by omega)]
        simp [h2]
      · rw [if_neg z, commonOf_get e hi']
        simp only [Option.map_some]
        rw [if_neg (fun y => z y.symm), his_get hi', his_get (show i < ys.length by omega)]
    · rw [List.getElem?_eq_none (by ((try simp only [List.length_map, List.length_take, List.length_drop, List.length_append, List.length_cons, List.length_nil, List.length_zipWith, List.length_set, List.length_replicate, List.length_range]) <;> omega)), List.getElem?_eq_none (by ((try simp only [List.length_map, List.length_take, List.length_drop, List.length_append, List.length_cons, List.length_nil, List.length_zipWith, List.length_set, List.length_replicate, List.length_range]) <;> omega))]
      rfl
/-- a point of the join lies in one of the two -/
theorem join_sub {l1 h1 l2 h2 : List Int} {c : Nat} (e1 : l1.length = h1.length) (e2 : l2.length = h2.length) (e : l1.length = l2.length) (n1 : ¬ l1.getD c 0 > h2.getD c 0) (n2 : ¬ l2.getD c 0 > h1.getD c 0) {p : List Int} (m : p ∈ spots (joinI imn imx c l1 l2) (joinI imx imn c h1 h2)) :
    p ∈ spots l1 h1 ∨ p ∈ spots l2 h2 := by
  have lj : (joinI imn imx c l1 l2).length = (joinI imx imn c h1 h2).length := by rw [joinI_len, joinI_len, e1]
  rw [mem_spots lj, within_iff lj, joinI_len] at m
  obtain ⟨m1, m2⟩ := m
  have at_ : ∀ i, i < l1.length → i ≠ c → (l1.getD i 0 ≤ p.getD i 0 ∧ p.getD i 0 < h1.getD i 0) ∧ l2.getD i 0 ≤ p.getD i 0 ∧ p.getD i 0 < h2.getD i 0 := fun i hi ne => by
    have := m2 i hi
    rw [joinI_get _ _ _ _ _ hi, joinI_get _ _ _ _ _ (by omega), if_neg ne, if_neg ne] at this
    revert this
    show (if l2.getD i 0 > l1.getD i 0 then l2.getD i 0 else l1.getD i 0) ≤ _ ∧ _ < (if h2.getD i 0 < h1.getD i 0 then h2.getD i 0 else h1.getD i 0) → _
    split <;> split <;> omega
  have atc : c < l1.length → (l1.getD c 0 ≤ p.getD c 0 ∧ p.getD c 0 < h1.getD c 0) ∨ (l2.getD c 0 ≤ p.getD c 0 ∧ p.getD c 0 < h2.getD c 0) := fun hc => by
    have := m2 c hc
    rw [joinI_get _ _ _ _ _ hc, joinI_get _ _ _ _ _ (by omega), if_pos rfl, if_pos rfl] at this
    revert this
    show (if l2.getD c 0 < l1.getD c 0 then l2.getD c 0 else l1.getD c 0) ≤ _ ∧ _ < (if h2.getD c 0 > h1.getD c 0 then h2.getD c 0 else h1.getD c 0) → _
    split <;> split <;> omega
  rw [mem_spots e1, mem_spots e2, within_iff e1, within_iff e2]
  by_cases hc : c < l1.length
  · rcases atc hc with q | q
    · refine .inl ⟨m1, fun i hi => ?_⟩
      by_cases z : i = c
      · rw [z]; exact q
      · exact (at_ i hi z).1
    · refine .inr ⟨by omega, fun i hi => ?_⟩
      by_cases z : i = c
      · rw [z]; exact q
      · exact (at_ i (by omega) z).2
  · exact .inl ⟨m1, fun i hi => (at_ i hi (by omega)).1⟩
theorem join_cnt {l1 h1 l2 h2 : List Int} {c : Nat} (e1 : l1.length = h1.length) (e2 : l2.length = h2.length) (e : l1.length = l2.length) (n1 : ¬ l1.getD c 0 > h2.getD c 0) (n2 : ¬ l2.getD c 0 > h1.getD c 0) : cnt (joinI imn imx c l1 l2) (joinI imx imn c h1 h2) ≤ cnt l1 h1 + cnt l2 h2 := by
  rw [← spots_len, ← spots_len, ← spots_len, ← List.length_append]
  exact nodup_len (spots_nodup _ _) fun p m => List.mem_append.mpr (join_sub e1 e2 e n1 n2 m)

end
end K00

set_option maxRecDepth 100000
set_option maxHeartbeats 4000000
namespace K00
open PySem PySem.Spec PyProof.Rows L2 Q RZ
section
variable {P : Program} {w : World} {K : PySem.W.Frag} {mg : Str → Option Value} {base : Heap} {f : Addr} {fd : FuncData}
theorem PairsAt.get {H : Hp} {l : Addr} {rs : List (Int × Int)} (h : PairsAt H l rs) {i : Nat} (hi : i < rs.length) : ∃ vs t, H l = some (.lst vs) ∧ vs[i]? = some (.ref t) ∧ H t = some (.tup [.int rs[i].1, .int rs[i].2]) := by
  obtain ⟨vs, h1, h2⟩ := h.paired
  obtain ⟨v, e, t, rfl, ht⟩ := paired_at h2 i hi
  exact ⟨vs, t, h1, e, ht⟩
theorem rgV_upTo (a b : Int) : rgV a b = (_root_.Q.upTo a b).map V.int := by
  unfold rgV _root_.Q.upTo
  rw [List.map_map]
  rfl
theorem join_rgs {l1 h1 l2 h2 : List Int} {c : Nat} (r1 : Rgs l1 h1) (r2 : Rgs l2 h2) (e : l1.length = l2.length) (al : allLt (joinI imn imx c l1 l2) (joinI imx imn c h1 h2) = true) : Rgs (joinI imn imx c l1 l2) (joinI imx imn c h1 h2) := by
  have e1 := r1.len
  have e2 := r2.len
  refine rgs_of (by rw [joinI_len, joinI_len]; omega) al (fun x hx => ?_) fun x hx => ?_
  · obtain ⟨i, hi, rfl⟩ := List.mem_map.mp hx
    have hi := List.mem_range.mp hi
    have z1 := rgs_getD r1 hi
    have z2 := rgs_getD r2 (i := i) (by omega)
    show (0 : Int) ≤ if i = c then (if l2.getD i 0 < l1.getD i 0 then l2.getD i 0 else l1.getD i 0) else if l2.getD i 0 > l1.getD i 0 then l2.getD i 0 else l1.getD i 0
    split <;> split <;> omega
  · obtain ⟨i, hi, rfl⟩ := List.mem_map.mp hx
    have hi := List.mem_range.mp hi
    have z1 := rgs_getD r1 (i := i) (by omega)
    have z2 := rgs_getD r2 (i := i) (by omega)
    show (if i = c then (if h2.getD i 0 > h1.getD i 0 then h2.getD i 0 else h1.getD i 0) else if h2.getD i 0 < h1.getD i 0 then h2.getD i 0 else h1.getD i 0) ≤ (64 : Int)
    split <;> split <;> omega
theorem paired_set {α β : Type} {R : α → β → Prop} : ∀ {as : List α} {bs : List β} (i : Nat) {a : α} {b : β}, Paired R as bs → R a b → Paired R (as.set i a) (bs.set i b)
  | _, _, _, _, _, .nil, _ => .nil
  | _, _, 0, _, _, .cons _ t, r => .cons r t
  | _, _, i + 1, _, _, .cons h t, r => .cons h (paired_set i t r)
theorem shaped_lints (ns : List Int) : SeqAt.shaped (.list (ns.map PyData.int)) = true := by
  show (PyData.canLayAll0 (ns.map PyData.int) && decide (PyData.depthAll (ns.map PyData.int) + 1 ≤ 64)) = true
  rw [lay_ints, Q.depth_ints]
  rfl
theorem eqv_lints (ns ms : List Int) : PyData.eqv (.list (ns.map PyData.int)) (.list (ms.map PyData.int)) = decide (ns = ms) := eqvAll_ints ns ms
theorem dp_lints {K : PySem.W.Frag} {H : Hp} {p : Addr} {ns : List Int} (h : SqL K H p (ns.map V.int)) : Dp K H (.ref p) (.list (ns.map PyData.int)) := .lst h (dpAll_ints ns)
def spJoinR : Sp := fun vs H Q _ => ∃ (a b : Addr) (xs ys : List (Int × Int)) (c : Nat), vs = [.ref a, .ref b, .int c] ∧ PairsAt H a xs ∧ PairsAt H b ys ∧ xs.length = ys.length ∧ xs.length ≤ 5 ∧ c < xs.length ∧ Rgs (los xs) (his xs) ∧ Rgs (los ys) (his ys) ∧ cnt (los xs) (his xs) ≤ 4000 ∧ cnt (los ys) (his ys) ≤ 4000 ∧ ∀ H', L2.Same H H' → Q (.bl true) H'
theorem C__law_join_right (T : Tx K mg) : Cal P w K mg base CX0 7 "_law_join_right" ["one", "other", "column"] [] spJoinR := by
  obtain ⟨fd, F⟩ := T.d__law_join_right
  have C__law_box := C__law_box (P := P) (w := w) (base := base) T
  have C__law_common := C__law_common (P := P) (w := w) (base := base) T
  have C__law_spots := C__law_spots (P := P) (w := w) (base := base) T
  have C_join_along := C_join_along (P := P) (w := w) (base := base) T
  have C__law_is_box := C__law_is_box (P := P) (w := w) (base := base) T
  refine ⟨_, fd, [], F.ok sc__law_join_right (fun vs H Q E h => ?_) (fun cdv A outer s H vs Q E hr h => ?_), T.g__law_join_right, F.kp, F.bindsN fun _ _ _ _ _ _ us hl => match us, hl with | [_, _, _], _ => rfl, .nil⟩
  · obtain ⟨a, b, xs, ys, c, rfl, _⟩ := h
    rfl
  · obtain ⟨a, b, xs, ys, c, rfl, pa, pb, el, len, hc, r1, r2, c1, c2, kQ⟩ := h
    refine ⟨_, PSs.nox (pss_cons (ps_set (i := 3) sc__law_join_right.nd rfl (Or.inr rfl) (pe_listRg rfl (by rfl) T.n_list (prg_2 (by rfl) T.n_range (pe_ix ix_tup (pe_ix ix_list (pv 0) (pv 2) (fun _ _ => rfl)) pe_int (fun _ _ => rfl)) (pe_ix ix_tup (pe_ix ix_list (pv 0) (pv 2) (fun _ _ => rfl)) pe_int (fun _ _ => rfl)))))
      (pss_cons (ps_set (i := 4) sc__law_join_right.nd rfl (Or.inl rfl) (pe_callB (cr_sortedN rfl) (by rfl) T.n_sorted (by decide +kernel) (pa_cons (pe_callTy (call_setI rfl) (by rfl) T.n_set (by decide +kernel) (pa_cons (pe_op op_cat (pv 3) (pe_listRg rfl (by rfl) T.n_list (prg_2 (by rfl) T.n_range (pe_ix ix_tup (pe_ix ix_list (pv 1) (pv 2) (fun _ _ => rfl)) pe_int (fun _ _ => rfl)) (pe_ix ix_tup (pe_ix ix_list (pv 1) (pv 2) (fun _ _ => rfl)) pe_int (fun _ _ => rfl))))) pa_nil)) pa_nil)))
      (pss_cons (ps_set (i := 5) sc__law_join_right.nd rfl (Or.inr rfl) (pe_cal C__law_common (hr.mono (by decide)) pass0 (pa_cons (pv 0) (pa_cons (pv 1) pa_nil))))
      (C8.pss_cut (ps_set (i := 6) sc__law_join_right.nd rfl (Or.inl rfl) (pe_cal C_join_along (hr.mono (by decide)) passX (pa_cons (pe_cal C__law_box (hr.mono (by decide)) passX (pa_cons (pv 0) pa_nil)) (pa_cons (pe_cal C__law_box (hr.mono (by decide)) passX (pa_cons (pv 1) pa_nil)) (pa_cons (pv 2) pa_nil)))))
      (pss_cons (ps_setLc (i := 8) (own := [("k", 7)]) (g := gName 7) (tt := _) (by rfl) sc__law_join_right.nd rfl rfl (sw_true rfl rfl rfl (by decide +kernel)) (pi_range1 (by rfl) T.n_range (pa_cons (pe_callB call_len_seq (by rfl) T.n_len (by decide +kernel) (pa_cons (pv 5) pa_nil)) pa_nil)) (blkOk_by (N := ["one", "other", "column", "mine", "along", "due", "made", "k", "empty", "spot"]) (sc := defScope s__law_join_right) (by decide +kernel)) (fun _ _ _ _ _ => (pg_name (i := 7) sc__law_join_right.nd rfl (Or.inl rfl))) (fun _ _ _ _ _ => (pts_one (PW.pt (pw_and (pt_cmpR op_ne (pv 7) (pv 2) (nomark _)) (pw_and1 (pt_cmpR op_ge (pe_ix ix_tupB (pe_ix ix_listB (pv 5) (pv 7) (fun _ _ => rfl)) pe_int (fun _ _ => rfl)) (pe_ix ix_tupB (pe_ix ix_listB (pv 5) (pv 7) (fun _ _ => rfl)) pe_int (fun _ _ => rfl)) (nomark _))))))) (fun _ _ _ _ _ => (pv 7)))
      (pss_cons (ps_if (PW.pt (pw_or (pt_cmpR (op_neD hr.units) (pv 4) (pe_listRg rfl (by rfl) T.n_list (prg_2 (by rfl) T.n_range (pe_ix ix_list (pv 4) pe_int (fun _ _ => rfl)) (pe_op op_add (pe_ix ix_list (pv 4) (pe_un un_neg pe_int) (fun _ _ => rfl)) pe_int))) (nomark _)) (pw_or1 (pt_truth (pv 8) (by intro _; rfl)))))
        (pss_one (ps_ret (pe_cmpR op_isN (pv 6) pe_non (nomark _))))
        pss_nil)
      (pss_cons (ps_asg (pe_tup (pa_cons (pe_ix ix_list (pv 4) pe_int (fun _ _ => rfl)) (pa_cons (pe_op op_add (pe_ix ix_list (pv 4) (pe_un un_neg pe_int) (fun _ _ => rfl)) pe_int) pa_nil))) (pg_sub (pv 5) (pv 2) set_list))
      (pss_cons (ps_if (pt_not (pt_val (pe_cal C__law_is_box (hr.mono (by decide)) pass0 (pa_cons (pv 6) (pa_cons (pv 5) pa_nil)))))
        (pss_one (ps_ret pe_bl))
        pss_nil)
      (pss_cons (ps_set (i := 3) sc__law_join_right.nd rfl (Or.inr rfl) (pe_callTy (call_dictR hr rfl) (by rfl) T.n_dict (by decide +kernel) (pa_cons (pe_lc (own := [("spot", 9)]) (g := gName 9) (tt := tYes) (by rfl) sc__law_join_right.nd (pi_list (pe_op op_cat (pe_cal C__law_spots (hr.mono (by decide)) pass0 (pa_cons (pv 0) pa_nil)) (pe_cal C__law_spots (hr.mono (by decide)) pass0 (pa_cons (pv 1) pa_nil)))) (blkOk_by (N := ["one", "other", "column", "mine", "along", "due", "made", "k", "empty", "spot"]) (sc := defScope s__law_join_right) (by decide +kernel)) (fun _ _ _ _ _ => (pg_name (i := 9) sc__law_join_right.nd rfl (Or.inl rfl))) (fun _ _ _ _ _ => pts_nil) (fun _ _ _ _ _ => (pe_tup (pa_cons (pv 9) (pa_cons pe_bl pa_nil))))) pa_nil)))
      (pss_one (ps_ret (pe_notT (pe_lc (own := [("spot", 9)]) (g := gName 9) (tt := _) (by rfl) sc__law_join_right.nd (pi_list (pe_cal C__law_spots (hr.mono (by decide)) pass0 (pa_cons (pv 5) pa_nil))) (blkOk_by (N := ["one", "other", "column", "mine", "along", "due", "made", "k", "empty", "spot"]) (sc := defScope s__law_join_right) (by decide +kernel)) (fun _ _ _ _ _ => (pg_name (i := 9) sc__law_join_right.nd rfl (Or.inl rfl))) (fun _ _ _ _ _ => (pts_one (pt_cmp (pc_dnotin (hu_of hr) (pv 9) (pv 3))))) (fun _ _ _ _ _ => (pv 9))))))))))))))), ?_⟩
    have hcy : c < ys.length := by omega
    have big : 20000 < sizeLine := by decide
    have bx := rgs_all r1 _ (List.getElem_mem hc)
    have by' := rgs_all r2 _ (List.getElem_mem hcy)
    obtain ⟨va, ta, ha, ea, hta⟩ := pa.get hc
    obtain ⟨vb, tb, hb, eb, htb⟩ := pb.get hcy
    refine ⟨_, rfl, _, rfl, a, _, _, _, rfl, rfl, SqL.of ha, atI_nat ea, ta, _, _, _, rfl, rfl, SqT.of hta, rfl, ?_⟩
    refine ⟨_, rfl, _, rfl, a, _, _, _, rfl, rfl, SqL.of ha, atI_nat ea, ta, _, _, _, rfl, rfl, SqT.of hta, rfl, _, _, rfl, rfl, RgOk.of_le (by omega) (by omega) (by omega) (by omega), fun q1 n1 => ?_⟩
    rw [rgV_upTo]
    generalize hq_ : L2.upd H q1 _ = H1
    obtain ⟨s1, o1⟩ := _root_.Q.nwS n1 hq_
    clear hq_
    refine ⟨_, rfl, _, rfl, _, rfl, b, _, _, _, rfl, rfl, SqL.of (s1 _ _ hb), atI_nat eb, tb, _, _, _, rfl, rfl, SqT.of (s1 _ _ htb), rfl, ?_⟩
    refine ⟨_, rfl, _, rfl, b, _, _, _, rfl, rfl, SqL.of (s1 _ _ hb), atI_nat eb, tb, _, _, _, rfl, rfl, SqT.of (s1 _ _ htb), rfl, _, _, rfl, rfl, RgOk.of_le (by omega) (by omega) (by omega) (by omega), fun q2 n2 => ?_⟩
    rw [rgV_upTo]
    generalize hq_ : L2.upd H1 q2 _ = H2
    obtain ⟨s2, o2⟩ := _root_.Q.nwS n2 hq_
    clear hq_
    have l1 : (_root_.Q.upTo xs[c].1 xs[c].2).length ≤ 64 := by rw [upTo_len]; omega
    have l2 : (_root_.Q.upTo ys[c].1 ys[c].2).length ≤ 64 := by rw [upTo_len]; omega
    refine ⟨q1, q2, _, _, rfl, rfl, s2 _ _ o1, o2, (by ((try simp only [List.length_map, List.length_take, List.length_drop, List.length_append, List.length_cons, List.length_nil, List.length_zipWith, List.length_set, List.length_replicate, List.length_range]) <;> omega)), fun q3 n3 => ?_⟩
    rw [← List.map_append]
    generalize hq_ : L2.upd H2 q3 _ = H3
    obtain ⟨s3, o3⟩ := _root_.Q.nwS n3 hq_
    clear hq_
    refine setI_of (SqL.of o3) (by ((try simp only [List.length_map, List.length_take, List.length_drop, List.length_append, List.length_cons, List.length_nil, List.length_zipWith, List.length_set, List.length_replicate, List.length_range]) <;> omega)) fun q4 c4 n4 h4 => ?_
    generalize hq_ : L2.upd H3 q4 _ = H4
    obtain ⟨s4, o4⟩ := _root_.Q.nwS n4 hq_
    clear hq_
    refine sortedN_of o4 (by rw [List.length_append] at h4; omega) fun ns q5 asc mem n5 => ?_
    generalize hq_ : L2.upd H4 q5 _ = H5
    obtain ⟨s5, o5⟩ := _root_.Q.nwS n5 hq_
    clear hq_
    have s15 := (s1.trans s2).trans ((s3.trans s4).trans s5)
    have mem' : ∀ k, k ∈ ns ↔ (xs[c].1 ≤ k ∧ k < xs[c].2) ∨ (ys[c].1 ≤ k ∧ k < ys[c].2) := fun k => by
      rw [mem, decide_eq_true_eq, List.mem_append, upTo_mem, upTo_mem]
    obtain ⟨fi, zs, la, f1, f2, fl, fq, fe⟩ := along_eq bx.2.1 by'.2.1 asc mem'
    refine ⟨_, rfl, _, rfl, a, b, xs, ys, rfl, pa.same s15, pb.same s15, el, len, fun d H6 nd6 s6 pd => ?_⟩
    have s16 := s15.trans s6
    have el2 : (los xs).length = (los ys).length := by ((try simp only [List.length_map, List.length_take, List.length_drop, List.length_append, List.length_cons, List.length_nil, List.length_zipWith, List.length_set, List.length_replicate, List.length_range]) <;> omega)
    have lx : (los xs).length = xs.length := List.length_map ..
    have g1 : (los xs).getD c 0 = xs[c].1 := los_get hc
    have g2 : (his xs).getD c 0 = xs[c].2 := his_get hc
    have g3 : (los ys).getD c 0 = ys[c].1 := los_get hcy
    have g4 : (his ys).getD c 0 = ys[c].2 := his_get hcy
    obtain ⟨JL, eJL⟩ : ∃ JL, JL = joinI imn imx c (los xs) (los ys) := ⟨_, rfl⟩
    obtain ⟨JH, eJH⟩ : ∃ JH, JH = joinI imx imn c (his xs) (his ys) := ⟨_, rfl⟩
    refine ⟨fun σ' H' => ∃ v, σ' = [some (.ref a), some (.ref b), some (.int c), some (.ref q1), some (.ref q5), some (.ref d), some v, none, none, none] ∧ L2.Same H6 H' ∧ (((xs[c].1 > ys[c].2 ∨ ys[c].1 > xs[c].2 ∨ allLt JL JH = false) ∧ v = .non) ∨
      ∃ y, v = .ref y ∧ (¬ xs[c].1 > ys[c].2) ∧ (¬ ys[c].1 > xs[c].2) ∧ allLt JL JH = true ∧ BoxAt K H' y JL JH), ?_, ?_⟩
    · refine ⟨_, rfl, a, xs, rfl, pa.same s16, len, r1, fun y1 Ha sa b1 => ?_⟩
      refine ⟨_, rfl, b, ys, rfl, pb.same (s16.trans sa), by omega, r2, fun y2 Hb sb b2 => ?_⟩
      refine ⟨_, rfl, y1, y2, .int c, "int", _, _, _, _, rfl, b1.nl (NL.same sb), b2, r1, r2, by ((try simp only [List.length_map, List.length_take, List.length_drop, List.length_append, List.length_cons, List.length_nil, List.length_zipWith, List.length_set, List.length_replicate, List.length_range]) <;> omega), .int _, fun z => absurd el2 z, fun _ => ⟨fun hw => ?_, fun k ek hk => ?_⟩⟩
      · exfalso
        have : (decide ((0 : Int) ≤ c) && decide ((c : Int) ≤ ((los xs).length : Int) - 1)) = false := hw
        rw [decide_eq_true (by omega), decide_eq_true (by omega)] at this
        cases this
      · have ek : (c : Int) = k := V.int.inj ek
        have : c = k := by omega
        subst this
        rw [g1, g2, g3, g4, ← eJL, ← eJH]
        refine ⟨fun cs Hc sc => ⟨_, rfl, (sa.trans sb).trans sc, .inl ⟨cs, rfl⟩⟩, fun m1 m2 m3 y Hc sc bz => ⟨_, rfl, (sa.trans sb).trans sc, .inr ⟨y, rfl, m1, m2, m3, bz⟩⟩⟩
    · rintro σ' H7 ⟨v, rfl, s7, hv⟩
      have ln := commonOf_len el
      obtain ⟨vd, hd, hpd⟩ := (pd.same s7).paired
      have lvd := paired_len hpd
      refine ⟨_, rfl, d, _, rfl, .inl (SqL.of hd), _, rfl, by omega, by omega, fun D nD => ?_⟩
      rw [lvd, ln, Int.toNat_natCast]
      refine lc_rng (f := fun k => k) (p := emptyIn c (commonOf xs ys)) (R := fun _ v k => v = V.int (k : Nat)) (fun _ _ _ _ _ z => z) nD (by omega) (fun k H8 R' N hk s8 k1 k2 => ?_) fun H8 es s8 hE pE => ?_
      · rw [Int.zero_add]
        have hk2 : k < (commonOf xs ys).length := by omega
        obtain ⟨vk, tk, h1, h2, h3⟩ := ((pd.same s7).same s8).get hk2
        have eg : (commonOf xs ys).getD k (0, 0) = (commonOf xs ys)[k] := by rw [List.getD_eq_getElem?_getD, List.getElem?_eq_getElem hk2]; rfl
        unfold emptyIn at k1 k2
        rw [eg] at k1 k2
        refine ⟨rfl, _, rfl, _, rfl, rfl, _, rfl, ite2 (fun q => ?_) (fun q => ?_)⟩
        · have ne : k ≠ c := fun z => by
            rw [z, decide_eq_true rfl] at q
            cases q
          rw [decide_eq_true ne, Bool.true_and] at k1 k2
          refine ⟨_, rfl, _, rfl, d, _, _, _, rfl, rfl, SqL.of h1, atI_nat h2, tk, _, _, _, rfl, rfl, SqT.of h3, rfl, _, rfl, _, rfl, d, _, _, _, rfl, rfl, SqL.of h1, atI_nat h2, tk, _, _, _, rfl, rfl, SqT.of h3, rfl, _, _, rfl, rfl, _, rfl, ite2 (fun q2 => ?_) (fun q2 => ?_)⟩
          · exact ⟨_, rfl, k1 q2 _ _ (Same.refl _) rfl⟩
          · exact k2 (Bool.eq_false_iff.mpr q2) _ (Same.refl _)
        · have eq : k = c := by
            have q : (!decide (V.int (k : Int) = V.int (c : Int))) = false := Bool.eq_false_iff.mpr q
            have := of_decide_eq_true (by simpa using q : decide (V.int (k : Int) = V.int (c : Int)) = true)
            have := V.int.inj this
            omega
          rw [decide_eq_false (fun z => z eq), Bool.false_and] at k2
          exact k2 rfl _ (Same.refl _)
      have s17 := s16.trans s7
      have s18 := s17.trans s8
      have lE := paired_len pE
      have eE : es.isEmpty = allLt JL JH := by
        rw [eJL, eJH, ← empty_all el r1 r2 hc]
        rw [List.length_map] at lE
        cases es with
        | nil => rw [List.eq_nil_of_length_eq_zero lE.symm]; rfl
        | cons u us => cases h : (List.range xs.length).filter (emptyIn c (commonOf xs ys)) with
          | nil => rw [h] at lE; cases lE
          | cons _ _ => rfl
      have hal := (((s6.trans s7).trans s8) _ _ o5)
      refine ⟨_, rfl, _, rfl, q5, _, _, _, rfl, rfl, SqL.of hal, atI_nat (j := 0) (by rw [List.getElem?_map, f1]; rfl), ?_⟩
      have hal2 : SqL K H8 q5 (zs.map V.int ++ [V.int la]) := by
        refine SqL.of ?_
        rw [hal, f2, List.map_append]
        rfl
      have mf : fi ∈ ns := List.mem_of_getElem? f1
      have ml : la ∈ ns := by rw [f2]; simp
      have qf := (mem' _).mp mf
      have ql := (mem' _).mp ml
      refine ⟨_, rfl, 1, rfl, q5, _, _, _, rfl, rfl, hal2, atI_last _ _, _, _, rfl, rfl, _, _, rfl, rfl, RgOk.of_le (by omega) (by omega) (by omega) (by omega), fun q9 n9 => ?_⟩
      rw [rgV_upTo]
      generalize hq_ : L2.upd H8 q9 _ = H9
      obtain ⟨s9, o9⟩ := _root_.Q.nwS n9 hq_
      clear hq_
      have s19 := s18.trans s9
      refine ⟨_, _, dp_lints (SqL.of (s9 _ _ hal)), dp_lints (SqL.of o9), shaped_lints _, shaped_lints _, _, rfl, ?_⟩
      rw [eqv_lints]
      have hD9 := s9 _ _ hE
      by_cases cont : ¬ xs[c].1 > ys[c].2 ∧ ¬ ys[c].1 > xs[c].2
      · have ce : ns = _root_.Q.upTo fi (la + 1) := fq.mpr cont
        rw [decide_eq_true ce]
        obtain ⟨e1, e2⟩ := fe cont
        refine iteF ⟨_, rfl, es.isEmpty == false, .inl ⟨es, SqL.of hD9, by cases es <;> rfl⟩, ?_⟩
        rw [eE]
        rcases hv with ⟨hc0, rfl⟩ | ⟨y, rfl, m1, m2, m3, bz⟩
        · have al0 : allLt JL JH = false := by
            rcases hc0 with z | z | z
            · exact absurd z cont.1
            · exact absurd z cont.2
            · exact z
          rw [al0]
          exact iteT ⟨_, rfl, rfl, kQ _ s19⟩
        rw [m3]
        refine iteF ?_
        have hal9 := s9 _ _ hal
        have hal3 : SqL K H9 q5 (zs.map V.int ++ [V.int la]) := s9.seq hal2
        refine ⟨_, rfl, q5, _, _, _, rfl, rfl, SqL.of hal9, atI_nat (j := 0) (by rw [List.getElem?_map, f1]; rfl), _, rfl, 1, rfl, q5, _, _, _, rfl, rfl, hal3, atI_last _ _, _, _, rfl, rfl, (by show 2 ≤ sizeLine; decide), fun t nt => ?_⟩
        generalize hq_ : L2.upd H9 t _ = H10
        obtain ⟨s10, o10⟩ := _root_.Q.nwS nt hq_
        clear hq_
        have hd10 := s10 _ _ (s9 _ _ (s8 _ _ hd))
        refine ⟨_, rfl, _, rfl, d, _, _, c, rfl, rfl, hd10, ix_nat (by omega), ?_⟩
        generalize hq_ : L2.upd H10 d _ = H11
        obtain ⟨u11, o11⟩ := _root_.Q.updS hq_
        clear hq_
        have nl11 := NL.put hd10 u11
        have nl := (NL.same ((s8.trans s9).trans s10)).trans nl11
        obtain ⟨D2, eD2⟩ : ∃ D2, D2 = (commonOf xs ys).set c (fi, la + 1) := ⟨_, rfl⟩
        have pD : PairsAt H11 d D2 := by
          rw [eD2]
          exact pairsAt_of o11 (paired_set c (Paired.mapP hpd fun _ _ z => z.nl nl) ⟨t, rfl, nl11.tup o10⟩)
        obtain ⟨eL, eH⟩ := due_los el hc (lo := fi) (hi := la + 1) (by rw [e1, g1, g3]) (by rw [e2, g2, g4])
        rw [← eD2] at eL eH
        have lD2 : D2.length = xs.length := by rw [eD2, List.length_set, ln]
        have rJ : Rgs (los D2) (his D2) := by
          rw [eL, eH]
          exact join_rgs r1 r2 el2 (by rw [← eJL, ← eJH]; exact m3)
        have cJ : cnt (los D2) (his D2) ≤ 8000 := by
          rw [eL, eH]
          exact Nat.le_trans (join_cnt (by ((try simp only [List.length_map, List.length_take, List.length_drop, List.length_append, List.length_cons, List.length_nil, List.length_zipWith, List.length_set, List.length_replicate, List.length_range]) <;> omega)) (by ((try simp only [List.length_map, List.length_take, List.length_drop, List.length_append, List.length_cons, List.length_nil, List.length_zipWith, List.length_set, List.length_replicate, List.length_range]) <;> omega)) el2 (by rw [g1, g4]; exact m1) (by rw [g3, g2]; exact m2)) (by omega)
        have nd0 : H d = none := by
          cases z : H d with
          | none => rfl
          | some o => rw [s15 _ _ z] at nd6; cases nd6
        have s1b : L2.Same H H11 := Same.put (s19.trans s10) nd0 u11
        refine ⟨_, rfl, _, rfl, y, d, D2, rfl, ?_, pD, rJ, by omega, by omega, fun H12 s12 => ⟨_, rfl, iteF ?_⟩⟩
        · rw [eL, eH, ← eJL, ← eJH]
          exact bz.nl nl
        have s1c := s1b.trans s12
        refine ⟨_, rfl, a, xs, rfl, pa.same s1c, by omega, (fun r m => by have := rgs_all r1 r m; omega), by omega, fun p1 H13 s13 ps1 => ?_⟩
        have s1d := s1c.trans s13
        refine ⟨_, rfl, b, ys, rfl, pb.same s1d, by omega, (fun r m => by have := rgs_all r2 r m; omega), by omega, fun p2 H14 s14 ps2 => ?_⟩
        have s1e := s1d.trans s14
        obtain ⟨w1, hw1, pw1⟩ := ps1.same s14
        obtain ⟨w2, hw2, pw2⟩ := ps2
        have lw1 := paired_len pw1
        have lw2 := paired_len pw2
        rw [spots_len] at lw1 lw2
        refine ⟨p1, p2, _, _, rfl, rfl, hw1, hw2, (by rw [lw1, lw2]; omega), fun p3 n3' => ?_⟩
        generalize hq_ : L2.upd H14 p3 _ = H15
        obtain ⟨s15', o15⟩ := _root_.Q.nwS n3' hq_
        clear hq_
        have pw := paired_app pw1 pw2
        refine ⟨p3, rfl, ⟨_, SqL.of o15⟩, fun E nE => ?_⟩
        refine lc_each (S := ptRel) (f := fun p => p) (R := kvRel) (fun _ _ _ _ k z => z.nl k) (fun _ _ _ _ k z => z.nl k) nE (SqL.of o15) (Paired.mapP pw fun _ _ z => z.nl (NL.same s15')) (by rw [List.length_append, spots_len, spots_len]; omega) (fun x p Hx R' N sx ⟨tp, ex, hp⟩ k => ?_) fun H16 us s16' hU pU => ?_
        · subst ex
          refine ⟨rfl, _, rfl, (by show 2 ≤ sizeLine; decide), fun q nq => ?_⟩
          generalize hq_ : L2.upd Hx q _ = Hy
          obtain ⟨sy, oy⟩ := _root_.Q.nwS nq hq_
          clear hq_
          exact k _ _ sy ⟨q, tp, rfl, oy, sy _ _ hp⟩
        rw [List.map_id'] at pU
        refine dictPts_of hU pU fun dd nd' => ?_
        generalize hq_ : L2.upd H16 dd _ = H17
        obtain ⟨s17', o17⟩ := _root_.Q.nwS nd' hq_
        clear hq_
        have s1f := ((s1e.trans s15').trans s16').trans s17'
        have sD := (((s12.trans s13).trans s14).trans s15').trans (s16'.trans s17')
        refine ⟨_, rfl, d, D2, rfl, pD.same sD, by omega, (fun r m => by have := rgs_all rJ r m; omega), by omega, fun p4 H18 s18' ps4 => ?_⟩
        obtain ⟨w4, hw4, pw4⟩ := ps4
        refine ⟨p4, rfl, ⟨_, SqL.of hw4⟩, fun F nF => ?_⟩
        have o18 := s18' _ _ o17
        refine lc_pick (S := ptRel) (p := fun p => !decide (p ∈ spots (los xs) (his xs) ++ spots (los ys) (his ys))) (R := fun _ _ _ => True) (fun _ _ _ _ _ z => z) (fun _ _ _ _ k z => z.nl k) nF (SqL.of hw4) pw4 (by rw [spots_len]; omega) (fun x p Hx R' N sx ⟨tp, ex, hp⟩ k1 k2 => ?_) fun H19 us s19' hU2 pU2 => ?_
        · subst ex
          obtain ⟨o, hg, ho⟩ := dget_pt (sx _ _ o18) hp
          refine ⟨rfl, _, rfl, _, rfl, dd, o, rfl, hg, ?_⟩
          rw [ho]
          refine ⟨_, rfl, ite2 (fun q => ?_) (fun q => ?_)⟩
          · exact ⟨_, rfl, k1 q _ _ (Same.refl _) trivial⟩
          · exact k2 (Bool.eq_false_iff.mpr q) _ (Same.refl _)
        have none_ : (spots (los D2) (his D2)).filter (fun p => !decide (p ∈ spots (los xs) (his xs) ++ spots (los ys) (his ys))) = [] := by
          rw [List.filter_eq_nil_iff]
          intro p m
          rw [eL, eH] at m
          have := List.mem_append.mpr (join_sub (by ((try simp only [List.length_map, List.length_take, List.length_drop, List.length_append, List.length_cons, List.length_nil, List.length_zipWith, List.length_set, List.length_replicate, List.length_range]) <;> omega)) (by ((try simp only [List.length_map, List.length_take, List.length_drop, List.length_append, List.length_cons, List.length_nil, List.length_zipWith, List.length_set, List.length_replicate, List.length_range]) <;> omega)) el2 (by rw [g1, g4]; exact m1) (by rw [g3, g2]; exact m2) m)
          rw [decide_eq_true this]
          exact Bool.false_ne_true
        rw [none_] at pU2
        cases pU2
        exact ⟨false, .inl ⟨[], SqL.of hU2, rfl⟩, kQ _ (((s1f).trans s18').trans s19')⟩
      · have ce : ¬ ns = _root_.Q.upTo fi (la + 1) := fun z => cont (fq.mp z)
        rw [decide_eq_false ce]
        refine iteT ?_
        rcases hv with ⟨hc0, rfl⟩ | ⟨y, rfl, m1, m2, m3, bz⟩
        · exact ⟨_, rfl, rfl, kQ _ s19⟩
        · exact absurd ⟨m1, m2⟩ cont

end
end K00

set_option maxRecDepth 100000
set_option maxHeartbeats 4000000
namespace K00
open PySem PySem.Spec PyProof.Rows L2 Q RZ LamX NdefX
section
variable {P : Program} {w : World} {K : PySem.W.Frag} {mg : Str → Option Value} {base : Heap} {f : Addr} {fd : FuncData}
/-! ### the lambda of _law_cut -/
def lamOf : Stmt → Arguments × Expr × Scope
  | .Return (some (.Call _ _ [⟨_, .Lambda p b s _, _⟩] _)) _ => (p, b, s)
  | _ => default
abbrev lamCut : Arguments × Expr × Scope := lamOf ((defBody s__law_cut).getLastD (.Pass ⟨0, 0, 0, 0⟩))
abbrev qCut : Str := ("_law_cut" : Str) ++ ".<locals>."
abbrev lt__law_cut (K : PySem.W.Frag) : List (Addr × Str) := [(tabAt K (He.ga K "_law_cut"), qCut ++ "<lambda>")]
theorem scLam : NScope ["box", "pair"] ["box"] [] lamCut.2.2 := nscope_by (by decide +kernel)
def spCutKey : Sp := fun vs H Q _ => ∃ (l : Addr) (rs : List (Int × Int)), vs = [.ref l] ∧ PairsAt H l rs ∧ rs.length ≤ 1000 ∧ ∀ D H', L2.Same H H' → H' D = some (.lst ((los rs).map V.int)) → Q (.ref D) H'
theorem lok_cut (T : Tx K mg) (c' : Addr) : LOk P w K mg base CX0 1 ⟨"<lambda>", qCut ++ "<lambda>", lamCut.1, [], lamCut.2.2, [], c'⟩ lamCut.2.1 ["box"] spCutKey := by
  refine lok_of (N := ["box", "pair"]) scLam rfl (fun pm ctv us h => match us, h with | [u], _ => rfl) (fun vs H Q E h => ?_) fun f A outer s H vs Q E hr h => ?_
  · obtain ⟨l, rs, rfl, _⟩ := h
    rfl
  · obtain ⟨l, rs, rfl, pa, len, kQ⟩ := h
    refine ⟨_, pe_lc (own := [("pair", 1)]) (g := gName 1) (tt := tYes) (by rfl) scLam.nd (pi_list (pv 0)) (blkOk_by (N := ["box", "pair"]) (sc := lamCut.2.2) (by decide +kernel)) (fun _ _ _ _ _ => (pg_name (i := 1) scLam.nd rfl (Or.inl rfl))) (fun _ _ _ _ _ => pts_nil) (fun _ _ _ _ _ => (pe_ix ix_tupB (pv 1) pe_int (fun _ _ => rfl))), ?_⟩
    obtain ⟨vs, hl, hp⟩ := pa.paired
    refine ⟨_, rfl, l, rfl, ⟨_, SqL.of hl⟩, fun D nD => ?_⟩
    refine lc_each (S := prRel) (f := fun r : Int × Int => r.1) (R := fun _ v c => v = .int c) (fun _ _ _ _ _ z => z) (fun _ _ _ _ k z => z.nl k) nD (SqL.of hl) hp (small1000 len) (fun x c H3 R' N s3 ⟨t, e, ht⟩ q => ?_) fun H3 ys s3 hD pD => ?_
    · subst e
      exact ⟨rfl, _, rfl, t, _, _, _, rfl, rfl, SqT.of ht, rfl, q _ _ (Same.refl _) rfl⟩
    have ivs : ∀ {as : List V} {bs : List Int}, Paired (fun v (c : Int) => v = .int c) as bs → as = bs.map V.int := fun h => by
      induction h with
      | nil => rfl
      | cons a _ ih => rw [a, ih]; rfl
    rw [ivs pD] at hD
    exact kQ D H3 s3 hD
/-- the pieces of _law_cut -/
def cutL (xs cm : List (Int × Int)) (k : Nat) : List (List (Int × Int)) :=
  (if (xs.getD k (0, 0)).1 < (cm.getD k (0, 0)).1 then [cm.take k ++ ((xs.getD k (0, 0)).1, (cm.getD k (0, 0)).1) :: xs.drop (k + 1)] else []) ++ (if (cm.getD k (0, 0)).2 < (xs.getD k (0, 0)).2 then [cm.take k ++ ((cm.getD k (0, 0)).2, (xs.getD k (0, 0)).2) :: xs.drop (k + 1)] else [])
def cutsL (xs cm : List (Int × Int)) (n : Nat) : List (List (Int × Int)) := (List.range n).flatMap (cutL xs cm)
theorem cutsL_succ (xs cm : List (Int × Int)) (n : Nat) : cutsL xs cm (n + 1) = cutsL xs cm n ++ cutL xs cm n := by
  unfold cutsL
  rw [List.range_succ, List.flatMap_append]
  simp
theorem PairsAt.ext {H H' : Hp} {l : Addr} {rs : List (Int × Int)} (h : PairsAt H l rs) (s : ExtN H H') : PairsAt H' l rs := by
  obtain ⟨ts, h1, h2, h3⟩ := h
  exact ⟨ts, s _ _ h1 (fun _ z => nomatch z), h2, fun i t r e1 e2 => s _ _ (h3 i t r e1 e2) (fun _ z => nomatch z)⟩
def loKey (rs : List (Int × Int)) : PyData := .list ((los rs).map PyData.int)
/-- all but some lists of ours stands -/
def KpB (S : List Addr) (H H' : Hp) : Prop := ∀ a o, a ∉ S → H a = some o → H' a = some o
/-- a piece, its list none of S -/
def pcRel (S : List Addr) (H : Hp) (v : V) (rs : List (Int × Int)) : Prop := ∃ l, v = .ref l ∧ l ∉ S ∧ PairsAt H l rs
theorem pcRel.kp {S : List Addr} {H H' : Hp} {v : V} {rs : List (Int × Int)} (k : KpB S H H') (nl : NL H H') (h : pcRel S H v rs) : pcRel S H' v rs := by
  obtain ⟨l, e, n, vs, h1, h2⟩ := h
  exact ⟨l, e, n, vs, k _ _ n h1, h2.1, fun i t r e1 e2 => nl.tup (h2.2 i t r e1 e2)⟩
theorem paired_take {α β : Type} {R : α → β → Prop} : ∀ {as : List α} {bs : List β} (i : Nat), Paired R as bs → Paired R (as.take i) (bs.take i)
  | _, _, _, .nil => by rw [List.take_nil, List.take_nil]; exact .nil
  | _, _, 0, .cons _ _ => .nil
  | _, _, i + 1, .cons h t => .cons h (paired_take i t)
theorem paired_drop {α β : Type} {R : α → β → Prop} : ∀ {as : List α} {bs : List β} (i : Nat), Paired R as bs → Paired R (as.drop i) (bs.drop i)
  | _, _, _, .nil => by rw [List.drop_nil, List.drop_nil]; exact .nil
  | _, _, 0, .cons h t => .cons h t
  | _, _, i + 1, .cons _ t => paired_drop i t
theorem paired_some {α β : Type} {R : α → β → Prop} {as : List α} {bs : List β} (h : Paired R as bs) {i : Nat} {b : β} (e : bs[i]? = some b) : ∃ a, as[i]? = some a ∧ R a b := by
  obtain ⟨hi, e1⟩ := List.getElem?_eq_some_iff.mp e
  obtain ⟨a, h1, h2⟩ := paired_at h i hi
  exact ⟨a, h1, e1 ▸ h2⟩
theorem mixP {xs ys : List (Int × Int)} {i : Nat} (e : xs.length = ys.length) (h : i < ys.length) : (xs.take i ++ ys.drop i)[i]? = some (ys.getD i (0, 0)) ∧ (xs.take i ++ ys.drop i).take i = xs.take i ∧ (xs.take i ++ ys.drop i).drop (i + 1) = ys.drop (i + 1) ∧ (xs.take i ++ ys.drop i).set i (xs.getD i (0, 0)) = xs.take (i + 1) ++ ys.drop (i + 1) ∧ (xs.take i ++ ys.drop i).length = ys.length := by
  have lt : (xs.take i).length = i := by rw [List.length_take]; omega
  have e1 : ys.getD i (0, 0) = ys[i] := by rw [List.getD_eq_getElem?_getD, List.getElem?_eq_getElem h]; rfl
  have hx : i < xs.length := by omega
  have e2 : xs.getD i (0, 0) = xs[i] := by rw [List.getD_eq_getElem?_getD, List.getElem?_eq_getElem hx]; rfl
  refine ⟨?_, ?_, ?_, ?_, ?_⟩
  · rw [List.getElem?_append_right (by omega), lt, Nat.sub_self, List.getElem?_drop, Nat.add_zero, List.getElem?_eq_getElem h, e1]
  · rw [List.take_append_of_le_length (by omega), List.take_of_length_le (by omega)]
  · rw [List.drop_append, lt, List.drop_eq_nil_of_le (by omega), List.nil_append, List.drop_drop]
    congr 1
    omega
  · rw [List.set_append_right _ _ (by omega), lt, Nat.sub_self, List.drop_eq_getElem_cons h, e2, List.take_succ_eq_append_getElem hx, List.append_assoc]
    rfl
  · rw [List.length_append, lt, List.length_drop]
    omega
theorem cutsL_len {xs cm : List (Int × Int)} (e : cm.length = xs.length) {n : Nat} (h : n ≤ xs.length) : ∀ c ∈ cutsL xs cm n, c.length = xs.length := by
  intro c m
  obtain ⟨k, hk, m⟩ := List.mem_flatMap.mp m
  have hk := List.mem_range.mp hk
  unfold cutL at m
  rcases List.mem_append.mp m with m | m <;> split at m
  · rw [List.mem_singleton.mp m]
    ((try simp only [List.length_map, List.length_take, List.length_drop, List.length_append, List.length_cons, List.length_nil, List.length_zipWith, List.length_set, List.length_replicate, List.length_range]) <;> omega)
  · cases m
  · rw [List.mem_singleton.mp m]
    ((try simp only [List.length_map, List.length_take, List.length_drop, List.length_append, List.length_cons, List.length_nil, List.length_zipWith, List.length_set, List.length_replicate, List.length_range]) <;> omega)
  · cases m
theorem cutsL_le (xs cm : List (Int × Int)) : ∀ n, (cutsL xs cm n).length ≤ 2 * n
  | 0 => by simp [cutsL]
  | n + 1 => by
    have := cutsL_le xs cm n
    have : (cutL xs cm n).length ≤ 2 := by
      unfold cutL
      rw [List.length_append]
      split <;> split <;> simp
    rw [cutsL_succ, List.length_append]
    omega
def spCut (K : PySem.W.Frag) : Sp := fun vs H Q _ => ∃ (a b : Addr) (xs ys : List (Int × Int)), vs = [.ref a, .ref b] ∧ PairsAt H a xs ∧ PairsAt H b ys ∧ xs.length = ys.length ∧ xs.length ≤ 5 ∧ Tabs (lt__law_cut K) H ∧
  ∀ l us H', ExtN H H' → Tabs (lt__law_cut K) H' → H' l = some (.lst us) → Paired (pcRel [] H') us (if allLt (los (commonOf xs ys)) (his (commonOf xs ys)) = true then (cutsL xs (commonOf xs ys) xs.length).mergeSort (PySem.W.dataLe false loKey) else [xs]) → Q (.ref l) H'
theorem C__law_cut (T : Tx K mg) (TB : TabB base mg (codeAt K (He.ga K "_law_cut")) (tabAt K (He.ga K "_law_cut"))) : Cal P w K mg base CX0 4 "_law_cut" ["one", "other"] [] (spCut K) := by
  obtain ⟨fd, F⟩ := T.d__law_cut
  have C__law_common := C__law_common (P := P) (w := w) (base := base) T
  have L__law_cut := fun c' => lok_cut (P := P) (w := w) (base := base) T c'
  refine ⟨_, fd, [], okC F sc__law_cut (fun vs H Q E h => ?_) (fun A outer s H vs Q E hr h => ?_), T.g__law_cut, F.kp, F.bindsN fun _ _ _ _ _ _ us hl => match us, hl with | [_, _], _ => rfl, .nil⟩
  · obtain ⟨a, b, xs, ys, rfl, _⟩ := h
    rfl
  · obtain ⟨a, b, xs, ys, rfl, pa, pb, el, len, tb, kQ⟩ := h
    refine ⟨_, PSs.nox (pss_cons (ps_set (i := 2) sc__law_cut.nd rfl (Or.inl rfl) (pe_cal C__law_common (hr.mono (by decide)) pass0 (pa_cons (pv 0) (pa_cons (pv 1) pa_nil))))
      (pss_cons (ps_if (pt_truth (pe_lc (own := [("pair", 3)]) (g := gName 3) (tt := _) (by rfl) sc__law_cut.nd (pi_list (pv 2)) (blkOk_by (N := ["one", "other", "common", "pair", "found", "rest", "k"]) (sc := defScope s__law_cut) (by decide +kernel)) (fun _ _ _ _ _ => (pg_name (i := 3) sc__law_cut.nd rfl (Or.inl rfl))) (fun _ _ _ _ _ => (pts_one (pt_cmpR op_ge (pe_ix ix_tupB (pv 3) pe_int (fun _ _ => rfl)) (pe_ix ix_tupB (pv 3) pe_int (fun _ _ => rfl)) (nomark _)))) (fun _ _ _ _ _ => (pv 3))) (by intro _; rfl))
        (pss_one (ps_ret (pe_lst (pa_cons (pv 0) pa_nil))))
        pss_nil)
      (pss_cons (ps_set (i := 4) sc__law_cut.nd rfl (Or.inl rfl) (pe_lst pa_nil))
      (pss_cons (ps_set (i := 5) sc__law_cut.nd rfl (Or.inl rfl) (pe_callTy call_list_of (by rfl) T.n_list (by decide +kernel) (pa_cons (pv 0) pa_nil)))
      (pss_cons (ps_for PassesOwn.never rfl (pi_range1 (by rfl) T.n_range (pa_cons (pe_callB call_len_seq (by rfl) T.n_len (by decide +kernel) (pa_cons (pv 0) pa_nil)) pa_nil)) (pg_name (i := 6) sc__law_cut.nd rfl (Or.inl rfl))
        (C8.pss_cut (ps_if (pt_cmpR op_lt (pe_ix ix_tup (pe_ix ix_list (pv 5) (pv 6) (fun _ _ => rfl)) pe_int (fun _ _ => rfl)) (pe_ix ix_tup (pe_ix ix_list (pv 2) (pv 6) (fun _ _ => rfl)) pe_int (fun _ _ => rfl)) (nomark _))
          (pss_one (ps_expr (pe_bm PySem.F.plainAttrs_list PySem.F.slot_list_append PySem.F.type_list_append mt_append (pv 4) (pa_cons (pe_op op_cat (pe_op op_cat (pe_slice sl_list (pv 5) po_none (po_some (pv 6))) (pe_lst (pa_cons (pe_tup (pa_cons (pe_ix ix_tup (pe_ix ix_list (pv 5) (pv 6) (fun _ _ => rfl)) pe_int (fun _ _ => rfl)) (pa_cons (pe_ix ix_tup (pe_ix ix_list (pv 2) (pv 6) (fun _ _ => rfl)) pe_int (fun _ _ => rfl)) pa_nil))) pa_nil))) (pe_slice sl_list (pv 5) (po_some (pe_op op_add (pv 6) pe_int)) po_none)) pa_nil))))
          pss_nil)
        (C8.pss_cut (ps_if (pt_cmpR op_lt (pe_ix ix_tup (pe_ix ix_list (pv 2) (pv 6) (fun _ _ => rfl)) pe_int (fun _ _ => rfl)) (pe_ix ix_tup (pe_ix ix_list (pv 5) (pv 6) (fun _ _ => rfl)) pe_int (fun _ _ => rfl)) (nomark _))
          (pss_one (ps_expr (pe_bm PySem.F.plainAttrs_list PySem.F.slot_list_append PySem.F.type_list_append mt_append (pv 4) (pa_cons (pe_op op_cat (pe_op op_cat (pe_slice sl_list (pv 5) po_none (po_some (pv 6))) (pe_lst (pa_cons (pe_tup (pa_cons (pe_ix ix_tup (pe_ix ix_list (pv 2) (pv 6) (fun _ _ => rfl)) pe_int (fun _ _ => rfl)) (pa_cons (pe_ix ix_tup (pe_ix ix_list (pv 5) (pv 6) (fun _ _ => rfl)) pe_int (fun _ _ => rfl)) pa_nil))) pa_nil))) (pe_slice sl_list (pv 5) (po_some (pe_op op_add (pv 6) pe_int)) po_none)) pa_nil))))
          pss_nil)
        (pss_one (ps_asg (pe_ix ix_list (pv 2) (pv 6) (fun _ _ => rfl)) (pg_sub (pv 5) (pv 6) set_list))))))
      (pss_one (ps_ret (pe_sortLam (T := lt__law_cut K) (hr.mono (by decide)) T.n_sorted TB rfl (List.mem_singleton.mpr rfl) (fun p hp _ => congrArg Prod.snd (List.mem_singleton.mp hp)) rfl (by decide +kernel) (pv 4) (fun c' => L__law_cut c') cr_ok0)))))))), ?_⟩
    refine ⟨_, rfl, _, rfl, a, b, xs, ys, rfl, pa, pb, el, len, fun d H1 nd1 s1 pd => ?_⟩
    have ln := commonOf_len el
    have ed := allLt_filter (commonOf xs ys)
    generalize hcm : commonOf xs ys = cm at kQ pd ln ed
    obtain ⟨vd, hd, hpd⟩ := pd.paired
    refine ⟨_, rfl, d, rfl, ⟨_, SqL.of hd⟩, fun E nE => ?_⟩
    refine lc_pick (S := prRel) (p := fun r : Int × Int => decide (r.1 ≥ r.2)) (R := fun _ _ _ => True) (fun _ _ _ _ _ z => z) (fun _ _ _ _ k z => z.nl k) nE (SqL.of hd) hpd (small1000 (by omega)) (fun x c H3 R' N s3 ⟨t, e, ht⟩ k1 k2 => ?_) fun H3 us s3 hE pE => ?_
    · subst e
      refine ⟨rfl, _, rfl, t, _, _, _, rfl, rfl, SqT.of ht, rfl, _, rfl, t, _, _, _, rfl, rfl, SqT.of ht, rfl, _, _, rfl, rfl, _, rfl, ite2 (fun q => ?_) (fun q => ?_)⟩
      · exact ⟨_, rfl, k1 q _ _ (Same.refl _) trivial⟩
      · exact k2 (Bool.eq_false_iff.mpr q) _ (Same.refl _)
    have lu := paired_len pE
    have eu : us.isEmpty = allLt (los cm) (his cm) := by
      rw [← ed]
      cases us with
      | nil => rw [List.eq_nil_of_length_eq_zero lu.symm]; rfl
      | cons u us => cases h : cm.filter fun r => decide (r.1 ≥ r.2) with
        | nil => rw [h] at lu; cases lu
        | cons _ _ => rfl
    have s13 := s1.trans s3
    refine ⟨!us.isEmpty, .inl ⟨us, SqL.of hE, rfl⟩, ?_⟩
    cases hal : allLt (los cm) (his cm) with
    | false =>
      rw [hal] at eu kQ
      rw [eu]
      refine iteT ⟨_, rfl, (by show 1 ≤ sizeLine; decide), fun l nl => ?_⟩
      generalize hq_ : L2.upd H3 l _ = H4
      obtain ⟨s4, e4⟩ := _root_.Q.nwS nl hq_
      clear hq_
      have s14 := s13.trans s4
      exact kQ l _ H4 (ExtN.of s14) (tb.ext s14) e4 (.cons ⟨a, rfl, by simp, pa.same s14⟩ .nil)
    | true =>
    rw [hal] at eu kQ
    rw [eu]
    refine iteF ⟨Nat.zero_le _, fun D nD => ?_⟩
    generalize hq_ : L2.upd H3 D _ = H4
    obtain ⟨s4, oD⟩ := _root_.Q.nwS nD hq_
    clear hq_
    have s14 := s13.trans s4
    obtain ⟨va, ha, hpa⟩ := pa.paired
    refine ⟨_, rfl, a, _, rfl, .inl (SqL.of (s14 _ _ ha)), fun R nR => ?_⟩
    generalize hq_ : L2.upd H4 R _ = H5
    obtain ⟨s5, oR⟩ := _root_.Q.nwS nR hq_
    clear hq_
    have s15 := s14.trans s5
    have RD : R ≠ D := fun z => by rw [z, oD] at nR; cases nR
    have nR3 : H3 R = none := by
      cases z : H3 R with
      | none => rfl
      | some o => rw [s4 _ _ z] at nR; cases nR
    have lva := paired_len hpa
    have oD5 := s5 _ _ oD
    refine ⟨_, rfl, a, _, rfl, .inl (SqL.of (s15 _ _ ha)), _, rfl, by omega, by omega, ?_⟩
    rw [lva, Int.toNat_natCast]
    refine for_range (lo := 0) (n := xs.length) (fun i σ H' => (∃ v6, σ = [some (.ref a), some (.ref b), some (.ref d), none, some (.ref D), some (.ref R), v6]) ∧ L2.Same H3 H' ∧ (∃ fs, H' D = some (.lst fs) ∧ Paired (pcRel [D, R] H') fs (cutsL xs cm i)) ∧ ∃ ws, H' R = some (.lst ws) ∧ Paired (prRel H') ws (cm.take i ++ xs.drop i))
      ⟨⟨none, rfl⟩, s4.trans s5, ⟨[], oD5, .nil⟩, va, oR, Paired.mapP hpa fun _ _ z => z.nl (NL.same s15)⟩ ?_ ?_
    · rintro i σ H' hi ⟨⟨v6, rfl⟩, sm, ⟨fs, hD, pF⟩, ws, hR, pW⟩
      rw [Int.zero_add]
      have z0 : sizeLine ≥ 1000 := by have := small1000 (n := 999) (by omega); omega
      obtain ⟨a1, a2, a3, a4, a5⟩ := mixP (xs := cm) (ys := xs) (i := i) ln hi
      have lw := paired_len pW
      rw [a5] at lw
      have lf : fs.length ≤ 20 := by
        have := paired_len pF
        have := cutsL_le xs cm i
        omega
      obtain ⟨wx, ew, tw, rfl, hw⟩ := paired_some pW a1
      have ec : cm[i]? = some (cm.getD i (0, 0)) := by rw [List.getD_eq_getElem?_getD, List.getElem?_eq_getElem (by omega)]; rfl
      obtain ⟨wc, ewc, tc, rfl, hc⟩ := paired_some hpd ec
      have pk := paired_take i pW
      rw [a2] at pk
      have pl := paired_drop (i + 1) pW
      rw [a3] at pl
      have hd' : H' d = some (.lst vd) := sm _ _ (s3 _ _ hd)
      have hc' : H' tc = _ := sm _ _ (s3 _ _ hc)
      generalize hxi : xs.getD i (0, 0) = xi at *
      generalize hci : cm.getD i (0, 0) = ci at *
      have app : ∀ (H2 : Hp) (fs : List V) (cs : List (List (Int × Int))) (q : Int × Int) (Q : Hp → Prop), L2.Same H3 H2 → H2 D = some (.lst fs) → fs.length ≤ 30 → Paired (pcRel [D, R] H2) fs cs → H2 R = some (.lst ws) → Paired (prRel H2) (ws.take i) (cm.take i) → Paired (prRel H2) (ws.drop (i + 1)) (xs.drop (i + 1)) →
          ∀ (t : Addr) (Ha Hb : Hp) (p : Addr), L2.Same H2 Ha → Ha p = none → Ha t = some (.tup [.int q.1, .int q.2]) → L2.Same (L2.upd Ha p (.lst (ws.take i ++ [V.ref t] ++ ws.drop (i + 1)))) Hb → (∀ Hc, (∀ b o, b ≠ D → Hb b = some o → Hc b = some o) → L2.Same H3 Hc → NL H2 Hc → Hc D = some (.lst (fs ++ [V.ref p])) → Paired (pcRel [D, R] Hc) (fs ++ [V.ref p]) (cs ++ [cm.take i ++ q :: xs.drop (i + 1)]) → Hc R = some (.lst ws) → Q Hc) → Q (L2.upd Hb D (.lst (fs ++ [V.ref p]))) := by
        intro H2 fs cs q Q sm hD lf pF hR pk pl t Ha Hb p s2a np ht sab k
        have sa := sm.trans s2a
        have pD : p ≠ D := fun z => by rw [z, s2a _ _ hD] at np; cases np
        have pR : p ≠ R := fun z => by rw [z, s2a _ _ hR] at np; cases np
        have op : Hb p = some (.lst (ws.take i ++ [V.ref t] ++ ws.drop (i + 1))) := sab _ _ upd_same
        have sb : L2.Same Ha Hb := (same_new np).trans sab
        generalize hq_ : L2.upd Hb D (.lst (fs ++ [V.ref p])) = Hc
        obtain ⟨u, o⟩ := _root_.Q.updS hq_
        have nb : NL H2 Hc := (NL.same (s2a.trans sb)).trans (NL.put (sb _ _ (s2a _ _ hD)) u)
        have kb : KpB [D, R] H2 Hc := fun b o n e => u _ _ (fun z => n (by rw [z]; simp)) (sb _ _ (s2a _ _ e))
        refine k Hc u (Same.put (sa.trans sb) nD u) nb o (Paired.snoc (Paired.mapP pF fun v rs z => z.kp kb nb) ⟨p, rfl, by simp [pD, pR], ?_⟩) (u _ _ RD (sb _ _ (s2a _ _ hR)))
        refine pairsAt_of (u _ _ pD op) ?_
        have nx : NL Ha Hc := (NL.same sb).trans (NL.put (sb _ _ (s2a _ _ hD)) u)
        rw [List.append_assoc]
        exact paired_app (Paired.mapP pk fun _ _ z => z.nl nb) (.cons ⟨t, rfl, nx.tup ht⟩ (Paired.mapP pl fun _ _ z => z.nl nb))
      refine ⟨fun σ2 H2 => σ2 = [some (.ref a), some (.ref b), some (.ref d), none, some (.ref D), some (.ref R), some (.int i)] ∧ L2.Same H3 H2 ∧ NL H' H2 ∧ (∃ fs, H2 D = some (.lst fs) ∧ Paired (pcRel [D, R] H2) fs (cutsL xs cm i ++ (if xi.1 < ci.1 then [cm.take i ++ (xi.1, ci.1) :: xs.drop (i + 1)] else []))) ∧ H2 R = some (.lst ws), ?_, ?_⟩
      · refine ⟨_, rfl, _, rfl, R, _, _, _, rfl, rfl, SqL.of hR, atI_nat ew, tw, _, _, _, rfl, rfl, SqT.of hw, rfl, _, rfl, _, rfl, d, _, _, _, rfl, rfl, SqL.of hd', atI_nat ewc, tc, _, _, _, rfl, rfl, SqT.of hc', rfl, _, _, rfl, rfl, _, rfl, ite2 (fun c => ?_) (fun c => ?_)⟩
        · have c' := of_decide_eq_true c
          rw [if_pos c']
          refine ⟨_, rfl, .inl ⟨rfl, _, SqL.of hD⟩, _, rfl, _, rfl, _, rfl, R, _, rfl, SqL.of hR, fun p1 m1 => ?_⟩
          rw [cutV_take _ (by omega)]
          generalize hq_ : L2.upd H' p1 _ = Ha
          obtain ⟨k1, o1⟩ := _root_.Q.nwS m1 hq_
          clear hq_
          refine ⟨_, rfl, _, rfl, R, _, _, _, rfl, rfl, SqL.of (k1 _ _ hR), atI_nat ew, tw, _, _, _, rfl, rfl, SqT.of (k1 _ _ hw), rfl, _, rfl, _, rfl, d, _, _, _, rfl, rfl, SqL.of (k1 _ _ hd'), atI_nat ewc, tc, _, _, _, rfl, rfl, SqT.of (k1 _ _ hc'), rfl, (by show 2 ≤ sizeLine; omega), fun t m2 => ?_⟩
          generalize hq_ : L2.upd Ha t _ = Hb
          obtain ⟨k2, o2⟩ := _root_.Q.nwS m2 hq_
          clear hq_
          refine ⟨(by show 1 ≤ sizeLine; omega), fun p2 m3 => ?_⟩
          generalize hq_ : L2.upd Hb p2 _ = Hc
          obtain ⟨k3, o3⟩ := _root_.Q.nwS m3 hq_
          clear hq_
          refine ⟨p1, p2, _, _, rfl, rfl, k3 _ _ (k2 _ _ o1), o3, (by ((try simp only [List.length_map, List.length_take, List.length_drop, List.length_append, List.length_cons, List.length_nil, List.length_zipWith, List.length_set, List.length_replicate, List.length_range]) <;> omega)), fun p3 m4 => ?_⟩
          generalize hq_ : L2.upd Hc p3 _ = Hd
          obtain ⟨k4, o4⟩ := _root_.Q.nwS m4 hq_
          clear hq_
          have kd := ((k1.trans k2).trans k3).trans k4
          refine ⟨_, rfl, _, rfl, _, _, rfl, rfl, _, rfl, R, _, rfl, SqL.of (kd _ _ hR), fun p4 m5 => ?_⟩
          rw [show ((i : Int) + 1) = ((i + 1 : Nat) : Int) by omega, cutV_drop]
          generalize hq_ : L2.upd Hd p4 _ = He
          obtain ⟨k5, o5⟩ := _root_.Q.nwS m5 hq_
          clear hq_
          refine ⟨p3, p4, _, _, rfl, rfl, k5 _ _ o4, o5, (by ((try simp only [List.length_map, List.length_take, List.length_drop, List.length_append, List.length_cons, List.length_nil, List.length_zipWith, List.length_set, List.length_replicate, List.length_range]) <;> omega)), fun p5 m6 => ?_⟩
          have ke := kd.trans k5
          refine ⟨D, _, _, rfl, rfl, (same_new m6) _ _ (ke _ _ hD), by omega, ?_⟩
          refine app H' fs _ (xi.1, ci.1) _ sm hD (by omega) pF hR (Paired.mapP pk fun _ _ z => z) pl t He _ p5 ke m6 (k5 _ _ (k4 _ _ (k3 _ _ o2))) (Same.refl _) fun Hz _ sz nz oD' pz oR' => ?_
          exact ⟨rfl, sz, nz, ⟨_, oD', pz⟩, oR'⟩
        · have c' : ¬ xi.1 < ci.1 := fun z => c (decide_eq_true z)
          rw [if_neg c', List.append_nil]
          exact ⟨rfl, sm, NL.refl _, ⟨_, hD, pF⟩, hR⟩
      rintro σ2 H2 ⟨rfl, sm2, nl2, ⟨fs2, hD2, pF2⟩, hR2⟩
      have lf2 : fs2.length ≤ 21 := by
        have q0 := paired_len pF2
        have q1 := cutsL_le xs cm i
        have q : ∀ (p : Prop) [Decidable p] (x : List (Int × Int)), (if p then [x] else []).length ≤ 1 := fun p _ x => by split <;> simp
        have q2 := q (xi.1 < ci.1) (cm.take i ++ (xi.1, ci.1) :: xs.drop (i + 1))
        rw [List.length_append] at q0
        omega
      have hd2 : H2 d = some (.lst vd) := sm2 _ _ (s3 _ _ hd)
      have hc2 : H2 tc = _ := sm2 _ _ (s3 _ _ hc)
      have hw2 := nl2.tup hw
      refine ⟨fun σ2 H2 => σ2 = [some (.ref a), some (.ref b), some (.ref d), none, some (.ref D), some (.ref R), some (.int i)] ∧ L2.Same H3 H2 ∧ NL H' H2 ∧ (∃ fs, H2 D = some (.lst fs) ∧ Paired (pcRel [D, R] H2) fs (cutsL xs cm (i + 1))) ∧ H2 R = some (.lst ws), ?_, ?_⟩
      · rw [cutsL_succ]
        unfold cutL
        rw [hxi, hci, ← List.append_assoc]
        refine ⟨_, rfl, _, rfl, d, _, _, _, rfl, rfl, SqL.of hd2, atI_nat ewc, tc, _, _, _, rfl, rfl, SqT.of hc2, rfl, _, rfl, _, rfl, R, _, _, _, rfl, rfl, SqL.of hR2, atI_nat ew, tw, _, _, _, rfl, rfl, SqT.of hw2, rfl, _, _, rfl, rfl, _, rfl, ite2 (fun c => ?_) (fun c => ?_)⟩
        · have c' := of_decide_eq_true c
          rw [if_pos c']
          refine ⟨_, rfl, .inl ⟨rfl, _, SqL.of hD2⟩, _, rfl, _, rfl, _, rfl, R, _, rfl, SqL.of hR2, fun p1 m1 => ?_⟩
          rw [cutV_take _ (by omega)]
          generalize hq_ : L2.upd H2 p1 _ = Ha
          obtain ⟨k1, o1⟩ := _root_.Q.nwS m1 hq_
          clear hq_
          refine ⟨_, rfl, _, rfl, d, _, _, _, rfl, rfl, SqL.of (k1 _ _ hd2), atI_nat ewc, tc, _, _, _, rfl, rfl, SqT.of (k1 _ _ hc2), rfl, _, rfl, _, rfl, R, _, _, _, rfl, rfl, SqL.of (k1 _ _ hR2), atI_nat ew, tw, _, _, _, rfl, rfl, SqT.of (k1 _ _ hw2), rfl, (by show 2 ≤ sizeLine; omega), fun t m2 => ?_⟩
          generalize hq_ : L2.upd Ha t _ = Hb
          obtain ⟨k2, o2⟩ := _root_.Q.nwS m2 hq_
          clear hq_
          refine ⟨(by show 1 ≤ sizeLine; omega), fun p2 m3 => ?_⟩
          generalize hq_ : L2.upd Hb p2 _ = Hc
          obtain ⟨k3, o3⟩ := _root_.Q.nwS m3 hq_
          clear hq_
          refine ⟨p1, p2, _, _, rfl, rfl, k3 _ _ (k2 _ _ o1), o3, (by ((try simp only [List.length_map, List.length_take, List.length_drop, List.length_append, List.length_cons, List.length_nil, List.length_zipWith, List.length_set, List.length_replicate, List.length_range]) <;> omega)), fun p3 m4 => ?_⟩
          generalize hq_ : L2.upd Hc p3 _ = Hd
          obtain ⟨k4, o4⟩ := _root_.Q.nwS m4 hq_
          clear hq_
          have kd := ((k1.trans k2).trans k3).trans k4
          refine ⟨_, rfl, _, rfl, _, _, rfl, rfl, _, rfl, R, _, rfl, SqL.of (kd _ _ hR2), fun p4 m5 => ?_⟩
          rw [show ((i : Int) + 1) = ((i + 1 : Nat) : Int) by omega, cutV_drop]
          generalize hq_ : L2.upd Hd p4 _ = He
          obtain ⟨k5, o5⟩ := _root_.Q.nwS m5 hq_
          clear hq_
          refine ⟨p3, p4, _, _, rfl, rfl, k5 _ _ o4, o5, (by ((try simp only [List.length_map, List.length_take, List.length_drop, List.length_append, List.length_cons, List.length_nil, List.length_zipWith, List.length_set, List.length_replicate, List.length_range]) <;> omega)), fun p5 m6 => ?_⟩
          have ke := kd.trans k5
          refine ⟨D, _, _, rfl, rfl, (same_new m6) _ _ (ke _ _ hD2), by omega, ?_⟩
          refine app H2 fs2 _ (ci.2, xi.2) _ sm2 hD2 (by omega) pF2 hR2 (Paired.mapP pk fun _ _ z => z.nl nl2) (Paired.mapP pl fun _ _ z => z.nl nl2) t He _ p5 ke m6 (k5 _ _ (k4 _ _ (k3 _ _ o2))) (Same.refl _) fun Hz _ sz nz oD' pz oR' => ?_
          exact ⟨rfl, sz, nl2.trans nz, ⟨_, oD', pz⟩, oR'⟩
        · have c' : ¬ ci.2 < xi.2 := fun z => c (decide_eq_true z)
          rw [if_neg c', List.append_nil]
          exact ⟨rfl, sm2, nl2, ⟨_, hD2, pF2⟩, hR2⟩
      rintro σ3 H3' ⟨rfl, sm3, nl3, ⟨fs3, hD3, pF3⟩, hR3⟩
      refine ⟨_, rfl, _, rfl, d, _, _, _, rfl, rfl, SqL.of (sm3 _ _ (s3 _ _ hd)), atI_nat ewc, _, rfl, _, rfl, R, _, _, i, rfl, rfl, hR3, ix_nat (by omega), ?_⟩
      generalize hq_ : L2.upd H3' R _ = H4'
      obtain ⟨u4, o4⟩ := _root_.Q.updS hq_
      clear hq_
      have nl4 := NL.put hR3 u4
      refine ⟨⟨_, rfl⟩, Same.put sm3 nR3 u4, ⟨fs3, u4 _ _ RD.symm hD3, Paired.mapP pF3 fun v rs z => z.kp (fun b o n e => u4 _ _ (fun z => n (by rw [z]; simp)) e) nl4⟩, _, o4, ?_⟩
      rw [← hxi, ← hci] at *
      rw [← a4]
      exact paired_set i (Paired.mapP pW fun _ _ z => z.nl (nl3.trans nl4)) ⟨tc, rfl, nl4.tup (sm3 _ _ (s3 _ _ hc))⟩
    · rintro σ H' ⟨⟨v6, rfl⟩, sm, ⟨fs, hD, pF⟩, ws, hR, pW⟩
      have s1' := s13.trans sm
      have lf := paired_len pF
      have lc := cutsL_le xs cm xs.length
      refine ⟨_, rfl, ?_⟩
      refine sortLam_of (R := pcRel [] H') (key := loKey) (tb.ext s1') (SqL.of hD) (Paired.mapP pF fun v rs ⟨l, e, _, q⟩ => ⟨l, e, by simp, q⟩) ?_ ?_ ?_ (fun v rs m ⟨l, e, _, q⟩ H2 H3' eN s2 => ?_) fun H2 eN T2 l ys' H6 nl s6 hl py => ?_
      · refine PySem.W.AllAlike.of fun c c' => ?_
        unfold loKey
        simp only [PySem.W.alike]
        exact PySem.W.alike_ints _ _
      · exact PySem.W.Sortable.others fun c => ⟨fun z => (by cases z), fun xs z => (by cases z)⟩
      · intro c _
        have : (loKey c).depth = 1 := by
          unfold loKey
          simp only [PyData.depth]
          rw [PySem.W.depth_ints]
        omega
      · refine ⟨l, rs, by rw [e], (q.ext eN).same s2, by rw [cutsL_len ln (Nat.le_refl _) rs m]; omega, fun D' H4 s4 oD' => ⟨s4, ?_⟩⟩
        exact dp_lints (SqL.of oD')
      · refine kQ l ys' H6 ((ExtN.of s1').trans (eN.trans (ExtN.of s6))) (T2.ext s6) hl ?_
        rw [if_pos rfl]
        exact Paired.mapP py fun v rs ⟨l, e, _, q⟩ => ⟨l, e, by simp, (q.ext eN).same s6⟩

end
end K00

set_option maxRecDepth 100000
set_option maxHeartbeats 4000000
namespace K00
open PySem PySem.Spec PyProof.Rows L2 Q RZ LamX NdefX
section
variable {P : Program} {w : World} {K : PySem.W.Frag} {mg : Str → Option Value} {base : Heap} {f : Addr} {fd : FuncData}
/-! ### the pieces, column by column -/
theorem cutL_succ (x c : Int × Int) (xs cm : List (Int × Int)) (k : Nat) : cutL (x :: xs) (c :: cm) (k + 1) = (cutL xs cm k).map (c :: ·) := by
  unfold cutL
  rw [List.map_append]
  show (if (xs.getD k (0, 0)).1 < (cm.getD k (0, 0)).1 then _ else _) ++ (if (cm.getD k (0, 0)).2 < (xs.getD k (0, 0)).2 then _ else _) = _
  congr 1 <;> split <;> rfl
theorem cutsL_cons (x c : Int × Int) (xs cm : List (Int × Int)) (n : Nat) : cutsL (x :: xs) (c :: cm) (n + 1) = cutL (x :: xs) (c :: cm) 0 ++ (cutsL xs cm n).map (c :: ·) := by
  unfold cutsL
  rw [List.range_succ_eq_map, List.flatMap_cons, List.flatMap_map, List.map_flatMap]
  congr 1
  congr 1
  funext k
  exact cutL_succ x c xs cm k
theorem mem_cut0 {x c : Int × Int} {xs cm p : List (Int × Int)} : p ∈ cutL (x :: xs) (c :: cm) 0 ↔ (x.1 < c.1 ∧ p = (x.1, c.1) :: xs) ∨ (c.2 < x.2 ∧ p = (c.2, x.2) :: xs) := by
  show p ∈ (if x.1 < c.1 then [(x.1, c.1) :: xs] else []) ++ (if c.2 < x.2 then [(c.2, x.2) :: xs] else []) ↔ _
  rw [List.mem_append]
  constructor
  · rintro (m | m) <;> split at m
    · exact .inl ⟨by assumption, List.mem_singleton.mp m⟩
    · cases m
    · exact .inr ⟨by assumption, List.mem_singleton.mp m⟩
    · cases m
  · rintro (⟨h, rfl⟩ | ⟨h, rfl⟩)
    · rw [if_pos h]
      exact .inl List.mem_cons_self
    · rw [if_pos h]
      exact .inr List.mem_cons_self
theorem within_cons {l h v : Int} {ls hs p : List Int} : Within (l :: ls) (h :: hs) (v :: p) ↔ l ≤ v ∧ v < h ∧ Within ls hs p := ⟨fun w => by cases w with | cons a b r => exact ⟨a, b, r⟩, fun ⟨a, b, r⟩ => .cons a b r⟩
theorem within_none {l h : Int} {ls hs : List Int} : ¬ Within (l :: ls) (h :: hs) [] := fun w => by cases w
abbrev InR (rs : List (Int × Int)) (p : List Int) : Prop := Within (los rs) (his rs) p
theorem inR_cons {r : Int × Int} {rs : List (Int × Int)} {v : Int} {p : List Int} : InR (r :: rs) (v :: p) ↔ r.1 ≤ v ∧ v < r.2 ∧ InR rs p := within_cons
theorem common_cons (x y : Int × Int) (xs ys : List (Int × Int)) : commonOf (x :: xs) (y :: ys) = (imx x.1 y.1, imn x.2 y.2) :: commonOf xs ys := rfl
theorem allLt_common {c : Int × Int} {cm : List (Int × Int)} (h : allLt (los (c :: cm)) (his (c :: cm)) = true) : c.1 < c.2 ∧ allLt (los cm) (his cm) = true := by
  have h : (decide (c.1 < c.2) && allLt (los cm) (his cm)) = true := h
  rw [Bool.and_eq_true, decide_eq_true_eq] at h
  exact h
/-- the points of the pieces: those of one that do not lie in the other -/
theorem cuts_mem : ∀ {xs ys : List (Int × Int)}, xs.length = ys.length → allLt (los (commonOf xs ys)) (his (commonOf xs ys)) = true → ∀ p, ((∃ c ∈ cutsL xs (commonOf xs ys) xs.length, InR c p) ↔ InR xs p ∧ ¬ InR ys p)
  | [], [], _, _, p => by
    constructor
    · rintro ⟨c, m, _⟩
      cases m
    · rintro ⟨h, k⟩
      exact absurd h k
  | x :: xs, y :: ys, e, al, p => by
    rw [common_cons] at al ⊢
    generalize hc : (imx x.1 y.1, imn x.2 y.2) = c at al ⊢
    obtain ⟨c0, al⟩ := allLt_common al
    rw [List.length_cons, cutsL_cons]
    cases p with
    | nil =>
      constructor
      · rintro ⟨q, m, w⟩
        rcases List.mem_append.mp m with m | m
        · rcases mem_cut0.mp m with ⟨_, rfl⟩ | ⟨_, rfl⟩ <;> exact absurd w within_none
        · obtain ⟨q', _, rfl⟩ := List.mem_map.mp m
          exact absurd w within_none
      · rintro ⟨w, _⟩
        exact absurd w within_none
    | cons v vs =>
      have ih := cuts_mem (xs := xs) (ys := ys) (by simpa using e) al vs
      have hc1 : c.1 = if y.1 > x.1 then y.1 else x.1 := by rw [← hc]
      have hc2 : c.2 = if y.2 < x.2 then y.2 else x.2 := by rw [← hc]
      rw [inR_cons, inR_cons]
      constructor
      · rintro ⟨q, m, w⟩
        rcases List.mem_append.mp m with m | m
        · rcases mem_cut0.mp m with ⟨lt, rfl⟩ | ⟨lt, rfl⟩
          · obtain ⟨w1, w2, w3⟩ := inR_cons.mp w
            have w1 : x.1 ≤ v := w1
            have w2 : v < c.1 := w2
            refine ⟨⟨w1, ?_, w3⟩, fun z => ?_⟩
            · split at hc2 <;> omega
            · have := z.1
              split at hc1 <;> omega
          · obtain ⟨w1, w2, w3⟩ := inR_cons.mp w
            have w1 : c.2 ≤ v := w1
            have w2 : v < x.2 := w2
            refine ⟨⟨?_, w2, w3⟩, fun z => ?_⟩
            · split at hc1 <;> omega
            · have := z.2.1
              split at hc2 <;> omega
        · obtain ⟨q', m', rfl⟩ := List.mem_map.mp m
          obtain ⟨w1, w2, w3⟩ := inR_cons.mp w
          obtain ⟨r1, r2⟩ := ih.mp ⟨q', m', w3⟩
          refine ⟨⟨?_, ?_, r1⟩, fun z => r2 z.2.2⟩
          · split at hc1 <;> omega
          · split at hc2 <;> omega
      · rintro ⟨⟨w1, w2, w3⟩, nz⟩
        by_cases h1 : v < c.1
        · exact ⟨_, List.mem_append.mpr (.inl (mem_cut0.mpr (.inl ⟨by omega, rfl⟩))), inR_cons.mpr ⟨w1, h1, w3⟩⟩
        by_cases h2 : c.2 ≤ v
        · exact ⟨_, List.mem_append.mpr (.inl (mem_cut0.mpr (.inr ⟨by omega, rfl⟩))), inR_cons.mpr ⟨h2, w2, w3⟩⟩
        obtain ⟨q, m, w⟩ := ih.mpr ⟨w3, fun z => nz ⟨by split at hc1 <;> omega, by split at hc2 <;> omega, z⟩⟩
        exact ⟨_, List.mem_append.mpr (.inr (List.mem_map.mpr ⟨q, m, rfl⟩)), inR_cons.mpr ⟨by omega, by omega, w⟩⟩
  | [], _ :: _, e, _, _ => by cases e
  | _ :: _, [], e, _, _ => by cases e
theorem allLt_cons {c : Int × Int} {cm : List (Int × Int)} : allLt (los (c :: cm)) (his (c :: cm)) = (decide (c.1 < c.2) && allLt (los cm) (his cm)) := rfl
/-- no two pieces have a point, or their lows, in common -/
theorem cuts_apart : ∀ {xs cm : List (Int × Int)}, xs.length = cm.length → allLt (los cm) (his cm) = true → (cutsL xs cm xs.length).Pairwise fun a b => (∀ p, InR a p → ¬ InR b p) ∧ los a ≠ los b
  | [], [], _, _ => .nil
  | x :: xs, c :: cm, e, al => by
    obtain ⟨c0, al⟩ := allLt_common al
    rw [List.length_cons, cutsL_cons, List.pairwise_append]
    refine ⟨?_, ?_, fun a ha b hb => ?_⟩
    · show ((if x.1 < c.1 then [(x.1, c.1) :: xs] else []) ++ (if c.2 < x.2 then [(c.2, x.2) :: xs] else [])).Pairwise _
      rw [List.pairwise_append]
      refine ⟨by split <;> simp, by split <;> simp, fun a ha b hb => ?_⟩
      split at ha
      · split at hb
        · rw [List.mem_singleton.mp ha, List.mem_singleton.mp hb]
          refine ⟨fun p w z => ?_, fun z => ?_⟩
          · cases p with
            | nil => exact within_none w
            | cons v vs =>
              have h1 : v < c.1 := (inR_cons.mp w).2.1
              have h2 : c.2 ≤ v := (inR_cons.mp z).1
              omega
          · have : x.1 = c.2 := (List.cons.inj z).1
            omega
        · cases hb
      · cases ha
    · rw [List.pairwise_map]
      refine (cuts_apart (by simpa using e) al).imp fun {a b} ⟨h1, h2⟩ => ⟨fun p w z => ?_, fun z => h2 (List.cons.inj z).2⟩
      cases p with
      | nil => exact within_none w
      | cons v vs => exact h1 vs (inR_cons.mp w).2.2 (inR_cons.mp z).2.2
    · obtain ⟨b', _, rfl⟩ := List.mem_map.mp hb
      rcases mem_cut0.mp ha with ⟨lt, rfl⟩ | ⟨lt, rfl⟩
      · refine ⟨fun p w z => ?_, fun z => ?_⟩
        · cases p with
          | nil => exact within_none w
          | cons v vs =>
            have h1 : v < c.1 := (inR_cons.mp w).2.1
            have h2 : c.1 ≤ v := (inR_cons.mp z).1
            omega
        · have : x.1 = c.1 := (List.cons.inj z).1
          omega
      · refine ⟨fun p w z => ?_, fun z => ?_⟩
        · cases p with
          | nil => exact within_none w
          | cons v vs =>
            have h1 : c.2 ≤ v := (inR_cons.mp w).1
            have h2 : v < c.2 := (inR_cons.mp z).2.1
            omega
        · have : c.2 = c.1 := (List.cons.inj z).1
          omega
  | [], _ :: _, e, _ => by cases e
  | _ :: _, [], e, _ => by cases e
theorem inj_of {α β : Type} {f : α → β} : ∀ {l : List α}, l.Pairwise (fun a b => f a ≠ f b) → ∀ a ∈ l, ∀ b ∈ l, f a = f b → a = b
  | [], _, a, h, _, _, _ => by cases h
  | x :: l, p, a, ha, b, hb, e => by
    obtain ⟨p1, p2⟩ := List.pairwise_cons.mp p
    rcases List.mem_cons.mp ha with q | ha' <;> rcases List.mem_cons.mp hb with q' | hb'
    · rw [q, q']
    · exact absurd e (by rw [q]; exact p1 _ hb')
    · exact absurd e.symm (by rw [q']; exact p1 _ ha')
    · exact inj_of p2 a ha' b hb' e
/-! ### the pieces as couples of rows, their order -/
abbrev lohi (rs : List (Int × Int)) : List Int × List Int := (los rs, his rs)
theorem cuts_map {xs cm : List (Int × Int)} (e : cm.length = xs.length) : ∀ {n : Nat}, n ≤ xs.length → cuts (los xs) (his xs) (los cm) (his cm) n = (cutsL xs cm n).map lohi
  | 0, _ => rfl
  | n + 1, h => by
    rw [cuts_succ, cutsL_succ, List.map_append, cuts_map e (by omega)]
    congr 1
    have hx : n < xs.length := h
    have hc : n < cm.length := by omega
    unfold cutStep cutL
    rw [los_get hx, los_get hc, his_get hx, his_get hc, List.getD_eq_getElem?_getD, List.getElem?_eq_getElem hx, List.getD_eq_getElem?_getD, List.getElem?_eq_getElem hc, List.map_append]
    have d1 : (los xs).drop n = xs[n].1 :: (los xs).drop (n + 1) := by
      rw [drop_getD (show n < (los xs).length by ((try simp only [List.length_map, List.length_take, List.length_drop, List.length_append, List.length_cons, List.length_nil, List.length_zipWith, List.length_set, List.length_replicate, List.length_range]) <;> omega)), los_get hx]
    have d2 : (his xs).drop n = xs[n].2 :: (his xs).drop (n + 1) := by
      rw [drop_getD (show n < (his xs).length by ((try simp only [List.length_map, List.length_take, List.length_drop, List.length_append, List.length_cons, List.length_nil, List.length_zipWith, List.length_set, List.length_replicate, List.length_range]) <;> omega)), his_get hx]
    rw [d1, d2]
    show (if xs[n].1 < cm[n].1 then _ else _) ++ (if cm[n].2 < xs[n].2 then _ else _) = List.map lohi (if xs[n].1 < cm[n].1 then _ else _) ++ List.map lohi (if cm[n].2 < xs[n].2 then _ else _)
    congr 1
    · split
      · simp [lohi, los, his]
      · rfl
    · split
      · simp [lohi, los, his]
      · rfl
theorem dataLt_rows (xs ys : List Int) : PySem.W.dataLt (.tuple (xs.map PyData.int)) (.tuple (ys.map PyData.int)) = decide (xs < ys) := by
  rw [PySem.W.dataLt_tuple]
  exact PySem.W.dataLt_ints xs ys
theorem dataLt_lrows (xs ys : List Int) : PySem.W.dataLt (.list (xs.map PyData.int)) (.list (ys.map PyData.int)) = decide (xs < ys) := by
  rw [PySem.W.dataLt_list]
  exact PySem.W.dataLt_ints xs ys
theorem dataLt_cutD (a b : List Int × List Int) : PySem.W.dataLt (cutD a) (cutD b) = if a.1 = b.1 then (if a.2 = b.2 then false else decide (a.2 < b.2)) else decide (a.1 < b.1) := by
  unfold cutD
  have al : ∀ xs ys : List Int, PySem.W.alike (.tuple (xs.map PyData.int)) (.tuple (ys.map PyData.int)) = true := fun xs ys => by
    simp only [PySem.W.alike]
    exact PySem.W.alike_ints _ _
  have eq : ∀ xs ys : List Int, PyData.eqv (.tuple (xs.map PyData.int)) (.tuple (ys.map PyData.int)) = decide (xs = ys) := fun xs ys => eqvAll_ints xs ys
  rw [PySem.W.dataLt_pair (al _ _) (al _ _), dataLt_rows, dataLt_rows, eq, eq]
  simp only [decide_eq_true_eq]
theorem less_sorted {xs cm : List (Int × Int)} (e : cm.length = xs.length) (al : allLt (los cm) (his cm) = true) :
    (cuts (los xs) (his xs) (los cm) (his cm) xs.length).mergeSort (PySem.W.dataLe false cutD) = ((cutsL xs cm xs.length).mergeSort (PySem.W.dataLe false loKey)).map lohi := by
  rw [cuts_map e (Nat.le_refl _)]
  symm
  refine List.map_mergeSort fun a ha b hb => ?_
  show (!PySem.W.dataLt (loKey b) (loKey a)) = (!PySem.W.dataLt (cutD (lohi b)) (cutD (lohi a)))
  rw [dataLt_cutD]
  unfold loKey
  rw [dataLt_lrows]
  show (!decide (los b < los a)) = (!if los b = los a then (if his b = his a then false else decide (his b < his a)) else decide (los b < los a))
  by_cases z : los b = los a
  · have := inj_of ((cuts_apart e.symm al).imp fun {a b} h => h.2) b hb a ha z
    rw [this, if_pos rfl, if_pos rfl, decide_eq_false (lex_irr _)]
  · rw [if_neg z]
/-! ### the points of the pieces in order -/
theorem dataLe_pts : PySem.W.dataLe false (fun p : List Int => PyData.tuple (p.map PyData.int)) = fun p q => !decide (q < p) := by
  funext p q
  show (!PySem.W.dataLt _ _) = _
  rw [dataLt_rows]
theorem lex_tri : ∀ p q : List Int, p < q ∨ p = q ∨ q < p
  | [], [] => .inr (.inl rfl)
  | [], _ :: _ => .inl .nil
  | _ :: _, [] => .inr (.inr .nil)
  | x :: p, y :: q => by
    rw [_root_.Q.lex_cons, _root_.Q.lex_cons, List.cons.injEq]
    rcases lex_tri p q with h | h | h
    · by_cases e : x = y
      · exact .inl (.inr ⟨e, h⟩)
      · by_cases l : x < y
        · exact .inl (.inl l)
        · exact .inr (.inr (.inl (by omega)))
    · by_cases e : x = y
      · exact .inr (.inl ⟨e, h⟩)
      · by_cases l : x < y
        · exact .inl (.inl l)
        · exact .inr (.inr (.inl (by omega)))
    · by_cases e : x = y
      · exact .inr (.inr (.inr ⟨e.symm, h⟩))
      · by_cases l : x < y
        · exact .inl (.inl l)
        · exact .inr (.inr (.inl (by omega)))
theorem lex_trans : ∀ {p q r : List Int}, p < q → q < r → p < r
  | [], [], _, h, _ => by cases h
  | [], _ :: _, [], _, k => by cases k
  | [], _ :: _, _ :: _, _, _ => .nil
  | _ :: _, [], _, h, _ => by cases h
  | _ :: _, _ :: _, [], _, k => by cases k
  | x :: p, y :: q, z :: r, h, k => by
    rw [_root_.Q.lex_cons] at h k ⊢
    rcases h with h | ⟨e, h⟩ <;> rcases k with k | ⟨e', k⟩
    · exact .inl (by omega)
    · exact .inl (by omega)
    · exact .inl (by omega)
    · exact .inr ⟨by omega, lex_trans h k⟩
theorem sort_pts {l m : List (List Int)} (n : l.Nodup) (a : m.Pairwise (· < ·)) (h : ∀ p, p ∈ l ↔ p ∈ m) : l.mergeSort (PySem.W.dataLe false fun p : List Int => PyData.tuple (p.map PyData.int)) = m := by
  rw [dataLe_pts]
  have pm := List.mergeSort_perm l fun p q => !decide (q < p)
  refine asc_ext lex_irr lex_asy ?_ a fun p => by rw [pm.mem_iff, h]
  have so : (l.mergeSort fun p q => !decide (q < p)).Pairwise fun p q => (!decide (q < p)) = true := List.pairwise_mergeSort (fun p q r h k => by
    rw [Bool.not_eq_true', decide_eq_false_iff_not] at h k ⊢
    intro z
    rcases lex_tri p q with y | y | y
    · exact k (lex_trans z y)
    · rw [y] at z
      exact k z
    · exact h y) (fun p q => by
    by_cases z : q < p
    · rw [decide_eq_true z, decide_eq_false (lex_asy _ _ z)]
      rfl
    · rw [decide_eq_false z]
      rfl) l
  have nd : (l.mergeSort fun p q => !decide (q < p)).Pairwise (· ≠ ·) := pm.nodup_iff.mpr n
  refine (so.and nd).imp fun {p q} ⟨h, k⟩ => ?_
  rw [Bool.not_eq_true', decide_eq_false_iff_not] at h
  rcases lex_tri p q with y | y | y
  · exact y
  · exact absurd y k
  · exact absurd y h
abbrev pts (rs : List (Int × Int)) : List (List Int) := spots (los rs) (his rs)
theorem mem_pts {rs : List (Int × Int)} {p : List Int} : p ∈ pts rs ↔ InR rs p := mem_spots (by ((try simp only [List.length_map, List.length_take, List.length_drop, List.length_append, List.length_cons, List.length_nil, List.length_zipWith, List.length_set, List.length_replicate, List.length_range]) <;> omega))
theorem flat_nodup : ∀ {l : List (List (Int × Int))}, l.Pairwise (fun a b => ∀ p, InR a p → ¬ InR b p) → (l.flatMap pts).Nodup
  | [], _ => .nil
  | c :: l, h => by
    obtain ⟨h1, h2⟩ := List.pairwise_cons.mp h
    rw [List.flatMap_cons]
    refine List.pairwise_append.mpr ⟨spots_nodup _ _, flat_nodup h2, fun p hp q hq e => ?_⟩
    obtain ⟨d, hd, hq⟩ := List.mem_flatMap.mp hq
    subst e
    exact h1 d hd p (mem_pts.mp hp) (mem_pts.mp hq)
/-- what _law_cut tells of two like rows of ranges -/
def dueOf (xs ys : List (Int × Int)) : List (List (Int × Int)) := if allLt (los (commonOf xs ys)) (his (commonOf xs ys)) = true then (cutsL xs (commonOf xs ys) xs.length).mergeSort (PySem.W.dataLe false loKey) else [xs]
theorem common_in : ∀ {xs ys : List (Int × Int)}, xs.length = ys.length → ∀ p, InR xs p → InR ys p → allLt (los (commonOf xs ys)) (his (commonOf xs ys)) = true
  | [], [], _, _, _, _ => rfl
  | x :: xs, y :: ys, e, [], h, _ => absurd h within_none
  | x :: xs, y :: ys, e, v :: p, h, k => by
    obtain ⟨h1, h2, h3⟩ := inR_cons.mp h
    obtain ⟨k1, k2, k3⟩ := inR_cons.mp k
    rw [common_cons, allLt_cons, common_in (by simpa using e) p h3 k3, Bool.and_true, decide_eq_true_eq]
    show (if y.1 > x.1 then y.1 else x.1) < (if y.2 < x.2 then y.2 else x.2)
    split <;> split <;> omega
  | [], _ :: _, e, _, _, _ => by cases e
  | _ :: _, [], e, _, _, _ => by cases e
theorem due_apart {xs ys : List (Int × Int)} (e : xs.length = ys.length) : (dueOf xs ys).Pairwise fun a b => ∀ p, InR a p → ¬ InR b p := by
  unfold dueOf
  split
  · next al =>
    have a := (cuts_apart (xs := xs) (cm := commonOf xs ys) (commonOf_len e).symm al).imp (S := fun a b => ∀ p, InR a p → ¬ InR b p) fun {a b} h => h.1
    exact (List.mergeSort_perm (cutsL xs (commonOf xs ys) xs.length) _).symm.pairwise a fun {a b} h p ha hb => h p hb ha
  · exact List.pairwise_singleton _ _
theorem due_mem {xs ys : List (Int × Int)} (e : xs.length = ys.length) (p : List Int) : p ∈ (dueOf xs ys).flatMap pts ↔ p ∈ pts xs ∧ ¬ p ∈ pts ys := by
  rw [List.mem_flatMap, mem_pts, mem_pts]
  unfold dueOf
  split
  · next al =>
    rw [← cuts_mem e al]
    constructor
    · rintro ⟨c, m, h⟩
      exact ⟨c, List.mem_mergeSort.mp m, mem_pts.mp h⟩
    · rintro ⟨c, m, h⟩
      exact ⟨c, List.mem_mergeSort.mpr m, mem_pts.mpr h⟩
  · next al =>
    constructor
    · rintro ⟨c, m, h⟩
      rw [List.mem_singleton.mp m] at h
      exact ⟨mem_pts.mp h, fun k => al (common_in e p (mem_pts.mp h) k)⟩
    · exact fun h => ⟨xs, List.mem_singleton.mpr rfl, mem_pts.mpr h.1⟩
theorem due_sorted {xs ys : List (Int × Int)} (e : xs.length = ys.length) : ((dueOf xs ys).flatMap pts).mergeSort (PySem.W.dataLe false fun p : List Int => PyData.tuple (p.map PyData.int)) = (pts xs).filter fun p => !decide (p ∈ pts ys) :=
  sort_pts (flat_nodup (due_apart e)) ((spots_asc _ _).filter _) fun p => by
    rw [due_mem e, List.mem_filter, Bool.not_eq_true', decide_eq_false_iff_not]
/-- so many points at most, piece by piece -/
theorem due_len {xs ys : List (Int × Int)} (e : xs.length = ys.length) (i : Nat) : (((dueOf xs ys).take i).flatMap pts).length ≤ cnt (los xs) (his xs) := by
  rw [← spots_len]
  refine nodup_len (flat_nodup ((due_apart e).sublist (List.take_sublist _ _))) fun p m => ?_
  obtain ⟨c, m, h⟩ := List.mem_flatMap.mp m
  exact ((due_mem e p).mp (List.mem_flatMap.mpr ⟨c, List.mem_of_mem_take m, h⟩)).1
theorem due_rgs {xs ys : List (Int × Int)} (e : xs.length = ys.length) (r1 : Rgs (los xs) (his xs)) (r2 : Rgs (los ys) (his ys)) : ∀ c ∈ dueOf xs ys, Rgs (los c) (his c) ∧ c.length = xs.length := by
  intro c m
  unfold dueOf at m
  split at m
  · next al =>
    have m := List.mem_mergeSort.mp m
    have ln := commonOf_len e
    have q := cuts_rgs (l := los xs) (h := his xs) (cl := los (commonOf xs ys)) (ch := his (commonOf xs ys)) r1 (by
      rw [commonOf_los, commonOf_his] at al ⊢
      exact rgs_common r1 r2 (by ((try simp only [List.length_map, List.length_take, List.length_drop, List.length_append, List.length_cons, List.length_nil, List.length_zipWith, List.length_set, List.length_replicate, List.length_range]) <;> omega)) al) (by ((try simp only [List.length_map, List.length_take, List.length_drop, List.length_append, List.length_cons, List.length_nil, List.length_zipWith, List.length_set, List.length_replicate, List.length_range]) <;> omega)) (Nat.le_of_eq (List.length_map ..).symm) (lohi c) (by
      rw [cuts_map ln (Nat.le_refl _)]
      exact List.mem_map.mpr ⟨c, m, rfl⟩)
    exact ⟨q.1, cutsL_len ln (Nat.le_refl _) c m⟩
  · rw [List.mem_singleton.mp m]
    exact ⟨r1, rfl⟩
theorem due_cnt {xs ys : List (Int × Int)} (e : xs.length = ys.length) : ∀ c ∈ dueOf xs ys, cnt (los c) (his c) ≤ cnt (los xs) (his xs) := by
  intro c m
  rw [← spots_len, ← spots_len]
  exact nodup_len (spots_nodup _ _) fun p h => ((due_mem e p).mp (List.mem_flatMap.mpr ⟨c, m, h⟩)).1
theorem due_few {xs ys : List (Int × Int)} : (dueOf xs ys).length ≤ 2 * xs.length + 1 := by
  unfold dueOf
  split
  · rw [List.length_mergeSort]
    have := cutsL_le xs (commonOf xs ys) xs.length
    omega
  · show 1 ≤ _
    omega

end
end K00

set_option maxRecDepth 100000
set_option maxHeartbeats 4000000
/-! [.. for x in g(..)] -/
namespace Q
open PySem PySem.Spec PyProof.Rows L2 GenW
/-- W: the invariant by what has been handed out (the new list at D within) -/
def tLcG (tgn : TGn) (g : TG) (tt : TT) (te : TE) (vs : List Nat) : TE := fun σ H Q => tgn σ H fun L Dd H1 => ∀ D, H1 D = none → ∃ W : Nat → Hp → Prop, W 0 (upd H1 D (.lst [])) ∧
  (∀ j it H, L[j]? = some it → W j H → Dd H ∧ ∀ x H', L2.Same H H' → it x H' → g x (wipe σ vs) H' fun σ2 H2 => wipe σ2 vs = wipe σ vs ∧ tt σ2 H2 fun b H3 =>
    if b = true then te σ2 H3 fun y H4 => ∃ acc, H4 D = some (.lst acc) ∧ acc.length < sizeLine ∧ W (j + 1) (upd H4 D (.lst (acc ++ [y]))) else W (j + 1) H3) ∧
  ∀ H, W L.length H → Dd H ∧ ∀ H', L2.Same H H' → Q (.ref D) H'
section
variable {X : Cx}
theorem lc_coreG {pins : List (Addr × Obj)} {s : Shared} {σ : L2.St} {H : Hp} {Q : VK} {elt iter : Expr} {x : Str} {xp : Pos} {ifs : List Expr} {scope : Scope} {own : List (Str × Nat)} {pos pos2 : Pos} {tgn : TGn} {g : TG} {tt : TT} {te : TE} {use : Option (Value → Sem Unit)} {Qf : Value → Shared → Prop}
    (hc : X.calm = true) (hN : X.N.Nodup) {k : Nat} (hr : Room (k + 1) X.A) (I : Inv X pins σ H s) (hi : PGn X k iter tgn) (ok : BlkOk X.N X.env.scope scope own)
    (hg : ∀ (s : Shared) (H : Hp) (C : Addr) (cl : List (Str × Addr)) (fp : List Addr), PG (X.blk s H scope (compEnvC scope cl C X.env) fp) (.Name x xp) g)
    (ht : ∀ (s : Shared) (H : Hp) (C : Addr) (cl : List (Str × Addr)) (fp : List Addr), PTs (X.blk s H scope (compEnvC scope cl C X.env) fp) ifs tt)
    (he : ∀ (s : Shared) (H : Hp) (C : Addr) (cl : List (Str × Addr)) (fp : List Addr), PE (X.blk s H scope (compEnvC scope cl C X.env) fp) elt te) (hs : ∀ x, foldedSetIterable iter X.env x = pure x)
    (h : tLcG tgn g tt te (own.map (·.2)) σ H Q)
    (fin : ∀ D C s' m H', Inv X pins σ H' s' → Q (.ref D) H' → s'.heap.Ns C m → FpOk X pins H' C → compPost (model X.prog X.w) X.A X.xe use Qf (.ref D) C (.ok .next) s') :
    wpAny (model X.prog X.w) X.A (comprehension (.ListComp elt [⟨.Name x xp, iter, ifs, 0⟩] scope pos) scope X.env pos2 (newList []) false (eval iter X.env) use) Qf X.xe s := by
  have cells : ∀ y ∈ scope.names, y.2 = .free → ∃ c, X.env.cells.lookup y.1 = some c := fun y hy e => (ok.free y hy e).elim (fun k => I.ok.has _ (.inl k)) fun k => I.ok.has _ (.inr k)
  refine wpAny_comprehension_free (use := use) rfl hs (closure_ok cells) ok.kind (fun y hy e => by rw [ok.uniq y hy, e]) (thn (hi.run pins s σ H _ I h) fun v s2 h2 => ?_)
  obtain ⟨H2, n, a, gn, go, pn, L, Dd, _, rfl, _, hl, hb0, q⟩ := h2
  have hd := hr.depth
  have hf := hl.inv.ok.frames
  have hz := hb0.at hr hf
  refine wpAny_pyIter_gen hl.isGen ?_
  refine wpAny_newObj_type (newEnv_comp ?_) (by show 0 ≤ sizeLine; exact Nat.zero_le _)
  have I2 : Inv X pins σ H2 s2 := hl.inv.pins_of fun p hp => hl.inv.pin p (List.mem_append_right _ (List.mem_append_left _ hp))
  have hh : X.A.handled = none := hl.inv.ok.hd hc
  generalize hD : s2.heap.objs.size = D
  have freeD : H2 D = none := I2.hok.fresh (Nat.le_of_eq hD)
  obtain ⟨W, w0, turn, done⟩ := q D freeD
  generalize hl3 : ({ s2 with heap := s2.heap.push { cls := .type "list", data := .seq ([] : List Value).toArray } } : Shared) = s3
  have h3 : s3.heap = s2.heap.push { cls := .type "list", data := .seq ([] : List Value).toArray } := by rw [← hl3]
  have g3 : s3.gens = s2.gens := by rw [← hl3]
  have k3 : ∀ b o, s2.heap.get? b = some o → s3.heap.get? b = some o := fun b o e => by rw [h3]; exact Heap.get?_push_of_some _ e
  have J3 : Inv X pins σ (upd H2 D (.lst [])) s3 := by
    subst hl3
    refine I2.laid (t' := s2.toks) (fun b o e => Heap.get?_push_of_some _ e) (Nat.le_of_eq hD) ⟨Nat.zero_le _, [], 0, .nil, ?_⟩
    exact hD ▸ Heap.get?_push_size _ rfl
  have low : ∀ b ∈ pn.map (·.1), b < s2.heap.objs.size := fun b hb => by
    obtain ⟨p, hp, rfl⟩ := List.mem_map.mp hb
    exact Heap.lt_size (hl.pn p hp).1
  have F3 : ∀ b ∈ pn.map (·.1), FpOk X pins (upd H2 D (.lst [])) b ∧ b < s3.heap.objs.size := fun b hb => by
    have lt := low b hb
    obtain ⟨p, hp, rfl⟩ := List.mem_map.mp hb
    obtain ⟨f0, f1, f2, f3, f4, f5⟩ := (hl.pn p hp).2.1
    exact ⟨⟨by rw [upd_ne (by rw [← hD]; exact Nat.ne_of_lt lt)]; exact f0, f1, f2, f3, f4, fun q hq => f5 q (by
      rcases List.mem_append.mp hq with z | z
      · exact List.mem_append_left _ z
      · exact List.mem_append_right _ (List.mem_append_left _ z))⟩, by rw [h3, Heap.size_push]; exact Nat.lt_succ_of_lt lt⟩
  have apart : ∀ b ∈ pn.map (·.1), a ≠ b := fun b hb => by
    obtain ⟨p, hp, rfl⟩ := List.mem_map.mp hb
    exact (hl.pn p hp).2.1.2.2.2.2.2 (a, go) (List.mem_append_right _ (List.mem_append_right _ List.mem_cons_self))
  have J4 := block_start J3 ok hN F3
  generalize hce : compEnvC scope (cellsFrom (s3.heap.objs.size + 1) scope.names (cloFrom X.env.cells scope.names [])) s3.heap.objs.size X.env = ce at J4
  have gce : ∃ C cl, ce = compEnvC scope cl C X.env := ⟨_, _, hce.symm⟩
  have cL : ce.locals = s3.heap.objs.size := by rw [← hce]; rfl
  show codeAny _ _ (.compStart (.ListComp elt [⟨.Name x xp, iter, ifs, 0⟩] scope pos) 0 (.ref a) (.ref D) (compEnvC scope (cellsFrom (s3.heap.objs.size + 1) scope.names (cloFrom X.env.cells scope.names [])) s3.heap.objs.size X.env)) (compPost (model X.prog X.w) X.A X.xe use Qf (.ref D) s3.heap.objs.size) { s3 with heap := pushCells (s3.heap.push { cls := .type "dict", data := .dict #[] }) scope.names }
  rw [hce]
  generalize hH3 : upd H2 D (.lst []) = H3 at J3 J4 w0 F3
  have k4 : ∀ b o, s3.heap.get? b = some o → (pushCells (s3.heap.push { cls := .type "dict", data := .dict #[] }) scope.names).get? b = some o := fun b o e => pushCells_keeps _ _ _ _ (Heap.get?_push_of_some _ e)
  generalize hs4 : ({ s3 with heap := pushCells (s3.heap.push { cls := .type "dict", data := .dict #[] }) scope.names } : Shared) = s4 at J4 ⊢
  have e4 : s4.heap = pushCells (s3.heap.push { cls := .type "dict", data := .dict #[] }) scope.names := by rw [← hs4]
  have g4 : s4.gens = s2.gens := by rw [← hs4]; exact g3
  have kk : ∀ b o, s2.heap.get? b = some o → s4.heap.get? b = some o := fun b o e => by rw [e4]; exact k4 b o (k3 b o e)
  have aH : H3 a = none := by
    rw [← hH3, upd_ne (by rw [← hD]; exact Nat.ne_of_lt (Heap.lt_size hl.at.1))]
    exact hl.at.2
  obtain ⟨C, cl, rfl⟩ := gce
  have pg := hg s3 H3 C cl (pn.map (·.1))
  have pt := ht s3 H3 C cl (pn.map (·.1))
  have pe := he s3 H3 C cl (pn.map (·.1))
  have aC : a ≠ (compEnvC scope cl C X.env).locals := by
    rw [cL]
    exact Nat.ne_of_lt (Heap.lt_size (k3 _ _ hl.at.1))
  have noXpn : ∀ p, p ∈ (X.blk s3 H3 scope (compEnvC scope cl C X.env) (pn.map (·.1))).pn → False := fun p hp => nomatch (show p ∈ ([] : List (Addr × Obj)) from hp)
  have held : Held (X.blk s3 H3 scope (compEnvC scope cl C X.env) (pn.map (·.1))) [] n a gn go pn (wipe σ (own.map (·.2))) H3 s4 := by
    refine ⟨J4.pins_of fun p hp => ?_, hl.obj, hl.an, fun p hp => ?_⟩
    · rcases List.mem_append.mp hp with z | z
      · nomatch z
      · rw [List.mem_singleton.mp z]
        refine ⟨kk _ _ hl.at.1, aH, aC, ?_, ?_⟩
        · exact (hl.inv.pin (a, go) (List.mem_append_right _ (List.mem_append_right _ List.mem_cons_self))).2.2.2.1 |> fun y => fun m => by
            have : a ∈ frs X.stack := m
            rcases List.mem_cons.mp (I2.stkSub a this) with z | z
            · exact (hl.inv.pin (a, go) (List.mem_append_right _ (List.mem_append_right _ List.mem_cons_self))).2.2.1 z
            · exact y z
        · obtain ⟨nm, qn, _, d, _⟩ := hl.obj
          exact fun v z => by rw [d] at z; cases z
    · have hb := List.mem_map_of_mem (f := fun x : Addr × Obj => x.1) hp
      obtain ⟨e1, _, e3, e5⟩ := hl.pn p hp
      refine ⟨kk _ _ e1, ⟨(F3 _ hb).1.1, (J4.ok.exf _ hb).1, J4.ok.exfs _ hb, .inl hb, fun x c e => (J4.ok.exf _ hb).2 x c e, fun q hq => ?_⟩, e3, e5⟩
      rcases List.mem_append.mp hq with z | z
      · exact (noXpn _ z).elim
      · rcases List.mem_append.mp z with z | z
        · nomatch z
        · rw [List.mem_singleton.mp z]
          exact apart _ hb
  have slp : Sleeps (X.blk s3 H3 scope (compEnvC scope cl C X.env) (pn.map (·.1))) n gn Dd L pn s4 := by
    obtain ⟨gs, c, t, fs, e, st, G⟩ := hz
    exact ⟨gs, c, t, fs, by rw [g4]; exact e, st, G⟩
  have loop : codeAny (model X.prog X.w) X.A (.compLoop (.ListComp elt [⟨.Name x xp, iter, ifs, 0⟩] scope pos) 0 (.ref a) (.ref D) (compEnvC scope cl C X.env)) (compPost (model X.prog X.w) X.A X.xe use Qf (.ref D) s3.heap.objs.size) s4 := by
    refine compLoop_any (fun m s' => ∃ j H' pn', m = L.length - j ∧ j ≤ L.length ∧ Held (X.blk s3 H3 scope (compEnvC scope cl C X.env) (pn.map (·.1))) [] n a gn go pn' (wipe σ (own.map (·.2))) H' s' ∧ Sleeps (X.blk s3 H3 scope (compEnvC scope cl C X.env) (pn.map (·.1))) n gn Dd (L.drop j) pn' s' ∧ W j H') ?_ L.length ⟨0, H3, pn, by simp, Nat.zero_le _, held, slp, w0⟩
    rintro m s5 ⟨j, H5, pn5, rfl, hj, hl5, hz5, w5⟩
    by_cases hlt : j < L.length
    · have hit : L[j]? = some L[j] := by simp [hlt]
      obtain ⟨d5, body⟩ := turn j L[j] H5 hit w5
      rw [drop_get hit] at hz5
      refine thnF (next_item (X := X.blk s3 H3 scope (compEnvC scope cl C X.env) (pn.map (·.1))) (E := fun _ _ => False) hh hd hf hl5 hz5 d5) fun r s6 h6 => ?_
      obtain ⟨v, xv, H6, pn6, rfl, rv, hx, sm, hl6, hz6, gs, hgs, has⟩ := h6
      refine wpAny_pure ?_
      have st := body xv H6 sm hx
      have hO := ownOf_at hgs has
      have I6 : Inv (X.blk s3 H3 scope (compEnvC scope cl C X.env) (pn.map (·.1))) ([] ++ [(a, go)] ++ pn6) (wipe σ (own.map (·.2))) H6 (hush s6) := inv_gens hl6.all (hush_bare hl6.inv.bare)
      have r6 : s6 = undo (ownOf s6) (hush s6) := (undo_hush s6).symm
      have keep : ∀ {s7 : Shared}, Hid (ownOf s6) s7.gens → Sleeps (X.blk s3 H3 scope (compEnvC scope cl C X.env) (pn.map (·.1))) n gn Dd (L.drop (j + 1)) pn6 (undo (ownOf s6) s7) := fun {s7} hid => by
        obtain ⟨gs', c, t, fs, e, q⟩ := hz6
        rw [hgs] at e
        cases e
        exact ⟨gs, c, t, fs, undo_keeps hid hO, q⟩
      have hid6 := hush_hid s6
      generalize ownOf s6 = O at *
      have pass : ∀ {α : Type} {t : Sem α} {Q Q' : α → Shared → Prop} {E : Value → Shared → Prop} {s : Shared}, Hid O s.gens → wpAny (model X.prog X.w) X.A t Q (fun _ _ => False) s → (∀ r s1, Hid O s1.gens → Q r s1 → Q' r (undo O s1)) → wpAny (model X.prog X.w) X.A t Q' E (undo O s) := fun hid h hq =>
        wpAny_undo hid h hq fun _ _ _ z => z.elim
      rw [r6]
      refine pass hid6 (pg.run _ _ _ H6 xv v _ I6 rv st) fun _ s7 hid7 ⟨σ7, H7, I7, hw7, q7⟩ => ?_
      refine pass hid7 (pt.run _ s7 σ7 H7 _ I7 q7) fun b s8 hid8 ⟨H8, I8, q8⟩ => ?_
      have again : ∀ {s9 : Shared} {H9 : Hp}, Hid O s9.gens → Inv (X.blk s3 H3 scope (compEnvC scope cl C X.env) (pn.map (·.1))) ([] ++ [(a, go)] ++ pn6) σ7 H9 s9 → W (j + 1) H9 → ∃ m, m < L.length - j ∧ ∃ j' H' pn', m = L.length - j' ∧ j' ≤ L.length ∧ Held (X.blk s3 H3 scope (compEnvC scope cl C X.env) (pn.map (·.1))) [] n a gn go pn' (wipe σ (own.map (·.2))) H' (undo O s9) ∧ Sleeps (X.blk s3 H3 scope (compEnvC scope cl C X.env) (pn.map (·.1))) n gn Dd (L.drop j') pn' (undo O s9) ∧ W j' H' := fun {s9 H9} hid I9 w9 => by
        have hl2 : (wipe σ (own.map (·.2))).length = σ7.length := by rw [← hw7, wipe_length]
        refine ⟨L.length - (j + 1), by omega, j + 1, H9, pn6, rfl, hlt, hl6.of_all (inv_undo (I9.weak hl2 fun i v e => ?_) hid), keep hid, w9⟩
        rw [← hw7] at e
        exact (wipe_some e).1
      cases b with
      | false =>
        simp only [Bool.false_eq_true, if_false] at q8 ⊢
        exact again hid8 I8 q8
      | true =>
        simp only [if_true] at q8 ⊢
        refine pass hid8 (pe.run _ s8 σ7 H8 _ I8 q8) fun z s9 hid9 ⟨yv, H9, I9, r9, acc, hD9, hz9, nx⟩ => ?_
        exact pass hid9 (app_ok (X := X.blk s3 H3 scope (compEnvC scope cl C X.env) (pn.map (·.1))) (Q := fun _ s' => Inv (X.blk s3 H3 scope (compEnvC scope cl C X.env) (pn.map (·.1))) ([] ++ [(a, go)] ++ pn6) σ7 (upd H9 D (.lst (acc ++ [yv]))) s') I9 hD9 hz9 r9 fun _ I11 => I11) fun _ s11 hid11 I11 => again hid11 I11 nx
    · have e : j = L.length := by omega
      subst e
      obtain ⟨d5, nx⟩ := done H5 w5
      rw [List.drop_length] at hz5
      refine thnF (next_end (X := X.blk s3 H3 scope (compEnvC scope cl C X.env) (pn.map (·.1))) (E := fun _ _ => False) hh hd hf hl5 hz5 d5) fun r s6 h6 => ?_
      obtain ⟨rfl, H6, sm, I6⟩ := h6
      have I7 : Inv X pins σ H6 s6 := J3.call' (ch := pn.map (·.1)) I6.os I6.base I6.hok I6.bare fun b hb => ⟨(F3 b hb).1.2.2.2.1, (F3 b hb).1.2.1, (F3 b hb).1.2.2.2.2.1, (F3 b hb).1.2.2.2.2.2⟩
      have nC : H6 s3.heap.objs.size = none := by
        have z : H6 (compEnvC scope cl C X.env).locals = none := I6.free
        rw [cL] at z
        exact z
      obtain ⟨m, hn, _⟩ := I6.loc
      have hn : s6.heap.Ns (compEnvC scope cl C X.env).locals m := hn
      rw [cL] at hn
      exact fin D s3.heap.objs.size s6 m H6 I7 (nx H6 sm) hn (J3.fpOk (Nat.le_refl _) nC)
  exact codeAny_compStart_list loop (wpAny_pyIter_gen held.isGen loop)
theorem pe_lcG {elt iter : Expr} {x : Str} {xp : Pos} {ifs : List Expr} {scope : Scope} {own : List (Str × Nat)} {pos : Pos} {tgn : TGn} {g : TG} {tt : TT} {te : TE}
    (hc : X.calm = true) (hN : X.N.Nodup) {k : Nat} (hr : Room (k + 1) X.A) (hi : PGn X k iter tgn) (ok : BlkOk X.N X.env.scope scope own)
    (hg : ∀ (s : Shared) (H : Hp) (C : Addr) (cl : List (Str × Addr)) (fp : List Addr), PG (X.blk s H scope (compEnvC scope cl C X.env) fp) (.Name x xp) g)
    (ht : ∀ (s : Shared) (H : Hp) (C : Addr) (cl : List (Str × Addr)) (fp : List Addr), PTs (X.blk s H scope (compEnvC scope cl C X.env) fp) ifs tt)
    (he : ∀ (s : Shared) (H : Hp) (C : Addr) (cl : List (Str × Addr)) (fp : List Addr), PE (X.blk s H scope (compEnvC scope cl C X.env) fp) elt te) (hs : ∀ x, foldedSetIterable iter X.env x = pure x := by intro _; rfl) :
    PE X (.ListComp elt [⟨.Name x xp, iter, ifs, 0⟩] scope pos) (tLcG tgn g tt te (own.map (·.2))) := by
  refine ⟨fun pins s σ H Q I h => ?_⟩
  rw [eval_ListComp]
  refine lc_coreG hc hN hr I hi ok hg ht he hs h fun D C s' m H' I' q hn f => ⟨m, hn, fun h'' sb => ?_⟩
  obtain ⟨f0, f1, f2, f3, f4, f5⟩ := f
  exact ⟨.ref D, H', I'.turned (t' := s'.toks) (fun b o hb e => (sb.2 b hb).trans e) f0 f1 f3 f4 f5, rfl, q⟩
end
end Q

set_option maxRecDepth 100000
set_option maxHeartbeats 4000000
/-! list(g(..)): a generator of ours handed to HandS's rule. -/
namespace Q
open PySem PySem.Spec PyProof.Rows L2 GenW
/-- without what is tracked at S -/
def dropS (S : Addr) (H : Hp) : Hp := fun b => if b = S then none else H b
theorem dropS_ne {S b : Addr} {H : Hp} (h : b ≠ S) : dropS S H b = H b := if_neg h
theorem dropS_at {S : Addr} {H : Hp} : dropS S H S = none := if_pos rfl
theorem un_strip {fs ex : List Addr} {H H' : Hp} {h h' : Heap} (u : Un fs ex H H' h h') (hx : ∀ b ∈ ex, h.objs.size ≤ b) : Un fs [] H H' h h' := by
  have no : ∀ b o, h.get? b = some o → b ∉ ex := fun b o e z => absurd (Nat.lt_of_lt_of_le (Heap.lt_size e) (hx b z)) (Nat.lt_irrefl _)
  exact ⟨fun b o e n hb _ => u.keep b o e n hb (no b o e), fun b o e n hb _ => u.slot b o e n hb (no b o e), fun b o e n _ => u.free b o e n (no b o e), fun b o e _ => u.there b o e (no b o e), u.tups, u.frzs, u.tbls⟩
theorem un_drop {fs : List Addr} {H H' : Hp} {h h' : Heap} {S : Addr} (u : Un fs [] H H' h h') (n : H S = none) : Un fs [] H (dropS S H') h h' := by
  have ne : ∀ {b : Addr} {o : HO}, H b = some o → b ≠ S := fun {b o} e z => by rw [z, n] at e; cases e
  refine ⟨u.keep, u.slot, fun b o e n' hx => ?_, u.there, fun b xs e => ?_, fun b o x e => ?_, fun b ps e => ?_⟩
  · by_cases z : b = S
    · rw [z]; exact dropS_at
    · rw [dropS_ne z]; exact u.free b o e n' hx
  · rw [dropS_ne (ne e)]; exact u.tups b xs e
  · rw [dropS_ne (ne e)]; exact u.frzs b o x e
  · rw [dropS_ne (ne e)]; exact u.tbls b ps e
theorem hok_drop {P : Program} {w : World} {H : Hp} {h : Heap} {S : Addr} {xs : List V} (k : HOk P w H h) (e : H S = some (.lst xs)) : HOk P w (dropS S H) h := fun b o z => by
  have nb : b ≠ S := fun y => by rw [y, dropS_at] at z; cases z
  rw [dropS_ne nb] at z
  exact (k b o z).stay (fun _ _ _ q => q) (fun c q => by rw [dropS_ne (fun y => by rw [y, e] at q; cases q)]; exact q) fun c ys q => by rw [dropS_ne (fun y => by rw [y, e] at q; cases q)]; exact q
/-- the list at S takes what is handed out -/
def tGL (tgn : TGn) : TGen := fun σ H cont => tgn σ H fun L Dd H1 => L.length ≤ sizeLine ∧ ∀ S, H1 S = none → ∃ W : Nat → Hp → Prop, W 0 (upd H1 S (.lst [])) ∧
  (∀ j it H acc, L[j]? = some it → W j H → H S = some (.lst acc) → Dd H ∧ ∀ x H', L2.Same H H' → it x H' → W (j + 1) (upd H' S (.lst (acc ++ [x])))) ∧ ∀ H acc, W L.length H → H S = some (.lst acc) → Dd H ∧ ∀ H', L2.Same H H' → cont acc (dropS S H')
section
variable {X : Cx}
theorem pgen_of {k : Nat} {e : Expr} {tgn : TGn} {E : XK} (h : PGn X k e tgn) : PGen X k e (tGL tgn) E := by
  refine ⟨fun pins s σ H cont I hq => thn (h.run pins s σ H _ I hq) fun u s1 h1 => ?_⟩
  obtain ⟨H1, n, a, g, go, pn, L, Dd, sc, rfl, ⟨Ic, hn, osc, kp⟩, hl, ⟨c, hg, go2⟩, lle, W0⟩ := h1
  have lt1 := Heap.lt_size hl.at.1
  refine ⟨H1, sc, [], Ic, .nil, a, g, c, rfl, by rw [← hn]; exact hl.an, lt1, hl.isGen, hg, osc, hl.inv.bare, hl.inv.nolimit, kp, fun A S s2 hr hf hS kp2 hS2 os2 bare2 => ?_⟩
  have fS : H1 S = none := hl.inv.hok.fresh hS
  obtain ⟨W, w0, turn, done⟩ := W0 S fS
  obtain ⟨cS, eS⟩ := hS2
  have scS : sc.heap.objs.size ≤ S := by rw [← hn]; exact Nat.le_trans hl.an (Nat.le_trans (Nat.le_of_lt lt1) hS)
  have go1 := go2 A hr hf
  -- the state ahead of the first turn
  have offS : ∀ (q : Addr × Obj), q ∈ X.pn ++ (pins ++ [(a, go)]) → q.1 ≠ S := fun q hq z => by
    have := Heap.lt_size (hl.inv.pin q hq).1
    rw [z] at this
    exact absurd (Nat.lt_of_lt_of_le this hS) (Nat.lt_irrefl _)
  have u0 : Un (frs X.stack) [] H1 (upd H1 S (.lst [])) s1.heap s2.heap := Un.laid kp2 hS fS
  have k0 : HOk X.prog X.w (upd H1 S (.lst [])) s2.heap := hl.inv.hok.laid kp2 hS ⟨Nat.zero_le _, [], cS, .nil, eS⟩
  have held0 : Held X pins n a g go pn σ (upd H1 S (.lst [])) s2 := by
    refine ⟨hl.inv.call' (ch := []) (os2.trans osc.symm) u0 k0 bare2 (fun b z => nomatch z), hl.obj, hl.an, fun p hp => ?_⟩
    obtain ⟨e1, ⟨f0, f⟩, e3, e4⟩ := hl.pn p hp
    exact ⟨kp2 _ _ e1, ⟨by rw [upd_ne (Nat.ne_of_lt (Nat.lt_of_lt_of_le (Heap.lt_size e1) hS))]; exact f0, f⟩, e3, e4⟩
  have unc : Un (frs X.stack) [] H1 (upd H1 S (.lst [])) sc.heap s2.heap := (Un.kept kp).trans u0
  have main : ∀ (L' : List Item) (j : Nat) (acc : List V) (pn : List (Addr × Obj)) (c : Code) (t : Sem PySem.Fin) (fs : List Frame) (s0 s : Shared) (Hc : Hp), L.drop j = L' → j ≤ L.length → acc.length = j → Going X.prog X.w X.K X.mg X.base A X.stack n Dd L' pn c t fs → Held X pins n a g go pn σ Hc s →
      Un (frs X.stack) [] H1 Hc sc.heap s.heap → Hc S = some (.lst acc) → W j Hc → Seg (model X.prog X.w) A (REnd X.prog X.w X.stack H1 sc [] S a g cont E) (YItem sc S a g) (sizeLine - j) s0 c t fs s := by
    intro L'
    induction L' with
    | nil =>
      intro j acc pn c t fs s0 s Hc hd hj ha G hh un hS w
      have hjl : j = L.length := by
        have := congrArg List.length hd
        rw [List.length_drop, List.length_nil] at this
        omega
      subst hjl
      obtain ⟨d, nx⟩ := done Hc acc w hS
      rw [seg_iff]
      intro Γ p hc hΓ
      obtain ⟨e, s', hrun, hqu, ⟨hre, Hc1, lf⟩, dd⟩ : ∃ e s', Runs (model X.prog X.w) Γ p t fs s e s' ∧ e.quiet = true ∧ ((e = .ret (.ok (.ret .none)) ∨ e = .ret (.ok .next)) ∧ ∃ Hc1, Left X.prog X.w X.stack n pn [] s Hc s' Hc1) ∧ True := by
        obtain ⟨e, s', h1, h2, h3⟩ := G s Hc (hh.good (A := A) hf d |> fun y => ⟨⟨hf, y.e0.mod, y.e0.bs, y.e0.bsz, y.e0.funs, y.e0.frf, y.e0.hok, y.e0.bare⟩, y.d, y.sz, y.pins⟩) Γ p hc hΓ
        exact ⟨e, s', h1, h2, h3, trivial⟩
      have hS1 := lf.same _ _ hS
      obtain ⟨zl, its, m, vi, eq⟩ := lf.hok S _ hS1
      have fin : ∀ r, (r = .ok (.ret .none) ∨ r = .ok .next) → REnd X.prog X.w X.stack H1 sc [] S a g cont E (sizeLine - L.length) s0 r s' := fun r hr => .inl ⟨hr, dropS S Hc1, acc, its.toArray, m, lf.os.trans (hh.inv.os.trans Ic.os.symm), lf.bare,
        un_drop (un_strip ((un.mono (fun _ z => z) (fun _ z => nomatch z)).trans lf.un) fun b hb => by
          obtain ⟨p, hp, rfl⟩ := List.mem_map.mp hb
          rw [← hn]
          exact (hh.pn p hp).2.2.1) fS, hok_drop lf.hok hS1, dropS_at, eq, vi, zl, nx Hc1 lf.same⟩
      rcases hre with rfl | rfl
      · exact ⟨_, s', hrun, fin _ (.inl rfl)⟩
      · exact ⟨_, s', hrun, fin _ (.inr rfl)⟩
    | cons it L' ih =>
      intro j acc pn c t fs s0 s Hc hd hj ha G hh un hS w
      have hlt : j < L.length := by
        have := congrArg List.length hd
        rw [List.length_drop, List.length_cons] at this
        omega
      have hit : L[j]? = some it := by
        have z := drop_get (L := L) (j := j) (x := L[j]) (by simp [hlt])
        rw [hd] at z
        injection z with z1 z2
        rw [z1]
        simp [hlt]
      obtain ⟨d, nx⟩ := turn j it Hc acc hit w hS
      rw [seg_iff]
      intro Γ p hc hΓ
      obtain ⟨e, s', hrun, hqu, dd, v, l, k1, c', p', fs', x, Hc1, pn', rfl, rv, hi, lf, G'⟩ := sx_dead (G s Hc (hh.good (A := A) hf d |> fun y => ⟨⟨hf, y.e0.mod, y.e0.bs, y.e0.bsz, y.e0.funs, y.e0.frf, y.e0.hok, y.e0.bare⟩, y.d, y.sz, y.pins⟩)) Γ p hc hΓ
      have hS1 := lf.same _ _ hS
      obtain ⟨zl, its, m, vi, eq⟩ := lf.hok S _ hS1
      have hh1 : Held X pins n a g go pn' σ Hc1 s' := hh.left (G := s'.gens) (G0 := s.gens) lf dd lf.bare
      refine ⟨_, s', hrun, hqu, lf.os.trans (hh.inv.os.trans Ic.os.symm), lf.bare, hh1.inv.nolimit, hh1.isGen, ⟨its.toArray, m, eq, ?_⟩, fun s'' sl => ?_⟩
      · rw [List.size_toArray, ← vi.length, ha]
        omega
      · obtain ⟨n1, hn1⟩ : ∃ n1, sizeLine - j = n1 + 1 := ⟨sizeLine - j - 1, by omega⟩
        have en : n1 = sizeLine - (j + 1) := by omega
        rw [hn1]
        show Seg _ _ _ _ n1 s'' c' (k1 (.send .none)) fs' s''
        rw [en]
        obtain ⟨c2, e2⟩ := sl.own _ _ eq
        have mu : Mut (Hc1 S) := by rw [hS1]; trivial
        have kpS : ∀ b u, b ≠ S → s'.heap.get? b = some u → s''.heap.get? b = some u := fun b u hb e => sl.keep b u hb e
        have uw : Un (frs X.stack) [] Hc1 (upd Hc1 S (.lst (acc ++ [x]))) s'.heap s''.heap := Un.write mu (.inl rfl) kpS ⟨_, e2⟩
        have kw : HOk X.prog X.w (upd Hc1 S (.lst (acc ++ [x]))) s''.heap := lf.hok.write mu (.inl rfl) kpS ⟨_, e2⟩ ⟨by rw [List.length_append, List.length_singleton]; omega, its ++ [v], c2, vi.append (.cons rv .nil), by rw [e2]; simp⟩
        have hh2 : Held X pins n a g go pn' σ (upd Hc1 S (.lst (acc ++ [x]))) s'' := by
          refine ⟨hh1.inv.call' (ch := []) sl.os uw kw sl.bare (fun b z => nomatch z), hh1.obj, hh1.an, fun p hp => ?_⟩
          obtain ⟨g1, ⟨f0, f⟩, g3, g4⟩ := hh1.pn p hp
          have np : p.1 ≠ S := fun z => by rw [z, hS1] at f0; cases f0
          exact ⟨kpS _ _ np g1, ⟨by rw [upd_ne np]; exact f0, f⟩, g3, g4⟩
        refine ih (j + 1) (acc ++ [x]) pn' c' _ fs' s'' s'' _ ?_ hlt (by rw [List.length_append, ha]; rfl) G' hh2 ?_ upd_same (nx x Hc1 lf.same hi)
        · have z := drop_get (L := L) (j := j) (x := L[j]) (by simp [hlt])
          rw [hd] at z
          injection z with z1 z2
          exact z2.symm
        · exact (un_strip ((un.mono (fun _ z => z) (fun _ z => nomatch z)).trans lf.un) fun b hb => by
            obtain ⟨p, hp, rfl⟩ := List.mem_map.mp hb
            rw [← hn]
            exact (hh.pn p hp).2.2.1).trans uw
  exact main L 0 [] pn c _ [] s2 s2 _ rfl (Nat.zero_le _) rfl go1 held0 unc upd_same w0
end
end Q

set_option maxRecDepth 100000
set_option maxHeartbeats 4000000
/-! Small things that may stand in rows and lists, and what repr shows of them. -/
namespace Q
open PySem PySem.Spec PyProof.Rows L2
/-- data that repr shows in little room -/
structure Sm (d : PyData) (w : Nat) : Prop where
  sh : d.showable = true
  nd : d.hasDict = false
  dp : d.depth ≤ 1
  ls : d.leavesShort 60 = true
  wt : d.weight ≤ w
/-- data that repr shows -/
structure Shw (d : PyData) : Prop where
  sh : d.showable = true
  nd : d.hasDict = false
  dp : d.depth ≤ 60
  ln : d.shown.length ≤ sizeLine
theorem Sm.shw {d : PyData} {w : Nat} (h : Sm d w) (hw : w ≤ 100000) : Shw d := by
  have e := PyData.shown_le 60 (by decide) _ h.ls
  have := h.wt
  have := h.dp
  exact ⟨h.sh, h.nd, by omega, by rw [sizeLine_eq]; omega⟩
def smB (x : Str) : Bool := (PyData.str x).showable && ((PyData.str x).leavesShort 60 && decide ((PyData.str x).weight ≤ 200))
theorem sm_str {x : Str} (h : smB x = true) : Sm (.str x) 200 := by
  have z : ((PyData.str x).showable && ((PyData.str x).leavesShort 60 && decide ((PyData.str x).weight ≤ 200))) = true := h
  rw [Bool.and_eq_true, Bool.and_eq_true] at z
  exact ⟨z.1, rfl, Nat.zero_le _, z.2.1, of_decide_eq_true z.2.2⟩
theorem sm_int {i : Int} (h : i.natAbs < 10 ^ 40) : Sm (.int i) 200 := by
  have h1 : i.natAbs.log2 < 134 := PySem.Flt.log2_lt_of (by decide) (Nat.lt_of_lt_of_le h (by decide))
  refine ⟨?_, rfl, Nat.zero_le _, ?_, ?_⟩
  · show decide (i.natAbs.log2 < 1920) = true
    exact decide_eq_true (by omega)
  · have e := int_text_length_le10 (a := i) (k := 40) (by decide) h
    have e2 : (PyData.shown (.int i)).length = (toString i).length := PySem.ofString_length _
    exact decide_eq_true (by omega)
  · show (if i == 0 then 0 else i.natAbs.log2 + 1) ≤ 200
    split <;> omega
/-- what may stand in a row -/
inductive Odd (H : Hp) : V → Prop
  | non : Odd H .non
  | bl (b : Bool) : Odd H (.bl b)
  | str (x : Str) (h : smB x = true) : Odd H (.str x)
  | int (i : Int) (h : i.natAbs < 10 ^ 40) : Odd H (.int i)
  | tup {t : Addr} (n : Int) (h : n.natAbs < 10 ^ 40) (e : H t = some (.tup [.int n])) : Odd H (.ref t)
theorem Odd.kn {H : Hp} {v : V} (h : Odd H v) : ∃ T, Kn H v T := by
  cases h with
  | non => exact ⟨_, .non⟩
  | bl b => exact ⟨_, .bl b⟩
  | str x _ => exact ⟨_, .str _⟩
  | int i _ => exact ⟨_, .int i⟩
  | tup _ _ e => exact ⟨_, .tup e⟩
theorem Odd.keep {H H' : Hp} {v : V} (h : Odd H v) (k : ∀ t xs, H t = some (.tup xs) → H' t = some (.tup xs)) : Odd H' v := by
  cases h with
  | non => exact .non
  | bl b => exact .bl b
  | str x h => exact .str x h
  | int i h => exact .int i h
  | tup n h e => exact .tup n h (k _ _ e)
theorem Odd.same {H H' : Hp} {v : V} (h : Odd H v) (k : Same H H') : Odd H' v := h.keep fun t xs e => k _ _ e
theorem Odd.kb {H H' : Hp} {b c : Addr} {n : Int} {v : V} (h : Odd H v) (B : BagAt H b c n) (k : Kb b H H') : Odd H' v := h.keep fun t xs e => k t _ (fun z => by
  obtain ⟨ns, p, r, kk, m, h1, _⟩ := B
  rw [z, h1] at e
  cases e) e
theorem Odd.dat {K : PySem.W.Frag} {H : Hp} {v : V} (h : Odd H v) : ∃ d, Dp K H v d ∧ Sm d 200 := by
  cases h with
  | non => exact ⟨_, .non, by decide, by decide, by decide, by decide, by decide⟩
  | bl b => exact ⟨_, .bl b, by cases b <;> decide, by cases b <;> decide, by cases b <;> decide, by cases b <;> decide, by cases b <;> decide⟩
  | str x h => exact ⟨_, .str _, sm_str h⟩
  | int i h => exact ⟨_, .int i, sm_int h⟩
  | tup n h e =>
    have s := sm_int h
    refine ⟨.tuple [.int n], .tup (SqT.of e) (.cons (.int n) .nil), ?_, rfl, Nat.le_refl _, ?_, ?_⟩
    · show ((PyData.int n).showable && true) = true
      rw [s.sh]
      rfl
    · show ((PyData.int n).leavesShort 60 && true) = true
      rw [s.ls]
      rfl
    · show PyData.weightAll [.int n] ≤ 200
      have e1 : PyData.weightAll [.int n] = (PyData.int n).weight + 1 + 0 := rfl
      have h1 : n.natAbs.log2 < 134 := PySem.Flt.log2_lt_of (by decide) (Nat.lt_of_lt_of_le h (by decide))
      have e2 : (PyData.int n).weight ≤ 135 := by
        show (if n == 0 then 0 else n.natAbs.log2 + 1) ≤ 135
        split <;> omega
      omega
theorem odds_dat {K : PySem.W.Frag} {H : Hp} : ∀ {xs : List V}, (∀ x ∈ xs, Odd H x) → ∃ ds, DpAll K H xs ds ∧ PyData.showableAll ds = true ∧ PyData.hasDictAll ds = false ∧ PyData.depthAll ds ≤ 1 ∧ PyData.leavesShortAll 60 ds = true ∧ PyData.weightAll ds ≤ 201 * xs.length
  | [], _ => ⟨[], .nil, rfl, rfl, Nat.zero_le _, rfl, Nat.zero_le _⟩
  | x :: xs, h => by
    obtain ⟨d, D, S⟩ := (h x List.mem_cons_self).dat (K := K)
    obtain ⟨ds, E, e1, e2, e3, e4, e5⟩ := odds_dat (K := K) fun y hy => h y (List.mem_cons_of_mem _ hy)
    refine ⟨d :: ds, .cons D E, ?_, ?_, ?_, ?_, ?_⟩
    · show (d.showable && PyData.showableAll ds) = true
      rw [S.sh, e1]
      rfl
    · show (d.hasDict || PyData.hasDictAll ds) = false
      rw [S.nd, e2]
      rfl
    · exact Nat.max_le.mpr ⟨S.dp, e3⟩
    · show (d.leavesShort 60 && PyData.leavesShortAll 60 ds) = true
      rw [S.ls, e4]
      rfl
    · show d.weight + 1 + PyData.weightAll ds ≤ 201 * (xs.length + 1)
      have := S.wt
      omega
/-- a list or a tuple of such things, or one of them: what a caller hands in -/
inductive Arg (H : Hp) : V → Prop
  | one {v : V} (h : Odd H v) : Arg H v
  | lst {a : Addr} {xs : List V} (e : H a = some (.lst xs)) (h : ∀ x ∈ xs, Odd H x) (n : xs.length ≤ 100) : Arg H (.ref a)
  | tup {a : Addr} {xs : List V} (e : H a = some (.tup xs)) (h : ∀ x ∈ xs, Odd H x) (n : xs.length ≤ 100) : Arg H (.ref a)
theorem Arg.kn {H : Hp} {v : V} (h : Arg H v) : (∃ T, Kn H v T) ∧ Itm H v := by
  have io : ∀ {a : Addr} {xs : List V}, seqOf H (.ref a) = some xs → (∀ x ∈ xs, Odd H x) → Itm H (.ref a) := fun e h ys hy x m => by
    rw [e] at hy
    cases hy
    exact (h x m).kn
  cases h with
  | one h =>
    refine ⟨h.kn, ?_⟩
    cases h with
    | tup n hn e =>
      refine io (xs := [.int n]) (seqOf_tup e) fun x m => ?_
      obtain rfl := List.mem_singleton.mp m
      exact .int n hn
    | _ => exact Itm.none rfl
  | lst e h _ => exact ⟨⟨_, .lst e⟩, io (seqOf_lst e) h⟩
  | tup e h _ => exact ⟨⟨_, .tup e⟩, io (seqOf_tup e) h⟩
theorem Arg.dat {K : PySem.W.Frag} {H : Hp} {v : V} (h : Arg H v) : ∃ d, Dp K H v d ∧ Shw d := by
  have sq : ∀ {xs : List V} {ds : List PyData} {d : PyData}, xs.length ≤ 100 → (d = .list ds ∨ d = .tuple ds) → PyData.showableAll ds = true → PyData.hasDictAll ds = false → PyData.depthAll ds ≤ 1 → PyData.leavesShortAll 60 ds = true → PyData.weightAll ds ≤ 201 * xs.length → Shw d := fun {xs ds d} n e e1 e2 e3 e4 e5 => by
    have ls : d.leavesShort 60 = true := by rcases e with rfl | rfl <;> exact e4
    have w : d.weight = PyData.weightAll ds := by rcases e with rfl | rfl <;> rfl
    have dp : d.depth = PyData.depthAll ds + 1 := by rcases e with rfl | rfl <;> rfl
    have l := PyData.shown_le 60 (by decide) _ ls
    exact ⟨by rcases e with rfl | rfl <;> exact e1, by rcases e with rfl | rfl <;> exact e2, by omega, by rw [sizeLine_eq]; omega⟩
  cases h with
  | one h =>
    obtain ⟨d, D, s⟩ := h.dat (K := K)
    exact ⟨d, D, s.shw (by decide)⟩
  | lst e h n =>
    obtain ⟨ds, D, e1, e2, e3, e4, e5⟩ := odds_dat (K := K) h
    exact ⟨_, .lst (SqL.of e) D, sq n (.inl rfl) e1 e2 e3 e4 e5⟩
  | tup e h n =>
    obtain ⟨ds, D, e1, e2, e3, e4, e5⟩ := odds_dat (K := K) h
    exact ⟨_, .tup (SqT.of e) D, sq n (.inr rfl) e1 e2 e3 e4 e5⟩
theorem Arg.same {H H' : Hp} {v : V} (h : Arg H v) (k : Same H H') : Arg H' v := by
  cases h with
  | one h => exact .one (h.same k)
  | lst e h n => exact .lst (k _ _ e) (fun x m => (h x m).same k) n
  | tup e h n => exact .tup (k _ _ e) (fun x m => (h x m).same k) n
theorem ty_sqT {K : PySem.W.Frag} {H : Hp} {a : Addr} {xs : List V} (h : SqT K H a xs) : TyX K H (.ref a) (.type "tuple") := by
  rcases h with (h | ⟨o, h⟩) | ⟨o, its, n, h1, h2, _⟩
  · exact .base (.tup h)
  · exact .fTuple h
  · exact .kTuple h1 h2
end Q

set_option maxRecDepth 100000
set_option maxHeartbeats 4000000
namespace K00
open PySem PySem.Spec PyProof.Rows L2 Q RZ LamX NdefX
section
variable {P : Program} {w : World} {K : PySem.W.Frag} {mg : Str → Option Value} {base : Heap} {f : Addr} {fd : FuncData}
theorem passF {X : Cx} : Passes (L2.CX X.prog X.w) X (fun _ _ _ => False) := fun _ _ _ _ _ _ _ h => by
  obtain ⟨_, _, _, _, _, _, _, _, _, _, _, _, h⟩ := h
  exact h.elim
/-- a point, anywhere -/
def ptS (K : PySem.W.Frag) (H : Hp) (v : V) (p : List Int) : Prop := ∃ t, v = .ref t ∧ SqT K H t (p.map V.int)
theorem ptS.nl {H H' : Hp} {v : V} {p : List Int} (k : NL H H') (h : ptS K H v p) : ptS K H' v p := by
  obtain ⟨t, e, h⟩ := h
  exact ⟨t, e, k.sqT h⟩
theorem sqT_drop {H : Hp} {S t : Addr} {xs ys : List V} (e : H S = some (.lst ys)) (h : SqT K H t xs) : SqT K (dropS S H) t xs := sqT_live (fun c u hc n _ => by rw [dropS_ne (fun z => by rw [z, e] at hc; exact n ys (Option.some.inj hc).symm)]; exact hc) h
theorem paired_rmap {α β γ : Type} {R : α → γ → Prop} {f : β → γ} : ∀ {as : List α} {bs : List β}, Paired R as (bs.map f) → Paired (fun a b => R a (f b)) as bs
  | _, [], .nil => .nil
  | _, _ :: _, .cons h t => .cons h (paired_rmap t)
theorem within_low : ∀ {ls hs : List Int}, Full ls hs → Within ls hs ls
  | [], [], _ => .nil
  | _ :: _, _ :: _, f => .cons (Int.le_refl _) f.1 (within_low f.2)
  | [], _ :: _, f => f.elim
  | _ :: _, [], f => f.elim
/-- list(points_of(box)) -/
theorem listPts {H : Hp} {y : Addr} {lz hz : List Int} {cont : List V → Hp → Prop} (b : BoxAt K H y lz hz) (c : cnt lz hz ≤ sizeLine) (q : ∀ out H', L2.Same H H' → Paired (ptS K H') out (spots lz hz) → cont out H') :
    ((spots lz hz).map (ptItem K)).length ≤ sizeLine ∧ ∀ S, H S = none → ∃ W : Nat → Hp → Prop, W 0 (upd H S (.lst [])) ∧
  (∀ j it H2 acc, ((spots lz hz).map (ptItem K))[j]? = some it → W j H2 → H2 S = some (.lst acc) → BoxAt K H2 y lz hz ∧ ∀ x H', L2.Same H2 H' → it x H' → W (j + 1) (upd H' S (.lst (acc ++ [x])))) ∧ ∀ H2 acc, W ((spots lz hz).map (ptItem K)).length H2 → H2 S = some (.lst acc) → BoxAt K H2 y lz hz ∧ ∀ H', L2.Same H2 H' → cont acc (dropS S H') := by
  rw [List.length_map, spots_len]
  refine ⟨c, fun S nS => ⟨fun j H2 => L2.Same H H2 ∧ ∃ acc, H2 S = some (.lst acc) ∧ Paired (ptS K H2) acc ((spots lz hz).take j), ⟨same_new nS, [], upd_same, .nil⟩, fun j it H2 acc ej ⟨s2, acc', ha, hp⟩ ha' => ⟨b.nl (NL.same s2), fun x H' s3 hx => ?_⟩, fun H2 acc ⟨s2, acc', ha, hp⟩ ha' => ⟨b.nl (NL.same s2), fun H' s3 => ?_⟩⟩⟩
  · rw [ha'] at ha
    cases ha
    rw [List.getElem?_map] at ej
    obtain ⟨p, ep, rfl⟩ := Option.map_eq_some_iff.mp ej
    obtain ⟨t, rfl, ht⟩ := hx
    have hS := s3 _ _ ha'
    have nl := NL.lst (ys := acc ++ [.ref t]) hS
    refine ⟨Same.put (s2.trans s3) nS fun b o nb e => by rw [upd_ne nb]; exact e, _, upd_same, ?_⟩
    rw [List.take_add_one, ep]
    exact Paired.snoc (Paired.mapP hp fun _ _ z => (z.nl (NL.same s3)).nl nl) ⟨t, rfl, nl.sqT ht⟩
  · rw [ha'] at ha
    cases ha
    have hS := s3 _ _ ha'
    refine q acc _ (fun b o e => ?_) ?_
    · rw [dropS_ne (ne_of_none e nS)]
      exact s3 _ _ (s2 _ _ e)
    · rw [← spots_len, List.take_length] at hp
      exact Paired.mapP hp fun _ _ ⟨t, e, h⟩ => ⟨t, e, sqT_drop hS (sqT_same s3 h)⟩
theorem listG_pts {H : Hp} {σ : L2.St} {i : Nat} {Q : VK} {y : Addr} {lz hz : List Int} (hv : σ[i]? = some (some (.ref y))) (b : BoxAt K H y lz hz) (wi : Within lz hz lz) (l5 : lz.length ≤ 1000) (c : cnt lz hz ≤ sizeLine)
    (q : ∀ p out H', L2.Same H H' → H' p = some (.lst out) → Paired (ptS K H') out (spots lz hz) → Q (.ref p) H') : tListG (tGL (tCalX (spPoints K) [] (tCons (tVar i) tNil))) σ H Q := by
  refine ⟨_, hv, _, _, ⟨y, lz, hz, rfl, wi, l5, rfl, rfl⟩, listPts (cont := fun out H2 => ∀ p, H2 p = none → Q (.ref p) (L2.upd H2 p (.lst out))) b c fun out H' s pO p np => ?_⟩
  generalize hq_ : L2.upd H' p _ = H9
  obtain ⟨s9, o9⟩ := _root_.Q.nwS np hq_
  clear hq_
  exact q p out H9 (s.trans s9) o9 (Paired.mapP pO fun _ _ z => z.nl (NL.same s9))
/-! ### lists of points as data -/
abbrev ptD (p : List Int) : PyData := .tuple (p.map PyData.int)
theorem ptD_depth (p : List Int) : (ptD p).depth = 1 := by
  show PyData.depthAll (p.map PyData.int) + 1 = 1
  rw [Q.depth_ints]
theorem depth_pts : ∀ ps : List (List Int), PyData.depthAll (ps.map ptD) ≤ 1
  | [] => by simp [PyData.depthAll]
  | p :: ps => by
    have h1 := ptD_depth p
    have h2 := depth_pts ps
    rw [List.map_cons]
    simp only [PyData.depthAll]
    omega
theorem lay_pts : ∀ ps : List (List Int), PyData.canLayAll0 (ps.map ptD) = true
  | [] => rfl
  | p :: ps => by
    have h1 : PyData.canLay0 (ptD p) = true := by
      have := lay_ints p
      simp only [PyData.canLay0, this]
    have h2 := lay_pts ps
    rw [List.map_cons]
    simp only [PyData.canLayAll0, h1, h2, Bool.and_self]
theorem shaped_pts (ps : List (List Int)) : SeqAt.shaped (.list (ps.map ptD)) = true := by
  show (PyData.canLayAll0 (ps.map ptD) && decide (PyData.depthAll (ps.map ptD) + 1 ≤ 64)) = true
  have := depth_pts ps
  rw [lay_pts, decide_eq_true (by omega)]
  rfl
theorem eqvAll_pts : ∀ ps qs : List (List Int), PyData.eqvAll (ps.map ptD) (qs.map ptD) = decide (ps = qs)
  | [], [] => by simp [PyData.eqvAll]
  | [], _ :: _ => by simp [PyData.eqvAll]
  | _ :: _, [] => by simp [PyData.eqvAll]
  | p :: ps, q :: qs => by
    have h1 : PyData.eqv (ptD p) (ptD q) = decide (p = q) := eqvAll_ints p q
    have h2 := eqvAll_pts ps qs
    rw [List.map_cons, List.map_cons]
    simp only [PyData.eqvAll, h1, h2]
    rw [Bool.eq_iff_iff]
    simp
theorem eqv_pts (ps qs : List (List Int)) : PyData.eqv (.list (ps.map ptD)) (.list (qs.map ptD)) = decide (ps = qs) := eqvAll_pts ps qs
theorem dpAll_pts {H : Hp} {vs : List V} {ps : List (List Int)} (h : Paired (ptS K H) vs ps) : DpAll K H vs (ps.map ptD) := by
  induction h with
  | nil => exact .nil
  | cons a _ ih =>
    obtain ⟨t, rfl, h⟩ := a
    exact .cons (dp_ints h) ih
theorem dp_pts {H : Hp} {l : Addr} {vs : List V} {ps : List (List Int)} (hl : SqL K H l vs) (h : Paired (ptS K H) vs ps) : Dp K H (.ref l) (.list (ps.map ptD)) := .lst hl (dpAll_pts h)
theorem ptS_of {H : Hp} {v : V} {p : List Int} (h : ptRel H v p) : ptS K H v p := by
  obtain ⟨t, e, h⟩ := h
  exact ⟨t, e, SqT.of h⟩
def spLessR (K : PySem.W.Frag) : Sp := fun vs H Q _ => ∃ (a b : Addr) (xs ys : List (Int × Int)), vs = [.ref a, .ref b] ∧ PairsAt H a xs ∧ PairsAt H b ys ∧ xs.length = ys.length ∧ xs.length ≤ 5 ∧ Rgs (los xs) (his xs) ∧ Rgs (los ys) (his ys) ∧ cnt (los xs) (his xs) ≤ 4000 ∧ cnt (los ys) (his ys) ≤ 4000 ∧ Tabs (lt__law_cut K) H ∧
  ∀ H', ExtN H H' → Tabs (lt__law_cut K) H' → Q (.bl true) H'
theorem C__law_less_right (T : Tx K mg) (TB : TabB base mg (codeAt K (He.ga K "_law_cut")) (tabAt K (He.ga K "_law_cut"))) : Cal P w K mg base CX0 7 "_law_less_right" ["one", "other"] [] (spLessR K) := by
  obtain ⟨fd, F⟩ := T.d__law_less_right
  have C__law_box := C__law_box (P := P) (w := w) (base := base) T
  have C__law_cut := C__law_cut (P := P) (w := w) (base := base) T TB
  have C__law_spots := C__law_spots (P := P) (w := w) (base := base) T
  have C_box_less := C_box_less (P := P) (w := w) (base := base) T
  have C__law_is_box := C__law_is_box (P := P) (w := w) (base := base) T
  have C_points_of := C_points_of (P := P) (w := w) (base := base) T
  refine ⟨_, fd, [], F.ok sc__law_less_right (fun vs H Q E h => ?_) (fun cdv A outer s H vs Q E hr h => ?_), T.g__law_less_right, F.kp, F.bindsN fun _ _ _ _ _ _ us hl => match us, hl with | [_, _], _ => rfl, .nil⟩
  · obtain ⟨a, b, xs, ys, rfl, _⟩ := h
    rfl
  · obtain ⟨a, b, xs, ys, rfl, pa, pb, el, len, r1, r2, c1, c2, tb, kQ⟩ := h
    refine ⟨_, PSs.nox (pss_cons (ps_set (i := 3) sc__law_less_right.nd rfl (Or.inr rfl) (pe_callTy (call_dictR hr rfl) (by rfl) T.n_dict (by decide +kernel) (pa_cons (pe_lc (own := [("spot", 2)]) (g := gName 2) (tt := tYes) (by rfl) sc__law_less_right.nd (pi_list (pe_cal C__law_spots (hr.mono (by decide)) pass0 (pa_cons (pv 1) pa_nil))) (blkOk_by (N := ["one", "other", "spot", "away", "made", "due", "k", "found", "box"]) (sc := defScope s__law_less_right) (by decide +kernel)) (fun _ _ _ _ _ => (pg_name (i := 2) sc__law_less_right.nd rfl (Or.inl rfl))) (fun _ _ _ _ _ => pts_nil) (fun _ _ _ _ _ => (pe_tup (pa_cons (pv 2) (pa_cons pe_bl pa_nil))))) pa_nil)))
      (C8.pss_cut (ps_set (i := 4) sc__law_less_right.nd rfl (Or.inr rfl) (pe_cal C_box_less (hr.mono (by decide)) passX (pa_cons (pe_cal C__law_box (hr.mono (by decide)) passX (pa_cons (pv 0) pa_nil)) (pa_cons (pe_cal C__law_box (hr.mono (by decide)) passX (pa_cons (pv 1) pa_nil)) pa_nil))))
      (pss_cons (ps_set (i := 5) sc__law_less_right.nd rfl (Or.inr rfl) (pe_cal C__law_cut (hr.mono (by decide)) pass0 (pa_cons (pv 0) (pa_cons (pv 1) pa_nil))))
      (pss_cons (ps_if (PW.pt (pw_or (pt_not (pt_val (pe_callB call_isi (by rfl) T.n_isinstance (by decide +kernel) (pa_cons (pv 4) (pa_cons (pe_bltn (v := .ty "tuple") (u := .type "tuple") (by rfl) T.n_tuple (by decide +kernel) rfl) pa_nil))))) (pw_or (pt_cmpR op_ne (pe_callB call_len_seq (by rfl) T.n_len (by decide +kernel) (pa_cons (pv 4) pa_nil)) (pe_callB call_len_seq (by rfl) T.n_len (by decide +kernel) (pa_cons (pv 5) pa_nil)) (nomark _)) (pw_or1 (pt_truth (pe_lc (own := [("k", 6)]) (g := gName 6) (tt := _) (by rfl) sc__law_less_right.nd (pi_range1 (by rfl) T.n_range (pa_cons (pe_callB call_len_seq (by rfl) T.n_len (by decide +kernel) (pa_cons (pv 5) pa_nil)) pa_nil)) (blkOk_by (N := ["one", "other", "spot", "away", "made", "due", "k", "found", "box"]) (sc := defScope s__law_less_right) (by decide +kernel)) (fun _ _ _ _ _ => (pg_name (i := 6) sc__law_less_right.nd rfl (Or.inl rfl))) (fun _ _ _ _ _ => (pts_one (pt_not (pt_val (pe_cal C__law_is_box (hr.mono (by decide)) pass0 (pa_cons (pe_ix ix_seqB (pv 4) (pv 6) (fun _ _ => rfl)) (pa_cons (pe_ix ix_listB (pv 5) (pv 6) (fun _ _ => rfl)) pa_nil))))))) (fun _ _ _ _ _ => (pv 6))) (by intro _; rfl))))))
        (pss_one (ps_ret pe_bl))
        pss_nil)
      (pss_cons (ps_set (i := 7) sc__law_less_right.nd rfl (Or.inl rfl) (pe_lst pa_nil))
      (pss_cons (ps_for PassesOwn.never rfl (pi_seq (pv 4)) (pg_name (i := 8) sc__law_less_right.nd rfl (Or.inl rfl))
        (pss_one (ps_set (i := 7) sc__law_less_right.nd rfl (Or.inl rfl) (pe_op op_cat (pv 7) (pe_listG (pgen_of (pgn_cal C_points_of (hr.mono (by decide)) (pa_cons (pv 8) pa_nil))) passF (fun _ _ _ z => z.elim) (hr.mono (by decide)) (by rfl) T.n_list (by decide +kernel))))))
      (pss_one (ps_ret (pe_cmpR (op_eqD hr.units) (pe_callB (cr_sortedR hr) (by rfl) T.n_sorted (by decide +kernel) (pa_cons (pv 7) pa_nil)) (pe_lc (own := [("spot", 2)]) (g := gName 2) (tt := _) (by rfl) sc__law_less_right.nd (pi_list (pe_cal C__law_spots (hr.mono (by decide)) pass0 (pa_cons (pv 0) pa_nil))) (blkOk_by (N := ["one", "other", "spot", "away", "made", "due", "k", "found", "box"]) (sc := defScope s__law_less_right) (by decide +kernel)) (fun _ _ _ _ _ => (pg_name (i := 2) sc__law_less_right.nd rfl (Or.inl rfl))) (fun _ _ _ _ _ => (pts_one (pt_cmp (pc_dnotin (hu_of hr) (pv 2) (pv 3))))) (fun _ _ _ _ _ => (pv 2))) (nomark _)))))))))), ?_⟩
    have big : 20000 < sizeLine := by decide
    have el2 : (los xs).length = (los ys).length := by ((try simp only [List.length_map, List.length_take, List.length_drop, List.length_append, List.length_cons, List.length_nil, List.length_zipWith, List.length_set, List.length_replicate, List.length_range]) <;> omega)
    obtain ⟨DU, eDU⟩ : ∃ DU, DU = dueOf xs ys := ⟨_, rfl⟩
    have dRg := due_rgs el r1 r2
    have dCn := due_cnt el
    have dLn := due_len el
    have dSo := due_sorted el
    have dFw := due_few (xs := xs) (ys := ys)
    rw [← eDU] at dRg dCn dLn dSo dFw
    refine ⟨_, rfl, b, ys, rfl, pb, by omega, (fun r m => by have := rgs_all r2 r m; omega), by omega, fun p1 H1 s1 ps1 => ?_⟩
    obtain ⟨w1, hw1, pw1⟩ := ps1
    refine ⟨p1, rfl, ⟨_, SqL.of hw1⟩, fun E1 nE1 => ?_⟩
    refine lc_each (S := ptRel) (f := fun p => p) (R := kvRel) (fun _ _ _ _ k z => z.nl k) (fun _ _ _ _ k z => z.nl k) nE1 (SqL.of hw1) pw1 (by rw [spots_len]; omega) (fun x p Hx R' N sx ⟨tp, ex, hp⟩ k => ?_) fun H2 us s2 hU pU => ?_
    · subst ex
      refine ⟨rfl, _, rfl, (by show 2 ≤ sizeLine; decide), fun q nq => ?_⟩
      generalize hq_ : L2.upd Hx q _ = Hy
      obtain ⟨sy, oy⟩ := _root_.Q.nwS nq hq_
      clear hq_
      exact k _ _ sy ⟨q, tp, rfl, oy, sy _ _ hp⟩
    rw [List.map_id'] at pU
    refine dictPts_of hU pU fun dd nd' => ?_
    generalize hq_ : L2.upd H2 dd _ = H3
    obtain ⟨s3, o3⟩ := _root_.Q.nwS nd' hq_
    clear hq_
    have s13 := (s1.trans s2).trans s3
    refine ⟨fun σ' H' => ∃ q us, σ' = [some (.ref a), some (.ref b), none, some (.ref dd), some (.ref q), none, none, none, none] ∧ L2.Same H3 H' ∧ SqT K H' q us ∧ Paired (fun v c => ∃ y, v = V.ref y ∧ BoxAt K H' y (los c) (his c)) us DU, ?_, ?_⟩
    · refine ⟨_, rfl, a, xs, rfl, pa.same s13, len, r1, fun y1 Ha sa b1 => ?_⟩
      refine ⟨_, rfl, b, ys, rfl, pb.same (s13.trans sa), by omega, r2, fun y2 Hb sb b2 => ?_⟩
      refine ⟨y1, y2, _, _, _, _, rfl, b1.nl (NL.same sb), b2, r1, r2, by ((try simp only [List.length_map, List.length_take, List.length_drop, List.length_append, List.length_cons, List.length_nil, List.length_zipWith, List.length_set, List.length_replicate, List.length_range]) <;> omega), fun z => absurd el2 z, fun _ => ⟨fun al q Hc sc hq => ?_, fun al q us Hc sc hq pq => ?_⟩⟩
      · rw [← commonOf_los, ← commonOf_his] at al
        refine ⟨q, _, rfl, (sa.trans sb).trans sc, hq, ?_⟩
        rw [eDU]
        unfold dueOf
        rw [if_neg (by rw [al]; exact Bool.false_ne_true)]
        exact .cons ⟨y1, rfl, b1.nl (NL.same (sb.trans sc))⟩ .nil
      · rw [← commonOf_los, ← commonOf_his] at al pq
        rw [List.length_map, less_sorted (commonOf_len el) al] at pq
        refine ⟨q, _, rfl, (sa.trans sb).trans sc, hq, ?_⟩
        rw [eDU]
        unfold dueOf
        rw [if_pos al]
        exact paired_rmap pq
    rintro σ' H4 ⟨q, us, rfl, s4, hq, pB⟩
    have s14 := s13.trans s4
    refine ⟨_, rfl, _, rfl, a, b, xs, ys, rfl, pa.same s14, pb.same s14, el, len, tb.ext s14, fun l ws H5 eN T5 hl pl => ?_⟩
    have pl : Paired (pcRel [] H5) ws DU := by rw [eDU]; exact pl
    have nl5 := NL.ext eN
    have hq5 := nl5.sqT hq
    have pB5 : Paired (fun v c => ∃ y, v = V.ref y ∧ BoxAt K H5 y (los c) (his c)) us DU := Paired.mapP pB fun v c ⟨y, e, h⟩ => ⟨y, e, h.nl nl5⟩
    have lus := paired_len pB5
    have lws := paired_len pl
    have ktt : PySem.W.kitOne K (.type "tuple") (.type "tuple") = some true := kit_ty (by decide +kernel)
    refine ⟨_, rfl, _, _, _, _, _, rfl, .ty _, ty_sqT hq5, ktt, _, rfl, iteF ?_⟩
    refine ⟨_, rfl, q, us, rfl, .inr hq5, _, rfl, l, ws, rfl, .inl (SqL.of hl), rfl, _, rfl, ?_⟩
    rw [lus, lws, decide_eq_true rfl]
    refine iteF ?_
    refine ⟨_, rfl, l, _, rfl, .inl (SqL.of hl), _, rfl, by omega, by omega, fun D nD => ?_⟩
    rw [lws, Int.toNat_natCast]
    have zl : DU.length < sizeLine := by omega
    refine lc_rng (f := fun k => k) (p := fun _ => false) (R := fun _ _ _ => True) (fun _ _ _ _ _ z => z) nD zl (fun k H8 R' N hk s8 k1 k2 => ?_) fun H6 es s6 hE pE => ?_
    · rw [Int.zero_add]
      obtain ⟨x, ex, y, rfl, by_⟩ := paired_at pB5 k hk
      obtain ⟨x', ex', lk, rfl, _, hpk⟩ := paired_at pl k hk
      have m := List.getElem_mem hk
      have rg := dRg _ m
      have cn := dCn _ m
      refine ⟨rfl, _, rfl, _, rfl, .inr (.inl ⟨q, _, _, _, rfl, rfl, sqT_same s8 hq5, atI_nat ex, _, rfl, _, rfl, l, _, _, _, rfl, rfl, SqL.of (s8 _ _ hl), atI_nat ex', y, lk, DU[k], rfl, by_.nl (NL.same s8), hpk.same s8, rg.1, by omega, by omega, fun H9 s9 => ⟨_, rfl, ?_⟩⟩)⟩
      exact k2 rfl _ s9
    rw [List.filter_eq_nil_iff.mpr (fun _ _ => Bool.false_ne_true)] at pE
    cases pE
    refine ⟨false, .inl ⟨[], SqL.of hE, rfl⟩, iteF ?_⟩
    refine ⟨Nat.zero_le _, fun F0 nF0 => ?_⟩
    generalize hq_ : L2.upd H6 F0 _ = H7
    obtain ⟨s7, o7⟩ := _root_.Q.nwS nF0 hq_
    clear hq_
    have s57 := s6.trans s7
    refine ⟨_, rfl, q, us, false, rfl, sqT_same s57 hq5, ?_⟩
    refine for_seq (k := false) (xs := us) (fun i σ H' => (∃ F gs v8, σ = [some (.ref a), some (.ref b), none, some (.ref dd), some (.ref q), some (.ref l), none, some (.ref F), v8] ∧ H' F = some (.lst gs) ∧ Paired (ptS K H') gs ((DU.take i).flatMap pts)) ∧ L2.Same H5 H') ⟨⟨F0, [], none, rfl, o7, .nil⟩, s57⟩ (fun i σ H' _ q => sqT_same q.2 hq5) ?_ ?_
    · rintro i x σ H' e ⟨⟨F, gs, v8, rfl, hF, pF⟩, sm⟩
      have hi : i < DU.length := by
        have := (List.getElem?_eq_some_iff.mp e).1
        omega
      obtain ⟨x', ex, y, rfl, by_⟩ := paired_at pB5 i hi
      rw [e] at ex
      cases ex
      have m := List.getElem_mem hi
      have rg := dRg _ m
      have cn := dCn _ m
      have fu := rgs_full rg.1
      have b6 := by_.nl (NL.same sm)
      refine ⟨_, rfl, ?_⟩
      refine listG_pts (σ := [some (.ref a), some (.ref b), none, some (.ref dd), some (.ref q), some (.ref l), none, some (.ref F), some (.ref y)]) rfl b6 (within_low fu) (by ((try simp only [List.length_map, List.length_take, List.length_drop, List.length_append, List.length_cons, List.length_nil, List.length_zipWith, List.length_set, List.length_replicate, List.length_range]) <;> omega)) (by omega) fun p out H9 s9 o9 pO => ?_
      have lF := paired_len pF
      have lO := paired_len pO
      have l2 := dLn (i + 1)
      have e2 : (DU.take (i + 1)).flatMap pts = (DU.take i).flatMap pts ++ pts DU[i] := by
        rw [List.take_succ_eq_append_getElem hi, List.flatMap_append]
        simp
      rw [e2, List.length_append] at l2
      have lO : out.length = (pts DU[i]).length := lO
      refine ⟨F, p, _, _, rfl, rfl, s9 _ _ hF, o9, (by omega), fun G nG => ?_⟩
      generalize hq_ : L2.upd H9 G _ = H10
      obtain ⟨s10, o10⟩ := _root_.Q.nwS nG hq_
      clear hq_
      refine ⟨⟨G, _, _, rfl, o10, ?_⟩, (sm.trans s9).trans s10⟩
      rw [e2]
      exact paired_app (Paired.mapP pF fun _ _ z => z.nl (NL.same (s9.trans s10))) (Paired.mapP pO fun _ _ z => z.nl (NL.same s10))
    · rintro σ H' ⟨⟨F, gs, v8, rfl, hF, pF⟩, sm⟩
      rw [lus, List.take_length] at pF
      refine ⟨_, rfl, ?_⟩
      refine sortedD_of (R := ptS K H') (enc := fun p : List Int => PyData.tuple (p.map PyData.int)) (SqL.of hF) pF (fun v c _ ⟨t, e, h⟩ => by rw [e]; exact dp_ints h) ?_ ?_ fun S zs nS pz => ?_
      · by_cases z : xs.length = 0
        · right
          have l2 := dLn DU.length
          rw [List.take_length] at l2
          have : cnt (los xs) (his xs) = 1 := by
            rw [List.eq_nil_of_length_eq_zero z]
            rfl
          omega
        · left
          refine ⟨PySem.W.AllAlike.of fun c c' => by
            simp only [PySem.W.alike]
            exact PySem.W.alike_ints _ _, .inl fun d hd => ?_⟩
          obtain ⟨p, mp, rfl⟩ := List.mem_map.mp hd
          rw [eDU] at mp
          have lp := (mem_pts.mp ((due_mem el p).mp mp).1).length.2
          rw [List.length_map] at lp
          cases p with
          | nil => exact absurd lp.symm z
          | cons v p => exact ⟨_, _, rfl⟩
      · intro c _
        have := ptD_depth c
        show (ptD c).depth ≤ 60
        omega
      generalize hq_ : L2.upd H' S _ = H8
      obtain ⟨s8, o8⟩ := _root_.Q.nwS nS hq_
      clear hq_
      rw [dSo] at pz
      have s58 := sm.trans s8
      have sE := (ExtN.trans (ExtN.of s14) eN).trans (ExtN.of s58)
      refine ⟨_, rfl, a, xs, rfl, pa.ext sE, by omega, (fun r m => by have := rgs_all r1 r m; omega), by omega, fun p4 H9 s9 ps4 => ?_⟩
      obtain ⟨w4, hw4, pw4⟩ := ps4
      refine ⟨p4, rfl, ⟨_, SqL.of hw4⟩, fun G nG => ?_⟩
      have o9 : H9 dd = _ := s9 _ _ (s58 _ _ (eN _ _ (s4 _ _ o3) (fun _ z => nomatch z)))
      refine lc_pick (S := ptRel) (p := fun p => !decide (p ∈ spots (los ys) (his ys))) (R := ptS K) (fun _ _ _ _ k z => z.nl k) (fun _ _ _ _ k z => z.nl k) nG (SqL.of hw4) pw4 (by rw [spots_len]; omega) (fun x p Hx R' N sx ⟨tp, ex, hp⟩ k1 k2 => ?_) fun H10 us s10 hU2 pU2 => ?_
      · subst ex
        obtain ⟨o, hg, ho⟩ := dget_pt (sx _ _ o9) hp
        refine ⟨rfl, _, rfl, _, rfl, dd, o, rfl, hg, ?_⟩
        rw [ho]
        refine ⟨_, rfl, ite2 (fun q => ?_) (fun q => ?_)⟩
        · exact ⟨_, rfl, k1 q _ _ (Same.refl _) ⟨tp, rfl, SqT.of hp⟩⟩
        · exact k2 (Bool.eq_false_iff.mpr q) _ (Same.refl _)
      have s8a := s9.trans s10
      refine ⟨_, _, dp_pts (SqL.of (s8a _ _ o8)) (Paired.mapP pz fun _ _ z => z.nl (NL.same (s8.trans s8a))), dp_pts (SqL.of hU2) pU2, shaped_pts _, shaped_pts _, ?_⟩
      rw [eqv_pts, decide_eq_true rfl]
      exact kQ _ (sE.trans (ExtN.of s8a)) ((T5.ext s58).ext s8a)

end
end K00

set_option maxRecDepth 100000
set_option maxHeartbeats 4000000
namespace K00
open PySem PySem.Spec PyProof.Rows L2 Q RZ LamX NdefX
section
variable {P : Program} {w : World} {K : PySem.W.Frag} {mg : Str → Option Value} {base : Heap} {f : Addr} {fd : FuncData}
theorem cnt_pow {m : Nat} : ∀ {rs : List (Int × Int)}, (∀ r ∈ rs, r.2 ≤ r.1 + m) → cnt (los rs) (his rs) ≤ m ^ rs.length
  | [], _ => Nat.le_refl _
  | r :: rs, h => by
    have h1 := h r List.mem_cons_self
    have h2 := cnt_pow fun x m => h x (List.mem_cons_of_mem _ m)
    show (r.2 - r.1).toNat * cnt (los rs) (his rs) ≤ m ^ (rs.length + 1)
    rw [Nat.pow_succ, Nat.mul_comm]
    exact Nat.mul_le_mul h2 (by omega)
theorem cnt_wide : ∀ {rs : List (Int × Int)} {wd : Int}, (∀ (i : Nat) r, rs[i]? = some r → 0 ≤ r.1 ∧ r.2 ≤ 64 ∧ ((i : Int) ≠ wd → r.2 ≤ r.1 + 2)) → cnt (los rs) (his rs) ≤ 64 * 2 ^ rs.length
  | [], _, _ => by decide
  | r :: rs, wd, h => by
    have h0 := h 0 r rfl
    show (r.2 - r.1).toNat * cnt (los rs) (his rs) ≤ 64 * 2 ^ (rs.length + 1)
    by_cases z : wd = 0
    · have h2 : cnt (los rs) (his rs) ≤ 2 ^ rs.length := cnt_pow (m := 2) fun x m => by
        obtain ⟨i, hi, e⟩ := List.mem_iff_getElem.mp m
        have := (h (i + 1) x (by rw [List.getElem?_cons_succ, List.getElem?_eq_getElem hi, e])).2.2 (by omega)
        omega
      have h1 : (r.2 - r.1).toNat ≤ 64 := by omega
      refine Nat.le_trans (Nat.mul_le_mul h1 h2) ?_
      exact Nat.mul_le_mul (Nat.le_refl _) (Nat.pow_le_pow_right (by decide) (Nat.le_succ _))
    · have h2 := cnt_wide (rs := rs) (wd := wd - 1) fun i x e => by
        have := h (i + 1) x e
        exact ⟨this.1, this.2.1, fun ne => this.2.2 (by omega)⟩
      have h1 : (r.2 - r.1).toNat ≤ 2 := by
        have := h0.2.2 (by omega)
        omega
      refine Nat.le_trans (Nat.mul_le_mul h1 h2) ?_
      rw [Nat.pow_succ]
      omega
theorem rgs_ofAll : ∀ {rs : List (Int × Int)}, (∀ r ∈ rs, 0 ≤ r.1 ∧ r.1 < r.2 ∧ r.2 ≤ 64) → Rgs (los rs) (his rs)
  | [], _ => trivial
  | r :: rs, h => ⟨(h r List.mem_cons_self).1, (h r List.mem_cons_self).2.1, (h r List.mem_cons_self).2.2, rgs_ofAll fun x m => h x (List.mem_cons_of_mem _ m)⟩
/-- the bag is no list of pairs -/
theorem pairs_off {H : Hp} {b c l : Addr} {n : Int} {rs : List (Int × Int)} (B : BagAt H b c n) (h : PairsAt H l rs) : l ≠ b := fun z => by
  obtain ⟨ns, p, r, k, m, h1, _⟩ := B
  obtain ⟨ts, h2, _⟩ := h
  rw [z, h1] at h2
  have e := HO.lst.inj (Option.some.inj h2)
  match ts, e with
  | [], e => cases e
  | [_], e => cases e
  | _ :: _ :: _, e => cases e
theorem PairsAt.kb {H H' : Hp} {b c l : Addr} {n : Int} {rs : List (Int × Int)} (h : PairsAt H l rs) (k : Kb b H H') (B : BagAt H b c n) : PairsAt H' l rs := by
  have lb := pairs_off B h
  have nl := kb_nl k B
  obtain ⟨ts, h1, h2, h3⟩ := h
  exact ⟨ts, k _ _ lb h1, h2, fun i t r e1 e2 => nl.tup (h3 i t r e1 e2)⟩
theorem _root_.Q.BagAt.ext {H H' : Hp} {b c : Addr} {n : Int} (h : BagAt H b c n) (e : ExtN H H') : BagAt H' b c n := by
  obtain ⟨ns, p, r, k, m, h1, h2, h3⟩ := h
  exact ⟨ns, p, r, k, m, e _ _ h1 (fun _ z => nomatch z), e _ _ h2 (fun _ z => nomatch z), h3⟩
theorem inBox_within : ∀ {p lz hz : List Int}, lz.length = hz.length → ((decide (p.length = lz.length) && inBox p lz hz) = true ↔ _root_.Q.Within lz hz p)
  | [], [], [], _ => ⟨fun _ => .nil, fun _ => rfl⟩
  | [], l :: lz, h :: hz, _ => ⟨fun z => (by cases z), fun z => absurd z within_none⟩
  | v :: p, [], [], _ => ⟨fun z => (by cases z), fun z => (by cases z)⟩
  | v :: p, l :: lz, h :: hz, e => by
    have ih := inBox_within (p := p) (lz := lz) (hz := hz) (by simpa using e)
    rw [within_cons, ← ih]
    show (decide (p.length + 1 = lz.length + 1) && (decide (l ≤ v) && decide (v < h) && inBox p lz hz)) = true ↔ _
    simp only [Bool.and_eq_true, decide_eq_true_eq]
    constructor
    · rintro ⟨h1, ⟨h2, h3⟩, h4⟩
      exact ⟨h2, h3, by omega, h4⟩
    · rintro ⟨h2, h3, h1, h4⟩
      exact ⟨by omega, ⟨h2, h3⟩, h4⟩
  | _, [], _ :: _, e => by cases e
  | _, _ :: _, [], e => by cases e
theorem holds_pts {rs : List (Int × Int)} {p : List Int} : (decide (p.length = (los rs).length) && inBox p (los rs) (his rs)) = decide (p ∈ pts rs) := by
  rw [Bool.eq_iff_iff, inBox_within (by ((try simp only [List.length_map, List.length_take, List.length_drop, List.length_append, List.length_cons, List.length_nil, List.length_zipWith, List.length_set, List.length_replicate, List.length_range]) <;> omega)), decide_eq_true_eq, mem_pts]
theorem lohi_inj : ∀ {xs ys : List (Int × Int)}, (decide (los xs = los ys) && decide (his xs = his ys)) = decide (xs = ys)
  | [], [] => rfl
  | [], y :: ys => by
    rw [decide_eq_false (show ¬ ([] : List (Int × Int)) = y :: ys from fun z => by cases z), decide_eq_false (show ¬ los [] = los (y :: ys) from fun z => by cases z)]
    rfl
  | x :: xs, [] => by
    rw [decide_eq_false (show ¬ x :: xs = [] from fun z => by cases z), decide_eq_false (show ¬ los (x :: xs) = los [] from fun z => by cases z)]
    rfl
  | x :: xs, y :: ys => by
    have ih := lohi_inj (xs := xs) (ys := ys)
    rw [Bool.eq_iff_iff] at ih ⊢
    simp only [Bool.and_eq_true, decide_eq_true_eq] at ih ⊢
    show x.1 :: los xs = y.1 :: los ys ∧ x.2 :: his xs = y.2 :: his ys ↔ _
    rw [List.cons.injEq, List.cons.injEq, List.cons.injEq, ← ih]
    constructor
    · rintro ⟨⟨a, b⟩, c, d⟩
      exact ⟨Prod.ext a c, b, d⟩
    · rintro ⟨rfl, b, d⟩
      exact ⟨⟨rfl, b⟩, rfl, d⟩
/-- [spot for spot in points_of(box)] -/
theorem lcG_pts {H : Hp} {σ : L2.St} {i k : Nat} {vs : List Nat} {Q : VK} {y : Addr} {lz hz : List Int} (hv : σ[i]? = some (some (.ref y))) (hw : ∀ x : V, wipe ((wipe σ vs).set k (some x)) vs = wipe σ vs) (hg : ∀ x : V, ((wipe σ vs).set k (some x))[k]? = some (some x)) (b : BoxAt K H y lz hz) (wi : Within lz hz lz) (l5 : lz.length ≤ 1000) (c : cnt lz hz < sizeLine)
    (q : ∀ p out H', L2.Same H H' → H' p = some (.lst out) → Paired (ptS K H') out (spots lz hz) → Q (.ref p) H') : tLcG (tCalX (spPoints K) [] (tCons (tVar i) tNil)) (gName k) tYes (tVar k) vs σ H Q := by
  refine ⟨_, hv, _, _, ⟨y, lz, hz, rfl, wi, l5, rfl, rfl⟩, fun D nD => ⟨fun j H2 => L2.Same H H2 ∧ ∃ acc, H2 D = some (.lst acc) ∧ Paired (ptS K H2) acc ((spots lz hz).take j), ⟨same_new nD, [], upd_same, .nil⟩, fun j it H2 ej ⟨s2, acc, ha, hp⟩ => ⟨b.nl (NL.same s2), fun x H' s3 hx => ?_⟩, fun H2 ⟨s2, acc, ha, hp⟩ => ⟨b.nl (NL.same s2), fun H' s3 => ?_⟩⟩⟩
  · rw [List.getElem?_map] at ej
    obtain ⟨p, ep, rfl⟩ := Option.map_eq_some_iff.mp ej
    obtain ⟨t, rfl, ht⟩ := hx
    have hS := s3 _ _ ha
    refine ⟨hw _, ?_⟩
    unfold tYes
    dsimp only
    rw [if_pos rfl]
    have hj : j < (spots lz hz).length := (List.getElem?_eq_some_iff.mp ep).1
    have la := paired_len hp
    rw [List.length_take] at la
    have lS := spots_len lz hz
    refine ⟨_, hg _, acc, hS, by omega, ?_⟩
    have nl := NL.lst (ys := acc ++ [.ref t]) hS
    refine ⟨Same.put (s2.trans s3) nD fun b o nb e => by rw [upd_ne nb]; exact e, _, upd_same, ?_⟩
    rw [List.take_add_one, ep]
    exact Paired.snoc (Paired.mapP hp fun _ _ z => (z.nl (NL.same s3)).nl nl) ⟨t, rfl, nl.sqT ht⟩
  · rw [List.length_map, List.take_length] at hp
    exact q D acc _ (s2.trans s3) (s3 _ _ ha) (Paired.mapP hp fun _ _ z => z.nl (NL.same s3))
theorem cnt_shift : ∀ rs : List (Int × Int), cnt ((rs.map fun r => r.2 - r.1).map fun _ => 0) (rs.map fun r => r.2 - r.1) = cnt (los rs) (his rs)
  | [] => rfl
  | r :: rs => by
    show (r.2 - r.1 - 0).toNat * cnt ((rs.map fun r => r.2 - r.1).map fun _ => 0) (rs.map fun r => r.2 - r.1) = (r.2 - r.1).toNat * cnt (los rs) (his rs)
    rw [cnt_shift rs, Int.sub_zero]
theorem goTestOp {r : R2} {ta tb : TE} {σ : L2.St} {H : Hp} {Q : Bool → Hp → Prop} (h : ta σ H fun x H1 => tb σ H1 fun y H2 => r x y H2 fun z H3 => ∃ k, z = .bl k ∧ Q k H3) : tTest (tOp r ta tb) σ H Q := h
theorem paired_ints : ∀ zs : List Int, Paired (fun v (z : Int) => v = .int z) (zs.map V.int) zs
  | [] => .nil
  | _ :: zs => .cons rfl (paired_ints zs)
theorem sIx_last (n d : Nat) : HT.sIx n d (some (-1)) = n - 1 := by
  show (if (-1 : Int) < 0 then ((-1 : Int) + (n : Int)).toNat else min (-1 : Int).toNat n) = n - 1
  rw [if_pos (by decide)]
  omega
theorem cutV_last (xs : List V) : cutV xs none (some (-1)) = xs.take (xs.length - 1) := by
  unfold cutV
  rw [sIx_last, HT.sIx_none, List.drop_zero, Nat.sub_zero]
theorem paired_mapr {α β γ : Type} {R : α → γ → Prop} {f : β → γ} : ∀ {as : List α} {bs : List β}, Paired (fun a b => R a (f b)) as bs → Paired R as (bs.map f)
  | _, [], .nil => .nil
  | _, _ :: _, .cons h t => .cons h (paired_mapr t)
abbrev prL (r : Int × Int) : List Int := [r.1, r.2]
theorem prL_inj (xs ys : List (Int × Int)) : decide (xs.map prL = ys.map prL) = decide (xs = ys) := by
  rw [Bool.eq_iff_iff, decide_eq_true_eq, decide_eq_true_eq]
  constructor
  · refine List.map_inj_right (fun x y e => ?_) |>.mp
    have e1 := (List.cons.inj e).1
    have e2 := (List.cons.inj (List.cons.inj e).2).1
    exact Prod.ext e1 e2
  · exact fun e => by rw [e]
theorem dp_prs {H : Hp} {l : Addr} {rs : List (Int × Int)} (h : PairsAt H l rs) : Dp K H (.ref l) (.list ((rs.map prL).map ptD)) := by
  obtain ⟨vs, h1, h2⟩ := h.paired
  exact dp_pts (SqL.of h1) (paired_mapr (Paired.mapP h2 fun _ r ⟨t, e, h⟩ => ⟨t, e, SqT.of h⟩))
theorem cuts_self {l h : List Int} (n : Nat) : cuts l h l h n = [] := by
  unfold cuts
  rw [List.flatMap_eq_nil_iff]
  intro i _
  unfold cutStep
  rw [if_neg (by omega), if_neg (by omega)]
  rfl
theorem mxs_self : ∀ l : List Int, mxs l l = l
  | [] => rfl
  | x :: l => by
    show (if x > x then x else x) :: mxs l l = x :: l
    rw [mxs_self l, if_neg (by omega)]
theorem mns_self : ∀ l : List Int, mns l l = l
  | [] => rfl
  | x :: l => by
    show (if x < x then x else x) :: mns l l = x :: l
    rw [mns_self l, if_neg (by omega)]
theorem rgs_allLt : ∀ {l h : List Int}, Rgs l h → allLt l h = true
  | [], [], _ => rfl
  | l :: ls, h :: hs, r => by
    show (decide (l < h) && allLt ls hs) = true
    rw [decide_eq_true r.2.1, rgs_allLt r.2.2.2]
    rfl
  | [], _ :: _, r => r.elim
  | _ :: _, [], r => r.elim

end
end K00

set_option maxRecDepth 100000
set_option maxHeartbeats 4000000
/-! A tuple times a number, also times 1. -/
namespace Q
open PySem PySem.Spec PyProof.Rows L2
theorem tuple_mulW1 (l : Addr) (items : Array Value) (n : Nat) (dd : Option Addr) (sl : Array (Option Value)) (u : Tok) :
    Meets (Builtin.«tuple.__mul__» ⟨[.ref l, .int 1 u], []⟩) (fun _ R s => s.heap.get? l = some { cls := .type "tuple", dict := dd, data := .seq items n, slots := sl } ∧ R (.ok (.ret (Value.ref l))) s) :=
  .of_wp fun prog w A R s h => by
    obtain ⟨hp, g, d, tk, os⟩ := s
    obtain ⟨hl, h⟩ := h
    have f1 := AutoSeq1.idx_int
    wp_walk using wpAny_loadPart' hl
    exact ⟨_, rfl, h⟩
def rRepT1 (K : PySem.W.Frag) : R2 := fun x y H Q => ∃ l k xs, x = .ref l ∧ y = .int k ∧ SqT K H l xs ∧ xs ≠ [] ∧ 1 ≤ k ∧ k ≤ 1000 ∧ xs.length ≤ 1000 ∧ ∀ p H', L2.Same H H' → SqT K H' p (List.replicate k.toNat xs).flatten → Q (.ref p) H'
variable {X : Cx}
theorem op_repT1 : OpR X (binaryOp .Mult) (rRepT1 X.K) := by
  intro pins s σ H x y v u Q I rx ry h
  obtain ⟨l, k, xs, hx, hy, hT, hne, h1, h2, hz, q⟩ := h
  by_cases one : k = 1
  · subst one
    subst hx
    subst hy
    cases rx
    obtain ⟨t, rfl⟩ := ry
    obtain ⟨its, r, ⟨⟨cls, dd, data, sl⟩, ho, hc, n, hd⟩, hs⟩ := I.tuple hT
    simp only at hc hd
    subst hc hd
    refine wpAny_binaryOp_repeat_ref (T := "tuple") (U := "int") (by decide) ⟨_, ho, rfl⟩ (fun s' => typeIs_int s' 1 t) noFill_tuple_mul F.fills_int_mul F.slot_int_rmul repeat_tuple F.slot_int_index.lookup
      (call_meets F.slot_int_rmul (typeIs_int s 1 t) F.entry_int_rmul (F.args_int_rmul_2 _ _) (int_rmul_tuple 1 t l its.toArray n dd sl)
        ⟨ho, rfl, ⟨_, ho, rfl⟩, call_meets F.slot_tuple_mul ⟨_, ho, rfl⟩ F.entry_tuple_mul (F.args_tuple_mul_2 _ _) (tuple_mulW1 l its.toArray n dd sl t) ⟨ho, ?_⟩⟩)
    exact ⟨.ref l, H, I, rfl, q l H (Same.refl _) (by
      have e : (List.replicate (1 : Int).toNat xs).flatten = xs := by
        show (List.replicate 1 xs).flatten = xs
        simp
      rw [e]
      exact hT)⟩
  · exact op_repT pins s σ H x y v u Q I rx ry ⟨l, k, xs, hx, hy, hT, hne, by omega, h2, hz, fun p hp => q p _ (same_new hp) (SqT.of upd_same)⟩
end Q

set_option maxRecDepth 100000
set_option maxHeartbeats 4000000
namespace K00
open PySem PySem.Spec PyProof.Rows L2 Q RZ LamX NdefX
section
variable {P : Program} {w : World} {K : PySem.W.Frag} {mg : Str → Option Value} {base : Heap} {f : Addr} {fd : FuncData}
def spLaw (K : PySem.W.Frag) : Sp := fun vs H Q _ => ∃ (a : Addr) (ns : List Int), vs = [.ref a] ∧ SqL K H a (ns.map V.int) ∧ (∀ p ∈ [He.ga K "_law_cut"].map fun f => (codeAt K f, tabAt K f), H p.2 = some (.tbl #[])) ∧ ∀ H', Q (.bl true) H'
theorem ok_law (T : Tx K mg) (tb : ∀ p ∈ [He.ga K "_law_cut"].map fun f => (codeAt K f, tabAt K f), TabB base mg p.1 p.2) : ∃ fd, FnOk P w K mg base CX0 8 (He.ga K "law") fd ["script"] (spLaw K) ∧ FnP K "law" "law" s_law [] (He.ga K "law") fd := by
  obtain ⟨fd, F⟩ := T.d_law
  have TB := tb _ (List.mem_cons_self)
  obtain ⟨fdE, E_Box, bE_Box⟩ := ok_boxeq (P := P) (w := w) (base := base) T
  obtain ⟨fdH, M_Box_holds, bM_Box_holds⟩ := ok_holds (P := P) (w := w) (base := base) T
  have C__law_bag := C_bag (P := P) (w := w) (base := base) T
  have C__law_draw := C_draw (P := P) (w := w) (base := base) T
  have C__law_is_great := C__law_is_great (P := P) (w := w) (base := base) T
  have C__law_ranges := C__law_ranges (P := P) (w := w) (base := base) T
  have C__law_wide_ranges := C__law_wide_ranges (P := P) (w := w) (base := base) T
  have C__law_box := C__law_box (P := P) (w := w) (base := base) T
  have C__law_is_box := C__law_is_box (P := P) (w := w) (base := base) T
  have C__law_spots := C__law_spots (P := P) (w := w) (base := base) T
  have C_points_of := C_points_of (P := P) (w := w) (base := base) T
  have C__law_meet_right := C__law_meet_right (P := P) (w := w) (base := base) T
  have C__law_join_right := C__law_join_right (P := P) (w := w) (base := base) T
  have C__law_less_right := C__law_less_right (P := P) (w := w) (base := base) T TB
  have C_box_less := C_box_less (P := P) (w := w) (base := base) T
  have C__law_unlike := C__law_unlike (P := P) (w := w) (base := base) T
  have C__law_refused := C__law_refused (P := P) (w := w) (base := base) T
  have C_whole_box := C_whole_box (P := P) (w := w) (base := base) T
  refine ⟨fd, F.ok sc_law (fun vs H Q E h => ?_) (fun cdv A outer s H vs Q E hr h => ?_), F⟩
  · obtain ⟨a, ns, rfl, _⟩ := h
    rfl
  · obtain ⟨a, ns, rfl, hS, hT, kQ⟩ := h
    refine ⟨_, PSs.nox (pss_cons (ps_set (i := 1) sc_law.nd rfl (Or.inr rfl) (pe_cal C__law_bag (hr.mono (by decide)) pass0 (pa_cons (pv 0) pa_nil)))
      (pss_cons (ps_set (i := 2) sc_law.nd rfl (Or.inl rfl) (pe_cal C__law_is_great (hr.mono (by decide)) pass0 (pa_cons (pv 0) pa_nil)))
      (C8.pss_cut (ps_set (i := 3) sc_law.nd rfl (Or.inl rfl) (pe_ifExp (pt_val (pv 2)) (pe_op op_add pe_int (pe_cal C__law_draw (hr.mono (by decide)) pass0 (pa_cons (pv 1) (pa_cons pe_int pa_nil)))) (pe_cal C__law_draw (hr.mono (by decide)) pass0 (pa_cons (pv 1) (pa_cons pe_int pa_nil)))))
      (C8.pss_cut (ps_set (i := 4) sc_law.nd rfl (Or.inl rfl) (pe_ifExp (pt_cmpR op_lt (pv 3) pe_int (nomark _)) pe_int pe_int))
      (pss_cons (ps_setLc (i := 6) (own := [("k", 5)]) (g := gName 5) (tt := tYes) (by rfl) sc_law.nd rfl rfl (sw_true rfl rfl rfl (by decide +kernel)) (pi_range1 (by rfl) T.n_range (pa_cons (pv 3) pa_nil)) (blkOk_by (N := ["script", "bag", "great", "columns", "most", "k", "bases", "wide", "one", "other", "ranges", "box", "spot", "around", "base", "mine", "column", "near", "odd", "pair", "widths", "width"]) (sc := defScope s_law) (by decide +kernel)) (fun _ _ _ _ _ => (pg_name (i := 5) sc_law.nd rfl (Or.inl rfl))) (fun _ _ _ _ _ => pts_nil) (fun _ _ _ _ _ => (pe_cal C__law_draw (hr.mono (by decide)) pass0 (pa_cons (pv 1) (pa_cons pe_int pa_nil)))))
      (C8.pss_cut (ps_if (pt_val (pv 2))
        (pss_cons (ps_set (i := 7) sc_law.nd rfl (Or.inl rfl) (pe_cal C__law_draw (hr.mono (by decide)) pass0 (pa_cons (pv 1) (pa_cons (pv 3) pa_nil))))
        (pss_cons (ps_set (i := 8) sc_law.nd rfl (Or.inl rfl) (pe_cal C__law_wide_ranges (hr.mono (by decide)) pass0 (pa_cons (pv 1) (pa_cons (pv 6) (pa_cons (pv 7) pa_nil)))))
        (pss_one (ps_set (i := 9) sc_law.nd rfl (Or.inl rfl) (pe_cal C__law_wide_ranges (hr.mono (by decide)) pass0 (pa_cons (pv 1) (pa_cons (pv 6) (pa_cons (pv 7) pa_nil))))))))
        (pss_cons (ps_set (i := 8) sc_law.nd rfl (Or.inl rfl) (pe_cal C__law_ranges (hr.mono (by decide)) pass0 (pa_cons (pv 1) (pa_cons (pv 6) (pa_cons (pv 4) pa_nil)))))
        (pss_one (ps_set (i := 9) sc_law.nd rfl (Or.inl rfl) (pe_cal C__law_ranges (hr.mono (by decide)) pass0 (pa_cons (pv 1) (pa_cons (pv 6) (pa_cons (pv 4) pa_nil))))))))
      (pss_cons (ps_for PassesOwn.never rfl (pi_list (pe_lst (pa_cons (pv 8) (pa_cons (pv 9) pa_nil)))) (pg_name (i := 10) sc_law.nd rfl (Or.inl rfl))
        (pss_cons (ps_set (i := 11) sc_law.nd rfl (Or.inr rfl) (pe_cal C__law_box (hr.mono (by decide)) passX (pa_cons (pv 10) pa_nil)))
        (pss_cons (ps_if (PW.pt (pw_or (pt_not (pt_val (pe_cal C__law_is_box (hr.mono (by decide)) pass0 (pa_cons (pv 11) (pa_cons (pv 10) pa_nil))))) (pw_or1 (pt_cmpR (op_neD hr.units) (pe_lcG (own := [("spot", 12)]) (g := gName 12) (tt := tYes) (by rfl) sc_law.nd (hr.mono (by decide)) (pgn_cal C_points_of (hr.mono (by decide)) (pa_cons (pv 11) pa_nil)) (blkOk_by (N := ["script", "bag", "great", "columns", "most", "k", "bases", "wide", "one", "other", "ranges", "box", "spot", "around", "base", "mine", "column", "near", "odd", "pair", "widths", "width"]) (sc := defScope s_law) (by decide +kernel)) (fun _ _ _ _ _ => (pg_name (i := 12) sc_law.nd rfl (Or.inl rfl))) (fun _ _ _ _ _ => pts_nil) (fun _ _ _ _ _ => (pv 12))) (pe_cal C__law_spots (hr.mono (by decide)) pass0 (pa_cons (pv 10) pa_nil)) (nomark _)))))
          (pss_one (ps_ret pe_bl))
          pss_nil)
        (pss_cons (ps_set (i := 13) sc_law.nd rfl (Or.inl rfl) (pe_op op_cat (pe_cal C__law_spots (hr.mono (by decide)) pass0 (pa_cons (pv 8) pa_nil)) (pe_cal C__law_spots (hr.mono (by decide)) pass0 (pa_cons (pv 9) pa_nil))))
        (C8.pss_cut (ps_if (PW.pt (pw_and (pt_cmpR op_lt (pv 3) pe_int (nomark _)) (pw_and1 (pt_not (pt_val (pv 2))))))
          (pss_one (ps_set (i := 13) sc_law.nd rfl (Or.inl rfl) (pe_cal C__law_spots (hr.mono (by decide)) pass0 (pa_cons (pe_lc (own := [("base", 14)]) (g := gName 14) (tt := tYes) (by rfl) sc_law.nd (pi_list (pv 6)) (blkOk_by (N := ["script", "bag", "great", "columns", "most", "k", "bases", "wide", "one", "other", "ranges", "box", "spot", "around", "base", "mine", "column", "near", "odd", "pair", "widths", "width"]) (sc := defScope s_law) (by decide +kernel)) (fun _ _ _ _ _ => (pg_name (i := 14) sc_law.nd rfl (Or.inl rfl))) (fun _ _ _ _ _ => pts_nil) (fun _ _ _ _ _ => (pe_tup (pa_cons (pv 14) (pa_cons (pe_op op_add (pv 14) pe_int) pa_nil))))) pa_nil))))
          pss_nil)
        (pss_cons (ps_set (i := 15) sc_law.nd rfl (Or.inr rfl) (pe_callTy (call_dictR hr rfl) (by rfl) T.n_dict (by decide +kernel) (pa_cons (pe_lc (own := [("spot", 12)]) (g := gName 12) (tt := tYes) (by rfl) sc_law.nd (pi_list (pe_cal C__law_spots (hr.mono (by decide)) pass0 (pa_cons (pv 10) pa_nil))) (blkOk_by (N := ["script", "bag", "great", "columns", "most", "k", "bases", "wide", "one", "other", "ranges", "box", "spot", "around", "base", "mine", "column", "near", "odd", "pair", "widths", "width"]) (sc := defScope s_law) (by decide +kernel)) (fun _ _ _ _ _ => (pg_name (i := 12) sc_law.nd rfl (Or.inl rfl))) (fun _ _ _ _ _ => pts_nil) (fun _ _ _ _ _ => (pe_tup (pa_cons (pv 12) (pa_cons pe_bl pa_nil))))) pa_nil)))
        (pss_cons (ps_if (pt_cmpR (op_neD hr.units) (pe_lc (own := [("spot", 12)]) (g := gName 12) (tt := _) (by rfl) sc_law.nd (pi_list (pv 13)) (blkOk_by (N := ["script", "bag", "great", "columns", "most", "k", "bases", "wide", "one", "other", "ranges", "box", "spot", "around", "base", "mine", "column", "near", "odd", "pair", "widths", "width"]) (sc := defScope s_law) (by decide +kernel)) (fun _ _ _ _ _ => (pg_name (i := 12) sc_law.nd rfl (Or.inl rfl))) (fun _ _ _ _ _ => (pts_one (pt_val (pe_meth (pv 11) T.cls_Box T.m_Box_holds M_Box_holds (hr.mono (by decide)) bM_Box_holds .nil passX (pa_cons (pv 12) pa_nil))))) (fun _ _ _ _ _ => (pv 12))) (pe_lc (own := [("spot", 12)]) (g := gName 12) (tt := _) (by rfl) sc_law.nd (pi_list (pv 13)) (blkOk_by (N := ["script", "bag", "great", "columns", "most", "k", "bases", "wide", "one", "other", "ranges", "box", "spot", "around", "base", "mine", "column", "near", "odd", "pair", "widths", "width"]) (sc := defScope s_law) (by decide +kernel)) (fun _ _ _ _ _ => (pg_name (i := 12) sc_law.nd rfl (Or.inl rfl))) (fun _ _ _ _ _ => (pts_one (pt_cmp (pc_din (hu_of hr) (pv 12) (pv 15))))) (fun _ _ _ _ _ => (pv 12))) (nomark _))
          (pss_one (ps_ret pe_bl))
          pss_nil)
        (pss_one (ps_if (PW.pt (pw_or (pt_cmpR op_isnot_bl (pe_meth (pv 11) T.cls_Box T.m_Box_holds M_Box_holds (hr.mono (by decide)) bM_Box_holds .nil passX (pa_cons (pe_op op_repT1 (pe_tup (pa_cons pe_int pa_nil)) (pe_op op_add (pv 3) pe_int)) pa_nil)) pe_bl (nomark _)) (pw_or1 (PW.pt (pw_and (pt_cmpR op_gt (pv 3) pe_int (nomark _)) (pw_and1 (pt_cmpR op_isnot_bl (pe_meth (pv 11) T.cls_Box T.m_Box_holds M_Box_holds (hr.mono (by decide)) bM_Box_holds .nil passX (pa_cons (pe_slice sl_tupA (pe_fld (pv 11) rfl) po_none (po_some (pe_un un_neg pe_int))) pa_nil)) pe_bl (nomark _))))))))
          (pss_one (ps_ret pe_bl))
          pss_nil)))))))))
      (pss_cons (ps_if (pt_cmpR op_ne (pe_cmpR (op_eqO E_Box (hr.mono (by decide)) T.eq_Box.eq T.eq_Box.fn bE_Box passX) (pe_cal C__law_box (hr.mono (by decide)) passX (pa_cons (pv 8) pa_nil)) (pe_cal C__law_box (hr.mono (by decide)) passX (pa_cons (pv 9) pa_nil)) (nomark _)) (pe_cmpR (op_eqD hr.units) (pv 8) (pv 9) (nomark _)) (nomark _))
        (pss_one (ps_ret pe_bl))
        pss_nil)
      (pss_cons (ps_if (PW.pt (pw_or (pt_not (pt_val (pe_cal C__law_meet_right (hr.mono (by decide)) pass0 (pa_cons (pv 8) (pa_cons (pv 9) pa_nil))))) (pw_or1 (pt_not (pt_val (pe_cal C__law_meet_right (hr.mono (by decide)) pass0 (pa_cons (pv 9) (pa_cons (pv 8) pa_nil))))))))
        (pss_one (ps_ret pe_bl))
        pss_nil)
      (pss_cons (ps_for PassesOwn.never rfl (pi_range1 (by rfl) T.n_range (pa_cons (pv 3) pa_nil)) (pg_name (i := 16) sc_law.nd rfl (Or.inl rfl))
        (pss_cons (ps_if (PW.pt (pw_or (pt_not (pt_val (pe_cal C__law_join_right (hr.mono (by decide)) pass0 (pa_cons (pv 8) (pa_cons (pv 9) (pa_cons (pv 16) pa_nil)))))) (pw_or1 (pt_not (pt_val (pe_cal C__law_join_right (hr.mono (by decide)) pass0 (pa_cons (pv 9) (pa_cons (pv 8) (pa_cons (pv 16) pa_nil)))))))))
          (pss_one (ps_ret pe_bl))
          pss_nil)
        (pss_one (ps_if (pt_not (pt_val (pe_cal C__law_join_right (hr.mono (by decide)) pass0 (pa_cons (pv 8) (pa_cons (pv 8) (pa_cons (pv 16) pa_nil))))))
          (pss_one (ps_ret pe_bl))
          pss_nil))))
      (pss_cons (ps_if (PW.pt (pw_or (pt_not (pt_val (pe_cal C__law_less_right (hr.mono (by decide)) pass0 (pa_cons (pv 8) (pa_cons (pv 9) pa_nil))))) (pw_or (pt_not (pt_val (pe_cal C__law_less_right (hr.mono (by decide)) pass0 (pa_cons (pv 9) (pa_cons (pv 8) pa_nil))))) (pw_or1 (pt_cmpR (op_neD hr.units) (pe_cal C_box_less (hr.mono (by decide)) passX (pa_cons (pe_cal C__law_box (hr.mono (by decide)) passX (pa_cons (pv 8) pa_nil)) (pa_cons (pe_cal C__law_box (hr.mono (by decide)) passX (pa_cons (pv 8) pa_nil)) pa_nil))) (pe_tup pa_nil) (nomark _))))))
        (pss_one (ps_ret pe_bl))
        pss_nil)
      (C8.pss_cut (ps_set (i := 17) sc_law.nd rfl (Or.inl rfl) (pe_ifExp (PW.pt (pw_or (pt_cmpR op_eq (pv 3) pe_int (nomark _)) (pw_or1 (PW.pt (pw_and (pt_cmpR op_gt (pv 3) pe_int (nomark _)) (pw_and1 (pt_cmpR op_eq (pe_cal C__law_draw (hr.mono (by decide)) pass0 (pa_cons (pv 1) (pa_cons pe_int pa_nil))) pe_int (nomark _)))))))) (pe_slice sl_list (pv 8) po_none (po_some (pe_un un_neg pe_int))) (pe_op op_cat (pv 8) (pe_lst (pa_cons (pe_tup (pa_cons pe_int (pa_cons pe_int pa_nil))) pa_nil)))))
      (C8.pss_cut (ps_set (i := 18) sc_law.nd rfl (Or.inl rfl) (pe_ix ix_list (pe_lst (pa_cons (pv 3) (pa_cons (pe_un un_neg pe_int) (pa_cons pe_bl (pa_cons pe_non (pa_cons pe_str (pa_cons (pe_op op_add (pv 3) (pe_cal C__law_draw (hr.mono (by decide)) pass0 (pa_cons (pv 1) (pa_cons pe_int pa_nil)))) pa_nil))))))) (pe_cal C__law_draw (hr.mono (by decide)) pass0 (pa_cons (pv 1) (pa_cons pe_int pa_nil))) (fun _ _ => rfl)))
      (pss_cons (ps_if (PW.pt (pw_or (pt_not (pt_val (pe_cal C__law_unlike (hr.mono (by decide)) pass0 (pa_cons (pe_cal C__law_box (hr.mono (by decide)) passX (pa_cons (pv 8) pa_nil)) (pa_cons (pe_cal C__law_box (hr.mono (by decide)) passX (pa_cons (pv 17) pa_nil)) pa_nil))))) (pw_or1 (pt_not (pt_val (pe_cal C__law_refused (hr.mono (by decide)) pass0 (pa_cons (pe_cal C__law_box (hr.mono (by decide)) passX (pa_cons (pv 17) pa_nil)) (pa_cons (pe_cal C__law_box (hr.mono (by decide)) passX (pa_cons (pv 8) pa_nil)) (pa_cons (pv 18) (pa_cons pe_str pa_nil))))))))))
        (pss_one (ps_ret pe_bl))
        pss_nil)
      (pss_cons (ps_if (pt_not (pt_val (pe_cal C__law_refused (hr.mono (by decide)) pass0 (pa_cons (pe_cal C__law_box (hr.mono (by decide)) passX (pa_cons (pv 8) pa_nil)) (pa_cons (pe_cal C__law_box (hr.mono (by decide)) passX (pa_cons (pv 9) pa_nil)) (pa_cons (pv 18) (pa_cons pe_str pa_nil)))))))
        (pss_one (ps_ret pe_bl))
        pss_nil)
      (pss_cons (ps_setLc (i := 20) (own := [("pair", 19)]) (g := gName 19) (tt := tYes) (by rfl) sc_law.nd rfl rfl (sw_true rfl rfl rfl (by decide +kernel)) (pi_list (pv 8)) (blkOk_by (N := ["script", "bag", "great", "columns", "most", "k", "bases", "wide", "one", "other", "ranges", "box", "spot", "around", "base", "mine", "column", "near", "odd", "pair", "widths", "width"]) (sc := defScope s_law) (by decide +kernel)) (fun _ _ _ _ _ => (pg_name (i := 19) sc_law.nd rfl (Or.inl rfl))) (fun _ _ _ _ _ => pts_nil) (fun _ _ _ _ _ => (pe_op op_sub (pe_ix ix_tupB (pv 19) pe_int (fun _ _ => rfl)) (pe_ix ix_tupB (pv 19) pe_int (fun _ _ => rfl)))))
      (pss_one (ps_ret (pe_cal C__law_is_box (hr.mono (by decide)) pass0 (pa_cons (pe_cal C_whole_box (hr.mono (by decide)) passX (pa_cons (pv 20) pa_nil)) (pa_cons (pe_lc (own := [("width", 21)]) (g := gName 21) (tt := tYes) (by rfl) sc_law.nd (pi_list (pv 20)) (blkOk_by (N := ["script", "bag", "great", "columns", "most", "k", "bases", "wide", "one", "other", "ranges", "box", "spot", "around", "base", "mine", "column", "near", "odd", "pair", "widths", "width"]) (sc := defScope s_law) (by decide +kernel)) (fun _ _ _ _ _ => (pg_name (i := 21) sc_law.nd rfl (Or.inl rfl))) (fun _ _ _ _ _ => pts_nil) (fun _ _ _ _ _ => (pe_tup (pa_cons pe_int (pa_cons (pv 21) pa_nil))))) pa_nil))))))))))))))))))))), ?_⟩
    have big : 20000 < sizeLine := by decide
    refine ⟨_, rfl, a, ns, rfl, hS, fun b c H1 nb nc s1 B1 => ?_⟩
    have tb1 : Tabs (lt__law_cut K) H1 := Tabs.ext (fun p hp => by
      obtain rfl := List.mem_singleton.mp hp
      exact TabS.nil (hT _ List.mem_cons_self)) s1
    refine ⟨_, rfl, a, ns, rfl, s1.seq hS, fun g => ?_⟩
    refine ⟨fun σ' H' => ∃ C : Nat, σ' = [some (.ref a), some (.ref b), some (.bl g), some (.int C), none, none, none, none, none, none, none, none, none, none, none, none, none, none, none, none, none, none] ∧ Kb b H1 H' ∧ BagAt H' b c 1 ∧ C ≤ 5 ∧ (g = true → 1 ≤ C ∧ C ≤ 3), ?_, ?_⟩
    · refine ⟨_, rfl, g, rfl, ite2 (fun e => ?_) (fun e => ?_)⟩
      · refine ⟨_, rfl, b, c, 3, 0, rfl, B1, by decide, by decide, by decide, fun r H2 r0 r3 o2 B2 => ⟨_, _, rfl, rfl, 1 + r.toNat, ?_, o2.kb, B2, by omega, fun _ => by omega⟩⟩
        show [some (V.ref a), some (V.ref b), some (V.bl g), some (V.int (1 + r)), none, none, none, none, none, none, none, none, none, none, none, none, none, none, none, none, none, none] = _
        rw [show (1 : Int) + r = ((1 + r.toNat : Nat) : Int) by omega]
      · refine ⟨_, rfl, b, c, 6, 0, rfl, B1, by decide, by decide, by decide, fun r H2 r0 r6 o2 B2 => ?_⟩
        obtain ⟨m, rfl⟩ : ∃ m : Nat, r = m := ⟨r.toNat, by omega⟩
        exact ⟨m, rfl, o2.kb, B2, by omega, fun z => absurd z e⟩
    rintro σ' H2 ⟨C, rfl, k2, B2, C5, Cg⟩
    refine ⟨fun σ' H' => ∃ M : Int, σ' = [some (.ref a), some (.ref b), some (.bl g), some (.int C), some (.int M), none, none, none, none, none, none, none, none, none, none, none, none, none, none, none, none, none] ∧ H' = H2 ∧ 1 ≤ M ∧ M ≤ 3, ?_, ?_⟩
    · refine ⟨_, rfl, _, _, rfl, rfl, _, rfl, ite2 (fun e => ?_) (fun e => ?_)⟩
      · exact ⟨3, rfl, rfl, by decide, by decide⟩
      · exact ⟨2, rfl, rfl, by decide, by decide⟩
    rintro σ' H2 ⟨M, rfl, rfl, M1, M3⟩
    refine ⟨_, rfl, C, rfl, by omega, by omega, fun D nD => ?_⟩
    rw [Int.toNat_natCast]
    have Db := (B2.new nD).1
    have Dc := (B2.new nD).2
    refine lc_range (lo := 0) (n := C) (fun i H' => BagAt H' b c (1 + (i : Int)) ∧ Kb b H2 H' ∧ ∃ bs : List Int, H' D = some (.lst (bs.map V.int)) ∧ bs.length = i ∧ ∀ z ∈ bs, 0 ≤ z ∧ z ≤ 59) ⟨(B2.updNew nD).mono (by omega), kb_new nD, [], upd_same, rfl, fun _ z => nomatch z⟩ ?_ ?_
    · rintro i H3 hi ⟨B3, k3, bs, hD, hl, hb⟩
      refine ⟨rfl, _, rfl, b, c, _, _, rfl, B3, by decide, by decide, by omega, fun r H4 r0 r6 o4 B4 => ?_⟩
      have k4 := o4.kb
      refine ⟨_, k4 _ _ Db hD, by ((try simp only [List.length_map, List.length_take, List.length_drop, List.length_append, List.length_cons, List.length_nil, List.length_zipWith, List.length_set, List.length_replicate, List.length_range]) <;> omega), (B4.upd Db Dc).mono (by omega), fun x o nb e => by rw [upd_ne (ne_of_none e nD)]; exact (k3.trans k4) x o nb e, bs ++ [r], by rw [upd_same, List.map_append]; rfl, by ((try simp only [List.length_map, List.length_take, List.length_drop, List.length_append, List.length_cons, List.length_nil, List.length_zipWith, List.length_set, List.length_replicate, List.length_range]) <;> omega), fun z m => ?_⟩
      · rcases List.mem_append.mp m with m | m
        · exact hb z m
        · rw [List.mem_singleton.mp m]
          omega
    rintro H3 ⟨B3, k3, bs, hD, hl, hb⟩
    have k13 := k2.trans k3
    refine ⟨fun σ' H' => ∃ (l1 l2 : Addr) (xs ys : List (Int × Int)) (v7 : Option V), σ' = [some (.ref a), some (.ref b), some (.bl g), some (.int C), some (.int M), none, some (.ref D), v7, some (.ref l1), some (.ref l2), none, none, none, none, none, none, none, none, none, none, none, none] ∧ Kb b H3 H' ∧ BagAt H' b c 100 ∧
      PairsAt H' l1 xs ∧ PairsAt H' l2 ys ∧ xs.length = C ∧ ys.length = C ∧ (∀ r ∈ xs, 0 ≤ r.1 ∧ r.1 < r.2 ∧ r.2 ≤ 64) ∧ (∀ r ∈ ys, 0 ≤ r.1 ∧ r.1 < r.2 ∧ r.2 ≤ 64) ∧ cnt (los xs) (his xs) ≤ 1000 ∧ cnt (los ys) (his ys) ≤ 1000, ?_, ?_⟩
    · have all_ : ∀ {rs : List (Int × Int)} {q : Int × Int → Prop}, (∀ (i : Nat) r, rs[i]? = some r → q r) → ∀ r ∈ rs, q r := fun h r m => by
        obtain ⟨i, hi, e⟩ := List.mem_iff_getElem.mp m
        exact h i r (by rw [List.getElem?_eq_getElem hi, e])
      refine ⟨_, rfl, g, rfl, ite2 (fun e => ?_) (fun e => ?_)⟩
      · obtain ⟨q1, q2⟩ := Cg e
        have c3 : ∀ {rs : List (Int × Int)} {wd : Int}, rs.length = bs.length → (∀ (i : Nat) r, rs[i]? = some r → 0 ≤ r.1 ∧ r.1 < r.2 ∧ r.2 ≤ 64 ∧ ((i : Int) ≠ wd → r.2 ≤ r.1 + 2)) → cnt (los rs) (his rs) ≤ 1000 := fun {rs wd} el h => by
          have h1 := cnt_wide (rs := rs) (wd := wd) fun i r e => ⟨(h i r e).1, (h i r e).2.2⟩
          have h2 : 2 ^ rs.length ≤ 2 ^ 3 := Nat.pow_le_pow_right (by decide) (by omega)
          omega
        refine ⟨_, rfl, _, rfl, b, c, C, _, rfl, B3, by omega, by omega, by omega, fun wd H4 w0 wC o4 B4 => ?_⟩
        have k4 := o4.kb
        refine ⟨_, rfl, _, rfl, _, rfl, b, c, D, bs, wd, _, rfl, B4, by omega, k4 _ _ Db hD, Db, by omega, hb, fun l1 xs H5 k5 B5 p1 e1 f1 => ?_⟩
        refine ⟨_, rfl, _, rfl, _, rfl, b, c, D, bs, wd, _, rfl, B5, by omega, k5 _ _ Db (k4 _ _ Db hD), Db, by omega, hb, fun l2 ys H6 k6 B6 p2 e2 f2 => ?_⟩
        exact ⟨l1, l2, xs, ys, _, rfl, (k4.trans k5).trans k6, B6.mono (by omega), p1.kb k6 B5, p2, by omega, by omega, all_ fun i r e => ⟨(f1 i r e).1, (f1 i r e).2.1, (f1 i r e).2.2.1⟩, all_ fun i r e => ⟨(f2 i r e).1, (f2 i r e).2.1, (f2 i r e).2.2.1⟩, c3 e1 f1, c3 e2 f2⟩
      · have gt : ∀ {rs : List (Int × Int)}, rs.length = bs.length → (∀ (i : Nat) z r, bs[i]? = some z → rs[i]? = some r → z ≤ r.1 ∧ r.1 ≤ z + 2 ∧ r.1 < r.2 ∧ r.2 ≤ r.1 + M) → ∀ r ∈ rs, 0 ≤ r.1 ∧ r.1 < r.2 ∧ r.2 ≤ 64 ∧ r.2 ≤ r.1 + (3 : Nat) := fun {rs} el h r m => by
          obtain ⟨i, hi, e⟩ := List.mem_iff_getElem.mp m
          have hi2 : i < bs.length := by omega
          have := h i bs[i] r (List.getElem?_eq_getElem hi2) (by rw [List.getElem?_eq_getElem hi, e])
          have := hb _ (List.getElem_mem hi2)
          omega
        have c3 : ∀ {rs : List (Int × Int)}, rs.length = bs.length → (∀ r ∈ rs, 0 ≤ r.1 ∧ r.1 < r.2 ∧ r.2 ≤ 64 ∧ r.2 ≤ r.1 + (3 : Nat)) → cnt (los rs) (his rs) ≤ 1000 := fun {rs} el h => by
          have h1 := cnt_pow (m := 3) fun r m => (h r m).2.2.2
          have h2 : 3 ^ rs.length ≤ 3 ^ 5 := Nat.pow_le_pow_right (by decide) (by omega)
          omega
        refine ⟨_, rfl, _, rfl, _, rfl, b, c, D, bs, M, _, rfl, B3, by omega, hD, Db, by omega, M1, by omega, hb, fun l1 xs H5 k5 B5 p1 e1 f1 => ?_⟩
        refine ⟨_, rfl, _, rfl, _, rfl, b, c, D, bs, M, _, rfl, B5, by omega, k5 _ _ Db hD, Db, by omega, M1, by omega, hb, fun l2 ys H6 k6 B6 p2 e2 f2 => ?_⟩
        have g1 := gt e1 f1
        have g2 := gt e2 f2
        exact ⟨l1, l2, xs, ys, _, rfl, k5.trans k6, B6.mono (by omega), p1.kb k6 B5, p2, by omega, by omega, fun r m => ⟨(g1 r m).1, (g1 r m).2.1, (g1 r m).2.2.1⟩, fun r m => ⟨(g2 r m).1, (g2 r m).2.1, (g2 r m).2.2.1⟩, c3 e1 g1, c3 e2 g2⟩
    rintro σ' H4 ⟨l1, l2, xs, ys, v7, rfl, k4, B4, p1, p2, e1, e2, f1, f2, c1, c2⟩
    have r1 := rgs_ofAll f1
    have r2 := rgs_ofAll f2
    have el : xs.length = ys.length := by omega
    have el2 : (los xs).length = (los ys).length := by ((try simp only [List.length_map, List.length_take, List.length_drop, List.length_append, List.length_cons, List.length_nil, List.length_zipWith, List.length_set, List.length_replicate, List.length_range]) <;> omega)
    have k14 := k13.trans k4
    have ⟨nsB, pB, rB, kB, mB, hB, _⟩ := id B1
    have tabs4 : H4 (tabAt K (He.ga K "_law_cut")) = some (.tbl #[]) := by
      have h0 := s1 _ _ (hT _ List.mem_cons_self)
      refine k14 _ _ (fun z => ?_) h0
      have h0 : H1 (tabAt K (He.ga K "_law_cut")) = some (.tbl #[]) := h0
      rw [z, hB] at h0
      cases h0
    have tb4 : Tabs (lt__law_cut K) H4 := fun p hp => by
      obtain rfl := List.mem_singleton.mp hp
      exact TabS.nil tabs4
    have hD4 : H4 D = some (.lst (bs.map V.int)) := k4 _ _ Db hD
    have z2 : 2 ≤ sizeLine := by decide
    refine ⟨_, rfl, _, rfl, z2, fun L nL => ?_⟩
    generalize hq_ : L2.upd H4 L _ = H5
    obtain ⟨s5, o5⟩ := _root_.Q.nwS nL hq_
    clear hq_
    refine ⟨L, rfl, ⟨_, SqL.of o5⟩, ?_⟩
    refine for_list (xs := [.ref l1, .ref l2]) (fun i σ H' => (∃ v10 v11 v13 v15, σ = [some (.ref a), some (.ref b), some (.bl g), some (.int C), some (.int M), none, some (.ref D), v7, some (.ref l1), some (.ref l2), v10, v11, none, v13, none, v15, none, none, none, none, none, none]) ∧ L2.Same H5 H') ⟨⟨none, none, none, none, rfl⟩, Same.refl _⟩ (fun i σ H' _ q => SqL.of (q.2 _ _ o5)) ?_ ?_
    · rintro i x σ H' ex ⟨⟨v10, v11, v13, v15, rfl⟩, sm⟩
      have s45 := s5.trans sm
      obtain ⟨lr, rs, rfl, pr, fr, er, cr⟩ : ∃ lr rs, x = .ref lr ∧ PairsAt H' lr rs ∧ (∀ r ∈ rs, 0 ≤ r.1 ∧ r.1 < r.2 ∧ r.2 ≤ 64) ∧ rs.length = C ∧ cnt (los rs) (his rs) ≤ 1000 := match i, ex with
        | 0, ex => ⟨l1, xs, (Option.some.inj ex).symm, p1.same s45, f1, e1, c1⟩
        | 1, ex => ⟨l2, ys, (Option.some.inj ex).symm, p2.same s45, f2, e2, c2⟩
        | i + 2, ex => by cases ex
      have rg := rgs_ofAll fr
      refine ⟨_, rfl, lr, rs, rfl, pr, by omega, rg, fun y H6 s6 bx => ?_⟩
      refine ⟨_, rfl, _, rfl, y, lr, rs, rfl, bx, pr.same s6, rg, by omega, by omega, fun H7 s7 => ⟨_, rfl, iteF ?_⟩⟩
      have cz : cnt (los rs) (his rs) < sizeLine := by omega
      refine goTestOp ?_
      refine lcG_pts (y := y) (lz := los rs) (hz := his rs) ?hv ?hw ?hg (bx.nl (NL.same s7)) (within_low (rgs_full rg)) (by ((try simp only [List.length_map, List.length_take, List.length_drop, List.length_append, List.length_cons, List.length_nil, List.length_zipWith, List.length_set, List.length_replicate, List.length_range]) <;> omega)) cz fun q1 out H8 s8 h8 pO => ?_
      case hv => rfl
      case hw => exact fun _ => rfl
      case hg => exact fun _ => rfl
      have s68 := s7.trans s8
      refine ⟨_, rfl, lr, rs, rfl, pr.same (s6.trans s68), by omega, (fun r m => by have := fr r m; omega), by omega, fun q2 H9 s9 ps9 => ?_⟩
      obtain ⟨w9, h9, pw9⟩ := ps9
      refine ⟨_, _, dp_pts (SqL.of (s9 _ _ h8)) (Paired.mapP pO fun _ _ z => z.nl (NL.same s9)), dp_pts (SqL.of h9) (Paired.mapP pw9 fun _ _ z => ptS_of z), shaped_pts _, shaped_pts _, _, rfl, ?_⟩
      rw [eqv_pts, decide_eq_true rfl]
      refine iteF ?_
      have s69 := s68.trans s9
      have s49 := (s45.trans s6).trans s69
      refine ⟨_, rfl, l1, xs, rfl, p1.same s49, by omega, (fun r m => by have := f1 r m; omega), by omega, fun q3 H10 s10 ps10 => ?_⟩
      refine ⟨_, rfl, l2, ys, rfl, p2.same (s49.trans s10), by omega, (fun r m => by have := f2 r m; omega), by omega, fun q4 H11 s11 ps11 => ?_⟩
      obtain ⟨w3, hw3, pw3⟩ := ps10.same s11
      obtain ⟨w4, hw4, pw4⟩ := ps11
      have lw3 := paired_len pw3
      have lw4 := paired_len pw4
      rw [spots_len] at lw3 lw4
      refine ⟨q3, q4, _, _, rfl, rfl, hw3, hw4, (by rw [lw3, lw4]; omega), fun q5 n5 => ?_⟩
      generalize hq_ : L2.upd H11 q5 _ = H12
      obtain ⟨s12, o12⟩ := _root_.Q.nwS n5 hq_
      clear hq_
      have pw := paired_app pw3 pw4
      have s4c := ((s49.trans s10).trans s11).trans s12
      refine ⟨fun σ' H' => ∃ (q : Addr) (ps : List (List Int)), σ' = [some (.ref a), some (.ref b), some (.bl g), some (.int C), some (.int M), none, some (.ref D), v7, some (.ref l1), some (.ref l2), some (.ref lr), some (.ref y), none, some (.ref q), none, v15, none, none, none, none, none, none] ∧ L2.Same H12 H' ∧ SpotsAt H' q ps ∧ ps.length ≤ 10000, ?_, ?_⟩
      · have no : ∃ (q : Addr) (ps : List (List Int)), [some (V.ref a), some (.ref b), some (.bl g), some (.int C), some (.int M), none, some (.ref D), v7, some (.ref l1), some (.ref l2), some (.ref lr), some (.ref y), none, some (.ref q5), none, v15, none, none, none, none, none, none] = [some (.ref a), some (.ref b), some (.bl g), some (.int C), some (.int M), none, some (.ref D), v7, some (.ref l1), some (.ref l2), some (.ref lr), some (.ref y), none, some (.ref q), none, v15, none, none, none, none, none, none] ∧ L2.Same H12 H12 ∧ SpotsAt H12 q ps ∧ ps.length ≤ 10000 :=
          ⟨q5, _, rfl, Same.refl _, ⟨_, o12, Paired.mapP pw fun _ _ z => z.nl (NL.same s12)⟩, by rw [List.length_append, spots_len, spots_len]; omega⟩
        refine ⟨_, rfl, _, _, rfl, rfl, _, rfl, ite2 (fun e => ?_) (fun e => ?_)⟩
        · refine ⟨_, rfl, g, rfl, ite2 (fun e' => ?_) (fun e' => ?_)⟩
          · have e := of_decide_eq_true e
            have C3 : C ≤ 3 := by omega
            refine ⟨_, rfl, D, rfl, ⟨_, SqL.of (s4c _ _ hD4)⟩, fun E nE => ?_⟩
            refine lc_each (S := fun _ v (z : Int) => v = .int z) (f := fun z : Int => (z, z + 6)) (R := prRel) (fun _ _ _ _ k z => z.nl k) (fun _ _ _ _ _ z => z) nE (SqL.of (s4c _ _ hD4)) (paired_ints bs) (small1000 (by omega)) (fun x z Hx R' N sx ez k => ?_) fun H13 us s13 hU pU => ?_
            · subst ez
              refine ⟨rfl, _, rfl, _, rfl, _, _, rfl, rfl, z2, fun q nq => ?_⟩
              generalize hq_ : L2.upd Hx q _ = Hy
              obtain ⟨sy, oy⟩ := _root_.Q.nwS nq hq_
              clear hq_
              exact k _ _ sy ⟨q, rfl, oy⟩
            have cb : cnt (los (bs.map fun z => (z, z + 6))) (his (bs.map fun z => (z, z + 6))) ≤ 1000 := by
              have h1 := cnt_pow (m := 6) (rs := bs.map fun z => (z, z + 6)) fun r m => by
                obtain ⟨z, _, rfl⟩ := List.mem_map.mp m
                show z + 6 ≤ z + (6 : Nat)
                omega
              have h2 : 6 ^ (bs.map fun z : Int => (z, z + 6)).length ≤ 6 ^ 3 := Nat.pow_le_pow_right (by decide) (by ((try simp only [List.length_map, List.length_take, List.length_drop, List.length_append, List.length_cons, List.length_nil, List.length_zipWith, List.length_set, List.length_replicate, List.length_range]) <;> omega))
              omega
            refine ⟨E, _, rfl, pairsAt_of hU pU, by omega, (fun r m => by
              obtain ⟨z, mz, rfl⟩ := List.mem_map.mp m
              have := hb z mz
              show -1000 ≤ z ∧ z < z + 6 ∧ z + 6 ≤ 1000
              omega), by ((try simp only [List.length_map, List.length_take, List.length_drop, List.length_append, List.length_cons, List.length_nil, List.length_zipWith, List.length_set, List.length_replicate, List.length_range]) <;> omega), fun q6 H14 s14 ps14 => ?_⟩
            exact ⟨q6, _, rfl, s13.trans s14, ps14, by rw [spots_len]; omega⟩
          · exact no
        · exact no
      rintro σ' H13 ⟨q, ps, rfl, s13, psq, lps⟩
      have s4d := s4c.trans s13
      have s5d := (((sm.trans s6).trans s69).trans s10).trans ((s11.trans s12).trans s13)
      have pr13 := pr.same ((((s6.trans s69).trans s10).trans s11).trans (s12.trans s13))
      have bx13 := bx.nl (NL.same ((s69.trans s10).trans ((s11.trans s12).trans s13)))
      refine ⟨_, rfl, lr, rs, rfl, pr13, by omega, (fun r m => by have := fr r m; omega), by omega, fun q6 H14 s14 ps14 => ?_⟩
      obtain ⟨w6, hw6, pw6⟩ := ps14
      refine ⟨q6, rfl, ⟨_, SqL.of hw6⟩, fun E nE => ?_⟩
      refine lc_each (S := ptRel) (f := fun p => p) (R := kvRel) (fun _ _ _ _ k z => z.nl k) (fun _ _ _ _ k z => z.nl k) nE (SqL.of hw6) pw6 (by rw [spots_len]; omega) (fun x p Hx R' N sx ⟨tp, ex, hp⟩ k => ?_) fun H15 us s15 hU pU => ?_
      · subst ex
        refine ⟨rfl, _, rfl, z2, fun q nq => ?_⟩
        generalize hq_ : L2.upd Hx q _ = Hy
        obtain ⟨sy, oy⟩ := _root_.Q.nwS nq hq_
        clear hq_
        exact k _ _ sy ⟨q, tp, rfl, oy, sy _ _ hp⟩
      rw [List.map_id'] at pU
      refine dictPts_of hU pU fun dd nd' => ?_
      generalize hq_ : L2.upd H15 dd _ = H16
      obtain ⟨s16, o16⟩ := _root_.Q.nwS nd' hq_
      clear hq_
      have s36 := (s14.trans s15).trans s16
      obtain ⟨wq, hq, pq⟩ := psq.same s36
      refine ⟨_, rfl, q, rfl, ⟨_, SqL.of hq⟩, fun E2 nE2 => ?_⟩
      refine lc_pick (S := ptRel) (p := fun p => decide (p ∈ pts rs)) (R := ptRel) (fun _ _ _ _ k z => z.nl k) (fun _ _ _ _ k z => z.nl k) nE2 (SqL.of hq) pq (by omega) (fun x p Hx R' N sx ⟨tp, ex, hp⟩ k1 k2 => ?_) fun H17 us1 s17 hU1 pU1 => ?_
      · subst ex
        have bxx := bx13.nl (NL.same (s36.trans sx))
        obtain ⟨dy, tl, th, tt, fs, g1, g2, g3⟩ := id bxx
        refine ⟨rfl, _, rfl, y, dy, fs, rfl, g1, g2.2, _, rfl, y, tp, los rs, his rs, p, rfl, bxx, (by ((try simp only [List.length_map, List.length_take, List.length_drop, List.length_append, List.length_cons, List.length_nil, List.length_zipWith, List.length_set, List.length_replicate, List.length_range]) <;> omega)), SqT.of hp, fun Hz sz => ?_⟩
        rw [holds_pts]
        refine ⟨_, rfl, ite2 (fun q => ?_) (fun q => ?_)⟩
        · exact ⟨_, rfl, k1 q _ _ sz ⟨tp, rfl, sz _ _ hp⟩⟩
        · exact k2 (Bool.eq_false_iff.mpr q) _ sz
      refine ⟨_, rfl, q, rfl, ⟨_, SqL.of (s17 _ _ hq)⟩, fun E3 nE3 => ?_⟩
      refine lc_pick (S := ptRel) (p := fun p => decide (p ∈ pts rs)) (R := ptRel) (fun _ _ _ _ k z => z.nl k) (fun _ _ _ _ k z => z.nl k) nE3 (SqL.of (s17 _ _ hq)) (Paired.mapP pq fun _ _ z => z.nl (NL.same s17)) (by omega) (fun x p Hx R' N sx ⟨tp, ex, hp⟩ k1 k2 => ?_) fun H18 us2 s18 hU2 pU2 => ?_
      · subst ex
        obtain ⟨o, hg, ho⟩ := dget_pt (sx _ _ (s17 _ _ o16)) hp
        refine ⟨rfl, _, rfl, _, rfl, dd, o, rfl, hg, ?_⟩
        rw [ho]
        refine ⟨_, rfl, ite2 (fun q => ?_) (fun q => ?_)⟩
        · exact ⟨_, rfl, k1 q _ _ (Same.refl _) ⟨tp, rfl, hp⟩⟩
        · exact k2 (Bool.eq_false_iff.mpr q) _ (Same.refl _)
      refine ⟨_, _, dp_pts (SqL.of (s18 _ _ hU1)) (Paired.mapP pU1 fun _ _ z => ptS_of (z.nl (NL.same s18))), dp_pts (SqL.of hU2) (Paired.mapP pU2 fun _ _ z => ptS_of z), shaped_pts _, shaped_pts _, _, rfl, ?_⟩
      rw [eqv_pts, decide_eq_true rfl]
      refine iteF ?_
      have s38 := (s36.trans s17).trans s18
      have bx18 := bx13.nl (NL.same s38)
      obtain ⟨dy, tl, th, tt, fs, g1, g2, g3, g4, g5, g6, g7, g8, g9⟩ := id bx18
      refine ⟨_, rfl, y, dy, fs, rfl, g1, g2.2, (by show 1 ≤ sizeLine; decide), fun t0 n0 => ?_⟩
      generalize hq_ : L2.upd H18 t0 _ = H19
      obtain ⟨s19, o19⟩ := _root_.Q.nwS n0 hq_
      clear hq_
      refine ⟨_, rfl, _, _, rfl, rfl, t0, _, _, rfl, rfl, SqT.of o19, (fun z => by cases z), by omega, by omega, (by show 1 ≤ 1000; decide), fun t1 H20 s20 sq => ?_⟩
      have bx20 := bx18.nl (NL.same (s19.trans s20))
      have ez : (List.replicate ((C : Int) + 1).toNat [V.int 0]).flatten = (List.replicate (C + 1) (0 : Int)).map V.int := by
        rw [show ((C : Int) + 1).toNat = C + 1 by omega]
        simp
      rw [ez] at sq
      refine ⟨y, t1, los rs, his rs, _, rfl, bx20, (by ((try simp only [List.length_map, List.length_take, List.length_drop, List.length_append, List.length_cons, List.length_nil, List.length_zipWith, List.length_set, List.length_replicate, List.length_range]) <;> omega)), sq, fun H21 s21 => ⟨_, _, rfl, rfl, _, rfl, ?_⟩⟩
      rw [decide_eq_false (show ¬ (List.replicate (C + 1) (0 : Int)).length = (los rs).length by ((try simp only [List.length_map, List.length_take, List.length_drop, List.length_append, List.length_cons, List.length_nil, List.length_zipWith, List.length_set, List.length_replicate, List.length_range]) <;> omega))]
      refine iteF ?_
      have s3z := ((s38.trans s19).trans s20).trans s21
      have fin : ∀ H9, L2.Same H13 H9 → (∃ v10 v11 v13 v15_1, [some (V.ref a), some (.ref b), some (.bl g), some (.int C), some (.int M), none, some (.ref D), v7, some (.ref l1), some (.ref l2), some (.ref lr), some (.ref y), none, some (.ref q), none, some (.ref dd), none, none, none, none, none, none] = [some (.ref a), some (.ref b), some (.bl g), some (.int C), some (.int M), none, some (.ref D), v7, some (.ref l1), some (.ref l2), v10, v11, none, v13, none, v15_1, none, none, none, none, none, none]) ∧ L2.Same H5 H9 := fun H9 s9 => ⟨⟨_, _, _, _, rfl⟩, s5d.trans s9⟩
      refine ⟨_, rfl, _, _, rfl, rfl, _, rfl, ite2 (fun e => ?_) (fun e => ?_)⟩
      · have e := of_decide_eq_true e
        obtain ⟨dy, tl, th, tt, fs, g1, g2, g3, g4, g5, g6, g7, g8, g9⟩ := id (bx20.nl (NL.same s21))
        refine ⟨_, rfl, y, dy, fs, rfl, g1, g2.2, _, rfl, y, _, dy, _, _, rfl, g1, T.cls_Box, T.noat_Box_lows, g3, 1, rfl, _, rfl, tl, _, rfl, g7, fun z => ?_, fun _ t2 n2 => ?_⟩
        · exfalso
          have z := z.2
          rw [sIx_last, List.length_map, List.length_map] at z
          omega
        generalize hq_ : L2.upd H21 t2 _ = H22
        obtain ⟨s22, o22⟩ := _root_.Q.nwS n2 hq_
        clear hq_
        rw [cutV_last, ← List.map_take] at o22
        refine ⟨y, t2, los rs, his rs, _, rfl, (bx20.nl (NL.same s21)).nl (NL.same s22), (by ((try simp only [List.length_map, List.length_take, List.length_drop, List.length_append, List.length_cons, List.length_nil, List.length_zipWith, List.length_set, List.length_replicate, List.length_range]) <;> omega)), SqT.of o22, fun H23 s23 => ⟨_, _, rfl, rfl, _, rfl, ?_⟩⟩
        rw [decide_eq_false (show ¬ ((los rs).take (((los rs).map V.int).length - 1)).length = (los rs).length by ((try simp only [List.length_map, List.length_take, List.length_drop, List.length_append, List.length_cons, List.length_nil, List.length_zipWith, List.length_set, List.length_replicate, List.length_range]) <;> omega))]
        refine iteF ?_
        exact fin _ ((s3z.trans s22).trans s23)
      · exact fin _ s3z
    rintro σ H6 ⟨⟨v10, v11, v13, v15, rfl⟩, s6⟩
    have s46 := s5.trans s6
    refine ⟨_, rfl, l1, xs, rfl, p1.same s46, by omega, r1, fun y1 H7 s7 b1 => ?_⟩
    refine ⟨_, rfl, l2, ys, rfl, p2.same (s46.trans s7), by omega, r2, fun y2 H8 s8 b2 => ?_⟩
    have b1 := b1.nl (NL.same s8)
    have ⟨dy1, _, _, _, fs1, g1, _⟩ := id b1
    have ⟨dy2, _, _, _, fs2, g2, _⟩ := id b2
    refine ⟨y1, y2, _, _, _, _, rfl, rfl, g1, g2, y1, y2, _, _, _, _, rfl, b1, b2, fun H9 s9 => ?_⟩
    have s49 := ((s46.trans s7).trans s8).trans s9
    rw [lohi_inj]
    refine ⟨_, rfl, _, rfl, _, rfl, _, _, dp_prs (p1.same s49), dp_prs (p2.same s49), shaped_pts _, shaped_pts _, rfl, false, ?_, iteF ?_⟩
    · rw [eqv_pts, prL_inj, if_neg Bool.false_ne_true, decide_eq_true rfl]
      rfl
    refine ⟨_, rfl, _, rfl, l1, l2, xs, ys, rfl, p1.same s49, p2.same s49, el, by omega, r1, r2, by omega, fun H10 s10 => ⟨_, rfl, iteF ?_⟩⟩
    have s4a := s49.trans s10
    refine ⟨_, rfl, _, rfl, l2, l1, ys, xs, rfl, p2.same s4a, p1.same s4a, el.symm, by omega, r2, r1, by omega, fun H11 s11 => ⟨_, rfl, iteF ?_⟩⟩
    have s4b := s4a.trans s11
    refine ⟨_, rfl, C, rfl, by omega, by omega, ?_⟩
    rw [Int.toNat_natCast]
    refine for_range (lo := 0) (n := C) (fun i σ H' => (∃ v16, σ = [some (.ref a), some (.ref b), some (.bl g), some (.int C), some (.int M), none, some (.ref D), v7, some (.ref l1), some (.ref l2), v10, v11, none, v13, none, v15, v16, none, none, none, none, none]) ∧ L2.Same H4 H') ⟨⟨none, rfl⟩, s4b⟩ ?_ ?_
    · rintro i σ H' hi ⟨⟨v16, rfl⟩, sm⟩
      rw [Int.zero_add]
      refine ⟨_, rfl, _, rfl, _, rfl, l1, l2, xs, ys, i, rfl, p1.same sm, p2.same sm, el, by omega, by omega, r1, r2, by omega, by omega, fun Ha sa => ⟨_, rfl, iteF ?_⟩⟩
      have s1' := sm.trans sa
      refine ⟨_, rfl, _, rfl, _, rfl, l2, l1, ys, xs, i, rfl, p2.same s1', p1.same s1', el.symm, by omega, by omega, r2, r1, by omega, by omega, fun Hb sb => ⟨_, rfl, iteF ?_⟩⟩
      have s2' := s1'.trans sb
      refine ⟨_, rfl, _, rfl, _, rfl, l1, l1, xs, xs, i, rfl, p1.same s2', p1.same s2', rfl, by omega, by omega, r1, r1, by omega, by omega, fun Hc sc => ⟨_, rfl, iteF ?_⟩⟩
      exact ⟨⟨_, rfl⟩, s2'.trans sc⟩
    rintro σ H12 ⟨⟨v16, rfl⟩, s4c⟩
    refine ⟨_, rfl, _, rfl, l1, l2, xs, ys, rfl, p1.same s4c, p2.same s4c, el, by omega, r1, r2, by omega, by omega, tb4.ext s4c, fun H13 e13 t13 => ⟨_, rfl, iteF ?_⟩⟩
    have x13 := (ExtN.of s4c).trans e13
    refine ⟨_, rfl, _, rfl, l2, l1, ys, xs, rfl, p2.ext x13, p1.ext x13, el.symm, by omega, r2, r1, by omega, by omega, t13, fun H14 e14 _ => ⟨_, rfl, iteF ?_⟩⟩
    have x14 := x13.trans e14
    refine goTestOp ?_
    refine ⟨_, rfl, l1, xs, rfl, p1.ext x14, by omega, r1, fun y3 H15 s15 b3 => ?_⟩
    refine ⟨_, rfl, l1, xs, rfl, (p1.ext x14).same s15, by omega, r1, fun y4 H16 s16 b4 => ?_⟩
    refine ⟨y3, y4, _, _, _, _, rfl, b3.nl (NL.same s16), b4, r1, r1, by ((try simp only [List.length_map, List.length_take, List.length_drop, List.length_append, List.length_cons, List.length_nil, List.length_zipWith, List.length_set, List.length_replicate, List.length_range]) <;> omega), fun z => absurd rfl z, fun _ => ⟨fun al => ?_, fun al q us H17 s17 hq pq => ?_⟩⟩
    · rw [mxs_self, mns_self, rgs_allLt r1] at al
      cases al
    rw [mxs_self, mns_self, cuts_self, List.mergeSort_nil] at pq
    cases pq
    refine ⟨Nat.zero_le _, fun t nt => ?_⟩
    generalize hq_ : L2.upd H17 t _ = H18
    obtain ⟨s18, o18⟩ := _root_.Q.nwS nt hq_
    clear hq_
    refine ⟨.tuple [], .tuple [], .tup (sqT_same s18 hq) .nil, .tup (SqT.of o18) .nil, rfl, rfl, _, rfl, iteF ?_⟩
    have x18 := (x14.trans (ExtN.of (s15.trans s16))).trans (ExtN.of (s17.trans s18))
    have B18 := B4.ext x18
    have P1 := p1.ext x18
    have P2 := p2.ext x18
    refine ⟨fun σ' H' => ∃ (ln : Addr) (zs : List (Int × Int)), σ' = [some (.ref a), some (.ref b), some (.bl g), some (.int C), some (.int M), none, some (.ref D), v7, some (.ref l1), some (.ref l2), v10, v11, none, v13, none, v15, v16, some (.ref ln), none, none, none, none] ∧ Kb b H18 H' ∧ BagAt H' b c 101 ∧ PairsAt H' l1 xs ∧ PairsAt H' l2 ys ∧ PairsAt H' ln zs ∧ zs.length ≠ C ∧ zs.length ≤ 5 ∧ (∀ r ∈ zs, 0 ≤ r.1 ∧ r.1 < r.2 ∧ r.2 ≤ 64), ?_, ?_⟩
    · refine ⟨_, rfl, rfl, _, rfl, ite2 (fun e => ?_) (fun e => ?_)⟩
      · have e : C = 5 := by
          have := V.int.inj (of_decide_eq_true e)
          omega
        refine iteT ?_
        obtain ⟨vx, hx, px⟩ := (P1).paired
        have lvx := paired_len px
        refine ⟨_, rfl, 1, rfl, _, rfl, l1, _, rfl, SqL.of hx, fun p np => ?_⟩
        rw [cutV_last]
        generalize hq_ : L2.upd H18 p _ = Ht
        obtain ⟨st, ot⟩ := _root_.Q.nwS np hq_
        clear hq_
        exact ⟨p, xs.take (vx.length - 1), rfl, Kb.trans (Kb.refl b H18) (Kb.of_same st), (B18.mono (n' := 101) (by omega)).same st, (P1).same st, (P2).same st, pairsAt_of ot (Paired.mapP (paired_take _ px) fun _ _ z => z.nl (NL.same st)), by ((try simp only [List.length_map, List.length_take, List.length_drop, List.length_append, List.length_cons, List.length_nil, List.length_zipWith, List.length_set, List.length_replicate, List.length_range]) <;> omega), by ((try simp only [List.length_map, List.length_take, List.length_drop, List.length_append, List.length_cons, List.length_nil, List.length_zipWith, List.length_set, List.length_replicate, List.length_range]) <;> omega), fun r m => f1 r (List.mem_of_mem_take m)⟩
      · have e : C ≠ 5 := fun z => e (decide_eq_true (by rw [z]; rfl))
        refine ⟨_, rfl, _, _, rfl, rfl, _, rfl, ite2 (fun e2 => ?_) (fun e2 => ?_)⟩
        · have e2 := of_decide_eq_true e2
          refine ⟨_, rfl, b, c, 2, _, rfl, B18, by decide, by decide, by decide, fun r H19 w0 w2 o19 B19 => ?_⟩
          have k19 := o19.kb
          have P1' := P1.kb k19 B18
          have P2' := P2.kb k19 B18
          refine ⟨rfl, _, rfl, ite2 (fun e3 => ?_) (fun e3 => ?_)⟩
          · obtain ⟨vx, hx, px⟩ := (P1').paired
            have lvx := paired_len px
            refine ⟨_, rfl, 1, rfl, _, rfl, l1, _, rfl, SqL.of hx, fun p np => ?_⟩
            rw [cutV_last]
            generalize hq_ : L2.upd H19 p _ = Ht
            obtain ⟨st, ot⟩ := _root_.Q.nwS np hq_
            clear hq_
            exact ⟨p, xs.take (vx.length - 1), rfl, Kb.trans k19 (Kb.of_same st), (B19).same st, (P1').same st, (P2').same st, pairsAt_of ot (Paired.mapP (paired_take _ px) fun _ _ z => z.nl (NL.same st)), by ((try simp only [List.length_map, List.length_take, List.length_drop, List.length_append, List.length_cons, List.length_nil, List.length_zipWith, List.length_set, List.length_replicate, List.length_range]) <;> omega), by ((try simp only [List.length_map, List.length_take, List.length_drop, List.length_append, List.length_cons, List.length_nil, List.length_zipWith, List.length_set, List.length_replicate, List.length_range]) <;> omega), fun r m => f1 r (List.mem_of_mem_take m)⟩
          · obtain ⟨vx, hx, px⟩ := (P1').paired
            have lvx := paired_len px
            refine ⟨_, rfl, z2, fun t nt => ?_⟩
            generalize hq_ : L2.upd H19 t _ = Ht
            obtain ⟨st, ot⟩ := _root_.Q.nwS nt hq_
            clear hq_
            refine ⟨(by show 1 ≤ sizeLine; decide), fun q nq => ?_⟩
            generalize hq_ : L2.upd Ht q _ = Hu
            obtain ⟨su, ou⟩ := _root_.Q.nwS nq hq_
            clear hq_
            refine ⟨l1, q, _, _, rfl, rfl, su _ _ (st _ _ hx), ou, (by ((try simp only [List.length_map, List.length_take, List.length_drop, List.length_append, List.length_cons, List.length_nil, List.length_zipWith, List.length_set, List.length_replicate, List.length_range]) <;> omega)), fun p np => ?_⟩
            generalize hq_ : L2.upd Hu p _ = Hv
            obtain ⟨sv, ov⟩ := _root_.Q.nwS np hq_
            clear hq_
            have sw := (st.trans su).trans sv
            exact ⟨p, xs ++ [(1, 3)], rfl, Kb.trans k19 (Kb.of_same sw), (B19).same sw, (P1').same sw, (P2').same sw, pairsAt_of ov (paired_app (Paired.mapP px fun _ _ z => z.nl (NL.same sw)) (.cons ⟨t, rfl, sv _ _ (su _ _ ot)⟩ .nil)), by ((try simp only [List.length_map, List.length_take, List.length_drop, List.length_append, List.length_cons, List.length_nil, List.length_zipWith, List.length_set, List.length_replicate, List.length_range]) <;> omega), by ((try simp only [List.length_map, List.length_take, List.length_drop, List.length_append, List.length_cons, List.length_nil, List.length_zipWith, List.length_set, List.length_replicate, List.length_range]) <;> omega), fun r m => (List.mem_append.mp m).elim (f1 r) fun m => by rw [List.mem_singleton.mp m]; decide⟩
        · refine iteF ?_
          obtain ⟨vx, hx, px⟩ := (P1).paired
          have lvx := paired_len px
          refine ⟨_, rfl, z2, fun t nt => ?_⟩
          generalize hq_ : L2.upd H18 t _ = Ht
          obtain ⟨st, ot⟩ := _root_.Q.nwS nt hq_
          clear hq_
          refine ⟨(by show 1 ≤ sizeLine; decide), fun q nq => ?_⟩
          generalize hq_ : L2.upd Ht q _ = Hu
          obtain ⟨su, ou⟩ := _root_.Q.nwS nq hq_
          clear hq_
          refine ⟨l1, q, _, _, rfl, rfl, su _ _ (st _ _ hx), ou, (by ((try simp only [List.length_map, List.length_take, List.length_drop, List.length_append, List.length_cons, List.length_nil, List.length_zipWith, List.length_set, List.length_replicate, List.length_range]) <;> omega)), fun p np => ?_⟩
          generalize hq_ : L2.upd Hu p _ = Hv
          obtain ⟨sv, ov⟩ := _root_.Q.nwS np hq_
          clear hq_
          have sw := (st.trans su).trans sv
          exact ⟨p, xs ++ [(1, 3)], rfl, Kb.trans (Kb.refl b H18) (Kb.of_same sw), (B18.mono (n' := 101) (by omega)).same sw, (P1).same sw, (P2).same sw, pairsAt_of ov (paired_app (Paired.mapP px fun _ _ z => z.nl (NL.same sw)) (.cons ⟨t, rfl, sv _ _ (su _ _ ot)⟩ .nil)), by ((try simp only [List.length_map, List.length_take, List.length_drop, List.length_append, List.length_cons, List.length_nil, List.length_zipWith, List.length_set, List.length_replicate, List.length_range]) <;> omega), by ((try simp only [List.length_map, List.length_take, List.length_drop, List.length_append, List.length_cons, List.length_nil, List.length_zipWith, List.length_set, List.length_replicate, List.length_range]) <;> omega), fun r m => (List.mem_append.mp m).elim (f1 r) fun m => by rw [List.mem_singleton.mp m]; decide⟩
    rintro σ H19 ⟨ln, zs, rfl, k19, B19, P1, P2, Pn, nzC, nz5, fz⟩
    have rz := rgs_ofAll fz
    refine ⟨fun σ' H' => ∃ (v : V) (tn : String) (d : PyData), σ' = [some (.ref a), some (.ref b), some (.bl g), some (.int C), some (.int M), none, some (.ref D), v7, some (.ref l1), some (.ref l2), v10, v11, none, v13, none, v15, v16, some (.ref ln), some v, none, none, none] ∧ Kb b H19 H' ∧ (∀ H', Kn H' v tn) ∧ (∀ H', Dp K H' v d) ∧ SeqAt.shaped d = true ∧ PyData.eqv d d = true ∧ wholeV v 0 ((C : Int) - 1) = false, ?_, ?_⟩
    · refine ⟨_, rfl, 1, rfl, _, rfl, _, rfl, b, c, 1000000, _, rfl, B19, by decide, by decide, by decide, fun r H20 w0 w1 o20 B20 => ⟨_, _, rfl, rfl, (by show 6 ≤ sizeLine; decide), fun p np => ?_⟩⟩
      generalize hq_ : L2.upd H20 p _ = H21
      obtain ⟨s21, o21⟩ := _root_.Q.nwS np hq_
      clear hq_
      have B21 := B20.same s21
      have pb : p ≠ b := (B20.new np).1
      refine ⟨_, rfl, b, c, 6, _, rfl, B21, by decide, by decide, by decide, fun ix H22 i0 i6 o22 B22 => ?_⟩
      obtain ⟨j, rfl⟩ : ∃ m : Nat, ix = m := ⟨ix.toNat, by omega⟩
      have hp := o22.kb _ _ pb o21
      have kk : Kb b H19 H22 := (o20.kb.trans (Kb.of_same s21)).trans o22.kb
      match j, i6 with
      | 0, _ =>
        refine ⟨p, _, _, _, rfl, rfl, SqL.of hp, atI_nat (j := 0) rfl, _, "int", .int C, rfl, kk, fun _ => .int _, fun _ => .int _, rfl, by simp [PyData.eqv], ?_⟩
        show (decide ((0 : Int) ≤ C) && decide ((C : Int) ≤ (C : Int) - 1)) = false
        rw [decide_eq_false (show ¬ (C : Int) ≤ (C : Int) - 1 by omega), Bool.and_false]
      | 1, _ => exact ⟨p, _, _, _, rfl, rfl, SqL.of hp, atI_nat (j := 1) rfl, _, "int", .int (-1), rfl, kk, fun _ => .int _, fun _ => .int _, rfl, by simp [PyData.eqv], rfl⟩
      | 2, _ => exact ⟨p, _, _, _, rfl, rfl, SqL.of hp, atI_nat (j := 2) rfl, _, "bool", .bool true, rfl, kk, fun _ => .bl _, fun _ => .bl _, rfl, by simp [PyData.eqv], rfl⟩
      | 3, _ => exact ⟨p, _, _, _, rfl, rfl, SqL.of hp, atI_nat (j := 3) rfl, _, "NoneType", .none, rfl, kk, fun _ => .non, fun _ => .non, rfl, by simp [PyData.eqv], rfl⟩
      | 4, _ => exact ⟨p, _, _, _, rfl, rfl, SqL.of hp, atI_nat (j := 4) rfl, _, "str", .str "a", rfl, kk, fun _ => .str _, fun _ => .str _, by decide +kernel, by simp [PyData.eqv], rfl⟩
      | 5, _ =>
        refine ⟨p, _, _, _, rfl, rfl, SqL.of hp, atI_nat (j := 5) rfl, _, "int", .int (C + r), rfl, kk, fun _ => .int _, fun _ => .int _, rfl, by simp [PyData.eqv], ?_⟩
        show (decide ((0 : Int) ≤ C + r) && decide ((C : Int) + r ≤ (C : Int) - 1)) = false
        rw [decide_eq_false (show ¬ (C : Int) + r ≤ (C : Int) - 1 by omega), Bool.and_false]
      | j + 6, h => omega
    rintro σ H20 ⟨v, tn, d, rfl, k20, kn, dp, sh, ev, wv⟩
    have P1 := P1.kb k20 B19
    have P2 := P2.kb k20 B19
    have Pn := Pn.kb k20 B19
    refine ⟨_, rfl, l1, xs, rfl, P1, by omega, r1, fun y1 Ha sa b1 => ?_⟩
    refine ⟨_, rfl, ln, zs, rfl, Pn.same sa, by omega, rz, fun y2 Hb sb b2 => ?_⟩
    refine ⟨y1, y2, _, _, _, _, rfl, b1.nl (NL.same sb), b2, r1, rz, (by ((try simp only [List.length_map, List.length_take, List.length_drop, List.length_append, List.length_cons, List.length_nil, List.length_zipWith, List.length_set, List.length_replicate, List.length_range]) <;> omega)), (by ((try simp only [List.length_map, List.length_take, List.length_drop, List.length_append, List.length_cons, List.length_nil, List.length_zipWith, List.length_set, List.length_replicate, List.length_range]) <;> omega)), (by ((try simp only [List.length_map, List.length_take, List.length_drop, List.length_append, List.length_cons, List.length_nil, List.length_zipWith, List.length_set, List.length_replicate, List.length_range]) <;> omega)), ⟨_, rfl, iteF ?_⟩⟩
    have sB := sa.trans sb
    refine ⟨_, rfl, ln, zs, rfl, Pn.same sB, by omega, rz, fun y3 Hc sc b3 => ?_⟩
    refine ⟨_, rfl, l1, xs, rfl, P1.same (sB.trans sc), by omega, r1, fun y4 Hd sd b4 => ?_⟩
    have sD := (sB.trans sc).trans sd
    refine ⟨_, rfl, y3, y4, v, tn, d, _, _, _, _, _, rfl, b3.nl (NL.same sd), b4, rz, r1, (by ((try simp only [List.length_map, List.length_take, List.length_drop, List.length_append, List.length_cons, List.length_nil, List.length_zipWith, List.length_set, List.length_replicate, List.length_range]) <;> omega)), kn, dp, sh, ev, .inl ⟨by ((try simp only [List.length_map, List.length_take, List.length_drop, List.length_append, List.length_cons, List.length_nil, List.length_zipWith, List.length_set, List.length_replicate, List.length_range]) <;> omega), rfl⟩, fun He se => ⟨_, rfl, iteF ?_⟩⟩
    have sE := sD.trans se
    refine ⟨_, rfl, l1, xs, rfl, P1.same sE, by omega, r1, fun y5 Hf sf b5 => ?_⟩
    refine ⟨_, rfl, l2, ys, rfl, P2.same (sE.trans sf), by omega, r2, fun y6 Hg sg b6 => ?_⟩
    have sG := (sE.trans sf).trans sg
    refine ⟨_, rfl, y5, y6, v, tn, d, _, _, _, _, _, rfl, b5.nl (NL.same sg), b6, r1, r2, (by ((try simp only [List.length_map, List.length_take, List.length_drop, List.length_append, List.length_cons, List.length_nil, List.length_zipWith, List.length_set, List.length_replicate, List.length_range]) <;> omega)), kn, dp, sh, ev, .inr ⟨el2, (by rw [List.length_map, e1]; exact wv), rfl⟩, fun Hh sh' => ⟨_, rfl, iteF ?_⟩⟩
    have sH := sG.trans sh'
    obtain ⟨vx, hx, px⟩ := (P1.same sH).paired
    refine ⟨_, rfl, l1, rfl, ⟨_, SqL.of hx⟩, fun E nE => ?_⟩
    refine lc_each (S := prRel) (f := fun r : Int × Int => r.2 - r.1) (R := fun _ v c => v = .int c) (fun _ _ _ _ _ z => z) (fun _ _ _ _ k z => z.nl k) nE (SqL.of hx) px (small1000 (by omega)) (fun x c H3 R' N s3 ⟨t, e, ht⟩ q => ?_) fun Hi us si hE pE => ?_
    · subst e
      exact ⟨rfl, _, rfl, t, _, _, _, rfl, rfl, SqT.of ht, rfl, _, rfl, t, _, _, _, rfl, rfl, SqT.of ht, rfl, _, _, rfl, rfl, q _ _ (Same.refl _) rfl⟩
    have ivs : ∀ {as : List V} {bs : List Int}, Paired (fun v (c : Int) => v = .int c) as bs → as = bs.map V.int := fun h => by
      induction h with
      | nil => rfl
      | cons a _ ih => rw [a, ih]; rfl
    rw [ivs pE] at hE
    have cw := cnt_shift xs
    have lw : (xs.map fun r : Int × Int => r.2 - r.1).length = C := by ((try simp only [List.length_map, List.length_take, List.length_drop, List.length_append, List.length_cons, List.length_nil, List.length_zipWith, List.length_set, List.length_replicate, List.length_range]) <;> omega)
    have bw : ∀ z ∈ xs.map (fun r : Int × Int => r.2 - r.1), 1 ≤ z ∧ z ≤ 64 := fun z m => by
      obtain ⟨r, mr, rfl⟩ := List.mem_map.mp m
      have := f1 r mr
      omega
    generalize xs.map (fun r : Int × Int => r.2 - r.1) = ws at hE cw lw bw
    refine ⟨_, rfl, E, ws, true, rfl, SqL.of hE, by omega, bw, fun y Hj sj bx => ?_⟩
    refine ⟨_, rfl, E, rfl, ⟨_, SqL.of (sj _ _ hE)⟩, fun G nG => ?_⟩
    refine lc_each (S := fun _ v (z : Int) => v = .int z) (f := fun z : Int => ((0 : Int), z)) (R := prRel) (fun _ _ _ _ k z => z.nl k) (fun _ _ _ _ _ z => z) nG (SqL.of (sj _ _ hE)) (paired_ints ws) (small1000 (by omega)) (fun x z Hx R' N sx ez k => ?_) fun Hk us sk hU pU => ?_
    · subst ez
      refine ⟨rfl, _, rfl, z2, fun q nq => ?_⟩
      generalize hq_ : L2.upd Hx q _ = Hy
      obtain ⟨sy, oy⟩ := _root_.Q.nwS nq hq_
      clear hq_
      exact k _ _ sy ⟨q, rfl, oy⟩
    have eL : los (ws.map fun z => ((0 : Int), z)) = ws.map fun _ => 0 := by
      show (ws.map _).map _ = _
      rw [List.map_map]
      rfl
    have eH : his (ws.map fun z => ((0 : Int), z)) = ws := by
      show (ws.map _).map _ = _
      rw [List.map_map]
      exact List.map_id ws
    refine ⟨y, G, ws.map fun z => ((0 : Int), z), rfl, ?_, pairsAt_of hU pU, rgs_ofAll fun r m => ?_, by ((try simp only [List.length_map, List.length_take, List.length_drop, List.length_append, List.length_cons, List.length_nil, List.length_zipWith, List.length_set, List.length_replicate, List.length_range]) <;> omega), ?_, fun H' s => kQ H'⟩
    · rw [eL, eH]
      exact bx.nl (NL.same sk)
    · obtain ⟨z, mz, rfl⟩ := List.mem_map.mp m
      have := bw z mz
      show (0 : Int) ≤ 0 ∧ 0 < z ∧ z ≤ 64
      omega
    · rw [eL, eH, cw]
      omega

end
end K00

set_option maxRecDepth 100000
set_option maxHeartbeats 4000000
namespace K00
open PySem PySem.Spec PyProof.Rows L2 Q RZ LamX NdefX
theorem ends {P : Program} {w : World} {K : PySem.W.Frag} {h : Heap} {mg : Str → Option Value} {f : Addr} (X : K.In h) (G : h.Ns mainGlobals mg) (hf : mg ("law" : Str) = some (.ref f)) (c : SaysE fb fn K) :
    ∃ fd : FuncData, (∀ (s : Shared) (v : Value), BindsTo s fd ⟨[v], []⟩ [("script", v)]) ∧ ∀ base : Heap, K.In base → base.Ns mainGlobals mg → (∀ p ∈ (tf K).map fun f => (codeAt K f, tabAt K f), TabB base mg p.1 p.2) → FnOk P w K mg base CX0 8 f fd ["script"] (spLaw K) := by
  have T := tx_of X G c
  cases hf.symm.trans T.g_law
  obtain ⟨fd, F⟩ := T.d_law
  refine ⟨fd, fun s v => F.bindsA (ps := ["script"]) (fun _ _ _ _ _ _ us hl => match us, hl with | [_], _ => rfl) s [v] rfl, fun base _ _ tb => ?_⟩
  obtain ⟨fd', law, F'⟩ := ok_law (P := P) (w := w) (base := base) T tb
  obtain ⟨_, _, _, _, _, _, _, _, _, _, _, e1, _⟩ := F.ex
  obtain ⟨_, _, _, _, _, _, _, _, _, _, _, e2, _⟩ := F'.ex
  have e := e1.symm.trans e2
  obtain rfl : fd = fd' := by
    injection e with e
    injection e with _ _ e _
    injection e
  exact law

end K00
open PySem PySem.W PySem.Calls PyProof.Rows
set_option maxRecDepth 100000 in
set_option maxHeartbeats 0 in
theorem PySem.Challenge.cw_fewfetches_k00_boxes_by_their_points_holds : PySem.Challenge.rw_fewfetches_k00_boxes_by_their_points.Holds := by
  w_on; o_law
  refine HandSHeadRun.head_any (r := OpenLaw.row PySem.Challenge.rw_fewfetches_k00_boxes_by_their_points) (q := view (OpenLaw.row PySem.Challenge.rw_fewfetches_k00_boxes_by_their_points).prog [33]) (H := K00.hk) (ob := K00.ob) (M := 4000) (loose := ["FetchError", "BadBox", "UnlikeBoxes", "BadColumn", "is_whole", "MOST_COLUMNS", "HIGHEST", "whole_box", "points_of", "check_like", "meet_boxes", "join_along", "box_less", "Box", "_law_bag", "_law_draw", "_law_spots", "_law_ranges", "_law_box", "_law_is_box", "_law_common", "_law_meet_right", "_law_join_right", "_law_cut", "_law_less_right", "_law_refused", "_law_unlike", "_law_is_great", "_law_wide_ranges"]) (d := HandSHeadRun.topDef (OpenLaw.row PySem.Challenge.rw_fewfetches_k00_boxes_by_their_points).prog 33) (kwd := []) K00.ob_eq
    (by kernel_rfl) (fun s => by kernel_rfl) K00.run (by kernel_rfl) (by kernel_rfl) (by kernel_rfl) (by rfl) (by first | assumption | decide +kernel) (by decide +kernel) ⟨rfl, rfl, rfl, rfl, rfl, by decide +kernel⟩ ?hw ?hc
  case hw => w_witness2
  case hc =>
    refine Q.walk_ofT (l := PySem.Challenge.rw_fewfetches_k00_boxes_by_their_points) (n := 63) (k := 8) (x := "script") (CX := L2.CX0) rfl (by decide) (by kernel_rfl) ⟨rfl, by decide, by decide⟩ ?F (fun _ _ _ _ z => z)
    intro w mg fa h Y G hmg0
    obtain ⟨K, KX, c, t⟩ := Y
    have hmg : mg ("law" : PySem.Str) = some (.ref fa) := by
      have e : (HandSHeadRun.topDef (OpenLaw.row PySem.Challenge.rw_fewfetches_k00_boxes_by_their_points).prog 33).name = ("law" : PySem.Str) := by kernel_rfl
      rw [← e]
      exact hmg0
    obtain ⟨fd, hb, hF⟩ := K00.ends (P := (PySem.Challenge.rw_fewfetches_k00_boxes_by_their_points).prog) (w := w) KX G hmg c
    refine ⟨K, fd, (K00.tf K).map fun f => (Q.codeAt K f, Q.tabAt K f), K00.spLaw K, KX, ?_, ?_, ?_, hb, fun H a ns hl hT hS => ⟨a, ns, rfl, hS, hT, fun _ => rfl⟩, hF⟩
    · rintro p hp
      obtain ⟨f, hf, rfl⟩ := List.mem_map.mp hp
      exact (t f hf).2.2
    · rintro p hp
      obtain ⟨f, hf, rfl⟩ := List.mem_map.mp hp
      exact (t f hf).2.1
    · rintro p hp
      obtain ⟨f, hf, rfl⟩ := List.mem_map.mp hp
      exact PySem.W.codeHd_of_K KX (t f hf).1
#print axioms PySem.Challenge.cw_fewfetches_k00_boxes_by_their_points_holds


